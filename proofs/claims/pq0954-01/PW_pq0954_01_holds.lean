import PyProof.Rows.All
import OpenK.XOpen
import KE.BytesK
import KE.KBytesCut
import KE.KItem
import PySem.Challenge.RW_pq0954_01
set_option Elab.async false
set_option maxRecDepth 100000
set_option linter.all false
set_option genInjectivity false
set_option genSizeOf false
set_option genCtorIdx false
set_option tactic.hygienic false
set_option backward.match.sparseCases false
noncomputable section
namespace LP
open PySem renaming wpAny_bind->aa,wpAny_pure->ag,Expr->am,wpAny->aq,wpAny_mono->aw,wpAny_holding->ax,Env->aD,wpAny_standAt->aI,clipAt->bl,Around->bm,wpAny_of_eq->bE,DictEntry->bY,eval->bZ,Stmt->b_,wpAny_newObj_type->cn,mainGlobals->cL,starEach->cN,wpAny_loadPart_at->cR,swappedStores->cW,call_gives->cX,holding->c7,FuncData->dB,treeTable->dD,compareOp->dE,getMethod_builtin->dM,foldedSetIterable->dN,wpAny_field->dX,assignEach->dY,wpAny_isSubtype_exc->em,rawInt->eo,assignInOrder->ew,wpAny_operating->ez,importedModules->eA,OsState->eB,wpAny_rule->eF,seqIndex?->eM,wpAny_truthy_bool->eS,sizeLine->eT,markedBehindIn->eU,isSubtype_type->eV,compEnvC->eW,backTo->eX,World->eY,builtinLookup_eq_fast->fm,strKind_is->fx,storeName->fy,getMethod->fA,checkBuiltinCall->fB,cellsFrom->fC,methodCallPos->fJ,wpAny_point->fL,model->fM,keeperOf->fN,callWith->fO,Sem->fZ,builtinType_eq_fast->f0,CmpOp->f7,wpAny_typeOf->f8,wpAny_mkText->f9,wpAny_seqItems->gu,wpAny_loadPart->gw,newFunctionEnv->gx,wpAny_pyIter_enum->gF,relabel->gG,codeAny->gH,wpAny_release->gL,foldedForSure->gM,Tok->gN,entryFor_of_tree->gT,bindName->gU,wpAny_call->g9,standAt->g_,compareChain->hJ,builtinsNs->hO,Keyword->hU,Addr->hZ,wpAny_ite_false->ie,typeLookup_type->ig,pushCells_keeps->ij,Scope->io,wpAny_setField->iu,wpAny_letTemporaryGo->iy,constantsAlone->iz,codeAny_call_builtin->iA,assign->iB,raiseStmt->iN,getItem->iO,signature?_of->iW,execs->iX,typeOf->i_,isTrue->ja,isInstance->jb,testChain->jy,opaqueClassAbove->jz,exec->jA,argsOk->jB,subscripted->jH,keywordEach->jI,builtinType->jJ,wpAny_specialOf->jO,arm_exec_Return->jP,arm_exec_Assign->jQ,wpAny_letOwnedTupleGo_enum->jW,typeLookup->jX,truthy->jY,methodCallForm->jZ,binaryOp->j0,Comprehension->kr,wpAny_mkBytes->kF,concat_meets->kG,comprehension->kH
open List renaming length_append->ac,length_map->ai,mem_cons_self->aj,append_assoc->ao,length_cons->au,mem_cons_of_mem->ay,mem_singleton->aB,all_eq_true->aC,getElem?_eq_some_iff->aG,append_nil->aJ,map_cons->aK,lookup_cons->aQ,getElem?_eq_none_iff->aR,map_append->aS,getElem?_eq_getElem->aT,mem_cons->aU,mem_append->aV,length->aZ,length_drop->a9,nil_append->bc,flatten_cons->bh,length_singleton->bi,contains_iff_mem->bj,not_mem_nil->bq,mem_of_getElem?->bt,mem_append_right->bv,length_nil->bA,size_toArray->bG,getElem?_map->bH,contains_cons->bO,take_of_length_le->bS,map_map->bU,all_cons->ce,replicate->ci,filter_sublist->cm,getElem?_toArray->cu,getLast?_concat->cw,length_reverse->cz,range->cH,getElem?_append_right->cI,eq_nil_or_concat->cJ,concat_eq_append->cK,getElem?_of_mem->cP,length_pos_iff->cS,drop_drop->cU,cons_append->cV,eq_nil_of_length_eq_zero->c0,toArray->c9,getElem?_drop->c_,find?_cons->dh,mem_append_left->dI,dropWhile_cons_of_neg->dJ,dropLast_concat->dK,mem_map->dP,map_reverse->dQ,length_take->dR,isEmpty_iff->dS,drop_eq_getElem_cons->dU,getElem?_take->ed,mem_singleton_self->er,map_id->eu,take_left->eD,drop_sublist->eE,takeWhile_append_dropWhile->eO,range'_succ->eR,any_cons->fa,nodup_cons->fq,forIn_cons->fu,flatten_append->fE,filterMap_cons->fF,dropWhile_cons->fG,length_zipIdx->fT,findIdx?_cons->fU,dropWhile_cons_of_pos->fV,take_sublist->gc,reverse_cons->gh,length_eq_zero_iff->gA,getElem_mem->gB,any_toArray->gC,map_nil->gI,find?_cons_of_neg->gJ,length_set->gO,all_append->gP,getElem?_eq_none->gR,contains_toArray->gS,getLast?_append->gY,drop_zero->gZ,drop_left->g8,map_congr_left->ip,map_take->ir,zipIdx_cons->i6,take_length->i7,filter_cons->i8,foldl_cons->jh,getLastD_eq_getLast?->jG,sum_cons->jL,map_drop->jM,contains_eq_any_beq->jN,getElem?_cons_zero->jR,range_succ_eq_map->jT,find?_cons_of_pos->jU,drop_of_length_le->jV,dropWhile_suffix->kg,cons_lt_cons_iff->kh,range_eq_range'->kz,range'->kA,map->kB,lookup->kC,mem_map_of_mem->kL,filter_eq_self->kM,append_toArray->kN
open Nat renaming le_of_ble_eq_true->ae,le_trans->ah,sub_add_cancel->aA,le_refl->aF,le_add_right->aM,zero_le->aO,lt_of_le_of_lt->a8,lt_succ_self->ba,succ_le_succ->bB,le_of_lt->bI,add_le_add_left->bK,add_sub_cancel_left->bL,zero_add->bV,lt_trans->bW,beq->b0,add_le_add->cj,add_comm->ck,ble->cr,lt_of_lt_of_le->cv,sub_le->cy,succ_pos->cB,add_assoc->cE,le_of_not_lt->cF,le_max_right->cG,min_eq_left->cO,le_of_eq->db,le_max_left->di,le_add_left->dj,eq_of_beq_eq_true->dx,le_of_succ_le->dy,max_zero->eH,lt_of_sub_pos->eI,le_succ_of_le->eJ,le_of_succ_le_succ->eK,le_of_lt_succ->eL,sub_eq_zero_of_le->eQ,sub_self->fP,lt_succ_of_le->gn,le_succ->gp,min_le_right->gD,min_eq_right->gE,le_sub_of_add_le'->gX,not_succ_le_zero->h_,add_le_add_right->ib,not_lt->iF,not_le->iH,add_right_comm->iI,zero_mul->iS,lt_or_ge->iT,le_total->iU,zero_min->j8,sub_zero->j9,sub_le_iff_le_add'->j_,ne_of_lt->ka,ne_of_gt->kb,min_self->kc,sub_le_iff_le_add->kx,mul_one->kK
open Option.some renaming inj->af,injEq->dZ
open Int renaming natCast_nonneg->av,ofNat_lt->aH,ofNat_le->aN,not_lt->bD,toNat_natCast->dA,toNat_of_nonneg->d0,ofNat->ff,max_eq_right->fh,min_eq_left->fH,le_trans->fQ,ofNat_fmod->ic,not_le->iJ,lt_of_lt_of_le->iK,toNat_lt->iV,min_eq_right->je,lt_trans->ki
open Bool renaming and_eq_true_iff->az,and_eq_true->aE,false_eq_true->aY,eq_iff_iff->a0,false_ne_true->a7,not_eq_true'->bu,or_eq_true_iff->cA,or_eq_false_iff->cQ,true_and->d8,or_false->d9,false_and->fW,and_false->fX,not_true->gq,and_true->gr,or_true->gK,or_eq_true->ji
open UInt8 renaming toNat->aL,toNat_inj->i9
open PySem.Heap renaming get?_push_size->aP,get?_none_of_le->be,get?_update_self->bp,SameBut->bR,size_push->cf,get?_push_of_some->cg,get?_update_other->c8,get?_update_ne->fD,lt_size->iQ
open PySem.Challenge renaming rw_pq0954_01->aW
open PySem.W renaming typeIs_bytes->aX,behindTheImports->d_,dictOf->eZ,Looks->fo,findIn->fY,looks_findIn->f_,boot_heap->gi,looks_clsIn->iC,emptyDict->iP,topFrame->jj,putName_dict->jk,WRecords->jl,keepIn->jC,namesBound->j3
open False renaming elim->a_
open PySem.W.Fast renaming te3471404346716756564->bn,sDec_eq->bX,te18344453789297297638->dm,te17119622794617984870->du,te10792542408131684335->dv,te6984425678791042302->fR,te5318747976498570220->fS,te17095254045102204799->jm,te12879404354523853263->jo,tw5923862056798008813->jq,te9572597257264208301->jr,te8326940854005059898->jt,te5923862056798008813->ju,te797321630700447069->jD,named_eq->jK
open List.cons renaming inj->bw
open PySem.Str renaming ofString->bx,join->kI
open Int.ofNat renaming inj->bJ
open Array renaming getElem?_eq_some_iff->bM,toArray_toList->fj,any_toList->gz,toList->iM,any_eq_false'->kE
open PySem.Value renaming ref->bP,none->cx,str->ea,notImplemented->e9
open PySem.NameKind renaming free->cq,cell->gV
open PySem.PyData renaming keyHash->cC
open PySem.Keeper renaming machine->cD,frame->cY
open Option renaming none->cM,isNone_iff_eq_none->dL,map_some->fk,isSome_iff_exists->jx,bind_eq_some_iff->jF,isSome_none->ku
open PySem.W.R renaming allR_eq->cZ
open PySem.Builtin.Slice renaming slicePlaces->de,sliceAdjust->e_,sliceApplied->iq
open PySem.Builtin.Tuple renaming tupleExact->dw
open PySem.Builtin.Range renaming rangeSize->dH,small->jg
open PySem.Builtin.Str renaming occurrences->dO,strSliceIndices->eP
open Ne renaming symm->dW
open PySem.Builtin.Bytes renaming find?->eC,joined->gb,takeBufferQuiet?->gW,searchArgs->iD,containsIn->iE,joinLetGo->iR,window->jc,stripM->jd
open PySem.Code renaming builtin->fK
open Nat.succ renaming inj->gj
open PyProof.Rows renaming slicePart_none->gy,slicePart_int->iZ
open PySem.Heap.SameBut renaming refl->gQ,update->jp
open PySem.Builtin.Bytes.Kind renaming same->hW
open PySem.W.WTm renaming value->im
open ForInStep renaming yield->iL
open PySem.W.KBw renaming IsBytesIter->iY
open PySem.F renaming excBase_Exception->jf,store_Exception->jw,slot_NoneType_ne_refl->kn,slot_NoneType_eq_refl->kq
open PySem.EntryCells renaming newEntry->jE
open PySem.Around renaming frames_deeper->jS
open PySem.Sem renaming wp_pure'->j4,wp_bind'->j5,wp_cmd_updatePart->km
open PySem.Expr renaming Name->j6
open PySem.DictEntry renaming refKey->j7
open PySem.Builtin.BaseException renaming bexcPut->kJ
abbrev NL:=@List Nat
section
namespace Ar
noncomputable section
noncomputable def YG(c:NL):Nat->Nat:=c.rec (λ_=>0) λa _ ih i=>i.rec a λi _=>ih i
noncomputable def vX(x:NL):NL->NL:=x.rec id λa x ih y=>y.rec (a::x) λb y _=>(a+b)::ih y
noncomputable def zz(n:Nat)(x:NL):NL:=x.rec [] λa _ ih=>n*a::ih
noncomputable def unit(i:Nat):NL:=i.rec [1] λ_ ih=>0::ih
noncomputable def dot(c:NL):NL->Nat:=c.rec (λ_=>0) λb _ ih x=>x.rec 0 λa x _=>a*b+ih x
noncomputable def Sh(x:NL):NL->Bool:=x.rec (λ_=>true) λa x ih y=>y.rec (cond (b0 a 0) (ih []) false) λb y _=>cond (cr a b) (ih y) false
def rW:dot c []=0:=by rcases c with _|_<;>rfl
def u8:∀x y:NL,dot c (vX x y)=dot c x+dot c y:=by
 induction c with
 |nil=>exact λ_ _=>rfl
 |cons b c ih=>
  intro x y;rcases x with _|⟨p,x⟩
  ·exact(bV _).symm
  rcases y with _|⟨q,y⟩
  ·rfl
  exact(congr (congrArg _ (Nat.add_mul p q b)) (ih x y)).trans (Nat.add_add_add_comm ..)
def tC:∀x:NL,dot c (zz n x)=n*dot c x:=by
 induction c with
 |nil=>exact λ_=>rfl
 |cons b c ih=>
  intro x;rcases x with _|⟨p,x⟩
  ·rfl
  exact(congr (congrArg _ (Nat.mul_assoc n p b)) (ih x)).trans (Nat.mul_add ..).symm
def Si:∀x y:NL,Sh x y=true->dot c x<=dot c y:=by
 induction c with
 |nil=>exact λ_ _ _=>aF 0
 |cons b c ih=>
  intro x y h;rcases x with _|⟨p,x⟩
  ·exact aO _
  rcases y with _|⟨q,y⟩
  ·rcases z:b0 p 0 with _|_
   ·exact nomatch (congrArg (cond · (Sh x []) false) z).symm.trans h
   have h1:Sh x []=true:=(congrArg (cond · (Sh x []) false) z).symm.trans h;have h2:=ih x [] h1;rw[rW]at h2;exact db (congr (congrArg (λp=>(p*b+ ·)) (dx z)) (Nat.le_zero.mp h2)|>.trans (iS b))
  rcases z:cr p q with _|_
  ·exact nomatch (congrArg (cond · (Sh x y) false) z).symm.trans h
  exact cj (Nat.mul_le_mul_right b (ae z)) (ih x y ((congrArg (cond · (Sh x y) false) z).symm.trans h))
def CI(i:Nat):∀c:NL,dot c (unit i)=YG c i:=by
 induction i with
 |zero=>intro c;induction c with
  |nil=>rfl
  |cons b c=>exact(congr (congrArg _ (Nat.one_mul b)) rW)
 |succ i ih=>intro c;induction c with
  |nil=>rfl
  |cons b c=>exact(congr (congrArg _ (iS b)) (ih c)).trans (bV _)
noncomputable def qu(s:Nat):Nat×Nat:=cond (b0 (s%16) 15) ((s/256)%16^((s/16)%16),s/256/16^((s/16)%16)) (s%16,s/16)
noncomputable abbrev LF:=(NL->Nat)×NL×Nat
noncomputable def mkA(p q:LF):LF:=(λc=>p.1 c+q.1 c,vX p.2.1 q.2.1,q.2.2)
noncomputable def mkM(n:Nat)(p:LF):LF:=(λc=>n*p.1 c,zz n p.2.1,p.2.2)
noncomputable def mkQ(n:Nat)(p:LF):LF:=(λc=>p.1 c*n,zz n p.2.1,p.2.2)
noncomputable def dec(f:Nat):Nat->LF:=f.rec (λs=>(λ_=>0,[],s)) λ_ ih s=>cond (cr (s%16) 9) (λc=>YG c (s%16),unit (s%16+1),s/16)
 (cond (b0 (s%16) 10) (mkA (ih (s/16)) (ih (ih (s/16)).2.2))
 (cond (b0 (s%16) 11) (λ_=>(qu (s/16)).1,[(qu (s/16)).1],(qu (s/16)).2)
 (cond (b0 (s%16) 13) (mkM (qu (s/16)).1 (ih (qu (s/16)).2))
 (cond (b0 (s%16) 14) (mkQ (qu (s/16)).1 (ih (qu (s/16)).2))
 (λc=>YG c (qu (s/16)).1,unit ((qu (s/16)).1+1),(qu (s/16)).2)))))
def XY(p:LF):Prop:=∀c,p.1 c=dot (1::c) p.2.1
def u9(hp:XY p)(hq:XY q):XY (cond b p q):=by rcases b with _|_<;>assumption
def J4(f:Nat):∀s,XY (dec f s):=by
 induction f with
 |zero=>exact λ_ _=>rW.symm
 |succ f ih=>exact λs=>u9 (λc=>(CI (s%16+1) (1::c)).symm) (u9 (λc=>(congr (congrArg _ (ih _ c)) (ih _ c)).trans (u8 ..).symm)
   (u9 (λc=>((congrArg ((qu (s/16)).1*1+ ·) (rW (c:=c))).trans (kK _)).symm) (u9 (λc=>(congrArg _ (ih _ c)).trans (tC _).symm)
   (u9 (λc=>((congrArg (· *_) (ih _ c)).trans (Nat.mul_comm ..)).trans (tC _).symm) λc=>(CI ((qu (s/16)).1+1) (1::c)).symm))))
def fact(k a b:Nat):Prop:=cond (b0 k 0) (a<=b) (cond (b0 k 1) (a<b) (cond (b0 k 2) (a=b) (cond (b0 k 3) (¬a<=b) (cond (b0 k 4) (¬a<b) False))))
noncomputable abbrev P2:=NL×NL
def HJ(c:NL)(p:P2):Prop:=dot (1::c) p.1<=dot (1::c) p.2
noncomputable def HF(k:Nat)(x y:NL):P2×P2:=cond (b0 k 0) ((x,y),([],[])) (cond (b0 k 1) ((vX [1] x,y),([],[])) (cond (b0 k 2) ((x,y),(y,x)) (cond (b0 k 3) ((vX [1] y,x),([],[])) (cond (b0 k 4) ((y,x),([],[])) (([1],[]),([],[]))))))
def A9:dot (1::c) (vX [1] x)=dot (1::c) x+1:=by
 rw[u8,ck];exact congrArg _ ((congrArg _ rW).trans (kK 1))
def Sj:HJ c ([],[]):=aF _
def HK:fact k (dot (1::c) x) (dot (1::c) y)↔HJ c (HF k x y).1/\HJ c (HF k x y).2:=by
 have one (p:P2):dot (1::c) p.1<=dot (1::c) p.2↔HJ c p/\HJ c ([],[]):=⟨λh=>⟨h,Sj⟩,λh=>h.1⟩;dsimp only[fact,HF]
 induction b0 k 0 with
 |true=>exact one (x,y)
 |false=>induction b0 k 1 with
  |true=>exact(Iff.of_eq (congrArg (· <=_) A9.symm)).trans (one (vX [1] x,y))
  |false=>induction b0 k 2 with
   |true=>exact Nat.le_antisymm_iff
   |false=>induction b0 k 3 with
    |true=>exact iH.trans ((Iff.of_eq (congrArg (· <=_) A9.symm)).trans (one (vX [1] y,x)))
    |false=>induction b0 k 4 with
     |true=>exact iF.trans (one (y,x))
     |false=>exact⟨λh=>h.elim,λh=>h_ _ (ah (db (A9 (x:=[]) (c:=c)).symm) (ah h.1 (db rW)))⟩
noncomputable def XZ(ps:List P2):Nat->P2->P2×Nat:=ps.rec (λs r=>(r,s)) λp _ ih s r=>ih (qu s).2 (vX r.1 (zz (qu s).1 p.2),vX r.2 (zz (qu s).1 p.1))
def J5(c:NL)(ps:List P2):Prop:=ps.rec True λp _ ih=>HJ c p/\ih
def Sk(ps:List P2):∀(s:Nat) (r:P2),J5 c ps->HJ c (XZ ps s r).1->HJ c r:=by
 induction ps with
 |nil=>exact λ_ _ _ h=>h
 |cons p ps ih=>
  intro s r hp h;have h1:dot (1::c) (vX r.1 (zz (qu s).1 p.2))<=dot (1::c) (vX r.2 (zz (qu s).1 p.1)):=ih _ _ hp.2 h;rw[u8,u8,tC,tC]at h1;exact Nat.le_of_add_le_add_right (ah h1 (bK (Nat.mul_le_mul_left _ hp.1) _))
noncomputable def Rg(n:Nat)(g:P2):P2:=(zz (n+1) g.1,vX [n] (zz (n+1) g.2))
def Oy(h:HJ c (Rg n g)):HJ c g:=by
 have h:dot (1::c) (zz (n+1) g.1)<=dot (1::c) (vX [n] (zz (n+1) g.2)):=h;have e:dot (1::c) [n]=n:=(congrArg _ rW).trans (kK n);rw[u8,tC,tC,e]at h;exact eL (Nat.lt_of_mul_lt_mul_left (a:=n+1) (a8 h (Nat.lt_of_lt_of_eq (Nat.add_lt_add_right (ba n) _) (ck ..))))
noncomputable def u_(ps:List P2)(s:Nat)(g:P2):Bool×Nat:=(Sh (XZ ps (qu s).2 (Rg (qu s).1 g)).1.1 (XZ ps (qu s).2 (Rg (qu s).1 g)).1.2,(XZ ps (qu s).2 (Rg (qu s).1 g)).2)
def CJ(hp:J5 c ps)(h:(u_ ps s g).1=true):HJ c g:=Oy (Sk ps _ _ hp (Si _ _ h))
noncomputable def Sl(s:Nat):LF:=dec 40 (s/16)
noncomputable def A_(s:Nat):LF:=dec 40 (Sl s).2.2
def J6(c:NL)(s:Nat):Prop:=fact (s%16) ((Sl s).1 c) ((A_ s).1 c)
noncomputable def pb(s:Nat):P2×P2:=HF (s%16) (Sl s).2.1 (A_ s).2.1
def vY:J6 c s↔HJ c (pb s).1/\HJ c (pb s).2:=(Iff.of_eq (congr (congrArg _ (J4 40 _ c)) (J4 40 _ c))).trans HK
def tX(c:NL)(h:Nat):Nat->Prop:=h.rec (J6 c) λ_ ih s=>J6 c s->ih (A_ s).2.2
noncomputable def Ae(h:Nat):Nat->List P2->Bool:=h.rec (λs ps=>cond (u_ ps (A_ s).2.2 (pb s).1).1 (u_ ps (u_ ps (A_ s).2.2 (pb s).1).2 (pb s).2).1 false)
 λ_ ih s ps=>ih (A_ s).2.2 ((pb s).1::(pb s).2::ps)
def lin(h:Nat):∀(s:Nat) (ps:List P2),J5 c ps->Ae h s ps=true->tX c h s:=by
 induction h with
 |zero=>
  intro s ps hp h;rcases z:(u_ ps (A_ s).2.2 (pb s).1).1 with _|_
  ·exact nomatch (congrArg (cond · (u_ ps (u_ ps (A_ s).2.2 (pb s).1).2 (pb s).2).1 false) z).symm.trans h
  exact vY.mpr ⟨CJ hp z,CJ hp ((congrArg (cond · (u_ ps (u_ ps (A_ s).2.2 (pb s).1).2 (pb s).2).1 false) z).symm.trans h)⟩
 |succ n ih=>exact λs ps hp h z=>ih _ ((pb s).1::(pb s).2::ps) (And.intro (vY.mp z).1 (And.intro (vY.mp z).2 hp)) h
def vc(n:Nat)(c:NL)(h:Ae (n%16) (n/16) []=true):tX c (n%16) (n/16):=lin _ _ [] trivial h
end
end Ar
open Ar
def s2{x y:Nat}:x<=x-y+y:=Nat.le_add_of_sub_le (aF _)
def sR(n:Nat):Ae (n%16) (n/16) []=true->tX [a] (n%16) (n/16):=vc n _
def mZ(n:Nat):Ae (n%16) (n/16) []=true->tX [a,b] (n%16) (n/16):=vc n _
def nn(n:Nat):Ae (n%16) (n/16) []=true->tX [a,b,c] (n%16) (n/16):=vc n _
def oV(n:Nat):Ae (n%16) (n/16) []=true->tX [a,b,c,d] (n%16) (n/16):=vc n _
def tD(n:Nat):Ae (n%16) (n/16) []=true->tX [a,b,c,d,e] (n%16) (n/16):=vc n _
def xm(n:Nat):Ae (n%16) (n/16) []=true->tX [a,b,c,d,e,f] (n%16) (n/16):=vc n _
def J7(n:Nat):Ae (n%16) (n/16) []=true->tX [a,b,c,d,e,f,g] (n%16) (n/16):=vc n _
def YH(n:Nat):Ae (n%16) (n/16) []=true->tX [a,b,c,d,e,f,g,i] (n%16) (n/16):=vc n _
def YI(n:Nat):Ae (n%16) (n/16) []=true->tX [a,b,c,d,e,f,g,i,j] (n%16) (n/16):=vc n _
def U8(n:Nat):Ae (n%16) (n/16) []=true->tX [a,b,c,d,e,f,g,i,j,k] (n%16) (n/16):=vc n _
def YJ(n:Nat):Ae (n%16) (n/16) []=true->tX [a,b,c,d,e,f,g,i,j,k,l] (n%16) (n/16):=vc n _
def YK(n:Nat):Ae (n%16) (n/16) []=true->tX [a,b,c,d,e,f,g,i,j,k,l,m] (n%16) (n/16):=vc n _
def aau(n:Nat):Ae (n%16) (n/16) []=true->tX [a,b,c,d,e,f,g,i,j,k,l,m,o] (n%16) (n/16):=vc n _
def aav(n:Nat):Ae (n%16) (n/16) []=true->tX [a,b,c,d,e,f,g,i,j,k,l,m,o,p] (n%16) (n/16):=vc n _
universe u
@[elab_as_elim] theorem J{α:Sort u}{a b:α}{motive:α->Prop}(h:a=b)(e:motive b):motive a:=h▸e
@[elab_as_elim] theorem rr{α:Sort u}{a b:α}{motive:α->Prop}(h:b=a)(e:motive b):motive a:=h▸e
@[elab_as_elim] theorem ri{motive:Prop->Prop}(h:a↔b)(e:motive b):motive a:=propext h▸e
@[elab_as_elim] theorem rj{motive:Prop->Prop}(h:b↔a)(e:motive b):motive a:=propext h▸e
def lw{a b:Bool}{P:Prop}(h:(a&&b)=true)(k:a=true->b=true->P):P:=k (az.mp h).1 (az.mp h).2
def HL{a b:Bool}{P:Prop}(h:(a||b)=false)(k:a=false->b=false->P):P:=k (cQ.mp h).1 (cQ.mp h).2
def lS{α β:Type u}{o:Option α}{f:α->Option β}{b:β}{P:Prop}(h:o.bind f=some b)(k:∀a,o=some a->f a=some b->P):P:=(jF.mp h).elim λa h=>k a h.1 h.2
def vZ{α β:Type u}{o:Option α}{f:α->β}{b:β}{P:Prop}(h:o.map f=some b)(k:∀a,o=some a->f a=b->P):P:=(Option.map_eq_some_iff.mp h).elim λa h=>k a h.1 h.2
def nsa{a b c:Nat}(h:a+b<=c):c-(a+b)+a=c-b:=(tD 0x1001001100410a2324a2321a0a22 rfl (aA h) (aA (ah (dj b a) h)))
def nin(h1:m<=L)(h2:k=m-j)(h3:0<k):L-m+j=L-k:=(xm 0x10100100101100540a2235a2143a2210a23 rfl (aA h1) (h2▸aA (bI (eI (h2▸h3)))) (aA (ah (h2▸cy m j) h1)))
def nlt(h:a-b=c+1):b<a:=eI (h▸cB c)
def nmn{a b:Nat}:(max 0 (min (a:Int) (b:Int))).toNat=min a b:=(iU a b).elim (λh=>J (fH (aN.mpr h)) (J (cO h) (J (fh (av _)) rfl))) λh=>J (je (aN.mpr h)) (J (gE h) (J (fh (av _)) rfl))
def nm1(a:Nat): -1+((a:Int)+1)=a:=(Int.add_left_comm ..).trans (Int.add_zero _)
def YL(a:Nat):(0<= -1+((a:Int)+1)/\ -1+((a:Int)+1)<(a:Int)+1)/\(-1+((a:Int)+1)).toNat=a:=(nm1 a).symm▸⟨⟨av a,aH.mpr (ba a)⟩,rfl⟩
def nm3(a:Nat):(max 0 (min (-1+((a:Int)+1)) ((a:Int)+1))).toNat=a:=(nm1 a).symm▸(nmn (a:=a) (b:=a+1)).trans (cO (gp a))
def nab{a b:Nat}(h:a<b):((a:Int)).natAbs<b:=h
def npb{i:Int}(h:i<256):i.toNat%256=i.toNat:=Nat.mod_eq_of_lt ((Int.toNat_lt' (by decide)).mpr h)
def Sm(h:n<3):n=0\/n=1\/n=2:=by
 rcases n with _|_|_|n
 ·exact .inl rfl
 ·exact .inr (.inl rfl)
 ·exact .inr (.inr rfl)
 exact absurd h (Nat.not_lt_of_le (dj 3 n))
def YM(h:n<4):n=0\/n=1\/n=2\/n=3:=by
 rcases n with _|n
 ·exact .inl rfl
 exact .inr ((Sm (Nat.lt_of_succ_lt_succ h)).imp (congrArg _) (Or.imp (congrArg _) (congrArg _)))
def U9{n j:Nat}(e:i+(n:Int)=j): -(n:Int)<=i:=by
 have h: -(n:Int)+n<=i+n:=by rw[Int.add_left_neg,e];exact av j
 exact Int.le_of_add_le_add_right h
end
section
open PySem PySem.W PySem.Calls PyProof.Rows
set_option genCtorIdx true in
inductive PV where
 |none|bool (b:Bool)|int (i:Int)|str (s:NL)|bytes (b:NL)|tup (l:List PV)|ref (a:Nat)|raw (v:Value)
set_option genCtorIdx true in
inductive Oz where|add|sub|mul|fdiv|mod|pow
set_option genCtorIdx true in
inductive HM where|eq|ne|lt|le|gt|ge|is|HN|isin|qb
set_option genCtorIdx true in
inductive B1 where|len|chr|ord|abs|int|str|bytes|tuple|list
set_option genCtorIdx true in
inductive B2 where|min|max
set_option genCtorIdx true in
inductive IK where|val|range|enum
mutual
inductive X where
 |lit (v:PV)
 |Z (i:Nat)
 |bin (op:Oz) (a b:X)
 |cmp (op:HM) (a b:X)
 |qj (o1 o2:HM) (a b c:X)
 |not (a:X)
 |neg (a:X)
 |and (a b:X)
 |or (a b:X)
 |ite (t:B) (a b:X)
 |tup (xs:Xs)
 |list (xs:Xs)
 |dict (ks:List NL) (vs:Xs)
 |call (f:X) (xs:Xs)
 |py (o:X) (nm:NL) (xs:Xs)
 |b1 (b:B1) (x:X)
 |b2 (b:B2) (x y:X)
 |attr (o:X) (nm:NL)
 |sub (o i:X)
 |slice (o l u:X)
 |comp (elt:X) (t:T) (ik:IK) (it:X) (aam:Bs) (fv:List (Option Nat))
 |stuck
inductive Xs where
 |nil
 |cons (x:X) (xs:Xs)
inductive B where
 |val (x:X)
 |cmp (op:HM) (a b:X)
 |qj (o1 o2:HM) (a b c:X)
 |not (a:B)
 |and (a b:B)
 |or (a b:B)
 |ite (t a b:B)
inductive Bs where
 |nil
 |cons (x:B) (xs:Bs)
inductive T where
 |name (i:Nat)
 |attr (o:X) (nm:NL)
 |sub (o i:X)
 |tup (ts:Ts)
 |stuck
inductive Ts where
 |nil
 |cons (t:T) (ts:Ts)
end
mutual
inductive S where
 |asg (t:T) (x:X)
 |CK (is:NL) (x:X)
 |expr (x:X)
 |ret (x:X)
 |ite (t:B) (b e:Ss)
 |wY (t:B) (b:Ss)
 |Op (t:T) (ik:IK) (it:X) (b:Ss)
 |raise (c:Nat) (U_:NL) (at_:X)
 |try (b:Ss) (h:Option (Nat×Nat))
 |stuck
inductive Ss where
 |nil
 |cons (s:S) (ss:Ss)
end
noncomputable def cs(s:Str):NL:=s.cps.toList
structure nP where
 names:List (Str×NameKind)
 ml:List (Str×PV)
 m0:List (Str×Nat)
noncomputable def ql(x:Str):List (Str×NameKind)->Nat->Option (Nat×NameKind)
 |[],_=>.none
 |(y,k)::r,i=>if y==x then some (i,k)else ql x r (i+1)
noncomputable def nP.oW(κ:nP)(x:Str):Option Nat:=match ql x κ.names 0 with
 |some (i,.local)|some (i,.cell)|some (i,.free)=>some i
 |_=>.none
noncomputable def nP.own?(κ:nP)(x:Str):Option Nat:=match ql x κ.names 0 with
 |some (i,.local)|some (i,.cell)=>some i
 |_=>.none
noncomputable def nP.mR(κ:nP)(x:Str):Bool:=match ql x κ.names 0 with
 |some (_,.globalImplicit)=>true
 |_=>false
noncomputable def nP.sx(κ:nP)(x:Str):Option PV:=if κ.mR x then κ.ml.lookup x else .none
noncomputable def nP.blt(κ:nP)(x:Str):Bool:=κ.mR x&&(κ.ml.lookup x).isNone
noncomputable def CM:Operator->Option Oz
 |.Add=>some .add|.Sub=>some .sub|.Mult=>some .mul|.FloorDiv=>some .fdiv|.Mod=>some .mod|.Pow=>some .pow
 |_=>.none
noncomputable def oj:f7->HM
 |.Eq=>.eq|.NotEq=>.ne|.Lt=>.lt|.LtE=>.le|.Gt=>.gt|.GtE=>.ge|.Is=>.is|.IsNot=>.HN|.In=>.isin|.NotIn=>.qb
noncomputable def ve:Const->Option PV
 |.none=>some .none
 |.bool b=>some (.bool b)
 |.int i=>some (.int i)
 |.str s=>some (.str (cs s))
 |.bytes b=>some (.bytes (b.map aL))
 |_=>.none
noncomputable def qT:List (Str×B1):=[("len",.len),("chr",.chr),("ord",.ord),("abs",.abs),("int",.int),("str",.str),("bytes",.bytes),("tuple",.tuple),("list",.list)]
noncomputable def qm:List (Str×B2):=[("min",.min),("max",.max)]
inductive EV where
 |name (x:Str) (p:Pos)
 |attr (o:Expr) (n:Str) (p:Pos)
 |const (c:Const) (y:Nat) (p:Pos)
 |tup (es:List Expr) (y:Nat) (p:Pos)
 |call (f:Expr) (as:List Expr) (kw:List hU) (p:Pos)
 |slice (l u st:Option Expr)
 |list|star|comp|other
noncomputable def mO:Expr->EV
 |.Name x p=>.name x p
 |.Attribute o n p=>.attr o n p
 |.Constant c y p=>.const c y p
 |.Tuple es y p=>.tup es y p
 |.Call f as kw p=>.call f as kw p
 |.Slice l u st _=>.slice l u st
 |.List .. =>.list
 |.Starred .. =>.star
 |.ListComp .. =>.comp
 |.SetComp .. =>.comp
 |.DictComp .. =>.comp
 |_=>.other
noncomputable def pQ(e:Expr):Bool:=match mO e with
 |.call f as kw _=>(match mO f with
  |.name _ _=> !(as.isEmpty&&kw.isEmpty)
  |_=>true)
 |_=>true
noncomputable def pt(e:Expr):Bool:=match mO e with
 |.star=>true
 |_=>false
noncomputable def noStar(es:List Expr):Bool:=es.all λe=> !pt e
noncomputable def qR(κ:nP):List (Str×NameKind)->Option (List (Option Nat))
 |[]=>some []
 |(_,.local)::r=>(qR κ r).map (.none:: ·)
 |(_,.globalImplicit)::r=>(qR κ r).map (.none:: ·)
 |(x,.free)::r=>match ql x κ.names 0 with
   |some (i,.cell)=>(qR κ r).map (some i:: ·)
   |some (i,.free)=>(qR κ r).map (some i:: ·)
   |_=>.none
 |_=>.none
noncomputable def p7:List Str->Bool
 |[]=>true
 |x::r=> !(r.contains x)&&p7 r
noncomputable def ux(sc:io):Bool:=sc.kind==.function&&p7 (sc.names.map (·.1))&&sc.names.all λp=> !(p.1==("__debug__":Str))&&!(p.1==("__classdict__":Str))
noncomputable def EH(e:Expr):Bool:=match mO e with
 |.tup .. =>true
 |_=>false
noncomputable def v0(ik:IK)(t:Expr):Bool:=match ik with
 |.enum=>EH t
 |_=>true
noncomputable def rX(e:Expr):Bool:=match mO e with
 |.comp=>true
 |_=>false
noncomputable def Ba(κ:nP)(e:Expr):Bool:=match mO e with
 |.name x _=>κ.names.lookup x==some .cell
 |_=>false
noncomputable def OA(κ:nP)(x:Str):Option Nat:=match κ.names.lookup x==some .local with
 |true=>κ.oW x
 |false=>.none
noncomputable def qa(e:Expr):Option Str:=match mO e with
 |.name x _=>some x
 |_=>.none
noncomputable def Bb(e:Expr):Option (Expr×Str):=match mO e with
 |.attr o n _=>some (o,n)
 |_=>.none
noncomputable def vf(e:Expr):Option Const:=match mO e with
 |.const c _ _=>some c
 |_=>.none
noncomputable def px(e:Expr):Option (List Expr):=match mO e with
 |.tup es _ _=>some es
 |_=>.none
noncomputable def Bc(e:Expr):Option (Expr×List Expr×List hU):=match mO e with
 |.call f as kw _=>some (f,as,kw)
 |_=>.none
noncomputable def Bd(e:Expr):Option (Expr×List Expr×List hU×Pos):=match mO e with
 |.call f as kw p=>some (f,as,kw,p)
 |_=>.none
noncomputable def Be(e:Expr):Option (Expr×Str×Pos):=match mO e with
 |.attr o n p=>some (o,n,p)
 |_=>.none
inductive J8:Expr->EV->Prop
 |name (x:Str) (p:Pos):J8 (.Name x p) (.name x p)
 |attr (o:Expr) (n:Str) (p:Pos):J8 (.Attribute o n p) (.attr o n p)
 |const (c:Const) (y:Nat) (p:Pos):J8 (.Constant c y p) (.const c y p)
 |tup (es:List Expr) (y:Nat) (p:Pos):J8 (.Tuple es y p) (.tup es y p)
 |call (f:Expr) (as:List Expr) (kw:List hU) (p:Pos):J8 (.Call f as kw p) (.call f as kw p)
 |slice (l u st:Option Expr) (p:Pos):J8 (.Slice l u st p) (.slice l u st)
 |list (e:Expr):J8 e .list
 |star (e:Expr):J8 e .star
 |comp (e:Expr):J8 e .comp
 |other (e:Expr):J8 e .other
def nY(e:Expr):J8 e (mO e):=by rcases e with _|_<;>first|exact .other _|exact .comp _|constructor
def lr{G:Prop}(h:∀P:Prop,(G->P)->P):G:=h G id
def lx{α:Type}{x:α}{P:Prop}(h:cM=some x):P:=nomatch h
def X0{α:Type}{x:α}{P:Prop}(h:some x=cM):P:=nomatch h
def ft{P:Prop}(h:false=true):P:=nomatch h
def tf{P:Prop}(h:true=false):P:=nomatch h
def og{e:Expr}{x:Str}(h:qa e=some x):∃p,e=.Name x p:=by
 have v:=nY e;unfold qa at h;generalize mO e=w at h v
 induction v<;>first|exact lx h|exact⟨_,J (af h ..) rfl⟩
def Af{e:Expr}{x:Expr×Str}(h:Bb e=some x):∃p,e=.Attribute x.1 x.2 p:=by
 have v:=nY e;unfold Bb at h;generalize mO e=w at h v
 induction v<;>first|exact lx h|exact⟨_,rr (af h ..) rfl⟩
def uy{e:Expr}{x:Const}(h:vf e=some x):∃y p,e=.Constant x y p:=by
 have v:=nY e;unfold vf at h;generalize mO e=w at h v
 induction v<;>first|exact lx h|exact⟨_,_,J (af h ..) rfl⟩
def qw{e:Expr}{x:List Expr}(h:px e=some x):∃y p,e=.Tuple x y p:=by
 have v:=nY e;unfold px at h;generalize mO e=w at h v
 induction v<;>first|exact lx h|exact⟨_,_,J (af h ..) rfl⟩
def Ag{e:Expr}{x:Expr×List Expr×List hU}(h:Bc e=some x):∃p,e=.Call x.1 x.2.1 x.2.2 p:=by
 have v:=nY e;unfold Bc at h;generalize mO e=w at h v
 induction v<;>first|exact lx h|exact⟨_,rr (af h ..) rfl⟩
def EM{e:Expr}{x:Expr×List Expr×List hU×Pos}(h:Bd e=some x):e=.Call x.1 x.2.1 x.2.2.1 x.2.2.2:=by
 have v:=nY e;unfold Bd at h;generalize mO e=w at h v
 induction v<;>first|exact lx h|exact rr (af h ..) rfl
def EN{e:Expr}{x:Expr×Str×Pos}(h:Be e=some x):e=.Attribute x.1 x.2.1 x.2.2:=by
 have v:=nY e;unfold Be at h;generalize mO e=w at h v
 induction v<;>first|exact lx h|exact rr (af h ..) rfl
inductive SV where
 |asg (ts:List Expr) (v:Expr) (p:Pos)
 |expr (v:Expr) (p:Pos)
 |ret (v:Option Expr) (p:Pos)
 |other
noncomputable def xR:b_->SV
 |.Assign ts v p=>.asg ts v p
 |.Expr v p=>.expr v p
 |.Return v p=>.ret v p
 |_=>.other
inductive U':b_->SV->Prop
 |asg (ts:List Expr) (v:Expr) (p:Pos):U' (.Assign ts v p) (.asg ts v p)
 |expr (v:Expr) (p:Pos):U' (.Expr v p) (.expr v p)
 |ret (v:Option Expr) (p:Pos):U' (.Return v p) (.ret v p)
 |other (s:b_):U' s .other
def xS(s:b_):U' s (xR s):=by rcases s with _|_<;>first|exact .other _|constructor
noncomputable def J9(s:b_):Option Expr:=match xR s with
 |.ret v _=>v
 |_=>.none
noncomputable def xT(s:b_):Option (List Expr×Expr):=match xR s with
 |.asg ts v _=>some (ts,v)
 |_=>.none
noncomputable def Bf(s:b_):Option Expr:=match xR s with
 |.expr v _=>some v
 |_=>.none
def J_{s:b_}{e:Expr}(h:J9 s=some e):∃p,s=.Return (some e) p:=by
 have v:=xS s;unfold J9 at h;generalize xR s=w at h v
 induction v<;>first|exact lx h|(subst h;exact⟨_,rfl⟩)
def CN{s:b_}{x:List Expr×Expr}(h:xT s=some x):∃p,s=.Assign x.1 x.2 p:=by
 have v:=xS s;unfold xT at h;generalize xR s=w at h v
 induction v<;>first|exact lx h|exact⟨_,rr (af h ..) rfl⟩
def EO{s:b_}{x:Expr}(h:Bf s=some x):∃p,s=.Expr x p:=by
 have v:=xS s;unfold Bf at h;generalize xR s=w at h v
 induction v<;>first|exact lx h|exact⟨_,rr (af h ..) rfl⟩
noncomputable def J':Const->Option Str
 |.str s=>some s
 |_=>.none
noncomputable def rE{α β:Type}(f:β->Option α):List β->Option (List α)
 |[]=>some []
 |p::r=>(f p).bind λa=>(rE f r).bind λl=>some (a::l)
noncomputable def Sg(o:Option Expr):Option NL:=o.bind λe=>(vf e).bind λc=>(J' c).bind λs=>some (cs s)
noncomputable abbrev uY:List (Option Expr)->Option (List NL):=rE Sg
noncomputable def Gu:Const->Bool
 |.none=>true
 |_=>false
noncomputable def two{α:Type}:List α->Option (α×α)
 |[a,b]=>some (a,b)
 |_=>.none
noncomputable def CO{α:Type}:List α->Option α
 |[a]=>some a
 |_=>.none
inductive CV where
 |one (op:f7) (r:Expr)
 |two (o1 o2:f7) (m r:Expr)
 |no
noncomputable def EP(ops:List f7)(rs:List Expr):CV:=match ops with
 |[]=>.no
 |o1::ops=>(match rs with
  |[]=>.no
  |m::rs=>(match ops with
   |[]=>(match rs with
    |[]=>.one o1 m
    |_::_=>.no)
   |o2::ops=>(match two (m::rs)with
    |some (m,r)=>(match ops with
     |[]=>.two o1 o2 m r
     |_::_=>.no)
    |.none=>.no)))
def Bg{α:Type}{l:List α}{p:α×α}(h:two l=some p):l=[p.1,p.2]:=by
 rcases l with _|⟨a,_|⟨b,_|⟨c,l⟩⟩⟩<;>first|exact lx h|(cases h;rfl)
def xn{α:Type}{l:List α}{a:α}(h:CO l=some a):l=[a]:=by
 rcases l with _|⟨a,_|⟨b,l⟩⟩<;>first|exact lx h|(cases h;rfl)
inductive X1:List f7->List Expr->CV->Prop
 |one (op:f7) (r:Expr):X1 [op] [r] (.one op r)
 |two (o1 o2:f7) (m r:Expr):X1 [o1,o2] [m,r] (.two o1 o2 m r)
 |no (ops:List f7) (rs:List Expr):X1 ops rs .no
def Gv(ops:List f7)(rs:List Expr):X1 ops rs (EP ops rs):=by
 rcases ops with _|⟨o1,_|⟨o2,_|⟨o3,ops⟩⟩⟩<;>rcases rs with _|⟨m,_|⟨r,_|⟨r3,rs⟩⟩⟩<;>constructor
inductive SlV where
 |no
 |ok (l u:Option Expr)
 |bad
noncomputable def sT(e:Expr):SlV:=match mO e with
 |.slice l u st=>(match st with
  |.none=>.ok l u
  |some _=>.bad)
 |_=>.no
noncomputable def HO(e:Expr):Bool:=match mO e with
 |.slice .. =>true
 |_=>false
inductive OC:Expr->SlV->Prop
 |no (e:Expr) (h:HO e=false):OC e .no
 |ok (l u:Option Expr) (p:Pos):OC (.Slice l u .none p) (.ok l u)
 |bad (e:Expr):OC e .bad
set_option tactic.hygienic true in
def Ah(e:Expr):OC e (sT e):=by
 have v:=nY e;have hn:HO e=(match mO e with|.slice .. =>true|_=>false):=rfl;unfold sT;generalize mO e=w at v hn
 induction v
 case slice l u st p=>clear hn;induction st with
  |none=>exact .ok l u p
  |some z=>exact .bad _
 all_goals exact .no _ hn
noncomputable def HP(gs:List Comprehension):Option (Expr×Expr×List Expr):=(CO gs).bind λg=>match decide (g.is_async=0)with
 |true=>some (g.target,g.iter,g.ifs)
 |false=>.none
def Gw{gs:List Comprehension}{x:Expr×Expr×List Expr}(h:HP gs=some x):gs=[⟨x.1,x.2.1,x.2.2,0⟩]:=by
 refine lr λGp gk=>?_;refine lS h λuz h1 h=>?_;obtain⟨t,it,ifs,a⟩:=uz;refine gk ?_;refine J (xn h1 ..) ?_;rcases hd:decide (a=0)with _|_
 ·dsimp only at h;rw[hd]at h;exact lx h
 dsimp only at h;rw[hd]at h;exact rr (af h ..) (J (of_decide_eq_true hd ..) rfl)
noncomputable def xU(κ:nP)(e:Expr):Option (Bool×Expr):=(Bc e).bind λy=>(qa y.1).bind λf=>(CO y.2.1).bind λx=>
 match κ.blt f&&y.2.2.isEmpty with
 |true=>(match f==("range":Str)with
  |true=>some (true,x)
  |false=>(match f==("enumerate":Str)with
   |true=>some (false,x)
   |false=>.none))
 |false=>.none
noncomputable def HG(e:Expr):Option (Str×Pos):=match mO e with
 |.name x p=>some (x,p)
 |_=>.none
noncomputable def xV(l:List (Str×Pos)):Bool:=l.all λq=>q.2.line==(l.head?.map (·.2.line)).getD 0
noncomputable def OD(κ:nP)(ts vs:List Expr):Option (Option NL):=(rE HG ts).bind λl=>(rE (λq:Str×Pos=>OA κ q.1) l).bind λis=>
 match xV l&&p7 (l.map (·.1))&&vs.length==ts.length&&noStar vs&&!vs.all (iz 8)with
 |true=>some (some is)
 |false=>.none
noncomputable def isList(e:Expr):Bool:=match mO e with
 |.list=>true
 |_=>false
noncomputable def OE(κ:nP)(t v:Expr):Option (Option NL):=match px t with
 |.none=>(match isList t with
  |true=>.none
  |false=>some .none)
 |some ts=>match px v with
  |.none=>some .none
  |some vs=>match vs.all (gM 8)|| !(ts.length==2||ts.length==3)||ts.any (Ba κ)with
   |true=>some .none
   |false=>OD κ ts vs
mutual
noncomputable def lP:Nat->nP->Expr->X
 |0,_,_=>.stuck
 |n+1,κ,e=>match e with
  |.Constant c _ _=>match ve c with
    |some v=>.lit v
    |.none=>.stuck
  |.Name x _=>match κ.oW x with
    |some i=>.Z i
    |.none=>match κ.sx x with
     |some v=>.lit v
     |.none=>.stuck
  |.BoolOp op vs _=>uA n κ op vs
  |.BinOp l op r _=>match CM op with
    |some o=>.bin o (lP n κ l) (lP n κ r)
    |.none=>.stuck
  |.UnaryOp .Not x _=>.not (lP n κ x)
  |.UnaryOp .USub x _=>.neg (lP n κ x)
  |.IfExp t a b _=>.ite (zD n κ t) (lP n κ a) (lP n κ b)
  |.Tuple es _ _=>match noStar es with
    |true=>.tup (pR n κ es)
    |false=>.stuck
  |.List es _=>match noStar es with
    |true=>.list (pR n κ es)
    |false=>.stuck
  |.Dict ks vs _=>match decide (ks.length=vs.length/\ks.length<=15),uY ks with
    |true,some ks=>.dict ks (pR n κ vs)
    |_,_=>.stuck
  |.Compare l ops rs _=>match EP ops rs with
    |.one op r=>.cmp (oj op) (lP n κ l) (lP n κ r)
    |.two o1 o2 m r=>.qj (oj o1) (oj o2) (lP n κ l) (lP n κ m) (lP n κ r)
    |.no=>.stuck
  |.Call g as kw p=>match kw.isEmpty with
   |false=>.stuck
   |true=>match mO g with
    |.attr o nm ap=>(match noStar as&&ap.endLine==p.line&&decide (as.length<29)&&pQ o with
     |true=>.py (lP n κ o) (cs nm) (pR n κ as)
     |false=>.stuck)
    |.name f _=>(match κ.blt f with
     |true=>(match qT.lookup f with
      |some b=>(match CO as with
       |some x=>.b1 b (lP n κ x)
       |.none=>.stuck)
      |.none=>match qm.lookup f with
       |some b=>(match two as with
        |some (x,y)=>(match noStar [x,y]with
         |true=>.b2 b (lP n κ x) (lP n κ y)
         |false=>.stuck)
        |.none=>.stuck)
       |.none=>.stuck)
     |false=>(match noStar as with
      |true=>.call (lP n κ g) (pR n κ as)
      |false=>.stuck))
    |_=>.stuck
  |.Attribute o nm _=>match pQ o with
    |true=>.attr (lP n κ o) (cs nm)
    |false=>.stuck
  |.Subscript o i _=>match sT i with
    |.no=>.sub (lP n κ o) (lP n κ i)
    |.ok l u=>.slice (lP n κ o) (OF n κ l) (OF n κ u)
    |.bad=>.stuck
  |.ListComp elt gens sc _=>match HP gens,qR κ sc.names with
    |some (t,it,ifs),some fv=>(match ux sc&&v0 (sA n κ it).1 t with
     |true=>.comp (lP n {κ with names:=sc.names} elt) (v4 n {κ with names:=sc.names} t) (sA n κ it).1 (sA n κ it).2 (v5 n {κ with names:=sc.names} ifs) fv
     |false=>.stuck)
    |_,_=>.stuck
  |_=>.stuck
noncomputable def OF:Nat->nP->Option Expr->X
 |0,_,_=>.stuck
 |_+1,_,.none=>.lit .none
 |n+1,κ,some e=>lP n κ e
noncomputable def pR:Nat->nP->List Expr->Xs
 |0,_,_=>.cons .stuck .nil
 |_+1,_,[]=>.nil
 |n+1,κ,e::r=>.cons (lP n κ e) (pR n κ r)
noncomputable def uA:Nat->nP->BoolOp->List Expr->X
 |0,_,_,_=>.stuck
 |_+1,_,_,[]=>.stuck
 |n+1,κ,_,[e]=>lP n κ e
 |n+1,κ,.And,e::r=>.and (lP n κ e) (uA n κ .And r)
 |n+1,κ,.Or,e::r=>.or (lP n κ e) (uA n κ .Or r)
noncomputable def zD:Nat->nP->Expr->B
 |0,_,_=>.val .stuck
 |n+1,κ,e=>match e with
  |.UnaryOp .Not x _=>.not (zD n κ x)
  |.BoolOp op vs _=>Ai n κ op vs
  |.IfExp t a b _=>.ite (zD n κ t) (zD n κ a) (zD n κ b)
  |.Compare l ops rs _=>match EP ops rs with
    |.one op r=>.cmp (oj op) (lP n κ l) (lP n κ r)
    |.two o1 o2 m r=>.qj (oj o1) (oj o2) (lP n κ l) (lP n κ m) (lP n κ r)
    |.no=>.val .stuck
  |e=>.val (lP n κ e)
noncomputable def Ai:Nat->nP->BoolOp->List Expr->B
 |0,_,_,_=>.val .stuck
 |_+1,_,_,[]=>.val .stuck
 |n+1,κ,_,[e]=>zD n κ e
 |n+1,κ,.And,e::r=>.and (zD n κ e) (Ai n κ .And r)
 |n+1,κ,.Or,e::r=>.or (zD n κ e) (Ai n κ .Or r)
noncomputable def v5:Nat->nP->List Expr->Bs
 |0,_,_=>.cons (.val .stuck) .nil
 |_+1,_,[]=>.nil
 |n+1,κ,e::r=>.cons (zD n κ e) (v5 n κ r)
noncomputable def sA:Nat->nP->Expr->IK×X
 |0,_,_=>(.val,.stuck)
 |n+1,κ,e=>match xU κ e with
  |some (b,x)=>(match b with
   |true=>(.range,lP n κ x)
   |false=>(.enum,lP n κ x))
  |.none=>(.val,lP n κ e)
noncomputable def v4:Nat->nP->Expr->T
 |0,_,_=>.stuck
 |n+1,κ,e=>match e with
  |.Name x _=>match κ.own? x with
    |some i=>.name i
    |.none=>.stuck
  |.Attribute o nm _=>.attr (lP n κ o) (cs nm)
  |.Subscript o i _=>match sT i with
    |.no=>.sub (lP n κ o) (lP n κ i)
    |_=>.stuck
  |.Tuple es _ _=>match noStar es&&decide (es.length<n)with
    |true=>.tup (wZ n κ es)
    |false=>.stuck
  |_=>.stuck
noncomputable def wZ:Nat->nP->List Expr->Ts
 |0,_,_=>.cons .stuck .nil
 |_+1,_,[]=>.nil
 |n+1,κ,e::r=>.cons (v4 n κ e) (wZ n κ r)
end
noncomputable def xP(κ:nP)(e:Expr):Option (Nat×Str×Expr):=(Bc e).bind λx=>(qa x.1).bind λc=>(two x.2.1).bind λy=>(vf y.1).bind λcc=>(J' cc).bind λs=>
 match κ.mR c&&x.2.2.isEmpty with
 |true=>(κ.m0.lookup c).map λa=>(a,s,y.2)
 |false=>.none
noncomputable def Gx(κ:nP)(x:Str):List b_->Option Nat
 |[s]=>(J9 s).bind λe=>(px e).bind λes=>(two es).bind λp=>(vf p.1).bind λc=>(Bb p.2).bind λq=>(qa q.1).bind λy=>
  match Gu c&&y==x&&q.2==("at":Str)&&κ.names.lookup x==some .local with
  |true=>κ.oW x
  |false=>.none
 |_=>.none
noncomputable def wF(κ:nP):List ExceptHandler->Option (Nat×Option Nat)
 |[h]=>match h with
  |.ExceptHandler t nm b _=>match t with
   |some t=>match t with
    |.Name c _=>match κ.mR c with
     |true=>match κ.m0.lookup c with
      |some a=>match nm with
       |.none=>some (a,.none)
       |some x=>(Gx κ x b).map λi=>(a,some i)
      |.none=>.none
     |false=>.none
    |_=>.none
   |.none=>.none
 |_=>.none
mutual
noncomputable def YN:Nat->nP->b_->S
 |0,_,_=>.stuck
 |n+1,κ,s=>match s with
  |.Assign ts v _=>match ts with
   |[t]=>match OE κ t v with
    |some o=>match o with
     |.none=>.asg (v4 n κ t) (lP n κ v)
     |some is=>.CK is (lP n κ v)
    |.none=>.stuck
   |_=>.stuck
  |.Expr v _=>match rX v with
   |true=>.stuck
   |false=>.expr (lP n κ v)
  |.Return v _=>match v with
   |some v=>.ret (lP n κ v)
   |.none=>.ret (.lit .none)
  |.If t b e _=>.ite (zD n κ t) (pH n κ b) (pH n κ e)
  |.While t b e _=>match e with
   |[]=>.wY (zD n κ t) (pH n κ b)
   |_::_=>.stuck
  |.For t it b e _=>match e with
   |[]=>match v0 (sA n κ it).1 t with
    |true=>.Op (v4 n κ t) (sA n κ it).1 (sA n κ it).2 (pH n κ b)
    |false=>.stuck
   |_::_=>.stuck
  |.Raise ex ca _=>match ca with
   |.none=>match ex with
    |some e=>match xP κ e with
     |some (a,m,x)=>.raise a (cs m) (lP n κ x)
     |.none=>.stuck
    |.none=>.stuck
   |some _=>.stuck
  |.Try b hs e fi _=>match e with
   |[]=>match fi with
    |[]=>match wF κ hs with
     |some (a,o)=>.try (pH n κ b) (o.map λi=>(a,i))
     |.none=>.stuck
    |_::_=>.stuck
   |_::_=>.stuck
  |_=>.stuck
noncomputable def pH:Nat->nP->List b_->Ss
 |0,_,_=>.cons .stuck .nil
 |_+1,_,[]=>.nil
 |n+1,κ,s::r=>.cons (YN n κ s) (pH n κ r)
end
end
section
open PySem PySem.W PySem.Calls PyProof.Rows
set_option genCtorIdx true in
inductive MO where
 |list (l:List PV)
 |dict (es:List (NL×PV))
 |inst (C d:Nat)
 |Aj (l:List PV)
abbrev kO:=Nat->Option MO
noncomputable def kO.put(U:kO)(a:Nat)(o:MO):kO:=λb=>if b=a then some o else U b
structure Oq where
 cls:Nat
 U_:NL
 at_:PV
abbrev lK:=List (Option PV)
abbrev CT:=Nat->List PV->kO->(PV->kO->Prop)->(Oq->kO->Prop)->Prop
abbrev QV:=PV->kO->Prop
abbrev nI:=Oq->kO->Prop
abbrev QL:=List PV->kO->Prop
abbrev QR:=Oq->lK->kO->Prop
noncomputable def M:Nat:=16777216
inductive mx(b:Bool)(A B:Prop):Prop where
 |yes (h:b=true) (k:A)
 |no (h:b=false) (k:B)
def mx.t{A B:Prop}(h:mx true A B):A:=by(rcases h with⟨h,k⟩|⟨h,k⟩;(exact k);(contradiction))
def mx.f{A B:Prop}(h:mx false A B):B:=by(rcases h with⟨h,k⟩|⟨h,k⟩;(contradiction);(exact k))
def xp(b:Bool)(K:Prop):Prop:=match b with
 |true=>K
 |false=>False
def xp.ex{b:Bool}{K:Prop}(h:xp b K):b=true/\K:=by rcases b with _|_<;>first|exact h.elim|exact⟨rfl,h⟩
def xp.mk{b:Bool}{K:Prop}(h:b=true)(k:K):xp b K:=by subst h;exact k
def xp.le{a b:Nat}{K:Prop}(h:xp (cr a b) K):a<=b/\K:=⟨ae h.ex.1,h.ex.2⟩
def xp.beq{a b:Nat}{K:Prop}(h:xp (b0 a b) K):a=b/\K:=⟨dx h.ex.1,h.ex.2⟩
def lv{α:Type}(o:Option α)(K:α->Prop):Prop:=match o with
 |some a=>K a
 |.none=>False
inductive YO{α:Type}(o:Option α)(K:α->Prop):Prop
 |mk (a:α) (e:o=some a) (k:K a)
def lv.ex{α:Type}{o:Option α}{K:α->Prop}(h:lv o K):YO o K:=by
 rcases o with _|a
 ·exact a_ h
 exact⟨a,rfl,h⟩
@[irreducible] def l9(U:kO)(a:Nat)(K:List PV->Prop):Prop:=match U a with
 |some o=>(match o with
  |.list l=>K l
  |_=>False)
 |.none=>False
inductive Va(U:kO)(a:Nat)(K:List PV->Prop):Prop
 |mk (l:List PV) (e:U a=some (.list l)) (k:K l)
def l9.ex{U:kO}{a:Nat}{K:List PV->Prop}(h:l9 U a K):Va U a K:=by
 unfold l9 at h;rcases e:U a with _|o<;>rw[e]at h
 ·exact a_ h
 rcases o with _|_<;>first|exact⟨_,e,h⟩|exact a_ h
@[irreducible] def CP(U:kO)(a:Nat)(K:List PV->Prop)(D:List (NL×PV)->Prop):Prop:=match U a with
 |some o=>(match o with
  |.list l=>K l
  |.dict es=>D es
  |_=>False)
 |.none=>False
def CP.ex{U:kO}{a:Nat}{K:List PV->Prop}{D:List (NL×PV)->Prop}(h:CP U a K D):(∃l,U a=some (.list l)/\K l)\/∃l,U a=some (.dict l)/\D l:=by
 unfold CP at h;rcases e:U a with _|o<;>rw[e]at h
 ·exact a_ h
 rcases o with _|_<;>first|exact .inl ⟨_,rfl,h⟩|exact .inr ⟨_,rfl,h⟩|exact a_ h
@[irreducible] def Bh(U:kO)(a:Nat)(K:List PV->Prop):Prop:=match U a with
 |some o=>(match o with
  |.list l=>K l
  |.Aj l=>K l
  |_=>False)
 |.none=>False
inductive YP(U:kO)(a:Nat)(K:List PV->Prop):Prop
 |mk (l:List PV) (e:U a=some (.list l)\/U a=some (.Aj l)) (k:K l)
def Bh.ex{U:kO}{a:Nat}{K:List PV->Prop}(h:Bh U a K):YP U a K:=by
 unfold Bh at h;rcases e:U a with _|o<;>rw[e]at h
 ·exact a_ h
 rcases o with _|_<;>first|exact⟨_,.inl e,h⟩|exact⟨_,.inr e,h⟩|exact a_ h
@[irreducible] def oC(U:kO)(a:Nat)(K:List (NL×PV)->Prop):Prop:=match U a with
 |some o=>(match o with
  |.dict es=>K es
  |_=>False)
 |.none=>False
inductive Vb(U:kO)(a:Nat)(K:List (NL×PV)->Prop):Prop
 |mk (es:List (NL×PV)) (e:U a=some (.dict es)) (k:K es)
def oC.ex{U:kO}{a:Nat}{K:List (NL×PV)->Prop}(h:oC U a K):Vb U a K:=by
 unfold oC at h;rcases e:U a with _|o<;>rw[e]at h
 ·exact a_ h
 rcases o with _|_<;>first|exact⟨_,e,h⟩|exact a_ h
@[irreducible] def sU(U:kO)(a:Nat)(K:Nat->Nat->List (NL×PV)->Prop):Prop:=match U a with
 |some o=>(match o with
  |.inst C d=>oC U d λes=>K C d es
  |_=>False)
 |.none=>False
inductive Vc(U:kO)(a:Nat)(K:Nat->Nat->List (NL×PV)->Prop):Prop
 |mk (C d:Nat) (es:List (NL×PV)) (e1:U a=some (.inst C d)) (e2:U d=some (.dict es)) (k:K C d es)
def sU.ex{U:kO}{a:Nat}{K:Nat->Nat->List (NL×PV)->Prop}(h:sU U a K):Vc U a K:=by
 unfold sU at h;rcases e:U a with _|o<;>rw[e]at h
 ·exact a_ h
 rcases o with _|_<;>first|exact a_ h|skip
 obtain⟨es,e2,k⟩:=oC.ex h;exact⟨_,_,es,e,e2,k⟩
def lv.k{α:Type}{o:Option α}{K:α->Prop}{P:Prop}(h:lv o K)(g:∀a,o=some a->K a->P):P:=by obtain⟨a,e,k⟩:=h.ex;exact g a e k
def l9.k{U:kO}{a:Nat}{K:List PV->Prop}{P:Prop}(h:l9 U a K)(g:∀l,U a=some (.list l)->K l->P):P:=by obtain⟨l,e,k⟩:=h.ex;exact g l e k
def oC.k{U:kO}{a:Nat}{K:List (NL×PV)->Prop}{P:Prop}(h:oC U a K)(g:∀l,U a=some (.dict l)->K l->P):P:=by obtain⟨l,e,k⟩:=h.ex;exact g l e k
def Bh.k{U:kO}{a:Nat}{K:List PV->Prop}{P:Prop}(h:Bh U a K)(g:∀l,U a=some (.list l)\/U a=some (.Aj l)->K l->P):P:=by obtain⟨l,e,k⟩:=h.ex;exact g l e k
def sU.k{U:kO}{a:Nat}{K:Nat->Nat->List (NL×PV)->Prop}{P:Prop}(h:sU U a K)(g:∀C d es,U a=some (.inst C d)->U d=some (.dict es)->K C d es->P):P:=by obtain⟨C,d,es,e1,e2,k⟩:=h.ex;exact g C d es e1 e2 k
def NR(v:PV):Prop:=match v with
 |.raw _=>False
 |_=>True
def NR.ne{v:PV}(h:NR v):∀w,v≠.raw w:=λw e=>by subst e;exact h
def p8(v:PV)(K:Int->Prop):Prop:=match v with
 |.int i=>K i
 |_=>False
def w4(v:PV)(K:NL->Prop):Prop:=match v with
 |.str i=>K i
 |_=>False
def v6(v:PV)(K:NL->Prop):Prop:=match v with
 |.bytes i=>K i
 |_=>False
def EQ(v:PV)(K:List PV->Prop):Prop:=match v with
 |.tup i=>K i
 |_=>False
def sV(v:PV)(K:Nat->Prop):Prop:=match v with
 |.ref i=>K i
 |_=>False
def Ak(v:PV)(K:Prop):Prop:=match v with
 |.none=>K
 |_=>False
def p8.ex{v:PV}{K:Int->Prop}(h:p8 v K):∃i,v=.int i/\K i:=by rcases v with _|_<;>first|exact h.elim|exact⟨_,rfl,h⟩
def w4.ex{v:PV}{K:NL->Prop}(h:w4 v K):∃i,v=.str i/\K i:=by rcases v with _|_<;>first|exact h.elim|exact⟨_,rfl,h⟩
def v6.ex{v:PV}{K:NL->Prop}(h:v6 v K):∃i,v=.bytes i/\K i:=by rcases v with _|_<;>first|exact h.elim|exact⟨_,rfl,h⟩
def EQ.ex{v:PV}{K:List PV->Prop}(h:EQ v K):∃i,v=.tup i/\K i:=by rcases v with _|_<;>first|exact h.elim|exact⟨_,rfl,h⟩
def sV.ex{v:PV}{K:Nat->Prop}(h:sV v K):∃i,v=.ref i/\K i:=by rcases v with _|_<;>first|exact h.elim|exact⟨_,rfl,h⟩
def Ak.ex{v:PV}{K:Prop}(h:Ak v K):v=.none/\K:=by rcases v with _|_<;>first|exact h.elim|exact⟨rfl,h⟩
def p8.k{v:PV}{K:Int->Prop}{P:Prop}(h:p8 v K)(g:∀i,v=.int i->K i->P):P:=by obtain⟨i,e,k⟩:=h.ex;exact g i e k
def w4.k{v:PV}{K:NL->Prop}{P:Prop}(h:w4 v K)(g:∀i,v=.str i->K i->P):P:=by obtain⟨i,e,k⟩:=h.ex;exact g i e k
def v6.k{v:PV}{K:NL->Prop}{P:Prop}(h:v6 v K)(g:∀i,v=.bytes i->K i->P):P:=by obtain⟨i,e,k⟩:=h.ex;exact g i e k
def EQ.k{v:PV}{K:List PV->Prop}{P:Prop}(h:EQ v K)(g:∀i,v=.tup i->K i->P):P:=by obtain⟨i,e,k⟩:=h.ex;exact g i e k
def sV.k{v:PV}{K:Nat->Prop}{P:Prop}(h:sV v K)(g:∀i,v=.ref i->K i->P):P:=by obtain⟨i,e,k⟩:=h.ex;exact g i e k
def tR{α:Type}(l:List α)(K:α->Prop):Prop:=match l with
 |[]=>False
 |a::r=>(match r with
  |[]=>K a
  |_::_=>False)
def tR.ex{α:Type}{l:List α}{K:α->Prop}(h:tR l K):∃a,l=[a]/\K a:=by
 rcases l with _|⟨a,r⟩
 ·exact h.elim
 rcases r with _|⟨_,_⟩
 ·exact⟨a,rfl,h⟩
 exact h.elim
def tR.k{α:Type}{l:List α}{K:α->Prop}{P:Prop}(h:tR l K)(g:∀a,l=[a]->K a->P):P:=by obtain⟨i,e,k⟩:=h.ex;exact g i e k
noncomputable def w5(f:PV->PV->Option Bool):List PV->List PV->Option Bool
 |[],ys=>some ys.isEmpty
 |a::x,ys=>match ys with
  |[]=>some false
  |b::y=>(f a b).bind λp=>(w5 f x y).bind λq=>some (p&&q)
noncomputable def vg:Nat->PV->PV->Option Bool
 |0,_,_=>.none
 |n+1,a,b=>match a with
  |.none=>(match b with
   |.none=>some true
   |.int _=>some false
   |.str _=>some false
   |.bytes _=>some false
   |.tup _=>some false
   |_=>.none)
  |.bool x=>(match b with
   |.bool y=>some (x==y)
   |_=>.none)
  |.int x=>(match b with
   |.int y=>some (x==y)
   |.none=>some false
   |_=>.none)
  |.str x=>(match b with
   |.str y=>some (x==y)
   |.none=>some false
   |_=>.none)
  |.bytes x=>(match b with
   |.bytes y=>some (x==y)
   |.none=>some false
   |_=>.none)
  |.tup x=>(match b with
   |.tup y=>if x.length=y.length then w5 (vg n) x y else if x.isEmpty||y.isEmpty then some false else .none
   |.none=>some false
   |_=>.none)
  |_=>.none
def OG(U:kO)(a b:PV)(K:Bool->Prop):Prop:=match a with
 |.ref a=>sV b λb=>l9 U a λx=>l9 U b λy=>(x=[]\/y=[])/\K (x.isEmpty&&y.isEmpty)
 |a=>lv (vg 8 a b) K
noncomputable def zE:NL->NL->Bool
 |[],[]=>false
 |[],_::_=>true
 |_::_,[]=>false
 |a::x,b::y=>if a=b then zE x y else decide (a<b)
def Vd(op:HM)(a b:PV)(K:Bool->Prop):Prop:=match a with
 |.int x=>p8 b λy=>K (match op with|.lt=>decide (x<y)|.le=>decide (x<=y)|.gt=>decide (y<x)|_=>decide (y<=x))
 |.str x=>w4 b λy=>K (match op with|.lt=>zE x y|.le=> !zE y x|.gt=>zE y x|_=> !zE x y)
 |_=>False
mutual
noncomputable def plain:PV->Bool
 |.ref _|.raw _=>false
 |.tup l=>Bi l
 |_=>true
noncomputable def Bi:List PV->Bool
 |[]=>true
 |p::l=>plain p&&Bi l
end
noncomputable def pc:PV->List PV->Option Bool
 |_,[]=>some false
 |x,y::l=>match plain y with
  |true=>(vg 8 y x).bind λp=>(pc x l).bind λq=>some (p||q)
  |false=>.none
@[irreducible] def Al(U:kO)(a b:PV)(K:Bool->Prop):Prop:=match b with
 |.bytes l=>p8 a λx=>0<=x/\x<256/\K (l.contains x.toNat)
 |.str s=>w4 a λx=>tR x λc=>K (s.contains c)
 |.tup l=>lv (pc a l) K
 |.ref r=>CP U r (λl=>lv (pc a l) K) λes=>w4 a λs=>K (es.lookup s).isSome
 |_=>False
noncomputable def isNone:PV->Option Bool
 |.none=>some true
 |.raw _=>.none
 |_=>some false
def Sn(U:kO)(op:HM)(a b:PV)(K:Bool->Prop):Prop:=match op with
 |.eq=>OG U a b K
 |.ne=>OG U a b λr=>K !r
 |.lt|.le|.gt|.ge=>Vd op a b K
 |.is=>Ak b (lv (isNone a) K)
 |.HN=>Ak b (lv (isNone a) λr=>K !r)
 |.isin=>Al U a b K
 |.qb=>Al U a b λr=>K !r
def Ka(a:PV)(K:Bool->Prop):Prop:=match a with
 |.bool b=>K b
 |_=>False
def OH(U:kO)(a b:PV)(Q:QV):Prop:=match a with
 |.int x=>p8 b λy=>Q (.int (x+y)) U
 |.str x=>w4 b λy=>x.length+y.length<=M/\Q (.str (x++y)) U
 |.bytes x=>v6 b λy=>x.length+y.length<=M/\Q (.bytes (x++y)) U
 |.tup x=>EQ b λy=>x.length+y.length<=M/\Q (.tup (x++y)) U
 |.ref a=>sV b λb=>l9 U a λx=>l9 U b λy=>x.length+y.length<=M/\∀r,U r=.none->Q (.ref r) (U.put r (.list (x++y)))
 |_=>False
def So(op:Oz)(x y:Int)(K:Int->Prop):Prop:=match op with
 |.add=>False
 |.sub=>K (x-y)
 |.mul=>x.natAbs<2^63/\y.natAbs<2^63/\K (x*y)
 |.fdiv=>y≠0/\y.natAbs<2^30/\K (x.fdiv y)
 |.mod=>y≠0/\K (x.fmod y)
 |.pow=>x=10/\y=60/\K (10^60)
def Ve(U:kO)(op:Oz)(a b:PV)(Q:QV):Prop:=match op with
 |.add=>OH U a b Q
 |op=>p8 a λx=>p8 b λy=>So op x y λz=>Q (.int z) U
noncomputable abbrev oD(i:Int)(n:Nat):Option Nat:=eM i n
@[irreducible] def rF(U:kO)(o i:PV)(K:PV->Prop):Prop:=match o with
 |.bytes l=>p8 i λi=>0<=i/\l.length<=M/\lv l[i.toNat]? λc:Nat=>K (.int c)
 |.str l=>p8 i λi=>l.length<=M/\lv (oD i l.length) λj=>lv l[j]? λc=>K (.str [c])
 |.tup l=>p8 i λi=>l.length<=M/\lv (oD i l.length) λj=>lv l[j]? K
 |.ref a=>(match i with
  |.int i=>l9 U a λl=>l.length<=M/\lv (oD i l.length) λj=>lv l[j]? K
  |.str s=>oC U a λes=>lv (es.lookup s) K
  |_=>False)
 |_=>False
noncomputable abbrev v7(n:Nat)(i:Int):Nat:=bl n i
noncomputable def nF(n:Nat)(dflt:Nat):PV->Option Nat
 |.none=>some dflt
 |.int i=>some (v7 n i)
 |_=>.none
noncomputable def cut{α:Type}(l:List α)(a b:Nat):List α:=(l.drop a).take (b-a)
@[irreducible] def mS(U:kO)(o l u:PV)(Q:QV):Prop:=match o with
 |.bytes s=>lv (nF s.length 0 l) λa=>lv (nF s.length s.length u) λb=>s.length<=M/\Q (.bytes (cut s a b)) U
 |.str s=>lv (nF s.length 0 l) λa=>lv (nF s.length s.length u) λb=>s.length<=M/\Q (.str (cut s a b)) U
 |.tup s=>lv (nF s.length 0 l) λa=>lv (nF s.length s.length u) λb=>s.length<=M/\Q (.tup (cut s a b)) U
 |.ref r=>Bh U r λs=>lv (nF s.length 0 l) λa=>lv (nF s.length s.length u) λb=>s.length<=M/\∀q,U q=.none->Q (.ref q) (U.put q (.list (cut s a b)))
 |_=>False
noncomputable def zA(n:Nat):NL:=(toString n).toList.map Char.toNat
noncomputable def ER:PV->Option Nat
 |.int i=>if 0<=i/\i<256 then some i.toNat else .none
 |_=>.none
noncomputable def Kb:PV->Option NL
 |.str s=>some s
 |_=>.none
noncomputable def xW:PV->Option NL
 |.bytes s=>some s
 |_=>.none
noncomputable abbrev vh:List PV->Option NL:=rE ER
def Sp(U:kO)(f:B1)(a:PV)(Q:QV):Prop:=match f with
 |.len=>(match a with
  |.bytes l=>l.length<=M/\Q (.int l.length) U
  |.str l=>l.length<=M/\Q (.int l.length) U
  |.tup l=>l.length<=M/\Q (.int l.length) U
  |.ref r=>l9 U r λl=>l.length<=M/\Q (.int l.length) U
  |_=>False)
 |.chr=>p8 a λi=>0<=i/\i<1114112/\Q (.str [i.toNat]) U
 |.ord=>w4 a λs=>tR s λc=>Q (.int c) U
 |.abs=>p8 a λi=>Q (.int (i.natAbs:Nat)) U
 |.int=>p8 a λi=>Q (.int i) U
 |.str=>p8 a λi=>0<=i/\i<1000000/\Q (.str (zA i.toNat)) U
 |.bytes=>sV a λr=>l9 U r λl=>lv (vh l) λb=>l.length<=M/\Q (.bytes b) U
 |.tuple=>(match a with
  |.tup l=>Q (.tup l) U
  |.ref r=>l9 U r λl=>l.length<=M/\Q (.tup l) U
  |_=>False)
 |.list=>(match a with
  |.tup l=>l.length<=M/\∀q,U q=.none->Q (.ref q) (U.put q (.list l))
  |.ref r=>l9 U r λl=>l.length<=M/\∀q,U q=.none->Q (.ref q) (U.put q (.list l))
  |_=>False)
def YQ(f:B2)(a b:PV)(K:PV->Prop):Prop:=p8 a λx=>p8 b λy=>K (.int (match f with|.min=>min x y|.max=>max x y))
noncomputable def tY{α:Type}(s:List α):List (List α)->List α
 |[]=>[]
 |[x]=>x
 |x::r=>x++s++tY s r
noncomputable abbrev Bj:List PV->Option (List NL):=rE Kb
noncomputable abbrev qU:List PV->Option (List NL):=rE xW
noncomputable def OI(c:Nat)(s:NL)(lo hi:Nat):Int:=match ((s.take hi).drop lo).findIdx? (· ==c)with
 |some i=>((lo+i:Nat):Int)
 |.none=> -1
noncomputable def lstrip(cs:NL)(s:NL):NL:=s.dropWhile cs.contains
noncomputable def rstrip(cs:NL)(s:NL):NL:=(s.reverse.dropWhile cs.contains).reverse
noncomputable def mj(c:Nat):Nat:=if 65<=c/\c<=90 then c+32 else c
noncomputable def nu:NL:=[106,111,105,110]
noncomputable def nZ:NL:=[102,105,110,100]
noncomputable def qo:NL:=[115,116,114,105,112]
noncomputable def pS:NL:=[114,115,116,114,105,112]
noncomputable def qV:NL:=[108,111,119,101,114]
noncomputable def CQ:NL:=[97,112,112,101,110,100]
noncomputable def Ri:NL:=[103,101,116]
inductive Callee where
 |fn (f:Nat) (self:PV)
 |bs (nm:NL) (s:NL)
 |bb (nm:NL) (s:NL)
 |la (a:Nat)
 |dg (a:Nat)
structure Tab where
 meths:List ((Nat×NL)×Nat)
 attrs:List (Nat×NL)
 Kc:List (Nat×NL)
@[irreducible] def methP(mt:Tab)(U:kO)(o:PV)(nm:NL)(K:Callee->Prop):Prop:=match o with
 |.str s=>(nm=nu\/nm=nZ\/nm=qV)/\K (.bs nm s)
 |.bytes s=>(nm=nu\/nm=nZ\/nm=qo\/nm=pS)/\K (.bb nm s)
 |.ref a=>(match U a with
  |some x=>(match x with
   |.inst C d=>oC U d λes=>es.lookup nm=.none/\lv (mt.meths.lookup (C,nm)) λf=>K (.fn f o)
   |.list _=>nm=CQ/\K (.la a)
   |.dict _=>nm=Ri/\K (.dg a)
   |.Aj _=>False)
  |.none=>False)
 |_=>False
@[irreducible] def Os(U:kO)(nm s:NL)(as:List PV)(Q:QV):Prop:=match as with
 |[]=>nm=qV/\s.length<=M/\(∀c∈s,c<128)/\Q (.str (s.map mj)) U
 |a::as=>as=[]/\match a with
  |.ref r=>nm=nu/\l9 U r λl=>lv (Bj l) λts=>(ts.map aZ).sum+ts.length*s.length<=M/\Q (.str (tY s ts)) U
  |.str x=>tR x λc=>nm=nZ/\s.contains c=false/\s.length<=M/\Q (.int (-1)) U
  |_=>False
@[irreducible] def HQ(U:kO)(nm s:NL)(as:List PV)(Q:QV):Prop:=match as with
 |[]=>False
 |a::as=>match a with
 |.ref r=>as=[]/\nm=nu/\s=[]/\l9 U r λl=>lv (qU l) λts=>ts.flatten.length<=M/\l.length<=M/\Q (.bytes ts.flatten) U
 |.bytes cs=>match as with
  |a1::as=>tR as λa2=>tR cs λc=>p8 a1 λlo=>p8 a2 λhi=>nm=nZ/\s.length<=M/\0<=lo/\0<=hi/\Q (.int (OI c s lo.toNat hi.toNat)) U
  |[]=>s.length<=M/\cs.length<=M/\((nm=qo/\Q (.bytes (rstrip cs (lstrip cs s))) U)\/(nm=pS/\Q (.bytes (rstrip cs s)) U))
 |_=>False
noncomputable def xQ(k:NL)(v:PV):List (NL×PV)->List (NL×PV)
 |[]=>[(k,v)]
 |(j,u)::r=>if j=k then(j,v)::r else(j,u)::xQ k v r
@[irreducible] def xX(mt:Tab)(U:kO)(o:PV)(nm:NL)(K:PV->Prop):Prop:=sV o λa=>sU U a λC _ es=>lv (es.lookup nm) λv=>NR v/\mt.attrs.contains (C,nm)=true/\K v
@[irreducible] def CR(mt:Tab)(U:kO)(o:PV)(nm:NL)(v:PV)(K:kO->Prop):Prop:=sV o λa=>sU U a λC d es=>es.length<=900/\mt.Kc.contains (C,nm)=true/\K (U.put d (.dict (xQ nm v es)))
@[irreducible] def zH(U:kO)(o i v:PV)(K:kO->Prop):Prop:=sV o λa=>match i with
 |.int i=>l9 U a λl=>lv (oD i l.length) λj=>j<l.length/\l.length<=M/\K (U.put a (.list (l.set j v)))
 |.str s=>oC U a λes=>es.length<=900/\K (U.put a (.dict (xQ s v es)))
 |_=>False
noncomputable def vj(n:Nat):List PV:=(cH n).map λi=>.int (i:Nat)
noncomputable def numbered(l:List PV):List PV:=(l.zipIdx).map λp=>.tup [.int p.2,p.1]
@[irreducible] def lT(U:kO)(ik:IK)(o:PV)(K:List PV->(kO->Prop)->Prop):Prop:=match ik with
 |.range=>(match o with|.int n=>0<=n/\n<2^60/\K (vj n.toNat) λ_=>True|_=>False)
 |.val=>(match o with
  |.tup l=>l.length<=M/\K l λ_=>True
  |.bytes l=>l.length<=M/\K (l.map λc=>.int (c:Nat)) λ_=>True
  |.str l=>l.length<=M/\K (l.map λc=>.str [c]) λ_=>True
  |.ref a=>l9 U a λl=>l.length<=M/\K l λkP=>kP a=some (.list l)
  |_=>False)
 |.enum=>(match o with
  |.str l=>l.length<=M/\K (numbered (l.map λc=>.str [c])) λ_=>True
  |.ref a=>l9 U a λl=>l.length<=M/\K (numbered l) λkP=>kP a=some (.list l)
  |_=>False)
@[irreducible] def v8(U:kO)(iv:PV)(N:Prop)(K:List PV->(kO->Prop)->Prop):Prop:=match iv with
 |.ref a=>(match U a with
  |some x=>(match x with
   |.dict es=>(match es with
    |[]=>N
    |_::_=>False)
   |_=>lT U .val iv K)
  |.none=>False)
 |_=>lT U .val iv K
set_option tactic.hygienic true in
def v8.ex{U:kO}{iv:PV}{N:Prop}{K:List PV->(kO->Prop)->Prop}(h:v8 U iv N K):(∃a,iv=.ref a/\U a=some (.dict [])/\N)\/lT U .val iv K:=by
 unfold v8 at h;rcases iv with _|_<;>try exact .inr h
 rename_i a;have h:(match U a with
  |some x=>(match x with
   |.dict es=>(match es with
    |[]=>N
    |_::_=>False)
   |_=>lT U .val (.ref a) K)
  |.none=>False):=h
 rcases e:U a with _|x<;>rw[e]at h
 ·exact a_ h
 rcases x with _|_<;>try exact .inr h
 rename_i es;rcases es with _|⟨_,_⟩
 ·exact .inl ⟨a,rfl,e,h⟩
 exact a_ h
def qW(U:kO)(v:PV)(n:Nat)(K:List PV->Prop):Prop:=match v with
 |.tup l=>xp (b0 l.length n) (K l)
 |.ref a=>l9 U a λl=>xp (b0 l.length n) (K l)
 |_=>False
noncomputable def lK.get(ρ:lK)(i:Nat):Option PV:=(ρ[i]?).join
noncomputable def lK.inner(ρ:lK)(fv:List (Option Nat)):lK:=fv.map λo=>o.bind ρ.get
noncomputable def Ts.len:Ts->Nat
 |.nil=>0
 |.cons _ ts=>ts.len+1
section
variable (call:CT)
def ES(c:Callee)(as:List PV)(U:kO)(Q:QV)(E:nI):Prop:=match c with
 |.fn f self=>call f (self::as) U Q E
 |.bs nm s=>Os U nm s as Q
 |.bb nm s=>HQ U nm s as Q
 |.la a=>tR as λv=>l9 U a λl=>l.length<M/\Q .none (U.put a (.list (l++[v])))
 |.dg a=>(match as with
  |[]=>False
  |k::as=>w4 k λs=>tR as λd=>oC U a λes=>Q ((es.lookup s).getD d) U)
def HR(Q:QV)(vs:List PV)(U:kO):Prop:=∀r,U r=.none->Q (.ref r) (U.put r (.list vs))
end
def atK{α:Type}(Q:α->kO->Prop)(U:kO)(v:α):Prop:=Q v U
def bQ(Q:QV)(r:Bool)(U:kO):Prop:=Q (.bool r) U
def Rj:Oq->kO->Prop:=λ_ _=>False
noncomputable abbrev EK:=kO->(QV)->(nI)->Prop
noncomputable abbrev Vf:=kO->(QL)->(nI)->Prop
noncomputable abbrev Rk:=kO->(Bool->kO->Prop)->(nI)->Prop
def Vg(op:Oz)(Q:QV)(x y:PV)(U:kO):Prop:=Ve U op x y Q
def YR(f:EK)(op:Oz)(Q:QV)(E:nI)(x:PV)(U:kO):Prop:=f U (Vg op Q x) E
def Rl(op:HM)(Q:Bool->kO->Prop)(x y:PV)(U:kO):Prop:=Sn U op x y (atK Q U)
def Vh(f:EK)(op:HM)(Q:Bool->kO->Prop)(E:nI)(x:PV)(U:kO):Prop:=f U (Rl op Q x) E
def Vi(f:EK)(op:HM)(Q:Bool->kO->Prop)(E:nI)(y:PV)(U:kO)(r:Bool):Prop:=mx r (f U (Rl op Q y) E) (Q false U)
def Vj(f:EK)(o1 o2:HM)(Q:Bool->kO->Prop)(E:nI)(x y:PV)(U:kO):Prop:=Sn U o1 x y (Vi f o2 Q E y U)
def Vk(fb fc:EK)(o1 o2:HM)(Q:Bool->kO->Prop)(E:nI)(x:PV)(U:kO):Prop:=fb U (Vj fc o1 o2 Q E x) E
def YS(Q:QV)(x:PV)(U:kO):Prop:=Ka x λr=>Q (.bool !r) U
def YT(Q:QV)(x:PV)(U:kO):Prop:=p8 x λi=>Q (.int (-i)) U
def YU(f:EK)(Q:QV)(E:nI)(x:PV)(U:kO):Prop:=Ka x λr=>mx r (f U Q E) (Q x U)
def orK(f:EK)(Q:QV)(E:nI)(x:PV)(U:kO):Prop:=Ka x λr=>mx r (Q x U) (f U Q E)
def Sq{α β:Type}(f g:kO->α->β->Prop)(Q:α)(E:β)(r:Bool)(U:kO):Prop:=mx r (f U Q E) (g U Q E)
def tupK(Q:QV)(vs:List PV)(U:kO):Prop:=xp (cr vs.length M) (Q (.tup vs) U)
def nJ(Q:QV)(vs:List PV)(U:kO):Prop:=xp (cr vs.length M) (HR Q vs U)
def t7(ks:List NL)(Q:QV)(vs:List PV)(U:kO):Prop:=ks.length=vs.length/\ks.length<=15/\ks.Nodup/\∀r,U r=.none->Q (.ref r) (U.put r (.dict (ks.zip vs)))
def b1K(f:B1)(Q:QV)(v:PV)(U:kO):Prop:=Sp U f v Q
def YV(f:B2)(Q:QV)(u v:PV)(U:kO):Prop:=YQ f u v (atK Q U)
def b2K(g:EK)(f:B2)(Q:QV)(E:nI)(u:PV)(U:kO):Prop:=g U (YV f Q u) E
def Vl(mt:Tab)(nm:NL)(Q:QV)(o:PV)(U:kO):Prop:=xX mt U o nm (atK Q U)
def Vm(Q:QV)(o i:PV)(U:kO):Prop:=rF U o i (atK Q U)
def YW(f:EK)(Q:QV)(E:nI)(o:PV)(U:kO):Prop:=f U (Vm Q o) E
def YX(Q:QV)(o l u:PV)(U:kO):Prop:=mS U o l u Q
def YY(f:EK)(Q:QV)(E:nI)(o l:PV)(U:kO):Prop:=f U (YX Q o l) E
def slK(f g:EK)(Q:QV)(E:nI)(o:PV)(U:kO):Prop:=f U (YY g Q E o) E
def YZ(Q:Bool->kO->Prop)(v:PV)(U:kO):Prop:=Ka v (atK Q U)
def Y0(Q:Bool->kO->Prop)(r:Bool)(U:kO):Prop:=Q (!r) U
def Vn(f:Rk)(Q:Bool->kO->Prop)(E:nI)(r:Bool)(U:kO):Prop:=mx r (f U Q E) (Q false U)
def orB(f:Rk)(Q:Bool->kO->Prop)(E:nI)(r:Bool)(U:kO):Prop:=mx r (Q true U) (f U Q E)
def Sr(Q:QL)(v:PV)(vs:List PV)(U:kO):Prop:=Q (v::vs) U
def Vo(f:Vf)(Q:QL)(E:nI)(v:PV)(U:kO):Prop:=f U (Sr Q v) E
def Su(v:PV)(Q:kO->Prop)(o i:PV)(U:kO):Prop:=zH U o i v Q
def Vp(f:EK)(v:PV)(Q:kO->Prop)(E:nI)(o:PV)(U:kO):Prop:=f U (Su v Q o) E
def Vq(mt:Tab)(nm:NL)(v:PV)(Q:kO->Prop)(o:PV)(U:kO):Prop:=CR mt U o nm v Q
def X2(K:QL)(v:PV)(U:kO):Prop:=K [v] U
def Sv(f:EK)(K:QL)(ok:Bool)(U:kO):Prop:=mx ok (f U (X2 K) Rj) (K [] U)
def Vr(fc:lK->Rk)(f:lK->EK)(K:QL)(ρ:lK)(U:kO):Prop:=fc ρ U (Sv (f ρ) K) Rj
def Gy(ft:PV->lK->kO->(lK->kO->Prop)->(nI)->Prop)(ρ:lK)(fc:lK->Rk)(f:lK->EK)(x:PV)(U:kO)(K:QL):Prop:=ft x ρ U (Vr fc f K) Rj
def Y1(unch:kO->Prop)(f:List PV->kO->(QL)->Prop)(acc:List PV)(K:QL)(more:List PV)(U:kO):Prop:=unch U/\f (acc++more) U K
noncomputable def pT(unch:kO->Prop)(lQ:PV->kO->(QL)->Prop):List PV->List PV->kO->(QL)->Prop
 |[],acc,U,K=>K acc U
 |x::r,acc,U,K=>lQ x U (Y1 unch (pT unch lQ r) acc K)
def Gz(Q:QV)(vs:List PV)(U:kO):Prop:=vs.length<=M/\HR Q vs U
def v9(lQ:PV->kO->(QL)->Prop)(Q:QV)(U:kO)(kX:List PV)(unch:kO->Prop):Prop:=kX.length<=M/\pT unch lQ kX [] U (Gz Q)
def Vs(ik:IK)(lQ:PV->kO->(QL)->Prop)(Q:QV)(iv:PV)(U:kO):Prop:=lT U ik iv (v9 lQ Q U)
def tsK(f:lK->kO->(lK->kO->Prop)->(nI)->Prop)(Q:lK->kO->Prop)(E:nI)(ρ:lK)(U:kO):Prop:=f ρ U Q E
def Y2(f:List PV->lK->kO->(lK->kO->Prop)->(nI)->Prop)(ρ:lK)(U:kO)(Q:lK->kO->Prop)(E:nI)(vs:List PV):Prop:=f vs ρ U Q E
def Sw(call:CT)(Q:QV)(E:nI)(fv:PV)(vs:List PV)(U:kO):Prop:=sV fv λa=>call a vs U Q E
def Vt(call:CT)(f:Vf)(Q:QV)(E:nI)(fv:PV)(U:kO):Prop:=f U (Sw call Q E fv) E
section
variable (call:CT) (mt:Tab)
def Vu(c:Callee)(Q:QV)(E:nI)(vs:List PV)(U:kO):Prop:=ES call c vs U Q E
def Rm(f:Vf)(Q:QV)(E:nI)(U:kO)(c:Callee):Prop:=f U (Vu call c Q E) E
def Y3(nm:NL)(f:Vf)(Q:QV)(E:nI)(o:PV)(U:kO):Prop:=methP mt U o nm (Rm call f Q E U)
mutual
noncomputable def mh:X->lK->EK
 |.lit v,_,U,Q,_=>Q v U
 |.Z i,ρ,U,Q,_=>lv (ρ.get i) (atK Q U)
 |.bin op a b,ρ,U,Q,E=>mh a ρ U (YR (mh b ρ) op Q E) E
 |.cmp op a b,ρ,U,Q,E=>mh a ρ U (Vh (mh b ρ) op (bQ Q) E) E
 |.qj o1 o2 a b c,ρ,U,Q,E=>mh a ρ U (Vk (mh b ρ) (mh c ρ) o1 o2 (bQ Q) E) E
 |.not a,ρ,U,Q,E=>mh a ρ U (YS Q) E
 |.neg a,ρ,U,Q,E=>mh a ρ U (YT Q) E
 |.and a b,ρ,U,Q,E=>mh a ρ U (YU (mh b ρ) Q E) E
 |.or a b,ρ,U,Q,E=>mh a ρ U (orK (mh b ρ) Q E) E
 |.ite t a b,ρ,U,Q,E=>rU t ρ U (Sq (mh a ρ) (mh b ρ) Q E) E
 |.tup xs,ρ,U,Q,E=>tS xs ρ U (tupK Q) E
 |.list xs,ρ,U,Q,E=>tS xs ρ U (nJ Q) E
 |.dict ks xs,ρ,U,Q,E=>tS xs ρ U (t7 ks Q) E
 |.call f xs,ρ,U,Q,E=>mh f ρ U (Vt call (tS xs ρ) Q E) E
 |.py o nm xs,ρ,U,Q,E=>mh o ρ U (Y3 call mt nm (tS xs ρ) Q E) E
 |.b1 f x,ρ,U,Q,E=>mh x ρ U (b1K f Q) E
 |.b2 f x y,ρ,U,Q,E=>mh x ρ U (b2K (mh y ρ) f Q E) E
 |.attr o nm,ρ,U,Q,E=>mh o ρ U (Vl mt nm Q) E
 |.sub o i,ρ,U,Q,E=>mh o ρ U (YW (mh i ρ) Q E) E
 |.slice o l u,ρ,U,Q,E=>mh o ρ U (slK (mh l ρ) (mh u ρ) Q E) E
 |.comp elt t ik it cs fv,ρ,U,Q,E=>mh it ρ U (Vs ik (Gy (zI t) (lK.inner ρ fv) (Bk cs) (mh elt)) Q) E
 |.stuck,_,_,_,_=>False
noncomputable def tS:Xs->lK->Vf
 |.nil,_,U,Q,_=>Q [] U
 |.cons x xs,ρ,U,Q,E=>mh x ρ U (Vo (tS xs ρ) Q E) E
noncomputable def Bk:Bs->lK->Rk
 |.nil,_,U,Q,_=>Q true U
 |.cons x xs,ρ,U,Q,E=>rU x ρ U (Vn (Bk xs ρ) Q E) E
noncomputable def rU:B->lK->Rk
 |.val x,ρ,U,Q,E=>mh x ρ U (YZ Q) E
 |.not a,ρ,U,Q,E=>rU a ρ U (Y0 Q) E
 |.and a b,ρ,U,Q,E=>rU a ρ U (Vn (rU b ρ) Q E) E
 |.or a b,ρ,U,Q,E=>rU a ρ U (orB (rU b ρ) Q E) E
 |.ite t a b,ρ,U,Q,E=>rU t ρ U (Sq (rU a ρ) (rU b ρ) Q E) E
 |.cmp op a b,ρ,U,Q,E=>mh a ρ U (Vh (mh b ρ) op Q E) E
 |.qj o1 o2 a b c,ρ,U,Q,E=>mh a ρ U (Vk (mh b ρ) (mh c ρ) o1 o2 Q E) E
noncomputable def zI:T->PV->lK->kO->(lK->kO->Prop)->(nI)->Prop
 |.name i,v,ρ,U,Q,_=>xp (Nat.blt i ρ.length) (Q (ρ.set i (some v)) U)
 |.attr o nm,v,ρ,U,Q,E=>mh o ρ U (Vq mt nm v (Q ρ)) E
 |.sub o i,v,ρ,U,Q,E=>mh o ρ U (Vp (mh i ρ) v (Q ρ) E) E
 |.tup ts,v,ρ,U,Q,E=>qW U v ts.len (Y2 (CS ts) ρ U Q E)
 |.stuck,_,_,_,_,_=>False
noncomputable def CS:Ts->List PV->lK->kO->(lK->kO->Prop)->(nI)->Prop
 |.cons t ts,v::vs,ρ,U,Q,E=>zI t v ρ U (tsK (CS ts vs) Q E) E
 |.nil,_,ρ,U,Q,_=>Q ρ U
 |.cons ..,[],_,_,_,_=>False
end
end
inductive Fl where
 |next
 |ret (v:PV)
noncomputable def Fl.val:Fl->PV
 |.next=>.none
 |.ret v=>v
noncomputable def rY:NL:=[119,104,97,116]
noncomputable def vm:NL:=[97,116]
noncomputable abbrev SS:=lK->kO->(Fl->lK->kO->Prop)->(QR)->Prop
def Bl(f:SS)(Q:Fl->lK->kO->Prop)(E:QR)(fl:Fl)(ρ:lK)(U:kO):Prop:=match fl with
 |.next=>f ρ U Q E
 |.ret v=>Q (.ret v) ρ U
def JW(E:QR)(ρ:lK)(e:Oq)(U:kO):Prop:=E e ρ U
def Y4(body f:SS)(ρ:lK)(Q:Fl->lK->kO->Prop)(E:QR)(r:Bool)(U:kO):Prop:=mx r (body ρ U (Bl f Q E) E) (Q .next ρ U)
noncomputable def xY(test:lK->Rk)(body:SS):Nat->SS
 |0,_,_,_,_=>False
 |n+1,ρ,U,Q,E=>test ρ U (Y4 body (xY test body n) ρ Q E) (JW E ρ)
def flK(unch:kO->Prop)(f:lK->kO->(Fl->lK->kO->Prop)->Prop)(Q:Fl->lK->kO->Prop)(fl:Fl)(ρ:lK)(U:kO):Prop:=match fl with
 |.next=>unch U/\f ρ U Q
 |.ret v=>Q (.ret v) ρ U
noncomputable def rG(unch:kO->Prop)(body:PV->lK->kO->(Fl->lK->kO->Prop)->Prop):List PV->lK->kO->(Fl->lK->kO->Prop)->Prop
 |[],ρ,U,Q=>Q .next ρ U
 |x::r,ρ,U,Q=>body x ρ U (flK unch (rG unch body r) Q)
def Vv(f:SS)(E:QR)(K:Fl->lK->kO->Prop)(ρ:lK)(U:kO):Prop:=f ρ U K E
def Ke(ft:PV->lK->kO->(lK->kO->Prop)->(nI)->Prop)(f:SS)(E:QR)(x:PV)(ρ:lK)(U:kO)(K:Fl->lK->kO->Prop):Prop:=ft x ρ U (Vv f E K) Rj
def Rn(lQ:PV->lK->kO->(Fl->lK->kO->Prop)->Prop)(ρ:lK)(U:kO)(Q:Fl->lK->kO->Prop)(kX:List PV)(unch:kO->Prop):Prop:=rG unch lQ kX ρ U Q
def Y5(lQ:PV->lK->kO->(Fl->lK->kO->Prop)->Prop)(ρ:lK)(Q:Fl->lK->kO->Prop)(iv:PV)(U:kO):Prop:=v8 U iv (Q .next ρ U) (Rn lQ ρ U Q)
def Y6(ik:IK)(lQ:PV->lK->kO->(Fl->lK->kO->Prop)->Prop)(ρ:lK)(Q:Fl->lK->kO->Prop)(iv:PV)(U:kO):Prop:=lT U ik iv (Rn lQ ρ U Q)
noncomputable def Bm:lK->NL->List PV->lK
 |ρ,i::is,v::vs=>(Bm ρ is vs).set i (some v)
 |ρ,_,_=>ρ
def Kf(ft:PV->lK->kO->(lK->kO->Prop)->(nI)->Prop)(ρ:lK)(Q:Fl->lK->kO->Prop)(v:PV)(U:kO):Prop:=ft v ρ U (Q .next) Rj
def Vw(is:NL)(ρ:lK)(Q:Fl->lK->kO->Prop)(v:PV)(U:kO):Prop:=EQ v λvs=>xp (b0 vs.length is.length&&is.all λi=>Nat.blt i ρ.length) (Q .next (Bm ρ is vs) U)
def Rp(ρ:lK)(Q:Fl->lK->kO->Prop)(_:PV)(U:kO):Prop:=Q .next ρ U
def Vx(ρ:lK)(Q:Fl->lK->kO->Prop)(v:PV)(U:kO):Prop:=Q (.ret v) ρ U
def Kg(c:Nat)(m:NL)(ρ:lK)(E:QR)(v:PV)(U:kO):Prop:=E ⟨c,m,v⟩ ρ U
def Y7(h:Option (Nat×Nat))(Q:Fl->lK->kO->Prop)(e:Oq)(ρ:lK)(U:kO):Prop:=match h with
 |.none=>False
 |some (c,i)=>e.cls=c/\i<ρ.length/\NR e.at_/\Q (.ret (.tup [.none,e.at_])) (ρ.set i .none) U
section
variable (call:CT) (mt:Tab)
mutual
noncomputable def wpS:S->SS
 |.asg t x,ρ,U,Q,E=>mh call mt x ρ U (Kf (zI call mt t) ρ Q) (JW E ρ)
 |.CK is x,ρ,U,Q,E=>mh call mt x ρ U (Vw is ρ Q) (JW E ρ)
 |.expr x,ρ,U,Q,E=>mh call mt x ρ U (Rp ρ Q) (JW E ρ)
 |.ret x,ρ,U,Q,E=>mh call mt x ρ U (Vx ρ Q) (JW E ρ)
 |.ite t b e,ρ,U,Q,E=>rU call mt t ρ U (Sq (lO b ρ) (lO e ρ) Q E) (JW E ρ)
 |.wY t b,ρ,U,Q,E=>∃n,xY (rU call mt t) (lO b) n ρ U Q E
 |.Op t .val it b,ρ,U,Q,E=>mh call mt it ρ U (Y5 (Ke (zI call mt t) (lO b) E) ρ Q) (JW E ρ)
 |.Op t ik it b,ρ,U,Q,E=>mh call mt it ρ U (Y6 ik (Ke (zI call mt t) (lO b) E) ρ Q) (JW E ρ)
 |.raise c m x,ρ,U,_,E=>mh call mt x ρ U (Kg c m ρ E) (JW E ρ)
 |.try b h,ρ,U,Q,_=>lO b ρ U Q (Y7 h Q)
 |.stuck,_,_,_,_=>False
noncomputable def lO:Ss->SS
 |.nil,ρ,U,Q,_=>Q .next ρ U
 |.cons s ss,ρ,U,Q,E=>wpS s ρ U (Bl (lO ss) Q E) E
end
end
end
section
open PySem PySem.W PySem.Calls PyProof.Rows
noncomputable def qc(names:List (Str×NameKind)):List Str->List PV->lK->Option lK
 |[],[],ρ=>some ρ
 |p::ps,v::vs,ρ=>match ql p names 0 with
  |some (i,.local)=>qc names ps vs (ρ.set i (some v))
  |some (i,.cell)=>qc names ps vs (ρ.set i (some v))
  |_=>.none
 |_,_,_=>.none
structure mG where
 ps:List Str
 ds:List PV
 names:List (Str×NameKind)
 body:Ss
noncomputable def CU(t:mG)(vs:List PV):List PV:=vs++t.ds.drop (t.ds.length-(t.ps.length-vs.length))
def UG(call:CT)(tab:Tab)(t:mG)(vs:List PV)(U:kO)(Q:QV)(E:nI):Prop:=
 vs.length<=t.ps.length/\t.ps.length<=vs.length+t.ds.length/\∃ρ,qc t.names t.ps (CU t vs) (ci t.names.length .none)=some ρ/\
  lO call tab t.body ρ U (λfl _ U=>Q fl.val U) λe _ U=>E e U
def OJ(call:CT)(tab:Tab)(C:Nat)(t:mG)(vs:List PV)(U:kO)(Q:QV)(E:nI):Prop:=
 ∀d a,U d=.none->U a=.none->d≠a->UG call tab t (.ref a::vs) ((U.put d (.dict [])).put a (.inst C d)) (λv U=>v=.none/\Q (.ref a) U) E
def sW:Nat->List PV->kO->(QV)->(nI)->Prop:=λ_ _ _ _ _=>False
structure Vy where
 fns:List (Nat×mG)
 cls:List (Nat×mG)
noncomputable def qe(T:Vy)(tab:Tab):Nat->Nat->List PV->kO->(QV)->(nI)->Prop
 |0=>sW
 |k+1=>λf vs U Q E=>match T.fns.lookup f with
  |some t=>UG (qe T tab k) tab t vs U Q E
  |.none=>match T.cls.lookup f with
   |some t=>OJ (qe T tab k) tab f t vs U Q E
   |.none=>False
noncomputable abbrev so(s:String):Str:=bx s
noncomputable abbrev ct(s:String):NL:=cs (bx s)
noncomputable abbrev k9(s:String):Str×NameKind:=(so s,.local)
noncomputable abbrev lE(s:String):Str×NameKind:=(so s,.globalImplicit)
noncomputable abbrev mT(s:String)(n:Nat):Str×Option PV:=(so s,some (.ref n))
noncomputable abbrev nq(s:String)(n:Nat):Str×PV:=(so s,.ref n)
noncomputable def gl:List (Str×PV):=[
 (so "RETURN",(.int 13)),
 (so "MOST_FIGURES",(.int 20)),
 (so "WHITE_headers",(.tup [(.int 32),(.int 9)])),
 (so "ASCII",(.str (ct "us-ascii"))),
 (so "LATIN",(.str (ct "iso-8859-1"))),
 (so "UTF8",(.str (ct "utf-8"))),
 (so "CHARSETS",(.tup [(.str (ct "us-ascii")),(.str (ct "iso-8859-1")),(.str (ct "utf-8"))])),
 (so "UNKNOWN_SIGN",(.str (ct "�"))),
 (so "MOST_DEPTH_tokens",(.int 20)),
 (so "NEVER_ESCAPED",(.tup [(.int 0),(.int 10),(.int 13)])),
 (so "WHITE_params",(.tup [(.int 9),(.int 10),(.int 13),(.int 32)])),
 (so "SEMICOLON",(.int 59)),
 (so "EQUALS",(.int 61)),
 (so "QUOTE_params",(.int 34)),
 (so "BRACKET",(.int 40)),
 (so "BARRED_params",(.bytes [40,41,60,62,64,44,59,58,92,34,47,91,93,63,61])),
 (so "MOST_DEPTH_parts",(.int 20)),
 (so "PLAIN_ENCODING",(.str (ct "7bit"))),
 (so "OPEN_ENCODINGS",(.tup [(.str (ct "7bit")),(.str (ct "8bit")),(.str (ct "binary"))])),
 (so "WORD_ENDS",(.bytes [32,9,40,59])),
 (so "BLANKS",(.bytes [32,9])),
 (so "WORDS",(.tup [(.str (ct "HEADER")),(.str (ct "TEXT")),(.str (ct "MIME")),(.str (ct "HEADER.FIELDS")),(.str (ct "HEADER.FIELDS.NOT"))])),
 (so "FIELD_WORDS",(.tup [(.str (ct "HEADER.FIELDS")),(.str (ct "HEADER.FIELDS.NOT"))])),
 (so "MOST_NUMBER",(.int 4294967295)),
 (so "LETTERS",(.bytes [65,66,67,68,69,70,71,72,73,74,75,76,77,78,79,80,81,82,83,84,85,86,87,88,89,90,97,98,99,100,101,102,103,104,105,106,107,108,109,110,111,112,113,114,115,116,117,118,119,120,121,122,46])),
 (so "BARRED_sections",(.bytes [40,41,123,37,42,34,92,93,32])),
 (so "QUOTE_sections",(.int 34)),
 (so "BACKSLASH",(.int 92)),
 (so "_law_bodies",(.tup [(.bytes []),(.bytes [120]),(.bytes [97,13,10,98,13,10]),(.bytes [45,45,13,10]),(.bytes [13,10,13,10,122]),(.bytes [61,109,65,13,10,45,45,61,109]),(.bytes [84,111,58,32,113,13,10,13,10,118,10])])),
 (so "_law_heads",(.tup [(.tup []),(.tup [(.tup [(.str (ct "content-type")),(.bytes [67,111,110,116,101,110,116,45,84,121,112,101,58,32,116,101,120,116,47,104,116,109,108,13,10])])]),(.tup [(.tup [(.str (ct "content-type")),(.bytes [99,111,110,116,101,110,116,45,84,89,80,69,58,32,73,109,97,103,101,47,80,78,71,59,13,10,32,110,97,109,101,61,120,13,10])]),(.tup [(.str (ct "x-a")),(.bytes [88,45,97,58,32,49,13,10])])])])),
 (so "_law_fields",(.tup [(.tup [(.str (ct "from")),(.bytes [70,114,111,109,58,32,97,64,120,13,10])]),(.tup [(.str (ct "to")),(.bytes [84,79,58,13,10,32,98,64,121,13,10])]),(.tup [(.str (ct "x\"q")),(.bytes [120,34,81,58,32,49,13,10])]),(.tup [(.str (ct "x-a")),(.bytes [88,45,65,58,32,233,13,10])]),(.tup [(.str (ct "to")),(.bytes [116,111,58,32,99,64,122,13,10])])])),
 (so "_law_shown",(.tup [(.str (ct "From")),(.str (ct "tO")),(.str (ct "\"x\\\"q\"")),(.str (ct "\"To\"")),(.str (ct "x-A")),(.str (ct "\"\"")),(.str (ct "\"a b\""))])),
 (so "_law_odd",(.str (ct " ()\"\\]aT%\x1f\x7fé~"))),
 nq "lower_code" 178,
 nq "lower" 183,
 nq "lower_text" 188,
 nq "upper_text" 193,
 nq "text_octets" 198,
 nq "line_spans" 206,
 nq "line_at" 247,
 nq "is_name" 254,
 nq "colon_in" 261,
 nq "read_spans" 269,
 nq "read_fields" 275,
 nq "rows_of" 282,
 nq "unfolded" 289,
 nq "first_body" 296,
 nq "need_charset" 318,
 nq "follower_span" 325,
 nq "utf8_sign" 332,
 nq "sign_at" 339,
 nq "text_in" 346,
 nq "strict_text" 353,
 nq "guessed_text" 360,
 nq "line_end" 368,
 nq "inside_at" 375,
 nq "closed_at" 382,
 nq "plain_kind" 446,
 nq "is_token_code" 453,
 nq "skip_between" 460,
 nq "take_token" 467,
 nq "is_worth_code" 474,
 nq "take_worth" 481,
 nq "small_word" 486,
 nq "take_pairs" 493,
 nq "part_of" 507,
 nq "params_of" 538,
 nq "strict_kind" 545,
 nq "read_kind" 552,
 nq "encoding_of" 586,
 nq "boundary_way" 593,
 nq "part_spans" 600,
 nq "kid_spans" 605,
 nq "has_inner" 612,
 nq "read_part" 617,
 nq "read_message" 624,
 nq "numbered_kids" 631,
 nq "part_at" 638,
 nq "need" 677,
 nq "take_number" 684,
 nq "is_figure" 691,
 nq "take_path" 698,
 nq "take_word" 703,
 nq "is_atom_code" 710,
 nq "take_quoted" 717,
 nq "take_name" 724,
 nq "take_names" 731,
 nq "take_partial" 738,
 nq "read_section" 745,
 nq "header_octets" 750,
 nq "word_octets" 757,
 nq "whole_octets" 764,
 nq "sliced" 771,
 nq "section_octets" 778,
 nq "_law_pen" 798,
 nq "_law_drawn" 805,
 nq "_law_node" 810,
 nq "_law_leaf" 817,
 nq "_law_multi" 824,
 nq "_law_letter" 831,
 nq "_law_around" 838,
 nq "_law_third" 845,
 nq "_law_paths" 852,
 nq "_law_names_in" 859,
 nq "_law_heard" 866,
 nq "_law_cased" 871,
 nq "_law_numbers" 876,
 nq "_law_octets_right" 883,
 nq "_law_names_right" 888,
 nq "law" 895,
 nq "Cursor" 167,
 nq "Field" 236,
 nq "Kind" 435,
 nq "Part" 577,
 nq "Section" 666,
 nq "WordFault" 59,
 nq "MimeFault" 71,
 nq "WireFault" 83]
noncomputable abbrev nK:=λa=>Xs.cons (.Z a)
noncomputable abbrev lu:=λa=>X.lit (.int a)
noncomputable abbrev qx:=λa=>Ss.cons a .nil
noncomputable abbrev Vz:=λa=>X.call (.lit a)
noncomputable abbrev t8:=λa=>Xs.cons a .nil
noncomputable abbrev nL:=λa b=>Ss.cons (.asg a b)
noncomputable abbrev lN:=X.Z 0
noncomputable abbrev qy:=λa=>Vz (.ref a)
noncomputable abbrev lI:=λa=>X.lit (.str a)
noncomputable abbrev ls:=λa=>qx (.ret a)
noncomputable abbrev kZ:=X.Z 1
noncomputable abbrev lX:=λa=>nL (.name a)
noncomputable abbrev Rq:=λa b c=>Ss.cons (.ite a b c)
noncomputable abbrev vn:=λa=>Ts.cons (.name a)
noncomputable abbrev lZ:=X.bin .add
noncomputable abbrev oE:=λa b c=>qy a (nK b c)
noncomputable abbrev n4:=λa b=>B.cmp a (.Z b)
noncomputable abbrev my:=λa=>X.lit (.bytes a)
noncomputable abbrev nz:=λa b=>Xs.cons a (t8 b)
noncomputable abbrev lW:=X.lit .none
noncomputable abbrev lB:=X.Z 2
noncomputable abbrev Kh:=λa=>X.attr a (ct "at")
noncomputable abbrev oQ:=λa b=>Rq a b .nil
noncomputable abbrev Rr:=X.lit (.tup [(.tup [(.str (ct "from")),(.bytes [70,114,111,109,58,32,97,64,120,13,10])]),(.tup [(.str (ct "to")),(.bytes [84,79,58,13,10,32,98,64,121,13,10])]),(.tup [(.str (ct "x\"q")),(.bytes [120,34,81,58,32,49,13,10])]),(.tup [(.str (ct "x-a")),(.bytes [88,45,65,58,32,233,13,10])]),(.tup [(.str (ct "to")),(.bytes [116,111,58,32,99,64,122,13,10])])])
noncomputable abbrev ma:=lu 1
noncomputable abbrev pd:=λa=>Ss.cons (.expr a)
noncomputable abbrev sB:=λa b c=>X.py a b (t8 c)
noncomputable abbrev m_:=λa=>nK a .nil
noncomputable abbrev l7:=X.Z 3
noncomputable abbrev mc:=X.Z 4
noncomputable abbrev nB:=X.list .nil
noncomputable abbrev nh:=λa b=>oE a b .nil
noncomputable abbrev t9:=λa b=>X.py a b .nil
noncomputable abbrev nS:=lI (ct "")
noncomputable abbrev mC:=λa b=>X.tup (nz a b)
noncomputable abbrev pU:=λa b=>qx (.asg a b)
noncomputable abbrev xZ:=λa=>sB a (ct "append")
noncomputable abbrev mD:=X.Z 5
noncomputable abbrev mU:=λa b=>oQ a (ls b)
noncomputable abbrev lY:=lu 0
noncomputable abbrev sX:=X.b1 .len
noncomputable abbrev mP:=B.cmp .eq
noncomputable abbrev wH:=λa b=>T.tup (vn a b)
noncomputable abbrev sY:=λa b c d e=>X.comp a b c d e [none,none,none]
noncomputable abbrev oF:=λa b c=>oE a b (t8 c)
noncomputable abbrev t_:=X.lit (.bool false)
noncomputable abbrev n7:=X.slice lN
noncomputable abbrev mV:=Kh lN
noncomputable abbrev x_:=T.attr lN
noncomputable abbrev pV:=λa b=>X.tup (.cons a b)
noncomputable abbrev ua:=λa b c d=>lX a b (.cons c d)
noncomputable abbrev pC:=λa b c=>qx (.raise a b c)
noncomputable abbrev vp:=λa b c=>qx (.ite a b c)
noncomputable abbrev oq:=λa b=>nK a (m_ b)
noncomputable abbrev ya:=λa=>vn a .nil
noncomputable abbrev pD:=λa=>pU (.name a)
noncomputable abbrev sC:=X.attr lN
noncomputable abbrev sD:=λa=>sB a (ct "join")
noncomputable abbrev pE:=T.name 1
noncomputable abbrev pF:=X.neg ma
noncomputable abbrev wI:=X.lit (.bool true)
noncomputable abbrev VA:=λa=>t9 a (ct "peek")
noncomputable abbrev VB:=λa=>t9 a (ct "take")
noncomputable abbrev pG:=λa b=>X.sub a (lu b)
noncomputable abbrev pe:=λa b c=>B.and (n4 a b c)
noncomputable abbrev wJ:=sC (ct "data")
noncomputable abbrev ot:=λa b=>qy a (t8 b)
noncomputable abbrev ou:=λa b=>nK a (t8 b)
noncomputable abbrev ow:=λa b=>wH a (ya b)
noncomputable abbrev qf:=X.Z 6
noncomputable abbrev GA:=X.attr kZ
noncomputable abbrev sZ:=λa=>B.not (.val a)
noncomputable abbrev yb:=λa=>X.attr a (ct "word")
noncomputable abbrev Am:=lI (ct "quoted")
noncomputable abbrev sE:=λa=>qx (.expr a)
noncomputable abbrev n8:=λa=>lZ a ma
noncomputable abbrev rH:=λa b c=>Xs.cons a (nz b c)
noncomputable abbrev qX:=B.cmp .ne
noncomputable abbrev Ki:=B.qj .le
noncomputable abbrev qz:=λa b c=>X.ite (n4 a b c)
noncomputable abbrev yc:=x_ (ct "at")
noncomputable abbrev Rs:=X.lit (.tup [(.str (ct "HEADER.FIELDS")),(.str (ct "HEADER.FIELDS.NOT"))])
noncomputable abbrev rI:=X.Z 7
noncomputable abbrev qA:=sX lN
noncomputable abbrev s7:=X.bin .sub
noncomputable abbrev qB:=X.sub lN
noncomputable abbrev sF:=X.cmp .eq
noncomputable abbrev Kj:=oF 805
noncomputable abbrev ub:=X.Z 11
noncomputable abbrev vq:=B.cmp .isin
noncomputable abbrev An:=λa=>X.py a (ct "join")
noncomputable abbrev qC:=λa b=>Kj a (lu b)
noncomputable abbrev CW:=GA (ct "body")
noncomputable abbrev CX:=lI (ct "MIME")
noncomputable abbrev CY:=lI (ct "atom")
noncomputable abbrev uc:=X.Z 8
noncomputable abbrev yd:=X.tup .nil
noncomputable abbrev qY:=λa b=>vp a b .nil
noncomputable abbrev sH:=λa b c d=>ua a b (.wY c d)
noncomputable abbrev CZ:=GA (ct "end")
noncomputable abbrev ud:=X.b1 .chr
noncomputable abbrev qg:=λa b c d e=>lX a b (lX c d e)
noncomputable abbrev s8:=VA lN
noncomputable abbrev s9:=VB lN
noncomputable abbrev qZ:=λa b c=>oQ a b (ls c)
noncomputable abbrev q9:=λa=>nL (x_ a)
noncomputable abbrev ue:=λa=>S.Op a .val
noncomputable abbrev GB:=GA (ct "begin")
noncomputable abbrev Kk:=lI (ct "content-type")
noncomputable abbrev C0:=lI (ct " ")
noncomputable abbrev uf:=X.sub kZ
noncomputable abbrev C1:=λa=>X.py a (ct "get")
noncomputable abbrev Rt:=X.lit (.tup [(.int 0),(.int 10),(.int 13)])
noncomputable abbrev vr:=my []
noncomputable abbrev C2:=my [13,10]
noncomputable abbrev C3:=my [45,45]
noncomputable abbrev ye:=X.bin .mod
noncomputable abbrev wK:=B.cmp .is
noncomputable abbrev GC:=sC (ct "end")
noncomputable abbrev yf:=λa=>X.list (t8 a)
noncomputable abbrev sI:=λa b=>lZ (lZ a b)
noncomputable abbrev nU:=λa=>nh a 0
noncomputable abbrev Ao:=X.b1 .tuple
noncomputable abbrev GD:=λa=>t9 a (ct "is_done")
noncomputable abbrev GE:=lI (ct "\"")
noncomputable abbrev wL:=λa b=>X.tup (oq a b)
noncomputable abbrev rJ:=λa b c d e=>lX a b (mU c d e)
noncomputable abbrev nM:=λa=>oE a 0
noncomputable abbrev wM:=sX kZ
noncomputable abbrev wN:=n8 kZ
noncomputable abbrev wO:=λa=>X.slice a lW
noncomputable abbrev ug:=Ki .le
noncomputable abbrev uh:=n4 .lt
noncomputable abbrev ui:=n4 .eq
noncomputable abbrev Ap:=X.Z 12
noncomputable abbrev yg:=X.b1 .ord
noncomputable abbrev s_:=λa b=>pd (xZ a b)
noncomputable abbrev Kl:=lI (ct "escape")
noncomputable def Bn:mG:=⟨[so "code"],[],[k9 "code"],
 (ls (.ite (ug (lu 65) lN (lu 90)) (lZ lN (lu 32)) lN))⟩
noncomputable def OL:mG:=⟨[so "octets"],[],[k9 "octets",lE "bytes"],
 (ls (.b1 .bytes (sY (nh 178 1) pE .val lN .nil)))⟩
noncomputable def Bo:mG:=⟨[so "text"],[],[k9 "text"],
 (ls (sD nS (.comp (ud (ot 178 (yg kZ))) pE .val lN .nil [none,none,none,none,none])))⟩
noncomputable def Bp:mG:=⟨[so "text"],[],[k9 "text"],
 (ls (sD nS (.comp (.ite (ug (lI (ct "a")) kZ (lI (ct "z"))) (ud (s7 (yg kZ) (lu 32))) kZ) pE .val lN .nil [none,none,none,none])))⟩
noncomputable def zJ:mG:=⟨[so "text"],[],[k9 "text",k9 "at",lE "range",lE "len",lE "ord",lE "WordFault",lE "bytes"],
 (.cons (.Op pE .range qA (qY (.cmp .gt (yg (qB kZ)) (lu 127)) (pC 59 (ct "a sign beyond ASCII") kZ))) (ls (.b1 .bytes (sY (yg kZ) pE .val lN .nil))))⟩
noncomputable def Bq:mG:=⟨[so "data",so "at",so "end"],[(.int 0),(.int (-1))],[k9 "data",k9 "at",k9 "end",k9 "behind",k9 "found",k9 "begin",k9 "feed",k9 "last",lE "len",lE "min",lE "RETURN"],
 (qg 3 (qz .lt 2 lY qA (.b2 .min lB qA)) 4 nB (sH 5 kZ (uh 5 l7) (lX 6 (.py lN (ct "find") (.cons (my [10]) (oq 5 3))) (oQ (uh 6 lY) (s_ mc (.tup (nK 5 (oq 3 3))) (ls mc)) (lX 7 (.ite (pe .gt 6 mD (mP (qB (s7 qf ma)) (lu 13))) (s7 qf ma) qf) (s_ mc (.tup (nK 5 (ou 7 (n8 qf)))) (pD 5 (n8 qf)))))) (ls mc)))⟩
noncomputable def HS:mG:=⟨[so "data",so "at",so "end"],[],[k9 "data",k9 "at",k9 "end",k9 "spot"],
 (rJ 3 (.py lN (ct "find") (.cons (my [10]) (oq 1 2))) (uh 3 lY) (wL 2 2) (mU (pe .gt 3 kZ (mP (qB (s7 l7 ma)) (lu 13))) (mC (s7 l7 ma) (n8 l7)) (ls (.tup (ou 3 (n8 l7))))))⟩
noncomputable def HT:mG:=⟨[so "octets"],[],[k9 "octets",k9 "code",lE "len"],
 (.cons (ue pE lN (qY (.or (.cmp .lt kZ (lu 33)) (.or (.cmp .gt kZ (lu 126)) (mP kZ (lu 58)))) (ls t_))) (ls (.cmp .gt qA lY)))⟩
noncomputable def ET:mG:=⟨[so "data",so "at",so "end"],[],[k9 "data",k9 "at",k9 "end",k9 "spot",lE "is_name"],
 (lX 3 (.py lN (ct "find") (.cons (my [58]) (oq 1 2))) (ls (.ite (pe .ge 3 lY (.val (ot 254 (n7 kZ l7)))) l7 pF)))⟩
noncomputable def Br:mG:=⟨[so "data",so "at",so "end"],[(.int 0),(.int (-1))],[k9 "data",k9 "at",k9 "end",k9 "stop",k9 "rows",k9 "here",k9 "last",k9 "later",k9 "colon",lE "len",lE "line_at",lE "colon_in",lE "WHITE_headers",lE "Field"],
 (qg 3 (qz .lt 2 lY qA lB) 4 nB (sH 5 kZ (uh 5 l7) (nL (ow 6 7) (nM 247 (oq 5 3)) (mU (ui 6 mD) (wL 4 7) (rJ 8 (nM 261 (oq 5 6)) (uh 8 lY) (wL 4 5) (.cons (.wY (pe .lt 7 l7 (vq (qB rI) (.lit (.tup [(.int 32),(.int 9)])))) (pU (ow 6 7) (nM 247 (oq 7 3)))) (s_ mc (pV (qy 236 (nz (n7 mD uc) (n7 (n8 uc) qf))) (oq 5 7)) (pD 5 rI)))))) (ls (wL 4 3))))⟩
noncomputable def zK:mG:=⟨[so "data",so "at",so "end"],[(.int 0),(.int (-1))],[k9 "data",k9 "at",k9 "end",k9 "rows",k9 "body",lE "read_spans"],
 (nL (ow 3 4) (nM 269 (oq 1 2)) (ls (pV (.comp (uf lY) pE .val l7 .nil [none,none]) (m_ 4))))⟩
noncomputable def HU:mG:=⟨[so "raw"],[],[k9 "raw",k9 "rows",k9 "at",k9 "last",k9 "later",lE "line_at",lE "len"],
 (qg 1 nB 2 lY (qx (.wY (.val wI) (nL (ow 3 4) (nM 247 (ou 2 qA)) (s_ kZ (n7 lB l7) (mU (ui 3 qA) kZ (pD 2 mc)))))))⟩
noncomputable def EU:mG:=⟨[so "raw"],[],[k9 "raw",lE "rows_of"],
 (ls (sB (sD vr (nU 282)) (ct "strip") (my [32,9])))⟩
noncomputable def Bt:mG:=⟨[so "fields",so "word"],[],[k9 "fields",k9 "word",k9 "wanted",k9 "field",lE "lower_text",lE "unfolded"],
 (ua 2 (nh 188 1) (ue (.name 3) lN (qY (mP (t9 l7 (ct "word")) lB) (ls (ot 289 (.attr l7 (ct "raw")))))) (ls lW))⟩
noncomputable def yh:mG:=⟨[so "charset"],[],[k9 "charset",lE "CHARSETS",lE "MimeFault"],
 (qY (.cmp .qb lN (.lit (.tup [(.str (ct "us-ascii")),(.str (ct "iso-8859-1")),(.str (ct "utf-8"))]))) (qx .stuck))⟩
noncomputable def w6:mG:=⟨[so "lead"],[],[k9 "lead"],
 (mU (ug (lu 194) lN (lu 223)) (pV (lu 128) (nz (lu 191) ma)) (mU (ug (lu 224) lN (lu 239)) (pV (C1 .stuck (ou 0 (lu 128))) (nz (C1 .stuck (ou 0 (lu 191))) (lu 2))) (mU (ug (lu 240) lN (lu 244)) (pV (C1 .stuck (ou 0 (lu 128))) (nz (C1 .stuck (ou 0 (lu 191))) (lu 3))) (ls (pV lY (nz lY lY))))))⟩
noncomputable def C4:mG:=⟨[so "octets",so "at"],[],[k9 "octets",k9 "at",k9 "lead",k9 "least",k9 "most",k9 "count",k9 "code",k9 "place",lE "follower_span",lE "range",lE "len"],
 (rJ 2 (qB kZ) (uh 2 (lu 128)) (.tup (ou 2 ma)) (nL (wH 3 (vn 4 (ya 5))) (nh 325 2) (mU (ui 5 lY) (mC pF ma) (ua 6 (ye lB .stuck) (ue (.name 7) .stuck (mU (.or (.cmp .ge (lZ kZ rI) qA) (.not (ug l7 (qB (lZ kZ rI)) mc))) (pV pF (m_ 7)) (lX 6 (lZ (.bin .mul qf (lu 64)) (ye (qB (lZ kZ rI)) (lu 64))) (pU (ow 3 4) (mC (lu 128) (lu 191)))))) (ls (.tup (ou 6 (n8 mD))))))))⟩
noncomputable def HW:mG:=⟨[so "charset",so "octets",so "at"],[],[k9 "charset",k9 "octets",k9 "at",lE "UTF8",lE "utf8_sign",lE "ASCII"],
 (mU (mP lN (lI (ct "utf-8"))) (oE 332 1 (m_ 2)) (mU (.and (mP lN (lI (ct "us-ascii"))) (.cmp .gt (uf lB) (lu 127))) (mC pF ma) (ls (mC (uf lB) ma))))⟩
noncomputable def HX:mG:=⟨[so "charset",so "octets"],[],[k9 "charset",k9 "octets",k9 "signs",k9 "at",k9 "code",k9 "length",lE "need_charset",lE "len",lE "sign_at",lE "chr",lE "UNKNOWN_SIGN"],
 (pd (nU 318) (lX 2 nB (sH 3 lY (uh 3 wM) (nL (ow 4 5) (nM 339 (oq 1 3)) (s_ lB (qz .ge 4 lY (ud mc) (lI (ct "�"))) (pD 3 (lZ l7 mD)))) (ls (An nS (m_ 2))))))⟩
noncomputable def zL:mG:=⟨[so "charset",so "octets"],[],[k9 "charset",k9 "octets",k9 "signs",k9 "at",k9 "code",k9 "length",lE "need_charset",lE "len",lE "sign_at",lE "MimeFault",lE "chr"],
 (pd (nU 318) (lX 2 nB (sH 3 lY (uh 3 wM) (nL (ow 4 5) (nM 339 (oq 1 3)) (oQ (uh 4 lY) (qx .stuck) (s_ lB (ud mc) (pD 3 (lZ l7 mD))))) (ls (An nS (m_ 2))))))⟩
noncomputable def yi:mG:=⟨[so "octets"],[],[k9 "octets",lE "strict_text",lE "UTF8",lE "MimeFault",lE "text_in",lE "LATIN"],
 (qx (.try (ls (qy 353 (.cons (lI (ct "utf-8")) (m_ 0)))) .none))⟩
noncomputable def EW:mG:=⟨[so "data",so "at"],[],[k9 "data",k9 "at"],
 (mU (mP (n7 kZ wN) (my [10])) wN (ls (.ite (mP (n7 kZ (lZ kZ (lu 2))) C2) (lZ kZ (lu 2)) pF)))⟩
noncomputable def C5:mG:=⟨[so "data",so "at",so "begun"],[],[k9 "data",k9 "at",k9 "begun",k9 "behind",lE "len",lE "WordFault",lE "NEVER_ESCAPED",lE "line_end"],
 (oQ (.or (.cmp .ge kZ qA) (.and (mP (qB kZ) (lu 92)) (mP wN qA))) (pC 59 (ct "something is never closed") lB) (oQ (mP (qB kZ) (lu 92)) (qZ (vq (qB wN) Rt) (pC 59 (ct "a sign that cannot be escaped") kZ) (mC (n7 wN (lZ kZ (lu 2))) (lZ kZ (lu 2)))) (rJ 3 (nM 368 (m_ 1)) (n4 .ge 3 lY) (pV vr (m_ 3)) (qZ (vq (qB kZ) Rt) (pC 59 (ct "a sign that cannot stand") kZ) (mC (n7 kZ wN) wN)))))⟩
noncomputable def C6:mG:=⟨[so "data",so "begun",so "closing",so "barred"],[],[k9 "data",k9 "begun",k9 "closing",k9 "barred",k9 "parts",k9 "at",k9 "octets",lE "len",lE "WordFault",lE "inside_at"],
 (lX 4 nB (sH 5 wN (qX (n7 mD (n8 mD)) lB) (oQ (pe .lt 5 qA (vq (qB mD) l7)) (pC 59 (ct "a bracket within brackets") mD) (nL (ow 6 5) (nM 375 (oq 5 1)) (sE (.py mc (ct "append") (m_ 6))))) (ls (mC (An vr (m_ 4)) (n8 mD)))))⟩
noncomputable def Bu:mG:=⟨[],[],[lE "Kind"],
 (ls (qy 435 (rH (lI (ct "text")) (lI (ct "plain")) (.dict [(ct "charset")] (t8 (lI (ct "us-ascii")))))))⟩
noncomputable def w7:mG:=⟨[so "code"],[],[k9 "code",lE "BARRED_params"],
 (ls (.and (.qj .lt .lt (lu 32) lN (lu 127)) (.cmp .qb lN (my [40,41,60,62,64,44,59,58,92,34,47,91,93,63,61]))))⟩
noncomputable def yj:mG:=⟨[so "cursor"],[],[k9 "cursor",lE "WHITE_params",lE "BRACKET",lE "comment_at"],
 (qx (.wY (sZ (GD lN)) (vp (vq s8 (.lit (.tup [(.int 9),(.int 10),(.int 13),(.int 32)]))) (sE s9) (vp (mP s8 (lu 40)) (pU yc (.sub .stuck ma)) (ls lW)))))⟩
noncomputable def Bv:mG:=⟨[so "cursor"],[],[k9 "cursor",k9 "first",lE "is_token_code",lE "WordFault"],
 (sH 1 mV (.val (ot 453 s8)) (sE s9) (qZ (mP mV kZ) (pC 59 (ct "a word is missing") kZ) (.slice wJ kZ mV)))⟩
noncomputable def w8:mG:=⟨[so "code"],[],[k9 "code",lE "is_token_code"],
 (ls (.or (.cmp .gt lN (lu 127)) (nU 453)))⟩
noncomputable def Bw:mG:=⟨[so "cursor"],[],[k9 "cursor",k9 "worth",k9 "first",lE "QUOTE_params",lE "closed_at",lE "is_worth_code",lE "WordFault"],
 (oQ (mP s8 (lu 34)) (nL (wH 1 (.cons yc .nil)) (qy 382 (.cons wJ (rH mV (my [34]) vr))) (ls kZ)) (sH 2 mV (.val (ot 474 s8)) (sE s9) (qZ (mP mV lB) (pC 59 (ct "a worth is missing") lB) (.slice wJ lB mV))))⟩
noncomputable def Bx:mG:=⟨[so "octets"],[],[k9 "octets",lE "lower"],
 (ls (sD nS (sY (ud kZ) pE .val (nU 183) .nil)))⟩
noncomputable def By:mG:=⟨[so "cursor"],[],[k9 "cursor",k9 "pairs",k9 "name",lE "skip_between",lE "SEMICOLON",lE "WordFault",lE "small_word",lE "take_token",lE "EQUALS",lE "take_worth"],
 (lX 1 nB (pd (nU 460) (.cons (.wY (sZ (GD lN)) (oQ (qX s9 (lu 59)) (pC 59 (ct "a semicolon is missing") (s7 mV ma)) (pd (nU 460) (qY (.and (sZ (GD lN)) (qX s8 (lu 59))) (lX 2 (ot 486 (nU 467)) (pd (nU 460) (oQ (qX s9 (lu 61)) (pC 59 (ct "a parameter without its worth") mV) (pd (nU 460) (s_ kZ (.tup (ou 2 (nU 481))) (sE (nU 460))))))))))) (ls kZ))))⟩
noncomputable def HY:mG:=⟨[so "name"],[],[k9 "name",k9 "spot",k9 "is_encoded",k9 "number",lE "len",lE "part_number"],
 (rJ 1 (sB lN (ct "find") (lI (ct "*"))) (.cmp .lt kZ ma) lW (rJ 2 (sF (qB pF) (lI (ct "*"))) (.and (.val lB) (mP kZ (s7 qA ma))) (pV (n7 lW kZ) (nz lY wI)) (lX 3 .stuck (ls (qz .ge 3 lY (pV (n7 lW kZ) (oq 3 2)) lW)))))⟩
noncomputable def C7:mG:=⟨[so "pairs"],[],[k9 "pairs",k9 "plain",k9 "parted",k9 "name",k9 "worth",k9 "part",k9 "base",k9 "number",k9 "is_encoded",lE "part_of",lE "guessed_text",lE "joined_worth"],
 (lX 1 (.dict [] .nil) (ua 2 (.dict [] .nil) (ue (ow 3 4) lN (lX 5 (nh 507 3) (vp (n4 .is 5 lW) (qY (n4 .qb 3 kZ) (pU (.sub kZ l7) (nh 360 4))) (nL (wH 6 (vn 7 (ya 8))) mD (oQ (n4 .qb 6 lB) (pU (.sub lB qf) (.dict [] .nil)) (qY (n4 .qb 7 (.sub lB qf)) (pU (.sub (.sub lB qf) rI) (wL 8 4)))))))) (.cons (ue (.name 6) lB (qY (vq lY (.sub lB qf)) (pU (.sub kZ qf) .stuck))) (ls kZ))))⟩
noncomputable def zM:mG:=⟨[so "octets"],[],[k9 "octets",k9 "cursor",k9 "top",k9 "sub",lE "Cursor",lE "skip_between",lE "small_word",lE "take_token",lE "WordFault",lE "Kind",lE "params_of",lE "take_pairs"],
 (lX 1 (nU 167) (pd (nh 460 1) (lX 2 (ot 486 (nh 467 1)) (pd (nh 460 1) (oQ (sZ (sB kZ (ct "skip") (my [47]))) (pC 59 (ct "a kind without its second word") (Kh kZ)) (pd (nh 460 1) (lX 3 (ot 486 (nh 467 1)) (ls (oE 435 2 (ou 3 (ot 538 (nh 493 1))))))))))))⟩
noncomputable def C8:mG:=⟨[so "octets"],[],[k9 "octets",lE "plain_kind",lE "strict_kind",lE "WordFault"],
 (mU (wK lN lW) (qy 446 .nil) (qx (.try (ls (nU 545)) .none)))⟩
noncomputable def zN:mG:=⟨[so "fields"],[],[k9 "fields",k9 "told_body",k9 "at",k9 "word",lE "first_body",lE "PLAIN_ENCODING",lE "len",lE "WORD_ENDS",lE "lower_text"],
 (rJ 1 (oF 296 0 (lI (ct "content-transfer-encoding"))) (wK kZ lW) (lI (ct "7bit")) (sH 2 lY (pe .lt 2 wM (.cmp .qb (uf lB) (my [32,9,40,59]))) (pD 2 (n8 lB)) (lX 3 (ot 188 (sD nS (sY (ud kZ) pE .val (wO kZ lB) .nil))) (ls (qz .eq 3 nS (lI (ct "7bit")) l7)))))⟩
noncomputable def yk:mG:=⟨[so "line",so "boundary"],[],[k9 "line",k9 "boundary",k9 "mark",k9 "rest",lE "len",lE "BLANKS"],
 (rJ 2 (lZ C3 kZ) (qX (n7 lW (sX lB)) lB) nS (rJ 3 (sB (n7 (sX lB) lW) (ct "rstrip") (my [32,9])) (ui 3 vr) (lI (ct "next")) (ls (qz .eq 3 C3 (lI (ct "last")) nS))))⟩
noncomputable def Bz:mG:=⟨[so "data",so "at",so "end",so "boundary"],[],[k9 "data",k9 "at",k9 "end",k9 "boundary",k9 "found",k9 "begun",k9 "before",k9 "first",k9 "last",k9 "behind",k9 "way",lE "line_spans",lE "boundary_way",lE "max"],
 (qg 4 nB 5 pF (ua 6 kZ (ue (wH 7 (vn 8 (ya 9))) (nM 206 (oq 1 2)) (lX 10 (qy 593 (.cons (n7 rI uc) (m_ 3))) (oQ (n4 .ne 10 nS) (oQ (n4 .ge 5 lY) (sE (xZ mc (.tup (ou 5 (.b2 .max mD qf))))) (mU (ui 10 (lI (ct "last"))) mc (pD 5 (.Z 9)))) (pD 6 uc)))) (qZ (n4 .ge 5 lY) (sE (xZ mc (wL 5 2))) mc)))⟩
noncomputable def C9:mG:=⟨[so "data",so "part"],[],[k9 "data",k9 "part",k9 "told_boundary",k9 "boundary",k9 "found",lE "bytes",lE "len",lE "part_spans"],
 (lX 2 (C1 (.attr (GA (ct "kind")) (ct "params")) (nz (lI (ct "boundary")) nS)) (qg 3 (.b1 .bytes (sY (yg kZ) pE .val lB (.cons (.cmp .lt (yg kZ) (lu 256)) .nil))) 4 nB (qZ (pe .ne 2 nS (mP (sX l7) (sX lB))) (pD 4 (nM 600 (.cons CW (.cons CZ (m_ 3))))) (qz .ne 4 nB mc (yf (mC CZ CZ))))))⟩
noncomputable def C_:mG:=⟨[so "part"],[],[k9 "part",lE "OPEN_ENCODINGS"],
 (ls (.and (t9 (sC (ct "kind")) (ct "is_letter")) (.cmp .isin (sC (ct "encoding")) (.lit (.tup [(.str (ct "7bit")),(.str (ct "8bit")),(.str (ct "binary"))])))))⟩
noncomputable def C':mG:=⟨[so "data",so "begin",so "end",so "depth",so "is_digest"],[],[(so "data",.cell),k9 "begin",k9 "end",(so "depth",.cell),k9 "is_digest",k9 "fields",k9 "body",k9 "told_kind",k9 "kind",k9 "part",(so "is_within_digest",.cell),lE "read_fields",lE "first_body",lE "Kind",lE "read_kind",lE "Part",lE "MOST_DEPTH_parts",lE "kid_spans",lE "has_inner",lE "read_part"],
 (nL (ow 5 6) (nM 275 (oq 1 2)) (lX 7 (oF 296 5 Kk) (qg 8 (.ite (pe .is 7 lW (.val mc)) (qy 435 (rH (lI (ct "message")) (lI (ct "rfc822")) (.dict [] .nil))) (nh 552 7)) 9 (oE 577 1 (nK 6 (nK 2 (oq 5 8)))) (Rq (pe .lt 3 (lu 20) (.val (t9 uc (ct "is_multi")))) (lX 10 (sF (.attr uc (ct "sub")) (lI (ct "digest"))) (pU (.attr (.Z 9) (ct "kids")) (.comp (oE 617 4 (nK 1 (nK 2 (.cons (n8 mD) (m_ 6))))) (ow 1 2) .val (nM 605 (m_ 9)) .nil [none,none,none,none,some 0,some 3,some 10]))) (qY (pe .lt 3 (lu 20) (.val (nh 612 9))) (pU (.attr (.Z 9) (ct "inner")) (nM 617 (nK 6 (nK 2 (nz (n8 l7) t_)))))) (ls (.Z 9))))))⟩
noncomputable def yl:mG:=⟨[so "data"],[],[k9 "data",lE "read_part",lE "len"],
 (ls (nM 617 (.cons lY (rH qA lY t_))))⟩
noncomputable def w9:mG:=⟨[so "part",so "is_letter"],[],[k9 "part",k9 "is_letter",lE "numbered_kids"],
 (mU (qX (sC (ct "kids")) nB) (sC (ct "kids")) (mU (.val kZ) (.list (m_ 0)) (ls (.ite (wK (sC (ct "inner")) lW) nB (qy 631 (nz (sC (ct "inner")) wI))))))⟩
noncomputable def HZ:mG:=⟨[so "part",so "path"],[],[k9 "part",k9 "path",k9 "here",k9 "is_letter",k9 "number",k9 "row",lE "numbered_kids",lE "len"],
 (lX 2 lN (ua 3 wI (ue (.name 4) kZ (rJ 5 (oE 631 2 (m_ 3)) (.not (ug ma mc (sX mD))) lW (lX 2 (.sub mD (s7 mc ma)) (pD 3 t_)))) (ls lB)))⟩
noncomputable def Sx:mG:=⟨[so "cursor",so "sign"],[],[k9 "cursor",k9 "sign",lE "WireFault"],
 (qY (sZ (.py lN (ct "skip") (m_ 1))) (pC 83 (ct "a sign of a section is missing") mV))⟩
noncomputable def zO:mG:=⟨[so "cursor",so "least"],[],[k9 "cursor",k9 "least",k9 "first",k9 "number",k9 "is_bare",lE "MOST_NUMBER",lE "WireFault"],
 (lX 2 mV (qg 3 (t9 lN (ct "number")) 4 (.and (.cmp .HN l7 lW) (.or (sF mV (n8 lB)) (.cmp .ne (.sub wJ lB) (lu 48)))) (qZ (.or (sZ mc) (.not (ug kZ l7 (lu 4294967295)))) (pC 83 (ct "no number of a section") lB) l7)))⟩
noncomputable def Da:mG:=⟨[so "code"],[],[k9 "code"],
 (ls (.qj .le .le (lu 48) lN (lu 57)))⟩
noncomputable def Db:mG:=⟨[so "cursor"],[],[k9 "cursor",k9 "found",lE "is_figure",lE "take_number",lE "tuple"],
 (lX 1 nB (qZ (.val (ot 691 s8)) (s_ kZ (oF 684 0 ma) (qx (.wY (.and (.val (sB lN (ct "starts") (my [46]))) (.val (ot 691 (sB lN (ct "peek") ma)))) (pd s9 (sE (xZ kZ (oF 684 0 ma))))))) (Ao kZ)))⟩
noncomputable def Dc:mG:=⟨[so "cursor",so "path"],[],[k9 "cursor",k9 "path",k9 "first",k9 "word",lE "need",lE "upper_text",lE "LETTERS",lE "WORDS",lE "WireFault"],
 (mU (.val (sB lN (ct "starts") (my [93]))) nS (oQ (qX kZ yd) (sE (oF 677 0 (my [46]))) (qg 2 mV 3 (ot 193 (sD nS (sY (ud kZ) pE .val (sB lN (ct "take_while") (my [65,66,67,68,69,70,71,72,73,74,75,76,77,78,79,80,81,82,83,84,85,86,87,88,89,90,97,98,99,100,101,102,103,104,105,106,107,108,109,110,111,112,113,114,115,116,117,118,119,120,121,122,46])) .nil))) (qZ (.or (n4 .qb 3 (.lit (.tup [(.str (ct "HEADER")),(.str (ct "TEXT")),(.str (ct "MIME")),(.str (ct "HEADER.FIELDS")),(.str (ct "HEADER.FIELDS.NOT"))]))) (pe .eq 3 CX (mP kZ yd))) (pC 83 (ct "no word of a section") lB) l7))))⟩
noncomputable def ym:mG:=⟨[so "code"],[],[k9 "code",lE "BARRED_sections"],
 (ls (.and (.qj .lt .lt (lu 32) lN (lu 127)) (.cmp .qb lN (my [40,41,123,37,42,34,92,93,32]))))⟩
noncomputable def zP:mG:=⟨[so "cursor"],[],[k9 "cursor",k9 "signs",k9 "code",lE "QUOTE_sections",lE "BACKSLASH",lE "WireFault",lE "chr"],
 (lX 1 nB (qx (.wY (.val wI) (rJ 2 s9 (ui 2 (lu 34)) (An nS (m_ 1)) (oQ (ui 2 (lu 92)) (lX 2 s9 (qY (n4 .qb 2 (mC (lu 34) (lu 92))) (pC 83 (ct "nothing that is quoted") mV))) (oQ (.not (Ki .lt (lu 32) lB (lu 127))) (pC 83 (ct "a quoted name without its end, or an odd sign in it") mV) (sE (xZ kZ (ud lB)))))))))⟩
noncomputable def Dd:mG:=⟨[so "cursor"],[],[k9 "cursor",k9 "signs",lE "QUOTE_sections",lE "take_quoted",lE "is_atom_code",lE "chr",lE "WireFault"],
 (oQ (mP s8 (lu 34)) (pd s9 (ls (nU 717))) (sH 1 nB (.val (ot 710 s8)) (sE (xZ kZ (ud s9))) (qZ (mP kZ nB) (pC 83 (ct "a name is missing") mV) (An nS (m_ 1)))))⟩
noncomputable def BA:mG:=⟨[so "cursor"],[],[k9 "cursor",k9 "found",lE "need",lE "take_name",lE "tuple"],
 (pd (oF 677 0 (my [32])) (pd (oF 677 0 (my [40])) (sH 1 (yf (nU 724)) (.val (sB lN (ct "skip") (my [32]))) (sE (xZ kZ (nU 724))) (pd (oF 677 0 (my [41])) (ls (Ao kZ))))))⟩
noncomputable def yn:mG:=⟨[so "cursor"],[],[k9 "cursor",k9 "offset",k9 "count",lE "take_number",lE "need"],
 (mU (sZ (sB lN (ct "skip") (my [60]))) lW (lX 1 (oF 684 0 lY) (pd (oF 677 0 (my [46])) (lX 2 (oF 684 0 ma) (pd (oF 677 0 (my [62])) (ls (wL 1 2)))))))⟩
noncomputable def yo:mG:=⟨[so "text"],[],[k9 "text",k9 "at",k9 "cursor",k9 "path",k9 "word",k9 "names",k9 "partial",lE "range",lE "len",lE "ord",lE "WireFault",lE "Cursor",lE "text_octets",lE "need",lE "take_path",lE "take_word",lE "FIELD_WORDS",lE "take_names",lE "take_partial",lE "Section"],
 (.cons (.Op pE .range qA (qY (.cmp .gt (yg (qB kZ)) (lu 126)) (pC 83 (ct "a sign beyond ASCII") kZ))) (lX 2 (ot 167 (nU 198)) (pd (oF 677 2 (my [91])) (lX 3 (nh 698 2) (qg 4 (oE 703 2 (m_ 3)) 5 (qz .isin 4 Rs (nh 731 2) yd) (pd (oF 677 2 (my [93])) (lX 6 (nh 738 2) (qZ (sZ (GD lB)) (pC 83 (ct "something stands behind the section") (Kh lB)) (oE 666 3 (nK 4 (oq 5 6)))))))))))⟩
noncomputable def w_:mG:=⟨[so "data",so "part",so "names",so "is_not"],[],[(so "data",.cell),k9 "part",k9 "names",(so "is_not",.cell),(so "wanted",.cell),k9 "rows",k9 "found",k9 "empty_at",lE "read_spans"],
 (qg 4 (sY (nh 188 1) pE .val lB .nil) 5 (.sub (nM 269 (nz GB CW)) lY) (qg 6 (.comp (.slice mc lB l7) (wH 1 (vn 2 (ya 3))) .val mD (.cons (qX (.cmp .isin (t9 kZ (ct "word")) qf) mD) .nil) [none,none,none,none,some 0,some 3,some 4]) 7 (qz .ne 5 nB (pG (.sub mD pF) 2) GB) (ls (lZ (An vr (m_ 6)) (n7 rI CW)))))⟩
noncomputable def zQ:mG:=⟨[so "data",so "part",so "section"],[],[k9 "data",k9 "part",k9 "section",lE "FIELD_WORDS",lE "header_octets"],
 (mU (mP (yb lB) (lI (ct "HEADER"))) (n7 GB CW) (mU (mP (yb lB) (lI (ct "TEXT"))) (n7 CW CZ) (mU (vq (yb lB) Rs) (nM 750 (nK 1 (nz (.attr lB (ct "names")) (sF (yb lB) (lI (ct "HEADER.FIELDS.NOT")))))) (ls (n7 GB CZ)))))⟩
noncomputable def yp:mG:=⟨[so "data",so "part",so "section",so "find"],[],[k9 "data",k9 "part",k9 "section",k9 "find",k9 "here",lE "word_octets"],
 (mU (mP (.attr lB (ct "path")) yd) (nM 757 (oq 1 2)) (rJ 4 (.call l7 (ou 1 (.attr lB (ct "path")))) (n4 .is 4 lW) lW (mU (mP (yb lB) nS) (n7 (.attr mc (ct "body")) (.attr mc (ct "end"))) (mU (mP (yb lB) CX) (n7 (.attr mc (ct "begin")) (.attr mc (ct "body"))) (ls (.ite (wK (.attr mc (ct "inner")) lW) lW (nM 757 (.cons (.attr mc (ct "inner")) (m_ 2)))))))))⟩
noncomputable def Km:mG:=⟨[so "octets",so "partial"],[],[k9 "octets",k9 "partial"],
 (mU (.or (wK lN lW) (wK kZ lW)) lN (ls (n7 (uf lY) (lZ (uf lY) (uf ma)))))⟩
noncomputable def v_:mG:=⟨[so "data",so "part",so "section"],[],[k9 "data",k9 "part",k9 "section",lE "sliced",lE "whole_octets",lE "part_at"],
 (ls (qy 771 (nz (nM 764 (nK 1 (ou 2 (.lit (.ref 638))))) (.attr lB (ct "partial")))))⟩
noncomputable def H2:mG:=⟨[so "script"],[],[k9 "script"],
 (ls (.list (rH (.comp (ye (.b1 .abs (.b1 .int kZ)) (.bin .pow (lu 10) (lu 60))) pE .val (n7 lW (lu 40)) .nil [none,none,none,none]) lY lY)))⟩
noncomputable def De:mG:=⟨[so "pen",so "many"],[],[k9 "pen",k9 "many",k9 "cells",k9 "spot",k9 "turn",k9 "worth",lE "len"],
 (nL (wH 2 (vn 3 (ya 4))) lN (oQ (uh 3 (sX lB)) (lX 5 (.sub lB l7) (nL (.sub lB l7) (.bin .fdiv mD kZ) (nL (.sub lN ma) (lZ l7 (qz .lt 5 kZ ma lY)) (ls (ye mD kZ))))) (nL (.sub lN (lu 2)) (n8 mc) (ls (ye (ye (sI (.bin .mul (.bin .mul (lu 41) mc) mc) (.bin .mul (lu 13) mc) (lu 3)) (lu 10009)) kZ)))))⟩
noncomputable def EY:mG:=⟨[so "rows",so "body",so "kids",so "inner"],[],[k9 "rows",k9 "body",k9 "kids",k9 "inner",lE "list"],
 (ls (.list (.cons (.b1 .list lN) (nK 1 (nK 2 (ou 3 (lZ (sD vr (sY lB (ow 1 2) .val lN .nil)) C2)))))))⟩
noncomputable def EZ:mG:=⟨[so "pen"],[],[k9 "pen",k9 "rows",lE "_law_heads",lE "_law_drawn",lE "_law_node",lE "_law_bodies"],
 (lX 1 (.sub (.lit (.tup [(.tup []),(.tup [(.tup [(.str (ct "content-type")),(.bytes [67,111,110,116,101,110,116,45,84,121,112,101,58,32,116,101,120,116,47,104,116,109,108,13,10])])]),(.tup [(.tup [(.str (ct "content-type")),(.bytes [99,111,110,116,101,110,116,45,84,89,80,69,58,32,73,109,97,103,101,47,80,78,71,59,13,10,32,110,97,109,101,61,120,13,10])]),(.tup [(.str (ct "x-a")),(.bytes [88,45,97,58,32,49,13,10])])])])) (qC 0 3)) (ls (oE 810 1 (rH (.sub (.lit (.tup [(.bytes []),(.bytes [120]),(.bytes [97,13,10,98,13,10]),(.bytes [45,45,13,10]),(.bytes [13,10,13,10,122]),(.bytes [61,109,65,13,10,45,45,61,109]),(.bytes [84,111,58,32,113,13,10,13,10,118,10])])) (qC 0 7)) nB lW))))⟩
noncomputable def Df:mG:=⟨[so "pen",so "mark",so "kids"],[],[k9 "pen",k9 "mark",k9 "kids",k9 "body",k9 "kid",lE "_law_drawn",lE "_law_node"],
 (ua 3 (.sub (mC vr (my [108,101,97,100,13,10])) (qC 0 2)) (ue (.name 4) lB (pD 3 (sI (sI (sI l7 C3 kZ) C2 (pG mc 4)) (.sub mc ma) C2))) (lX 3 (lZ (sI l7 C3 kZ) (.sub (pV C3 (nz (my [45,45,13,10]) (my [45,45,32,13,10,112,111,115,116]))) (qC 0 3))) (ls (qy 810 (.cons (yf (mC Kk (sI (my [67,111,110,116,101,110,116,45,84,121,112,101,58,32,109,117,108,116,105,112,97,114,116,47,109,105,120,101,100,59,32,98,111,117,110,100,97,114,121,61,34]) kZ (my [34,13,10])))) (nK 3 (ou 2 lW)))))))⟩
noncomputable def BB:mG:=⟨[so "pen",so "node"],[],[k9 "pen",k9 "node",k9 "first",k9 "count",lE "_law_drawn",lE "_law_node",lE "_law_fields",lE "tuple"],
 (.cons (.CK [2,3] (mC (qC 0 5) (qC 0 4))) (ls (qy 810 (.cons (lZ (wO (lZ (.slice Rr lB lW) (wO Rr lB)) l7) (Ao (uf lY))) (rH (uf ma) (pG kZ 2) (pG kZ 3))))))⟩
noncomputable def BC:mG:=⟨[so "letter"],[],[k9 "letter",lE "_law_node"],
 (ls (qy 810 (.cons (yf (mC Kk (my [67,111,110,116,101,110,116,45,84,121,112,101,58,32,109,101,115,115,97,103,101,47,114,102,99,56,50,50,13,10]))) (.cons (lZ (pG lN 4) (qB ma)) (.cons nB (m_ 0))))))⟩
noncomputable def Dg:mG:=⟨[so "pen",so "way"],[],[k9 "pen",k9 "way",lE "_law_leaf",lE "_law_around",lE "_law_letter",lE "_law_multi"],
 (mU (mP kZ lY) (nU 817) (mU (mP kZ ma) (ot 838 (oF 831 0 (nU 817))) (ls (nM 824 (nz (my [61,109,68]) (.list (nz (nU 817) (nU 817))))))))⟩
noncomputable def Dh:mG:=⟨[so "node",so "path",so "is_whole"],[],[k9 "node",k9 "path",k9 "is_whole",k9 "found",k9 "at",k9 "kid",lE "_law_paths",lE "enumerate"],
 (mU (.and (mP (pG lN 2) nB) (sZ lB)) (.ite (wK (pG lN 3) lW) nB (qy 852 (.cons (pG lN 3) (ou 1 wI)))) (ua 3 nB (.Op (ow 4 5) .enum (.ite (qX (pG lN 2) nB) (pG lN 2) (.list (m_ 0))) (pD 3 (sI l7 (yf (pV (lZ kZ (.tup (t8 (n8 mc)))) (m_ 5))) (oE 852 5 (nz (lZ kZ (.tup (t8 (n8 mc)))) t_))))) (ls l7)))⟩
noncomputable def yq:mG:=⟨[so "rest"],[],[k9 "rest",k9 "names",k9 "state",k9 "at",k9 "sign",k9 "may_stand",lE "range",lE "len"],
 (.cons (.CK [1,2] (mC nB (lI (ct "blank")))) (.cons (.Op (.name 3) .range (n8 qA) (qg 4 (n7 l7 (n8 l7)) 5 (.and (.qj .le .le (lI (ct "!")) mc (lI (ct "~"))) (.cmp .qb mc (lI (ct "(){%*\"\\]")))) (vp (vq (wL 2 4) (pV (mC (lI (ct "blank")) C0) (.cons (mC (lI (ct "open")) (lI (ct "("))) (rH (mC Am GE) (mC Am (lI (ct "\\"))) (mC (lI (ct "close")) (lI (ct "]"))))))) (pD 2 (.sub (.dict [(ct "blank"),(ct "open"),(ct "quoted"),(ct "close")] (.cons (lI (ct "open")) (rH (lI (ct "begin")) (qz .eq 4 GE (lI (ct "behind")) Kl) (lI (ct "end"))))) lB)) (vp (pe .isin 2 (mC CY (lI (ct "behind"))) (n4 .isin 4 (mC C0 (lI (ct ")"))))) (pD 2 (qz .eq 4 C0 (lI (ct "begin")) (lI (ct "close")))) (vp (pe .eq 2 (lI (ct "begin")) (.or (ui 4 GE) (.val mD))) (s_ kZ (.ite (.val mD) mc nS) (pD 2 (.ite (.val mD) CY Am))) (vp (.or (pe .eq 2 CY (.val mD)) (.or (pe .eq 2 Am (ug C0 mc (lI (ct "~")))) (pe .eq 2 Kl (n4 .isin 4 (mC GE (lI (ct "\\"))))))) (nL (.sub kZ pF) (lZ (uf pF) mc) (pD 2 (qz .eq 2 CY CY Am))) (vp (pe .eq 2 (lI (ct "end")) (ui 4 nS)) (ls (.tup (ou 1 pF))) (ls (mC lW (lZ l7 (.ite (pe .isin 2 (mC Am Kl) (n4 .ne 4 nS)) ma lY))))))))))) (ls (mC lW pF))))⟩
noncomputable def Di:mG:=⟨[so "text"],[],[k9 "text",k9 "fault",lE "read_section",lE "WireFault"],
 (qx (.try (ls (mC (nU 745) pF)) (some (83,1))))⟩
noncomputable def Dj:mG:=⟨[so "pen",so "word"],[],[k9 "pen",k9 "word",(so "way",.cell),lE "_law_drawn",lE "enumerate"],
 (lX 2 (qC 0 3) (ls (sD nS (.comp (.ite (.or (ui 3 ma) (pe .eq 3 (lu 2) (mP (ye kZ (lu 2)) ma))) (t9 lB (ct "lower")) lB) (ow 1 2) .enum kZ .nil [none,none,none,some 2]))))⟩
noncomputable def zR:mG:=⟨[so "path"],[],[k9 "path"],
 (ls (lZ (lI (ct "[")) (sD nS (sY (lZ (.b1 .str kZ) (lI (ct "."))) pE .val lN .nil))))⟩
noncomputable def uB:mG:=⟨[so "data",so "letter",so "paths",so "mime"],[],[k9 "data",k9 "letter",k9 "paths",k9 "mime",k9 "path",k9 "node",k9 "inner",k9 "word",k9 "due",k9 "beside",lE "section_octets",lE "Section",lE "read_section",lE "_law_numbers"],
 (.cons (ue (ow 4 5) lB (ua 6 (.ite (wK (pG mD 3) lW) (.list (nz lW lW)) (.list (nz (pG (pG mD 3) 4) (.sub (pG mD 3) ma)))) (ue (ow 7 8) (pV (mC nS (.sub mD ma)) (rH (mC CX (pG mD 4)) (mC (lI (ct "HEADER")) (.sub qf lY)) (mC (lI (ct "TEXT")) (.sub qf ma)))) (qY (qX (nM 778 (ou 1 (oE 666 4 (m_ 7)))) uc) (ls t_))) (qY (qX (nM 778 (ou 1 (ot 745 (sI (nh 876 4) l7 (lI (ct "]")))))) (pG mD 4)) (ls t_)))) (lX 9 (lZ (wO (.sub (.sub lB pF) lY) pF) (.tup (t8 (n8 (.sub (.sub (.sub lB pF) lY) pF))))) (ls (.cmp .is (nM 778 (ou 1 (oF 666 9 CX))) lW))))⟩
noncomputable def lD:mG:=⟨[so "pen",so "way",so "data",so "letter",so "whole",so "paths"],[],[(so "pen",.cell),k9 "way",k9 "data",k9 "letter",k9 "whole",k9 "paths",k9 "path",k9 "node",(so "is_not",.cell),k9 "word",k9 "lead",k9 "rest",k9 "spot",k9 "sign",k9 "names",k9 "place",k9 "beyond",k9 "section",k9 "told_at",k9 "here",k9 "due",(so "small",.cell),lE "_law_drawn",lE "len",lE "_law_numbers",lE "_law_cased",lE "range",lE "_law_odd",lE "_law_names_in",lE "enumerate",lE "_law_heard",lE "tuple",lE "section_octets"],
 (nL (ow 6 7) (.sub (lZ (yf (mC yd lW)) mD) (Kj 0 (lZ ma (sX mD)))) (lX 8 (sF (qC 0 2) ma) (qg 9 (.ite (.val uc) (lI (ct "HEADER.FIELDS.NOT")) (lI (ct "HEADER.FIELDS"))) 10 (lZ (nh 876 6) (nM 871 (m_ 9))) (qg 11 (sI (lI (ct " (")) (sD C0 (.comp (.sub (.lit (.tup [(.str (ct "From")),(.str (ct "tO")),(.str (ct "\"x\\\"q\"")),(.str (ct "\"To\"")),(.str (ct "x-A")),(.str (ct "\"\"")),(.str (ct "\"a b\""))])) (qC 4 7)) pE .range (lZ ma (qC 0 3)) .nil [none,none,none,none,some 0])) (lI (ct ")]"))) 12 (lZ (.ite (mP kZ ma) lY ma) (Kj 0 (s7 (sX ub) (.ite (mP kZ (lu 3)) ma lY)))) (qg 13 (.sub (lI (ct " ()\"\\]aT%\x1f\x7fé~")) (qC 0 13)) 11 (.sub (.list (nK 11 (rH (lZ (wO ub Ap) (.slice ub (n8 Ap) lW)) (sI (wO ub Ap) (.Z 13) (.slice ub Ap lW)) (sI (wO ub Ap) (.Z 13) (.slice ub (n8 Ap) lW))))) kZ) (nL (ow 14 15) (nh 859 11) (lX 16 (sY kZ (ow 1 2) .enum ub (.cons (n4 .gt 2 (lI (ct "~"))) .nil)) (oQ (n4 .ne 16 nB) (qx (.CK [14,15] (mC lW (.sub (.Z 16) lY)))) (nL (ow 17 18) (ot 866 (lZ (.Z 10) ub)) (mU (.or (n4 .is 14 lW) (n4 .is 17 lW)) (.and (.cmp .is (.Z 14) lW) (.and (.cmp .is (.Z 17) lW) (sF (.Z 18) (lZ (sX (.Z 10)) (.Z 15))))) (mU (qX (pV (.attr (.Z 17) (ct "path")) (rH (yb (.Z 17)) (.attr (.Z 17) (ct "names")) (.attr (.Z 17) (ct "partial")))) (.tup (nK 6 (nK 9 (nz (Ao (.Z 14)) lW))))) t_ (lX 19 (qz .eq 6 yd mc (pG rI 3)) (nL (ow 20 21) (mC lW (.comp (t9 kZ (ct "lower")) pE .val (.Z 14) .nil [none,none])) (qZ (n4 .HN 19 lW) (pD 20 (lZ (sD vr (.comp lB (ow 1 2) .val (.sub (.Z 19) lY) (.cons (qX (.cmp .isin kZ mc) l7) .nil) [none,none,none,some 8,some 21])) C2)) (sF (oE 778 2 (oq 3 17)) (.Z 20))))))))))))))))⟩
noncomputable def uj:mG:=⟨[so "script"],[],[k9 "script",k9 "pen",k9 "way",k9 "turned",k9 "third",k9 "is_deep",k9 "middle",k9 "row",k9 "whole",k9 "data",k9 "paths",k9 "mime",k9 "letter",lE "_law_pen",lE "_law_drawn",lE "_law_around",lE "_law_letter",lE "_law_leaf",lE "_law_multi",lE "_law_third",lE "_law_paths",lE "_law_cased",lE "read_message",lE "_law_heard",lE "_law_octets_right",lE "_law_names_right"],
 (lX 1 (nU 798) (nL (wH 2 (vn 3 (vn 4 (ya 5)))) (pV (qC 1 4) (rH (qC 1 3) (qC 1 3) (sF (qC 1 2) ma))) (qg 6 (.ite (.val mD) (ot 838 (oF 831 1 (nh 817 1))) (nh 817 1)) 7 (yf (oE 824 1 (nz (my [61,109,66]) (.list (.cons (nh 817 1) (ou 6 (nh 817 1))))))) (s_ rI (ot 838 (oF 831 1 (oE 824 1 (nz (my [61,109,67]) (.list (nz (nh 817 1) (nh 817 1))))))) (s_ rI (oE 845 1 (m_ 4)) (ua 8 (oF 831 1 (oE 824 1 (nz (my [61,109,65]) (lZ (.slice rI l7 lW) (wO rI l7))))) (.CK [9,10,11] (pV (lZ (pG uc 4) (.sub uc ma)) (nz (oE 852 8 (nz yd wI)) (oF 871 1 CX)))) (rJ 12 (nh 624 9) (.or (qX (ot 866 (sI (lI (ct "[")) ub (lI (ct "]")))) (mC lW ma)) (sZ (oE 883 9 (nK 12 (oq 10 11))))) t_ (ls (oE 888 1 (nK 2 (nK 9 (nK 12 (oq 8 10)))))))))))))⟩
noncomputable def H3:mG:=⟨[so "self"],[],[k9 "self"],
 (ls (.cmp .ge mV GC))⟩
noncomputable def Kn:mG:=⟨[so "self",so "ahead"],[(.int 0)],[k9 "self",k9 "ahead",k9 "place"],
 (lX 2 (lZ mV kZ) (ls (.ite (Ki .lt lY lB GC) (.sub wJ lB) pF)))⟩
noncomputable def Sy:mG:=⟨[so "self"],[],[k9 "self",k9 "code"],
 (lX 1 s8 (qZ (.cmp .ge kZ lY) (pU yc (n8 mV)) kZ))⟩
noncomputable def Ko:mG:=⟨[so "self",so "word"],[],[k9 "self",k9 "word",lE "len"],
 (ls (.and (.cmp .le (lZ mV wM) GC) (sF (.slice wJ mV (lZ mV wM)) kZ)))⟩
noncomputable def Sz:mG:=⟨[so "self",so "word"],[],[k9 "self",k9 "word",lE "len"],
 (mU (sZ (.py lN (ct "starts") (m_ 1))) t_ (nL yc (lZ mV wM) (ls wI)))⟩
noncomputable def BD:mG:=⟨[so "self",so "codes"],[],[k9 "self",k9 "codes",k9 "first"],
 (sH 2 mV (.and (.cmp .lt mV GC) (vq (.sub wJ mV) kZ)) (pU yc (n8 mV)) (ls (.slice wJ lB mV)))⟩
noncomputable def Kp:mG:=⟨[so "self"],[],[k9 "self",k9 "first",k9 "number",lE "MOST_FIGURES"],
 (lX 1 mV (sH 2 lY (ug (lu 48) s8 (lu 57)) (pD 2 (s7 (lZ (.bin .mul lB (lu 10)) s9) (lu 48))) (qZ (.or (mP mV kZ) (.cmp .gt (s7 mV kZ) (lu 20))) (nL yc kZ (ls lW)) lB)))⟩
noncomputable def SA:mG:=⟨[so "self"],[],[k9 "self",lE "lower_text"],
 (ls (ot 188 (sD nS (sY (ud kZ) pE .val (sC (ct "name")) .nil))))⟩
noncomputable def E0:mG:=⟨[so "self"],[],[k9 "self"],
 (ls (sF (sC (ct "top")) (lI (ct "multipart"))))⟩
noncomputable def Dk:mG:=⟨[so "self"],[],[k9 "self"],
 (ls (.and (sF (sC (ct "top")) (lI (ct "message"))) (sF (sC (ct "sub")) (lI (ct "rfc822")))))⟩
noncomputable def zS:mG:=⟨[so "self",so "data",so "at",so "end"],[(.int 0),(.int (-1))],[k9 "self",k9 "data",k9 "at",k9 "end",lE "len",lE "min"],
 (q9 (ct "data") kZ (nL yc lB (pU (x_ (ct "end")) (qz .lt 3 lY wM (.b2 .min l7 wM)))))⟩
noncomputable def BE:mG:=⟨[so "self",so "name",so "raw"],[],[k9 "self",k9 "name",k9 "raw"],
 (q9 (ct "name") kZ (pU (x_ (ct "raw")) lB))⟩
noncomputable def Dl:mG:=⟨[so "self",so "top",so "sub",so "params"],[],[k9 "self",k9 "top",k9 "sub",k9 "params"],
 (q9 (ct "top") kZ (q9 (ct "sub") lB (pU (x_ (ct "params")) l7)))⟩
noncomputable def Dm:mG:=⟨[so "self",so "begin",so "body",so "end",so "fields",so "kind"],[],[k9 "self",k9 "begin",k9 "body",k9 "end",k9 "fields",k9 "kind",lE "encoding_of"],
 (q9 (ct "begin") kZ (q9 (ct "body") lB (q9 (ct "end") l7 (q9 (ct "fields") mc (q9 (ct "kind") mD (q9 (ct "encoding") (nh 586 4) (q9 (ct "kids") nB (pU (x_ (ct "inner")) lW))))))))⟩
noncomputable def tc:mG:=⟨[so "self",so "path",so "word",so "names",so "partial"],[(.str (ct "")),(.tup []),.none],[k9 "self",k9 "path",k9 "word",k9 "names",k9 "partial",lE "tuple"],
 (q9 (ct "path") (Ao kZ) (q9 (ct "word") lB (q9 (ct "names") (Ao l7) (pU (x_ (ct "partial")) mc))))⟩
noncomputable def VC:List (Nat×NL):=[(167,ct "data"),(167,ct "at"),(167,ct "end"),(236,ct "name"),(236,ct "raw"),(435,ct "top"),(435,ct "sub"),(435,ct "params"),(577,ct "begin"),(577,ct "body"),(577,ct "end"),(577,ct "fields"),(577,ct "kind"),(577,ct "encoding"),(577,ct "kids"),(577,ct "inner"),(666,ct "path"),(666,ct "word"),(666,ct "names"),(666,ct "partial")]
noncomputable def lF:Tab:=⟨[((167,ct "is_done"),107),((167,ct "peek"),115),((167,ct "take"),122),((167,ct "starts"),129),((167,ct "skip"),136),((167,ct "take_while"),143),((167,ct "number"),157),((236,ct "word"),226),((435,ct "is_multi"),418),((435,ct "is_letter"),425)],VC,VC⟩
noncomputable def sN:Vy:=⟨[(178,Bn),(183,OL),(188,Bo),(193,Bp),(198,zJ),(206,Bq),(247,HS),(254,HT),(261,ET),(269,Br),(275,zK),(282,HU),(289,EU),(296,Bt),(318,yh),(325,w6),(332,C4),(339,HW),(346,HX),(353,zL),(360,yi),(368,EW),(375,C5),(382,C6),(446,Bu),(453,w7),(460,yj),(467,Bv),(474,w8),(481,Bw),(486,Bx),(493,By),(507,HY),(538,C7),(545,zM),(552,C8),(586,zN),(593,yk),(600,Bz),(605,C9),(612,C_),(617,C'),(624,yl),(631,w9),(638,HZ),(677,Sx),(684,zO),(691,Da),(698,Db),(703,Dc),(710,ym),(717,zP),(724,Dd),(731,BA),(738,yn),(745,yo),(750,w_),(757,zQ),(764,yp),(771,Km),(778,v_),(798,H2),(805,De),(810,EY),(817,EZ),(824,Df),(831,BB),(838,BC),(845,Dg),(852,Dh),(859,yq),(866,Di),(871,Dj),(876,zR),(883,uB),(888,lD),(895,uj),(107,H3),(115,Kn),(122,Sy),(129,Ko),(136,Sz),(143,BD),(157,Kp),(226,SA),(418,E0),(425,Dk)],
 [(167,zS),(236,BE),(435,Dl),(577,Dm),(666,tc)]⟩
end
section
open PySem PySem.W PySem.Calls PyProof.Rows PySem.SeqAt PySem.MeetsSeq PySem.W.FB
noncomputable def sk(k:NL):Str:=⟨k.toArray⟩
end
section
open PySem PySem.W PySem.Calls PyProof.Rows PySem.SeqAt PySem.MeetsSeq PySem.W.FB PySem.W.KBy
noncomputable def UH:B1->Value
 |.len=>.builtin "len"|.chr=>.builtin "chr"|.ord=>.builtin "ord"|.abs=>.builtin "abs"
 |.int=>.type "int"|.str=>.type "str"|.bytes=>.type "bytes"|.tuple=>.type "tuple"|.list=>.type "list"
noncomputable def X3:B2->Value
 |.min=>.builtin "min"|.max=>.builtin "max"
noncomputable def BF:List (Str×Value):=(qT.map λp=>(p.1,UH p.2))++(qm.map λp=>(p.1,X3 p.2))++[(bx "range",Value.type "range"),(bx "enumerate",Value.type "enumerate"),(bx "Exception",Value.type "Exception")]
noncomputable def Kr(K:Frag)(C:Nat)(nm:Str):Bool:=
 plainGet K C nm&&hasDictIn K C&&(match fY K (.ref C) nm with|some attr=>noGet K attr|.none=>false)
noncomputable def Ks(K:Frag)(C:Nat)(nm:Str):Bool:=
 fY K (.ref C) "__setattr__"==some (some (.builtin "object.__setattr__"))&&plainOver K C&&takerIn K C nm==some .none&&hasDictIn K C
noncomputable def Kt(K:Frag)(C:Nat)(nm:Str)(f:Nat):Bool:=
 plainGet K C nm&&fY K (.ref C) nm==some (some (.ref f))&&isFn K (.ref f)
end
section
open PySem PySem.W PySem.Calls PyProof.Rows PySem.SeqAt PySem.MeetsSeq PySem.W.FB PySem.W.KBy
open Builtin Builtin.ObjectAttr
noncomputable def SB:Value->Bool
 |.ref _=>true
 |_=>false
noncomputable def tE:List Value->Bool
 |[]=>false
 |v::r=>(SB v&&tE r)||(v::r)==[.type "Exception",.type "BaseException",.type "object"]
noncomputable def excIn(K:Frag)(C:Nat):Bool:=(clsIn K C).any λcd=>cd.hasDict&&tE cd.mro
noncomputable def rC(K:Frag)(C:Nat)(nm:Str):Bool:=fY K (.ref C) "__setattr__"==some (some (.builtin "object.__setattr__"))&&excIn K C&&fY K (.ref C) nm==some .none
noncomputable def wa(K:Frag)(C:Nat)(nm:Str):Bool:=fY K (.ref C) "__getattribute__"==some (some (.builtin "BaseException.__getattribute__"))&&fY K (.ref C) "__getattr__"==some none&&hasDictIn K C&&fY K (.ref C) nm==some none
end
section
open PySem PySem.W PySem.Calls PyProof.Rows PySem.SeqAt PySem.MeetsSeq PySem.W.FB PySem.W.KBy
noncomputable def UI(v:Value)(t:String):Bool:=match v with|.type s=>s==t|_=>false
noncomputable def rZ{α:Type}:List (Option α)->Option (List α)
 |[]=>some []
 |some a::r=>(rZ r).map (a:: ·)
 |.none::_=>.none
abbrev mn:=Nat->Option Obj
noncomputable def VD:Option Obj->Option (List Value)
 |some ⟨c,.none,.seq kX _,sl⟩=>match UI c "tuple"&&sl.isEmpty with
  |true=>some kX.toList
  |false=>.none
 |_=>.none
noncomputable def BG(g:mn)(a:Nat):Option (List Value):=VD (g a)
noncomputable def xq(g:mn)(a:Nat):Bool:=match g a with
 |some ⟨_,_,.func _,_⟩=>true
 |some ⟨_,_,.cls _,_⟩=>true
 |_=>false
noncomputable def E2(g:mn):Nat->Value->Option PV
 |0,_=>.none
 |n+1,v=>match v with
  |.none=>some .none
  |.bool b=>some (.bool b)
  |.int i _=>some (.int i)
  |.str s _=>some (.str (cs s))
  |.bytes b _=>some (.bytes (b.toList.map aL))
  |.ref a=>match BG g a with
   |some kX=>(rZ (kX.map (E2 g n))).map .tup
   |.none=>match xq g a with
    |true=>some (.ref a)
    |false=>.none
  |_=>.none
noncomputable def posB(fd:dB):Bool:=fd.params.posonlyargs.isEmpty&&(fd.params.kwonlyargs.isEmpty&&(fd.params.vararg.isNone&&fd.params.kwarg.isNone))
noncomputable def Ru(q:Str):Option Value->Bool
 |some (.str s _)=>s==q
 |_=>false
noncomputable def Rw(q:Str):Option Obj->Bool
 |some ⟨_,_,.fields vs,_⟩=>Ru q vs[1]?
 |_=>false
noncomputable def EI(g:mn)(cd:Value)(q:Str):Bool:=match cd with
 |.ref c=>Rw q (g c)
 |_=>false
noncomputable def VE(g:mn):Option Obj->Option (List PV)
 |some ⟨_,_,.seq kX _,_⟩=>rZ (kX.toList.map (E2 g 2))
 |_=>.none
noncomputable def GF(g:mn)(v:Value):Option (List PV):=match v with
 |.none=>some []
 |.ref T=>VE g (g T)
 |_=>.none
abbrev Part:=List Str×List PV×io×List b_
noncomputable def UJ(fd:dB):Bool:=fd.globals==cL&&fd.closure.isEmpty&&fd.builtins==hO
noncomputable def UK(sc:io):Bool:=ux sc&&sc.names.all (λp=> !(p.2==.free))&&!sc.isCoroutine&&!sc.isGenerator
noncomputable def Rx(g:mn)(fd:dB):FuncBody->Option (List PV)->Option Part
 |.stmts body,some ds=>match UJ fd&&(posB fd&&EI g fd.code fd.qualname)with
  |true=>some (fd.params.args.map (·.arg),ds,fd.scope,body)
  |false=>.none
 |_,_=>.none
noncomputable def Ku(g:mn):Option Obj->Option Part
 |some ⟨_,_,.func fd,_⟩=>Rx g fd fd.body (GF g fd.defaults)
 |_=>.none
noncomputable def uC(g:mn)(a:Nat):Option Part:=Ku g (g a)
noncomputable def SD(b:List b_)(i:Nat×Option Nat):Option (List Str×io×List b_):=match b[i.1]?,i.2 with
 |some (.FunctionDef _ as body _ _ _ sc _ _ _),.none=>some (as.args.map (·.arg),sc,body)
 |some (.ClassDef _ _ _ b2 _ _ _ _ _ _ _),some j=>match b2[j]? with
  |some (.FunctionDef _ as body _ _ _ sc _ _ _)=>some (as.args.map (·.arg),sc,body)
  |_=>.none
 |_,_=>.none
noncomputable def VF(i:Nat):Option (Nat×NameKind)->Bool
 |.none=>false
 |some (j,k)=>(k==.local||k==.cell)&&j==i
noncomputable def zB(names:List (Str×NameKind))(p:Str)(i:Nat):Bool:=VF i (ql p names 0)
noncomputable def VG(C:Nat):Option Obj->Bool
 |some ⟨c,_,.cls cd,sl⟩=>UI c "type"&&(!cd.hasDel&&((match cd.mro with
   |v::tl=>v==.ref C&&(tl.contains (.type "Exception")&&(tl.contains (.type "BaseException")&&(!tl.contains (.type "AttributeError")&&!tl.contains (.type "NameError"))))
   |[]=>false)&&(match sl.toList with
   |[_,_,_,_,k4,_]=>k4==some (.builtin "Exception.__new__")
   |_=>false)))
 |_=>false
noncomputable def VH(g:mn)(C:Nat):Bool:=VG C (g C)
noncomputable def Kv(s:b_):Option (Str×Str×Str):=(xT s).bind λx=>(CO x.1).bind λt=>(Bb t).bind λq=>(qa q.1).bind λa=>(qa x.2).map λw=>(a,q.2,w)
noncomputable def Ry(e:am):Option (Str×Str×Pos):=(Be e).bind λf=>(qa f.1).map λex=>(ex,f.2.1,f.2.2)
noncomputable def Rz(l:List am):Option (Str×Str):=(two l).bind λy=>(qa y.1).bind λa=>(qa y.2).map λw=>(a,w)
noncomputable def RA(v:am):Option (Str×Str×Str×Str×Bool):=(Bd v).bind λc=>(Ry c.1).bind λf=>(Rz c.2.1).bind λa=>match c.2.2.1 with
 |[]=>some (f.1,f.2.1,a.1,a.2,f.2.2.endLine==c.2.2.2.line)
 |_::_=>.none
noncomputable def baseOf(s:b_):Option (Str×Str×Str×Str×Bool):=(Bf s).bind RA
noncomputable def GG(κ:nP)(body:List b_):Option (Nat×Nat×Nat):=match body with
 |[s1,s2,s3]=>(baseOf s1).bind λx=>(Kv s2).bind λy=>(Kv s3).bind λz=>
  match x.1==("Exception":Str)&&x.2.1==("__init__":Str)&&y.1==x.2.2.1&&z.1==x.2.2.1&&y.2.2==x.2.2.2.1&&y.2.1==sk rY&&z.2.1==sk vm&&x.2.2.2.2&&κ.mR ("Exception":Str)with
  |true=>(κ.oW x.2.2.1).bind λia=>(κ.oW x.2.2.2.1).bind λiw=>(κ.oW z.2.2).map λix=>(ia,iw,ix)
  |false=>.none
 |_=>.none
noncomputable def VI(g:mn)(fd:dB)(p1 p2 p3:Str):Option (Nat×Nat×Nat)->Option Obj->Bool
 |some i,some ⟨_,_,.seq vW _,_⟩=>UJ fd&&(UK fd.scope&&(posB fd&&(p7 [p1,p2,p3]&&(EI g fd.code fd.qualname&&(zB fd.scope.names p1 i.1&&(zB fd.scope.names p2 i.2.1&&(zB fd.scope.names p3 i.2.2 &&
      (decide (i.1≠i.2.1)&&(decide (i.1≠i.2.2)&&(decide (i.2.1≠i.2.2)&&(decide (i.1<fd.scope.names.length)&&(decide (i.2.1<fd.scope.names.length)&&(decide (i.2.2<fd.scope.names.length)&&decide (vW.size<=3))))))))))))))
 |_,_=>false
noncomputable def VJ(g:mn)(G:List (Str×PV)×List (Str×Nat))(fd:dB)(body:List b_)(p1 p2 p3:Str):Value->Bool
 |.ref T=>VI g fd p1 p2 p3 (GG ⟨fd.scope.names,G.1,G.2⟩ body) (g T)
 |_=>false
noncomputable def VK(g:mn)(G:List (Str×PV)×List (Str×Nat))(fd:dB)(body:List b_):List Str->Bool
 |[p1,p2,p3]=>VJ g G fd body p1 p2 p3 fd.defaults
 |_=>false
noncomputable def VL(g:mn)(G:List (Str×PV)×List (Str×Nat))(fd:dB):FuncBody->Bool
 |.stmts body=>VK g G fd body (fd.params.args.map (·.arg))
 |_=>false
noncomputable def VM(g:mn)(G:List (Str×PV)×List (Str×Nat)):Option Obj->Bool
 |some ⟨_,_,.func fd,_⟩=>VL g G fd fd.body
 |_=>false
noncomputable def SE(g:mn)(K:Frag)(G:List (Str×PV)×List (Str×Nat))(C f:Nat):Bool:=VH g C&&(fY K (.ref C) "__init__"==some (some (.ref f))&&(typeIn K (.ref f)==some (.type "function")&&(mroIn K C (.type "Exception")==some true &&
 (rC K C (sk rY)&&(rC K C (sk vm)&&(wa K C (sk vm)&&VM g G (g f)))))))
noncomputable def p9(g:mn)(as:NL):Frag:=as.filterMap λa=>(g a).map λo=>(a,o)
noncomputable def Dn(g:mn)(a:Nat):Option (List bY):=match g a with
 |some ⟨_,_,.dict es _,_⟩=>some es.toList
 |_=>.none
noncomputable def xt(e:bY):Bool:=match e.key with
 |.str _ _=>true
 |_=>false
noncomputable def vt(l:List bY)(x:Str):Option Value:=(l.find? λe=>e.key.isStr x).map (·.val)
structure Text where
 all:List (Str×Option PV)
 ml:List (Str×PV)
 m0:List (Str×Nat)
 tab:Tab
 H4:Vy
 Aq:List (Nat×Nat)
 BH:Nat
 as:NL
 body:List b_
 src:List (Nat×(Nat×Option Nat))
noncomputable def Kw(K:Frag)(c f:Nat):Bool:=makesIn K c&&fY K (.ref c) "__init__"==some (some (.ref f))&&typeIn K (.ref f)==some (.type "function")&&jC K (.ref c)
noncomputable def SG(X:Text)(g:mn):Bool:=(g sysModules).isSome&&(match Dn g cStatics with
  |some l=>l.all xt&&(vt l "sys.recursionlimit").isNone
  |.none=>false)&&(match Dn g hO with
  |some l=>l.all xt&&BF.all λp=>vt l p.1==some p.2
  |.none=>false) &&
 X.tab.attrs.all (λp=>Kr (p9 g X.as) p.1 (sk p.2))&&X.tab.Kc.all (λp=>Ks (p9 g X.as) p.1 (sk p.2))&&X.tab.meths.all (λp=>Kt (p9 g X.as) p.1.1 (sk p.1.2) p.2) &&
 X.m0.all (λp=>SE g (p9 g X.as) (X.ml,X.m0) p.2 X.BH)&&X.H4.cls.all λp=>(X.Aq.lookup p.1).any λf=>Kw (p9 g X.as) p.1 f
abbrev VN:=Option (List (Str×Option PV))×List (Option Part)×List (Option Part)×Bool
noncomputable def GH(g:mn)(e:bY):Option (Str×Option PV):=match e.key with
 |.str s _=>some (s,E2 g 6 e.val)
 |_=>.none
noncomputable def srcOf(X:Text)(a:Nat)(ds:List PV):Option Part:=((X.src.lookup a).bind (SD X.body)).map λd=>(d.1,ds,d.2)
noncomputable def OM(X:Text)(g:mn):VN:=((Dn g cL).bind λl=>rZ (l.map (GH g)),X.H4.fns.map λp=>uC g p.1,X.H4.cls.map λp=>(X.Aq.lookup p.1).bind λf=>uC g f,SG X g)
noncomputable def GI(X:Text):VN:=(some X.all,X.H4.fns.map λp=>srcOf X p.1 p.2.ds,X.H4.cls.map λp=>(X.Aq.lookup p.1).bind λf=>srcOf X f p.2.ds,true)
end
section
open PySem PySem.W PyProof.Rows
noncomputable def Y8:List (Str×Option PV):=[
 (so "__name__",some (.str (ct "law_pq0954_01"))),
 (so "__doc__",some .none),
 (so "__package__",some .none),
 (so "__loader__",none),
 (so "__spec__",some .none),
 (so "__annotations__",none),
 (so "__builtins__",none),
 (so "__file__",some (.str (ct "/claim/cut.py"))),
 (so "__cached__",some .none),
 mT "_wall" 21,
 mT "PostError" 46,
 mT "WordFault" 59,
 mT "MimeFault" 71,
 mT "WireFault" 83,
 (so "RETURN",some (.int 13)),
 (so "MOST_FIGURES",some (.int 20)),
 mT "Cursor" 167,
 mT "lower_code" 178,
 mT "lower" 183,
 mT "lower_text" 188,
 mT "upper_text" 193,
 mT "text_octets" 198,
 mT "line_spans" 206,
 (so "WHITE_headers",some (.tup [(.int 32),(.int 9)])),
 mT "Field" 236,
 mT "line_at" 247,
 mT "is_name" 254,
 mT "colon_in" 261,
 mT "read_spans" 269,
 mT "read_fields" 275,
 mT "rows_of" 282,
 mT "unfolded" 289,
 mT "first_body" 296,
 (so "ASCII",some (.str (ct "us-ascii"))),
 (so "LATIN",some (.str (ct "iso-8859-1"))),
 (so "UTF8",some (.str (ct "utf-8"))),
 (so "CHARSETS",some (.tup [(.str (ct "us-ascii")),(.str (ct "iso-8859-1")),(.str (ct "utf-8"))])),
 (so "UNKNOWN_SIGN",some (.str (ct "�"))),
 mT "charset_names" 304,
 mT "charset_name" 311,
 mT "need_charset" 318,
 mT "follower_span" 325,
 mT "utf8_sign" 332,
 mT "sign_at" 339,
 mT "text_in" 346,
 mT "strict_text" 353,
 mT "guessed_text" 360,
 (so "MOST_DEPTH_tokens",some (.int 20)),
 (so "NEVER_ESCAPED",some (.tup [(.int 0),(.int 10),(.int 13)])),
 mT "line_end" 368,
 mT "inside_at" 375,
 mT "closed_at" 382,
 mT "comment_at" 389,
 (so "WHITE_params",some (.tup [(.int 9),(.int 10),(.int 13),(.int 32)])),
 (so "SEMICOLON",some (.int 59)),
 (so "EQUALS",some (.int 61)),
 (so "QUOTE_params",some (.int 34)),
 (so "BRACKET",some (.int 40)),
 (so "PER_CENT",some (.int 37)),
 (so "BARRED_params",some (.bytes [40,41,60,62,64,44,59,58,92,34,47,91,93,63,61])),
 (so "HEX_FIGURES",some (.bytes [48,49,50,51,52,53,54,55,56,57,65,66,67,68,69,70])),
 mT "Kind" 435,
 mT "plain_kind" 446,
 mT "is_token_code" 453,
 mT "skip_between" 460,
 mT "take_token" 467,
 mT "is_worth_code" 474,
 mT "take_worth" 481,
 mT "small_word" 486,
 mT "take_pairs" 493,
 mT "part_number" 500,
 mT "part_of" 507,
 mT "hex_worth" 512,
 mT "percent_decoded" 519,
 mT "charset_cut" 524,
 mT "joined_worth" 531,
 mT "params_of" 538,
 mT "strict_kind" 545,
 mT "read_kind" 552,
 (so "MOST_DEPTH_parts",some (.int 20)),
 (so "PLAIN_ENCODING",some (.str (ct "7bit"))),
 (so "OPEN_ENCODINGS",some (.tup [(.str (ct "7bit")),(.str (ct "8bit")),(.str (ct "binary"))])),
 (so "WORD_ENDS",some (.bytes [32,9,40,59])),
 (so "BLANKS",some (.bytes [32,9])),
 mT "Part" 577,
 mT "encoding_of" 586,
 mT "boundary_way" 593,
 mT "part_spans" 600,
 mT "kid_spans" 605,
 mT "has_inner" 612,
 mT "read_part" 617,
 mT "read_message" 624,
 mT "numbered_kids" 631,
 mT "part_at" 638,
 (so "WORDS",some (.tup [(.str (ct "HEADER")),(.str (ct "TEXT")),(.str (ct "MIME")),(.str (ct "HEADER.FIELDS")),(.str (ct "HEADER.FIELDS.NOT"))])),
 (so "FIELD_WORDS",some (.tup [(.str (ct "HEADER.FIELDS")),(.str (ct "HEADER.FIELDS.NOT"))])),
 (so "MOST_NUMBER",some (.int 4294967295)),
 (so "LETTERS",some (.bytes [65,66,67,68,69,70,71,72,73,74,75,76,77,78,79,80,81,82,83,84,85,86,87,88,89,90,97,98,99,100,101,102,103,104,105,106,107,108,109,110,111,112,113,114,115,116,117,118,119,120,121,122,46])),
 (so "BARRED_sections",some (.bytes [40,41,123,37,42,34,92,93,32])),
 (so "QUOTE_sections",some (.int 34)),
 (so "BACKSLASH",some (.int 92)),
 mT "Section" 666,
 mT "need" 677,
 mT "take_number" 684,
 mT "is_figure" 691,
 mT "take_path" 698,
 mT "take_word" 703,
 mT "is_atom_code" 710,
 mT "take_quoted" 717,
 mT "take_name" 724,
 mT "take_names" 731,
 mT "take_partial" 738,
 mT "read_section" 745,
 mT "header_octets" 750,
 mT "word_octets" 757,
 mT "whole_octets" 764,
 mT "sliced" 771,
 mT "section_octets" 778,
 (so "_law_bodies",some (.tup [(.bytes []),(.bytes [120]),(.bytes [97,13,10,98,13,10]),(.bytes [45,45,13,10]),(.bytes [13,10,13,10,122]),(.bytes [61,109,65,13,10,45,45,61,109]),(.bytes [84,111,58,32,113,13,10,13,10,118,10])])),
 (so "_law_heads",some (.tup [(.tup []),(.tup [(.tup [(.str (ct "content-type")),(.bytes [67,111,110,116,101,110,116,45,84,121,112,101,58,32,116,101,120,116,47,104,116,109,108,13,10])])]),(.tup [(.tup [(.str (ct "content-type")),(.bytes [99,111,110,116,101,110,116,45,84,89,80,69,58,32,73,109,97,103,101,47,80,78,71,59,13,10,32,110,97,109,101,61,120,13,10])]),(.tup [(.str (ct "x-a")),(.bytes [88,45,97,58,32,49,13,10])])])])),
 (so "_law_fields",some (.tup [(.tup [(.str (ct "from")),(.bytes [70,114,111,109,58,32,97,64,120,13,10])]),(.tup [(.str (ct "to")),(.bytes [84,79,58,13,10,32,98,64,121,13,10])]),(.tup [(.str (ct "x\"q")),(.bytes [120,34,81,58,32,49,13,10])]),(.tup [(.str (ct "x-a")),(.bytes [88,45,65,58,32,233,13,10])]),(.tup [(.str (ct "to")),(.bytes [116,111,58,32,99,64,122,13,10])])])),
 (so "_law_shown",some (.tup [(.str (ct "From")),(.str (ct "tO")),(.str (ct "\"x\\\"q\"")),(.str (ct "\"To\"")),(.str (ct "x-A")),(.str (ct "\"\"")),(.str (ct "\"a b\""))])),
 (so "_law_odd",some (.str (ct " ()\"\\]aT%\x1f\x7fé~"))),
 mT "_law_pen" 798,
 mT "_law_drawn" 805,
 mT "_law_node" 810,
 mT "_law_leaf" 817,
 mT "_law_multi" 824,
 mT "_law_letter" 831,
 mT "_law_around" 838,
 mT "_law_third" 845,
 mT "_law_paths" 852,
 mT "_law_names_in" 859,
 mT "_law_heard" 866,
 mT "_law_cased" 871,
 mT "_law_numbers" 876,
 mT "_law_octets_right" 883,
 mT "_law_names_right" 888,
 mT "law" 895]
noncomputable def txt(b:List b_):Text:=⟨Y8,gl,[(so "WordFault",59),(so "MimeFault",71),(so "WireFault",83)],lF,sN,[(167,100),(236,221),(435,404),(577,567),(666,656)],36,[46,59,71,83,167,236,435,577,666,45,58,70,82,166,235,434,576,665,36,178,183,188,193,198,206,247,254,261,269,275,282,289,296,318,325,332,339,346,353,360,368,375,382,446,453,460,467,474,481,486,493,507,538,545,552,586,593,600,605,612,617,624,631,638,677,684,691,698,703,710,717,724,731,738,745,750,757,764,771,778,798,805,810,817,824,831,838,845,852,859,866,871,876,883,888,895,107,115,122,129,136,143,157,226,418,425,100,221,404,567,656],b,[(178,(10,none)),(183,(11,none)),(188,(12,none)),(193,(13,none)),(198,(14,none)),(206,(15,none)),(247,(19,none)),(254,(20,none)),(261,(21,none)),(269,(22,none)),(275,(23,none)),(282,(24,none)),(289,(25,none)),(296,(26,none)),(318,(35,none)),(325,(36,none)),(332,(37,none)),(339,(38,none)),(346,(39,none)),(353,(40,none)),(360,(41,none)),(368,(45,none)),(375,(46,none)),(382,(47,none)),(446,(59,none)),(453,(60,none)),(460,(61,none)),(467,(62,none)),(474,(63,none)),(481,(64,none)),(486,(65,none)),(493,(66,none)),(507,(68,none)),(538,(73,none)),(545,(74,none)),(552,(75,none)),(586,(83,none)),(593,(84,none)),(600,(85,none)),(605,(86,none)),(612,(87,none)),(617,(88,none)),(624,(89,none)),(631,(90,none)),(638,(91,none)),(677,(101,none)),(684,(102,none)),(691,(103,none)),(698,(104,none)),(703,(105,none)),(710,(106,none)),(717,(107,none)),(724,(108,none)),(731,(109,none)),(738,(110,none)),(745,(111,none)),(750,(112,none)),(757,(113,none)),(764,(114,none)),(771,(115,none)),(778,(116,none)),(798,(123,none)),(805,(124,none)),(810,(125,none)),(817,(126,none)),(824,(127,none)),(831,(128,none)),(838,(129,none)),(845,(130,none)),(852,(131,none)),(859,(132,none)),(866,(133,none)),(871,(134,none)),(876,(135,none)),(883,(136,none)),(888,(137,none)),(895,(138,none)),(107,(9,some 1)),(115,(9,some 2)),(122,(9,some 3)),(129,(9,some 4)),(136,(9,some 5)),(143,(9,some 6)),(157,(9,some 8)),(226,(18,some 1)),(418,(58,some 2)),(425,(58,some 3)),(100,(9,some 0)),(221,(18,some 0)),(404,(58,some 0)),(567,(82,some 0)),(656,(100,some 0))]⟩
end
section
open PySem PySem.W PySem.Calls PyProof.Rows
noncomputable abbrev pw:Program:=PySem.Challenge.pw_pq0954_01
noncomputable abbrev ann:Option Value:=some (.ref 6)
noncomputable def H5:aD:={scope:=pw.main.scope,locals:=mainNs,globals:=mainNs,cells:=[],code:=.ref 13,frame:=some 14}
noncomputable def cT:Code:=.body (d_ pw) H5
noncomputable abbrev xa:Pos:=⟨0,0,0,0⟩
noncomputable def S0(w:eY)(os:eB):Shared:=⟨gi w.params,Array.mk [],boot_drawn,boot_toks,os⟩
noncomputable def Sa(w:eY)(os:eB):Shared:=match topGo dD pw w 11 ann 12 (S0 w os) (topStub pw)with
 |some (s,_)=>s
 |.none=>S0 w os
noncomputable def treeOf:List Obj->BT:=λl=>(l.foldl (λ(x:BT×Nat) o=>(x.1.ins x.2 o,x.2+1)) (BT.nil,0)).1
noncomputable def toT(s:Shared):SharedT:=⟨treeOf s.heap.objs.toList,s.heap.objs.size,s.heap.life,s.gens,s.drawn,s.toks,s.os⟩
noncomputable def qv:Program:=view pw [138]
noncomputable def uD:List Str:=(pw.main.scope.names.map (·.1)).filter λx=> !(x==(so "law"))
noncomputable def tx:Text:=txt (d_ pw)
noncomputable def Kx(t:SharedT):mn:=λa=>match Nat.blt a t.n with
 |true=>(t.tree.get a).bind alive
 |false=>.none
def Y9(w:eY)(os:eB):((Fast.tw10110043849684766642 Fast.tw14364793385576792824 pw w 11 ann 1 5749 (toT (Sa w os)) (piecesOf (d_ pw) H5 cT xa [jj xa])).bind λr=>match r.1 with
  |.next=>some (r.2.2.1,staticsOk (jq pw.main.body) (gi w.params) r.2.1.abs.heap&&j3 pw r.2.1.abs.heap&&gensDone r.2.1.abs&&laidKept (gi w.params) r.2.1.abs.heap,
    Fast.tw4187177175401517315 qv uD (jq pw.main.body) (λ_=>true) true r.2.1.abs,OM tx (Kx r.2.1))
  |_=>.none)=some (cT,true,openGood qv uD,GI tx):=by kernel_rfl
end
section
open PySem PySem.W PySem.Calls PyProof.Rows
def pz(h:Heap)(a:Nat)(kX:Array Value):Prop:=∃n,IsT h a kX n
def pz.tup(x:pz h a kX):IsTup h a kX:=let ⟨n,e⟩:=x;⟨_,e,rfl,n,rfl⟩
mutual
noncomputable def Rv(h:Heap):PV->Value->Prop
 |.none,v=>v=.none
 |.bool b,v=>v=.bool b
 |.int i,v=>∃t,v=.int i t
 |.str s,v=>∃t,v=.str ⟨s.toArray⟩ t
 |.bytes b,v=>∃(l:List UInt8) (t:gN),v=.bytes l.toArray t/\l.map aL=b
 |.tup l,v=>∃a vs,v=.ref a/\pz h a vs.toArray/\lR h l vs
 |.ref a,v=>v=.ref a
 |.raw w,v=>v=w
noncomputable def lR(h:Heap):List PV->List Value->Prop
 |[],vs=>vs=[]
 |p::ps,vs=>∃v r7,vs=v::r7/\Rv h p v/\lR h ps r7
end
inductive RB(h:Heap)(p:PV)(ps:List PV):List Value->Prop
 |mk (v:Value) (vs:List Value) (r1:Rv h p v) (r2:lR h ps vs):RB h p ps (v::vs)
def lR.ni(r:lR h (p::ps) vs):RB h p ps vs:=by
 refine lr λGp gk=>?_;obtain⟨v,r7,e,a,b⟩:=(show∃v r7,vs=v::r7/\Rv h p v/\lR h ps r7 from r);refine gk ?_;exact J (e ..) (⟨v,r7,a,b⟩)
def lR.q_(r:lR h [] vs):vs=[]:=r
def lR.length:∀{vs:List Value},lR h ps vs->vs.length=ps.length:=by
 induction ps with
 |nil=>intro vs r;obtain rfl:=lR.q_ r;rfl
 |cons p ps ih=>intro vs r;obtain⟨v,r7,r1,r2⟩:=lR.ni r;exact congrArg Nat.succ (ih r2)
def lR.get:∀{vs:List Value},lR h ps vs->∀{i:Nat}{p:PV},ps[i]? =some p->∃v,vs[i]? =some v/\Rv h p v:=by
 induction ps with
 |nil=>intro vs r i p e;contradiction
 |cons q ps ih=>
  intro vs r i p e;obtain⟨v,r7,r1,r2⟩:=lR.ni r;rcases i with _|i
  ·obtain rfl:=af e;exact⟨v,rfl,r1⟩
  exact ih r2 e
def lR.app(r:lR h ps vs)(r':lR h qs us):lR h (ps++qs) (vs++us):=by
 induction ps generalizing vs with
 |nil=>obtain rfl:=lR.q_ r;exact r'
 |cons p ps ih=>
  obtain⟨v,r7,r1,r2⟩:=lR.ni r;exact(show∃w ws,v::(r7++us)=w::ws/\Rv h p w/\lR h (ps++qs) ws from⟨v,r7++us,rfl,r1,ih r2⟩)
def lR.nil:lR h [] []:=rfl
def lR.cons(a:Rv h p v)(b:lR h ps vs):lR h (p::ps) (v::vs):=by
 refine(?_:∃w ws,v::vs=w::ws/\Rv h p w/\lR h ps ws);exact⟨v,vs,rfl,a,b⟩
def lR.one(a:Rv h p v):lR h [p] [v]:=.cons a .nil
theorem lR.take:∀{ps:List PV}{vs:List Value} (n:Nat),lR h ps vs->lR h (ps.take n) (vs.take n)
 |_,_,0,_=>by simp;exact lR.nil
 |[],vs,n+1,r=>by obtain rfl:=lR.q_ r;simp;exact lR.nil
 |p::ps,vs,n+1,r=>by
  obtain⟨v,r7,r1,r2⟩:=lR.ni r;exact .cons r1 (r2.take n)
theorem lR.drop:∀{ps:List PV}{vs:List Value} (n:Nat),lR h ps vs->lR h (ps.drop n) (vs.drop n)
 |_,_,0,r=>by simpa using r
 |[],vs,n+1,r=>by obtain rfl:=lR.q_ r;simp;exact lR.nil
 |p::ps,vs,n+1,r=>by
  obtain⟨v,r7,r1,r2⟩:=lR.ni r;exact r2.drop n
theorem lR.set(e:Rv h q u):∀{ps:List PV}{vs:List Value} (i:Nat),lR h ps vs->lR h (ps.set i q) (vs.set i u)
 |[],vs,_,r=>by obtain rfl:=lR.q_ r;simp;exact lR.nil
 |p::ps,vs,0,r=>by
  obtain⟨v,r7,r1,r2⟩:=lR.ni r;exact .cons e r2
 |p::ps,vs,i+1,r=>by
  obtain⟨v,r7,r1,r2⟩:=lR.ni r;exact .cons r1 (r2.set e i)
def TK(h h':Heap):Prop:=∀a kX,pz h a kX->pz h' a kX
mutual
theorem Rv.keep(k:TK h h'):∀{p:PV}{v:Value},Rv h p v->Rv h' p v
 |.none,_,r=>r
 |.bool _,_,r=>r
 |.int _,_,r=>r
 |.str _,_,r=>r
 |.bytes _,_,r=>r
 |.ref _,_,r=>r
 |.raw _,_,r=>r
 |.tup l,_,r=>by
  dsimp only[Rv]at r ⊢;refine lr λGp gk=>?_;obtain⟨a,vs,e,t,q⟩:=r;refine gk ?_;exact⟨a,vs,e,k _ _ t,lR.keep k q⟩
theorem lR.keep(k:TK h h'):∀{ps:List PV}{vs:List Value},lR h ps vs->lR h' ps vs
 |[],_,r=>r
 |p::ps,_,r=>by
  dsimp only[lR]at r ⊢;refine lr λGp gk=>?_;obtain⟨v,r7,e,r1,r2⟩:=r;refine gk ?_;exact⟨v,r7,e,Rv.keep k r1,lR.keep k r2⟩
end
def TK.trans(x:TK a b)(y:TK b c):TK a c:=λ_ _ z=>y _ _ (x _ _ z)
def TK.of_keeps(k:∀b o,h.get? b=some o->h'.get? b=some o):TK h h':=λa _ ⟨n,ho⟩=>⟨n,k a _ ho⟩
noncomputable def oy(P:Params)(h:Heap):List (NL×PV)->List bY->Prop
 |[],es=>es=[]
 |(k,p)::r,es=>∃t v u0,es=⟨cC P ⟨k.toArray⟩,.str ⟨k.toArray⟩ t,v⟩::u0/\Rv h p v/\oy P h r u0
def oy.keep(k:TK h h'):∀{l:List (NL×PV)}{es:List bY},oy P h l es->oy P h' l es:=by
 intro z9
 induction z9 with
 |nil=>
  intro _ r;exact r
 |cons y9 _ ih=>
  intro _ Y_;obtain⟨_,_⟩:=y9;obtain⟨t,v,u0,e,r1,r2⟩:=Y_;exact⟨t,v,u0,e,r1.keep k,ih r2⟩
def Ro(P:Params)(h:Heap)(o:Obj):MO->Prop
 |.list l=>∃vs n,o={cls:=.type "list",data:=.seq (c9 vs) n}/\lR h l vs
 |.dict es=>∃l n,o={cls:=.type "dict",data:=.dict l.toArray n}/\oy P h es l/\(es.map (·.1)).Nodup/\es.length<=1000
 |.inst C d=>o={cls:=.ref C,dict:=some d,data:=.plain}
 |.Aj l=>∃vs n,o={cls:=.type "list",data:=.seq (c9 vs) n}/\lR h l vs
theorem Ro.keep(k:TK h h'):∀{mo:MO},Ro P h o mo->Ro P h' o mo
 |.list _,⟨vs,n,d,r⟩=>⟨vs,n,d,r.keep k⟩
 |.dict _,⟨l,n,e,r,q⟩=>⟨l,n,e,r.keep k,q⟩
 |.inst _ _,e=>e
 |.Aj _,⟨vs,n,d,r⟩=>⟨vs,n,d,r.keep k⟩
theorem Ro.notTuple:∀{mo:MO},Ro P h o mo->o.cls≠.type "tuple"
 |.list _,⟨vs,n,e,_⟩=>by refine J (e ..) ?_;refine(?_:Value.type "list"≠Value.type "tuple");decide
 |.dict _,⟨l,n,e,_⟩=>by refine J (e ..) ?_;refine(?_:Value.type "dict"≠Value.type "tuple");decide
 |.inst _ _,e=>by refine J (e ..) ?_;intro q;contradiction
 |.Aj _,⟨vs,n,e,_⟩=>by refine J (e ..) ?_;refine(?_:Value.type "list"≠Value.type "tuple");decide
def re(o o':Obj):Prop:=o'=o\/(o.cls=.type "frame"/\(∃es n,o.data=.dict es n)/\∃sl,o'={o with slots:=sl})
def re.trans(x:re a b)(y:re b c):re a c:=by
 rcases x with rfl|⟨x1,x2,sl,rfl⟩
 ·exact y
 rcases y with rfl|⟨y1,y2,sl',rfl⟩
 ·exact .inr ⟨x1,x2,sl,rfl⟩
 exact .inr ⟨x1,x2,sl',rfl⟩
def re.cls(x:re a b):b.cls=a.cls:=by rcases x with rfl|⟨_,_,_,rfl⟩<;>rfl
def re.data(x:re a b):b.data=a.data:=by rcases x with rfl|⟨_,_,_,rfl⟩<;>rfl
def re.eq(x:re a b)(n:a.cls≠.type "frame"):b=a:=by
 rcases x with rfl|⟨c,_⟩
 ·rfl
 exact absurd c n
structure mr(H0:Heap)(X:Nat->Prop)(U:kO)(h:Heap)(kP:kO)(h':Heap):Prop where
 live:∀b o,h.get? b=some o->∃o',h'.get? b=some o'
 keep:∀b o,h.get? b=some o->U b=.none->¬X b->∃o',h'.get? b=some o'/\re o o'/\(H0.get? b≠.none->o'=o)
 RC:∀b,kP b≠.none->U b≠.none\/h.get? b=.none
 old:∀b,U b≠.none->kP b≠.none
def mr.refl(H0:Heap)(X:Nat->Prop)(U:kO)(h:Heap):mr H0 X U h U h:=⟨λ_ o e=>⟨o,e⟩,λ_ o e _ _=>⟨o,e,.inl rfl,λ_=>rfl⟩,λ_ e=>.inl e,λ_ e=>e⟩
def mr.free{X:Nat->Prop}(x:mr H0 X U h kP h')(hb:h.get? b=some o)(n:U b=.none):kP b=.none:=by
 rcases q:kP b with _|m
 ·rfl
 rcases x.RC b (by refine J (q ..) ?_;intro z;contradiction)with z|z
 ·exact absurd n z
 rw[hb]at z;contradiction
def mr.trans{X Y:Nat->Prop}(x:mr H0 X U h σ₁ h₁)(y:mr H0 Y σ₁ h₁ σ₂ lL)(hY:∀b,Y b->X b\/h.get? b=.none):mr H0 X U h σ₂ lL:=by
 refine⟨λb o e=>let ⟨H6,SH⟩:=x.live b o e;y.live b H6 SH,λb o e n nx=>?_,λb e=>?_,λb e=>y.old b (x.old b e)⟩
 ·refine lr λGp gk=>?_;obtain⟨H6,SH,k8,Y'⟩:=x.keep b o e n nx;obtain⟨Za,Zb,me,Zc⟩:=y.keep b H6 SH (x.free e n) λq=>(hY b q).elim nx λz=>by rw[e]at z;contradiction
  refine gk ?_;exact⟨Za,Zb,k8.trans me,λhn=>(Zc hn).trans (Y' hn)⟩
 rcases y.RC b e with z|z
 ·exact x.RC b z
 refine .inr ?_;rcases q:h.get? b with _|o
 ·rfl
 obtain⟨o',e'⟩:=x.live b o q;rw[e']at z;contradiction
def mr.wide{X Y:Nat->Prop}(x:mr H0 X U h kP h')(hX:∀b,X b->Y b):mr H0 Y U h kP h':=
 ⟨x.live,λb o e n ny=>x.keep b o e n λq=>ny (hX b q),x.RC,x.old⟩
def mr.of_keeps{X:Nat->Prop}(k:∀b o,h.get? b=some o->h'.get? b=some o):mr H0 X U h U h':=
 ⟨λb o e=>⟨o,k b o e⟩,λb o e _ _=>⟨o,k b o e,.inl rfl,λ_=>rfl⟩,λ_ e=>.inl e,λ_ e=>e⟩
structure EJ(P:Params)(H0:Heap)(U:kO)(h:Heap):Prop where
 base:∀b o,H0.get? b=some o->h.get? b=some o
 obj:∀a mo,U a=some mo->(H0.get? a=.none\/∃l,mo=.Aj l)/\∃o,h.get? a=some o/\Ro P h o mo
def EJ.free(O:EJ P H0 U h)(hb:h.get? b=.none):U b=.none:=by
 rcases q:U b with _|m
 ·rfl
 obtain⟨_,o,e,_⟩:=O.obj b m q;rw[hb]at e;contradiction
def EJ.fresh(O:EJ P H0 U h)(hb:h.get? b=.none):H0.get? b=.none:=by
 rcases q:H0.get? b with _|o
 ·rfl
 have e:=O.base b o q;rw[hb]at e;contradiction
def EJ.E3(O:EJ P H0 U h)(t:pz h a kX):U a=.none:=by
 rcases q:U a with _|m
 ·rfl
 obtain⟨_,o,e,r⟩:=O.obj a m q;obtain⟨n,e'⟩:=t;have e':h.get? a=some _:=e';rw[e]at e';obtain rfl:=af e';exact absurd rfl r.notTuple
def X4(X:Nat->Prop)(h:Heap):Prop:=∀b o,X b->h.get? b=some o->o.cls≠.type "tuple"
def mr.tk{X:Nat->Prop}(x:mr H1 X U h kP h')(O:EJ P H0 U h)(hX:X4 X h):TK h h':=λa kX t=>by
 have n:=O.E3 t;obtain⟨m,e⟩:=t;obtain⟨o',e',s,_⟩:=x.keep a _ e n λq=>hX a _ q e rfl;rw[s.eq (by refine(?_:Value.type "tuple"≠Value.type "frame");decide)]at e';exact⟨m,e'⟩
structure nX where
 prog:Program
 w:eY
 H0:Heap
 os:eB
 ml:List (Str×PV)
 tab:Tab
 m0:List (Str×Nat)
 pf:Frag
variable (B:nX)
noncomputable abbrev nX.mod(B:nX):Model:=fM B.prog B.w
structure td(kQ:aD):Prop where
 kind:kQ.scope.kind=.function
 glob:kQ.globals=cL
 SI:kQ.builtins=hO
 nodup:(kQ.scope.names.map (·.1)).Nodup
 odd:∀x k,(x,k)∈kQ.scope.names->(x==("__debug__":Str))=false/\(x==("__classdict__":Str))=false
structure Loc(kQ:aD)(ρ:lK)(h:Heap):Prop where
 len:ρ.length=kQ.scope.names.length
 ns:∃m,h.Ns kQ.locals m/\∀i x,kQ.scope.names[i]? =some (x,NameKind.local)->∀v,ρ.get i=some v->∃y,m x=some y/\Rv h v y
 cell:∀i x k,kQ.scope.names[i]? =some (x,k)->(k=.cell\/k=.free)->(∃c v,kQ.cells.lookup x=some c/\h.IsCell c v)/\
  ∀v,ρ.get i=some v->∃c y,kQ.cells.lookup x=some c/\h.IsCell c (some y)/\Rv h v y
 JX:∀i x k,kQ.scope.names[i]? =some (x,k)->(k=.globalImplicit\/k=.globalExplicit)->ρ.get i=.none
inductive VO(H0:Heap)(U:kO)(h:Heap)(e:aD):Prop
 |mk (k:e.scope.kind=.function) (L:Nat) (o:Obj) (a:e.frame=some L) (b:H0.get? L=.none) (c:U L=.none) (d:h.get? L=some o) (f:o.cls=.type "frame") (es n:_) (g:o.data=.dict es n):VO H0 U h e
def uk(H0:Heap)(U:kO)(h:Heap)(kU:List aD):Prop:=∀e∈kU,VO H0 U h e
def oh(kQ:aD)(b:Nat):Prop:=b=kQ.locals\/kQ.frame=some kQ.locals/\∃x,kQ.kindOf x=some .cell/\kQ.cells.lookup x=some b
inductive xu(U:kO)(h:Heap)(L:Nat):Prop
 |mk (a:B.H0.get? L=.none) (b:U L=.none) (o:Obj) (e:h.get? L=some o) (c:o.cls=.type "frame"\/o.cls=.type "dict") (es n:_) (d:o.data=.dict es n):xu U h L
inductive wb(U:kO)(h:Heap)(L c:Nat):Prop
 |mk (a:B.H0.get? c=.none) (b:U c=.none) (d:c≠L) (o:Obj) (v:_) (e:h.get? c=some o) (g:o.cls=.type "cell") (f:o.data=.cell v):wb U h L c
variable {B} in
def xu.b'(p:xu B U h L):U L=.none:=by induction p;assumption
variable {B} in
def wb.b'(p:wb B U h L c):U c=.none:=by induction p;assumption
variable {B} in
def wb.d'(p:wb B U h L c):c≠L:=by induction p;assumption
structure St(kQ:aD)(kU:List aD)(ρ:lK)(U:kO)(s:Shared):Prop where
 own:EJ B.w.params B.H0 U s.heap
 sS:td kQ
 Z:Loc kQ ρ s.heap
 place:xu B U s.heap kQ.locals
 cells:∀x c,kQ.cells.lookup x=some c->wb B U s.heap kQ.locals c
 apart:∀x y c,kQ.cells.lookup x=some c->kQ.cells.lookup y=some c->x=y
 kU:uk B.H0 U s.heap kU
 gens:s.gens=#[]
 os:s.os=B.os
variable {B}
def St.SJ{kU:List aD}(S:St B kQ kU ρ U s):X4 (oh kQ) s.heap:=by
 rintro b o (rfl|⟨_,x,_,hc⟩) e
 ·obtain⟨_,_,o',e',c,_⟩:=S.place;rw[e]at e';clear es n d;obtain rfl:=af e';rcases c with c|c<;>refine J (c ..) ?_<;>decide
 obtain⟨_,_,_,o',v,e',c,_⟩:=S.cells x b hc;rw[e]at e';clear v f;obtain rfl:=af e';refine J (c ..) ?_;decide
def n9:X4 (λ_=>False) h:=λ_ _ z=>z.elim
def St.step{kU:List aD}(S:St B kQ kU ρ U s)(p:mr B.H0 (λ_=>False) U s.heap kP s'.heap)(O:EJ B.w.params B.H0 kP s'.heap)
  (hg:s'.gens=#[]) (ho:s'.os=B.os):St B kQ kU ρ kP s':=by
 have tk:=p.tk S.own n9;have Ky:∀b o,s.heap.get? b=some o->U b=.none->∃o',s'.heap.get? b=some o'/\re o o':=λb o e n=>let ⟨o',a,b,_⟩:=p.keep b o e n id;⟨o',a,b⟩;have free:∀b o,s.heap.get? b=some o->U b=.none->kP b=.none:=λb o hb n=>p.free hb n;have yr:∀c v,s.heap.IsCell c v->U c=.none->s'.heap.IsCell c v:=λc v z9 n=>by
  refine lr λGp gk=>?_;obtain⟨o,e,d⟩:=z9;obtain⟨o',e',z⟩:=Ky c o e n;refine gk ?_;exact⟨o',e',z.data.trans d⟩
 refine⟨O,S.sS,⟨S.Z.len,?_,?_,S.Z.JX⟩,?_,?_,S.apart,?_,hg,ho⟩
 ·obtain⟨m,hn,hm⟩:=S.Z.ns;refine⟨m,?_,λi x hx v hv=>let ⟨y,a,b⟩:=hm i x hx v hv;⟨y,a,b.keep tk⟩⟩;refine lr λGp gk=>?_;obtain⟨o,es,ep,e,d,r⟩:=hn;obtain⟨o',e',z⟩:=Ky _ o e S.place.b';refine gk ?_;exact⟨o',es,ep,e',z.data.trans d,r⟩
 ·intro i x k hx hk;refine lr λGp gk=>?_;obtain⟨⟨c,v,hc,hv⟩,q⟩:=S.Z.cell i x k hx hk;refine gk ?_;refine⟨⟨c,v,hc,yr c v hv (S.cells x c hc).b'⟩,λv hv=>?_⟩;refine lr λGp gk=>?_;obtain⟨c,y,hc,hy,r⟩:=q v hv;refine gk ?_;exact⟨c,y,hc,yr c _ hy (S.cells x c hc).b',r.keep tk⟩
 ·refine lr λGp gk=>?_;obtain⟨a,b,o,e,c,es,n,d⟩:=S.place;obtain⟨o',e',z⟩:=Ky _ o e b;refine gk ?_;exact⟨a,free _ _ e b,o',e',J (z.cls ..) c,es,n,z.data.trans d⟩
 ·intro x c hc;refine lr λGp gk=>?_;obtain⟨a,b,d,o,v,e,g,f⟩:=S.cells x c hc;obtain⟨o',e',z⟩:=Ky _ o e b;refine gk ?_;exact⟨a,free _ _ e b,d,o',v,e',z.cls.trans g,z.data.trans f⟩
 intro e he;refine lr λGp gk=>?_;obtain⟨k,L,o,a,b,c,d,f,es,n,g⟩:=S.kU e he;obtain⟨o',e',z⟩:=Ky _ o d c;refine gk ?_;exact⟨k,L,o',a,b,free _ _ d c,e',z.cls.trans f,es,n,z.data.trans g⟩
def St.tok{kU:List aD}(S:St B kQ kU ρ U s)(t:Nat):St B kQ kU ρ U {s with toks:=t}:=⟨S.own,S.sS,S.Z,S.place,S.cells,S.apart,S.kU,S.gens,S.os⟩
structure Kz(k n:Nat)(kU:List aD)(A:bm):Prop where
 handled:A.handled=.none
 frames:A.frames=some kU
 depth:A.depth+4*k<=900
 units:A.units+60*k+n<=9000
def Kz.mono(a:Kz k n kU A)(h:j<=k)(h':m<=n):Kz j m kU A:=⟨a.handled,a.frames,by have:=a.depth;exact nn 0x40103843fb04d2a03843fb14d2a01002 rfl h this,by have:=a.units;exact tD 0x3c2f0101023284fb203c2fd4aa023284fb313c2fd4aa03201003 rfl h h' this⟩
end
section
open PySem PySem.W PySem.Calls PyProof.Rows
variable {B:nX}
structure Gs(B:nX)(kU:List aD)(U:kO)(s:Shared):Prop where
 own:EJ B.w.params B.H0 U s.heap
 kU:uk B.H0 U s.heap kU
 gens:s.gens=#[]
 os:s.os=B.os
def St.gs{kU:List aD}(S:St B kQ kU ρ U s):Gs B kU U s:=⟨S.own,S.kU,S.gens,S.os⟩
abbrev Nx:Nat->Prop:=λ_=>False
def St.up{kU:List aD}(S:St B kQ kU ρ U s)(p:mr B.H0 Nx U s.heap kP s'.heap)(G:Gs B kU kP s'):St B kQ kU ρ kP s':=S.step p G.own G.gens G.os
def mr.app(x:mr H0 Nx U h σ₁ h₁)(y:mr H0 Nx σ₁ h₁ σ₂ lL):mr H0 Nx U h σ₂ lL:=x.trans y λ_ z=>z.elim
def uk.step{X:Nat->Prop}(f:uk H0 U h kU)(x:mr H0 X U h kP h')(nx:∀e∈kU,∀L,e.frame=some L->¬X L):uk H0 kP h' kU:=λe he=>by
 obtain⟨k,L,o,a,b,c,d,g,es,n,q⟩:=f e he;obtain⟨o',e',z,_⟩:=x.keep _ o d c (nx e he L a);exact⟨k,L,o',a,b,x.free d c,e',z.cls.trans g,es,n,z.data.trans q⟩
def Gs.mk'{kU:List aD}(G:Gs B kU U s)(x:mr B.H0 Nx U s.heap kP s'.heap)(O:EJ B.w.params B.H0 kP s'.heap)(hg:s'.gens=s.gens)(ho:s'.os=s.os):Gs B kU kP s':=
 ⟨O,G.kU.step x λ_ _ _ _ z=>z,hg.trans G.gens,ho.trans G.os⟩
inductive CG(B:nX)(lo:Heap)(U:kO)(h:Heap)(L:Option Nat)(x:Oq)(v:Value):Prop
 |mk (e d:Nat) (oe:Obj) (vs:Array Value) (od:Obj) (q1:v=.ref e) (fr:lo.get? e=.none/\U e=.none/\lo.get? d=.none/\U d=.none) (q2:h.get? e=some oe) (q3:oe.cls=.ref x.cls) (q4:oe.dict=some d) (q5:oe.data=.fields vs)
  (q6:h.get? d=some od/\Ro B.w.params h od (.dict [(rY,.str x.U_),(vm,x.at_)]))
  (q7:vs[1]? =some .none\/∃T oT ts,vs[1]? =some (.ref T)/\(lo.get? T=.none/\U T=.none/\T≠e)/\h.get? T=some oT/\oT.cls=.type "traceback"/\oT.data=.fields ts/\
   (ts[3]? =some .none\/∃l,L=some l/\ts[3]? =some (eo l)))
def CG.low{lo X5:Heap}{L:Option Nat}(f:CG B lo U h L x v)(l:∀b,lo.get? b=.none->X5.get? b=.none):CG B X5 U h L x v:=by
 obtain⟨e,d,oe,vs,od,q1,⟨a2,a3,a5,a6⟩,q2,q3,q4,q5,q6,q7⟩:=f;refine⟨e,d,oe,vs,od,q1,⟨l _ a2,a3,l _ a5,a6⟩,q2,q3,q4,q5,q6,?_⟩;rcases q7 with q|⟨T,oT,ts,b1,⟨b3,b4⟩,b5⟩
 ·exact .inl q
 exact .inr ⟨T,oT,ts,b1,⟨l _ b3,b4⟩,b5⟩
def mr.none{X:Nat->Prop}(x:mr H0 X U h kP h')(b:Nat)(n:h'.get? b=.none):h.get? b=.none:=by
 rcases q:h.get? b with _|o
 ·rfl
 obtain⟨o',e'⟩:=x.live b o q;rw[e']at n;contradiction
variable {α β γ:Type}{k:Nat}{kQ:aD}{kU:List aD}{ρ:lK}{U σ₀:kO}{A:bm}{s s₀:Shared}
inductive PR(B:nX)(kU:List aD)(rel:Heap->β->α->Prop)(Q:β->kO->Prop)(U:kO)(s:Shared)(a:α)(s':Shared):Prop
 |mk (b:β) (kP:kO) (q:Q b kP) (r:rel s'.heap b a) (G:Gs B kU kP s') (p:mr B.H0 Nx U s.heap kP s'.heap)
inductive PX(B:nX)(kU:List aD)(L:Option Nat)(E:nI)(U:kO)(s:Shared)(v:Value)(s':Shared):Prop
 |mk (x:Oq) (kP:kO) (q:E x kP) (G:Gs B kU kP s') (p:mr B.H0 Nx U s.heap kP s'.heap) (f:CG B s.heap kP s'.heap L x v)
def PR.up(p:mr B.H0 Nx σ₀ s₀.heap U s.heap)(x:PR B kU rel Q U s a s'):PR B kU rel Q σ₀ s₀ a s':=by
 obtain⟨b,kP,q,r,G,p'⟩:=x;exact⟨b,kP,q,r,G,p.app p'⟩
def PX.up{L:Option Nat}{E:nI}(p:mr B.H0 Nx σ₀ s₀.heap U s.heap)(x:PX B kU L E U s v s'):PX B kU L E σ₀ s₀ v s':=by
 obtain⟨b,kP,q,G,p',f⟩:=x;exact⟨b,kP,q,G,p.app p',f.low p.none⟩
def PX.lo(x:PX B kU L E U s₀ v s')(e:s₀.heap=s.heap):PX B kU L E U s v s':=by
 obtain⟨b,kP,q,G,p,f⟩:=x;exact⟨b,kP,q,G,e▸p,e▸f⟩
def PR.lo(x:PR B kU rel Q U s₀ a s')(e:s₀.heap=s.heap):PR B kU rel Q U s a s':=by
 obtain⟨b,kP,q,r,G,p⟩:=x;exact⟨b,kP,q,r,G,e▸p⟩
def l_:Heap->PV->Value->Prop:=Rv
def SK:Heap->List PV->List Value->Prop:=lR
def Do:Heap->Bool->Bool->Prop:=λ_ a b=>b=a
def ON:Heap->Unit->Unit->Prop:=λ_ _ _=>True
def last{M:Model}{L:Option Nat}{rel:Heap->β->α->Prop}{m:fZ α}{Q:β->kO->Prop}{E:nI}(p:mr B.H0 Nx σ₀ s₀.heap U s.heap)
  (hm:aq M A m (PR B kU rel Q U s) (PX B kU L E U s) s):aq M A m (PR B kU rel Q σ₀ s₀) (PX B kU L E σ₀ s₀) s:=
 aw hm (λ_ _ x=>x.up p) λ_ _ x=>x.up p
def mY{M:Model}{m:fZ α}{Q:α->Shared->Prop}{E:Value->Shared->Prop}(hm:aq M A m Q (λ_ _=>False) s):aq M A m Q E s:=aw hm (λ_ _ x=>x) λ_ _ x=>x.elim
def Gs.keeps(G:Gs B kU U s)(kp:∀b o,s.heap.get? b=some o->h'.get? b=some o):Gs B kU U {s with heap:=h',toks:=t}/\mr B.H0 Nx U s.heap U h':=by
 have p:mr B.H0 Nx U s.heap U h':=.of_keeps kp;refine⟨G.mk' (s':={s with heap:=h',toks:=t}) p ⟨λb o e=>kp b o (G.own.base b o e),λa mo e=>?_⟩ rfl rfl,p⟩;obtain⟨l,o',e',r⟩:=G.own.obj a mo e;exact⟨l,o',kp _ _ e',r.keep (TK.of_keeps kp)⟩
def Gs.keepsK(G:Gs B kU U s){h':Heap}{P:Prop}(kp:∀b o,s.heap.get? b=some o->h'.get? b=some o)(k:Gs B kU U {s with heap:=h',toks:=t}->mr B.H0 Nx U s.heap U h'->P):P:=k (G.keeps (t:=t) kp).1 (G.keeps (t:=t) kp).2
def Gs.tok(G:Gs B kU U s)(t:Nat):Gs B kU U {s with toks:=t}:=⟨G.own,G.kU,G.gens,G.os⟩
def Gs.fresh(G:Gs B kU U s)(ha:s.heap.get? a=.none)(kp:∀b o,s.heap.get? b=some o->h'.get? b=some o)(he:h'.get? a=some o)(r:Ro B.w.params h' o mo):
  U a=.none/\Gs B kU (U.put a mo) {s with heap:=h',toks:=t}/\mr B.H0 Nx U s.heap (U.put a mo) h':=by
 have fr:U a=.none:=G.own.free ha;have p:mr B.H0 Nx U s.heap (U.put a mo) h':=by
  refine⟨λb o e=>⟨o,kp b o e⟩,λb o e _ _=>⟨o,kp b o e,.inl rfl,λ_=>rfl⟩,λb e=>?_,λb e=>?_⟩
  ·unfold kO.put at e
   split at e
   ·rename_i q;clear he fr;subst q;exact .inr ha
   exact .inl e
  unfold kO.put
  split
  ·intro z;contradiction
  exact e
 refine⟨fr,G.mk' (s':={s with heap:=h',toks:=t}) p ⟨λb o e=>kp b o (G.own.base b o e),λb VP e=>?_⟩ rfl rfl,p⟩;unfold kO.put at e
 split at e
 ·rename_i q;subst q;obtain rfl:=af e;exact⟨.inl (G.own.fresh ha),o,he,r⟩
 obtain⟨l,o',e',r⟩:=G.own.obj b VP e;exact⟨l,o',kp _ _ e',r.keep (TK.of_keeps kp)⟩
def EJ.own(O:EJ P H0 U h)(e:U a=some mo)(nf:∀l,mo≠.Aj l):H0.get? a=.none:=(O.obj a mo e).1.elim id λz9=>by obtain⟨l,z⟩:=z9;exact absurd z (nf l)
def Gs.change(G:Gs B kU U s)(h0:U a=some VQ)(kp:∀b o,b≠a->s.heap.get? b=some o->h'.get? b=some o)(he:h'.get? a=some o)(nf:∀l,VQ≠.Aj l)(r:TK s.heap h'->Ro B.w.params h' o mo):
  Gs B kU (U.put a mo) {s with heap:=h',toks:=t}/\mr B.H0 Nx U s.heap (U.put a mo) h':=by
 have tk:TK s.heap h':=λb kX q=>by
  have nb:b≠a:=λz=>by rw[z]at q;rw[G.own.E3 q]at h0;contradiction
  obtain⟨o,e⟩:=q;exact⟨o,kp _ _ nb e⟩
 have p:mr B.H0 Nx U s.heap (U.put a mo) h':=by
  refine⟨λb o' e=>?_,λb o e n _=>⟨o,kp b o (λz=>by rw[z,h0]at n;contradiction) e,.inl rfl,λ_=>rfl⟩,λb e=>?_,λb e=>?_⟩
  ·clear h0;by_cases hb:b=a
   ·clear kp;subst hb;exact⟨o,he⟩
   exact⟨o',kp b o' hb e⟩
  ·unfold kO.put at e
   split at e
   ·rename_i q;clear kp he;subst q;left;refine J (h0 ..) ?_;intro z;contradiction
   exact .inl e
  unfold kO.put
  split
  ·intro z;contradiction
  exact e
 have na:∀b o,B.H0.get? b=some o->b≠a:=λb o e z=>by
  clear kp he p;subst z;rw[G.own.own h0 nf]at e;contradiction
 refine⟨G.mk' (s':={s with heap:=h',toks:=t}) p ⟨λb o e=>kp b o (na b o e) (G.own.base b o e),λb VP e=>?_⟩ rfl rfl,p⟩;unfold kO.put at e
 split at e
 ·rename_i q;subst q;obtain rfl:=af e;exact⟨.inl (G.own.own h0 nf),o,he,r tk⟩
 rename_i q;obtain⟨l,o',e',r⟩:=G.own.obj b VP e;exact⟨l,o',kp _ _ q e',r.keep tk⟩
def mr.KA(h:Heap):mr B.H0 Nx U h U h:=.refl ..
def ly(h:Heap):h.get? h.objs.size=.none:=be (aF _)
end
section
open PySem PySem.W PySem.Calls PyProof.Rows
variable {B:nX}{kU:List aD}{U:kO}{s:Shared}{A:bm}{M':Model}
abbrev n_:Value->Shared->Prop:=λ_ _=>False
def Rv.nR(r:Rv h (.int i) v):∃t,v=.int i t:=r
def Rv.r8(r:Rv h (.bool i) v):v=.bool i:=r
def Rv.of_none(r:Rv h .none v):v=.none:=r
def Rv.mz(r:Rv h (.str i) v):∃t,v=.str ⟨i.toArray⟩ t:=r
def Rv.l8(r:Rv h (.bytes b) v):∃(l:List UInt8) (t:gN),v=.bytes l.toArray t/\l.map aL=b:=r
def Rv.mJ(r:Rv h (.tup l) v):∃a vs,v=.ref a/\pz h a (c9 vs)/\lR h l vs:=r
def Rv.mW(r:Rv h (.ref a) v):v=.ref a:=r
def Rv.int(h:Heap)(i:Int)(t:gN):Rv h (.int i) (.int i t):=show∃u,Value.int i t=.int i u from⟨t,rfl⟩
def Rv.bool(h:Heap)(b:Bool):Rv h (.bool b) (.bool b):=rfl
def Rv.none(h:Heap):Rv h .none .none:=rfl
def Rv.str(h:Heap)(b:NL)(t:gN):Rv h (.str b) (.str ⟨b.toArray⟩ t):=show∃u,ea ⟨b.toArray⟩ t=.str ⟨b.toArray⟩ u from⟨t,rfl⟩
def Rv.VR(h:Heap)(x:Str)(t:gN):Rv h (.str x.cps.toList) (.str x t):=show∃u,ea x t=.str ⟨x.cps.toList.toArray⟩ u from⟨t,rfl⟩
def Rv.bytes(h:Heap)(l:List UInt8)(t:gN):Rv h (.bytes (l.map aL)) (.bytes l.toArray t):=by dsimp only[Rv];exact⟨l,t,rfl,rfl⟩
def Rv.tup(t:pz h a (c9 vs))(r:lR h l vs):Rv h (.tup l) (.ref a):=by dsimp only[Rv];exact⟨a,vs,rfl,t,r⟩
def Rv.ref(h:Heap)(a:Nat):Rv h (.ref a) (.ref a):=rfl
inductive VS(K:Int->Prop):Value->Prop
 |mk (i:Int) (t:gN) (k:K i):VS K (.int i t)
inductive VT(K:NL->Prop):Value->Prop
 |mk (x:NL) (t:gN) (k:K x):VT K (.str ⟨x.toArray⟩ t)
inductive KB(K:NL->Prop):Value->Prop
 |mk (l:List UInt8) (t:gN) (k:K (l.map aL)):KB K (.bytes l.toArray t)
inductive VU(h:Heap)(K:List PV->Prop):Value->Prop
 |mk (l:List PV) (a:Nat) (vs:List Value) (t:pz h a vs.toArray) (r:lR h l vs) (k:K l):VU h K (.ref a)
inductive VV(K:Nat->Prop):Value->Prop
 |mk (a:Nat) (k:K a):VV K (.ref a)
def sO{K:Int->Prop}(q:p8 p K)(r:Rv h p v):VS K v:=by
 refine q.k λi yt k=>?_;clear q;subst yt;obtain⟨t,rfl⟩:=r.nR;exact⟨i,t,k⟩
def E4{K:NL->Prop}(q:w4 p K)(r:Rv h p v):VT K v:=by
 refine q.k λi yt k=>?_;clear q;subst yt;obtain⟨t,rfl⟩:=r.mz;exact⟨i,t,k⟩
def SL{K:NL->Prop}(q:v6 p K)(r:Rv h p v):KB K v:=by
 refine q.k λi yt k=>?_;subst yt;clear q;obtain⟨l,t,rfl,rfl⟩:=r.l8;exact⟨l,t,k⟩
def Zd{K:List PV->Prop}(q:EQ p K)(r:Rv h p v):VU h K v:=by
 refine q.k λi yt k=>?_;clear q;subst yt;obtain⟨a,vs,rfl,t,r⟩:=r.mJ;exact⟨i,a,vs,t,r,k⟩
def E5{K:Nat->Prop}(q:sV p K)(r:Rv h p v):VV K v:=by
 refine q.k λi yt k=>?_;clear q;subst yt;obtain rfl:=r.mW;exact⟨i,k⟩
inductive LAt(h:Heap)(a:Nat)(l:List PV):Prop
 |mk (vs:List Value) (n:Nat) (hl:IsL h a vs.toArray n) (r:lR h l vs)
def Gs.list(G:Gs B kU U s)(e:U a=some (.list l)):LAt s.heap a l:=by
 refine lr λGp gk=>?_;obtain⟨_,o,ho,vs,n,rfl,r⟩:=G.own.obj a _ e;refine gk ?_;exact⟨vs,n,ho,r⟩
def Gs.nJ(G:Gs B kU U s){l:List PV}{P:Prop}(e:U a=some (.list l))(k:∀vs n,IsL s.heap a vs.toArray n->lR s.heap l vs->P):P:=by obtain⟨vs,n,hl,r⟩:=G.list e;exact k vs n hl r
def Gs.VW(G:Gs B kU U s)(e:U a=some (.list l)\/U a=some (.Aj l)):LAt s.heap a l:=by
 rcases e with e|e
 ·exact G.list e
 refine lr λGp gk=>?_;obtain⟨_,o,ho,vs,n,rfl,r⟩:=G.own.obj a _ e;refine gk ?_;exact⟨vs,n,ho,r⟩
def PR.tok(G:Gs B kU U s)(q:Q p U)(r:Rv s.heap p v)(t:Nat):PR B kU l_ Q U s v {s with toks:=t}:=
 ⟨p,U,q,r,G.tok t,.refl ..⟩
def PR.here(G:Gs B kU U s)(q:Q p U)(r:Rv s.heap p v):PR B kU l_ Q U s v s:=⟨p,U,q,r,G,.refl ..⟩
def PR.grown(G:Gs B kU U s)(q:Q p U)(kp:∀b o,s.heap.get? b=some o->h'.get? b=some o)(r:Rv h' p v):PR B kU l_ Q U s v {s with heap:=h',toks:=t}:=
 let ⟨G',p'⟩:=G.keeps kp;⟨p,U,q,r,G',p'⟩
def PR.newList(G:Gs B kU U s)(ha:s.heap.get? a=.none)(kp:∀b o,s.heap.get? b=some o->h'.get? b=some o)
  (e:IsL h' a vs.toArray n) (r:lR s.heap l vs) (q:∀r,U r=.none->Q (.ref r) (U.put r (.list l))):PR B kU l_ Q U s (.ref a) {s with heap:=h',toks:=t}:=by
 obtain⟨f,G',p⟩:=G.fresh (t:=t) (mo:=.list l) ha kp e ⟨vs,n,rfl,r.keep (TK.of_keeps kp)⟩;exact⟨.ref _,_,q _ f,Rv.ref _ _,G',p⟩
def BI(h:Heap)(o:Obj):h.objs.size<=(h.push o).objs.size:=by refine J (cf ..) ?_;exact gp _
def lG(h:Heap)(o:Obj):∀b x,h.get? b=some x->(h.push o).get? b=some x:=λ_ _ e=>cg _ e
def PR.E6(G:Gs B kU U s)(r:lR s.heap l vs)(q:Q (.tup l) U):
  PR B kU l_ Q U s (.ref s.heap.objs.size) {s with heap:=s.heap.push {cls:=.type "tuple",data:=.seq vs.toArray},toks:=t}:=
 PR.grown G q (lG _ _) (Rv.tup ⟨0,IsT.new _ _⟩ (r.keep (TK.of_keeps (lG _ _))))
noncomputable def OO:Oz->Operator
 |.add=>.Add|.sub=>.Sub|.mul=>.Mult|.fdiv=>.FloorDiv|.mod=>.Mod|.pow=>.Pow
def BJ(x y:NL):((⟨x.toArray⟩:Str)++(⟨y.toArray⟩:Str))=⟨(x++y).toArray⟩:=by
 refine(?_:Str.append _ _=_);simp[Str.append]
def str_len(x:NL):(⟨x.toArray⟩:Str).length=x.length:=by simp[Str.length]
def nil_of(r:lR h l vs)(e:vs.toArray.isEmpty=true):l=[]:=
 gA.mp (r.length.symm.trans (gA.mpr (by simpa using e)))
def OQ(G:Gs B kU U s)(ta:pz s.heap a vs.toArray)(r:lR s.heap l vs)(tb:pz s.heap b us.toArray)(r':lR s.heap l' us)(hz:l.length+l'.length<=M)(h:Q (.tup (l++l')) U):
  aq B.mod A (j0 .Add (.ref a) (.ref b)) (PR B kU l_ Q U s) n_ s:=by
 refine lr λGp gk=>?_;obtain⟨n,ht⟩:=id ta;obtain⟨m,hb⟩:=id tb;refine gk ?_
 by_cases h1:vs.toArray.isEmpty=true
 ·refine kG ⟨_,ht,rfl⟩ ⟨_,hb,rfl⟩ noFill_tuple_add seq_tuple_add F.slot_tuple_add F.entry_tuple_add (F.args_tuple_add_2 _ _) (AutoSeq1.tuple___add___tuple_tuple_0 a _ n b _ m h1) ⟨ht,hb,?_⟩;rw[nil_of r h1]at h;exact PR.here G h (Rv.tup tb r')
 by_cases h2:us.toArray.isEmpty=true
 ·refine kG ⟨_,ht,rfl⟩ ⟨_,hb,rfl⟩ noFill_tuple_add seq_tuple_add F.slot_tuple_add F.entry_tuple_add (F.args_tuple_add_2 _ _) (AutoSeq1.tuple___add___tuple_tuple_1 a _ n b _ m h1 h2) ⟨ht,hb,?_⟩;rw[nil_of r' h2,aJ]at h;exact PR.here G h (Rv.tup ta r)
 refine PySem.P.add_tuple ht hb h1 h2 ?_ (by simp only[bG];exact J (r.length ..) (J (r'.length ..) hz));refine J (kN ..) ?_;exact PR.E6 G (r.app r') h
def SM{va vb:Value}{Q:QV}(G:Gs B kU U s)(ra:Rv s.heap a va)(rb:Rv s.heap b vb)(h:OH U a b Q):
  aq B.mod A (j0 .Add va vb) (PR B kU l_ Q U s) n_ s:=by
 rcases a with _|_<;>try exact a_ h
 ·obtain⟨t,rfl⟩:=ra.nR;obtain⟨y,u,h⟩:=sO h rb;exact PySem.P.add_int (PR.tok G h (Rv.int ..) _)
 ·obtain⟨t,rfl⟩:=ra.mz;obtain⟨y,u,hz,h⟩:=E4 h rb;refine PyProof.Rows.add_str (λt' tk=>?_) (J (str_len ..) (J (str_len ..) hz));refine J (BJ ..) ?_;exact PR.tok G h (Rv.str ..) _
 ·obtain⟨l,t,rfl,rfl⟩:=ra.l8;obtain⟨l',u,hz,h⟩:=SL h rb;refine PySem.W.bytes_add_K (d:=l++l') (by simpa [M]using hz) rfl λt' tk=>?_;refine PR.tok G h ?_ _;exact rr (aS ..) (Rv.bytes ..)
 ·obtain⟨a,vs,rfl,ta,r⟩:=ra.mJ;obtain⟨l',b,us,tb,r',hz,h⟩:=Zd h rb;exact OQ G ta r tb r' hz h
 obtain rfl:=ra.mW;obtain⟨b,h⟩:=E5 h rb;refine l9.k h λx ex h=>?_;refine l9.k h λy ey rK=>?_;obtain⟨hz,h⟩:=rK;refine G.nJ ex λvs n hl r=>?_;refine G.nJ ey λus m yu r'=>?_;refine PySem.P.add_list hl yu ?_ (by simp only[bG];exact J (r.length ..) (J (r'.length ..) hz));refine J (kN ..) ?_;exact PR.newList G (ly _) (lG _ _) (IsL.new _ _) (r.app r') h
def SN(G:Gs B kU U s)(h:So op x y λz=>Q (.int z) U):
  aq B.mod A (j0 (OO op) (.int x t) (.int y u)) (PR B kU l_ Q U s) n_ s:=by
 rcases op with _|_
 case add=>exact h.elim
 case sub=>exact PySem.P.sub_int (PR.tok G h (Rv.int ..) _)
 case mul=>exact PySem.P.mul_int (PR.tok G h.2.2 (Rv.int ..) _) (IntMulOk.of_left (intBits_le_64 (by have:=h.1;exact Int.neg_lt_of_neg_lt (Int.lt_of_le_of_lt Int.le_natAbs (iK (aH.mpr ((Int.natAbs_neg _).symm▸this)) (by decide)))) (by have:=h.1;exact Int.lt_of_le_of_lt Int.le_natAbs (iK (aH.mpr this) (by decide)))))
 case fdiv=>exact PyProof.Rows.floordiv_int h.1 (PR.tok G h.2.2 (Rv.int ..) _) (.inl (PyProof.noPylong_small (cv h.2.1 (by decide))))
 case mod=>exact PyProof.Rows.mod_int' h.1 (PR.tok G h.2 (Rv.int ..) _)
 case pow=>
  obtain⟨rfl,rfl,h⟩:=h;exact PyProof.Rows.pow_int (by decide) (by decide+kernel) (PR.tok G h (Rv.int ..) _)
def SO(G:Gs B kU U s)(ra:Rv s.heap a va)(rb:Rv s.heap b vb)(h:Ve U op a b Q):
  aq B.mod A (j0 (OO op) va vb) (PR B kU l_ Q U s) n_ s:=by
 have num:(p8 a λx=>p8 b λy=>So op x y λz=>Q (.int z) U)->aq B.mod A (j0 (OO op) va vb) (PR B kU l_ Q U s) n_ s:=λh=>by
  obtain⟨x,t,h⟩:=sO h ra;obtain⟨y,u,h⟩:=sO h rb;exact SN G h
 rcases op with _|_
 case add=>exact SM G ra rb h
 all_goals exact num h
end
section
open PySem PySem.W PySem.Calls PyProof.Rows PySem.SeqAt PySem.MeetsSeq PySem.W.FB
variable {B:nX}{kU:List aD}{U:kO}{s:Shared}{A:bm}
section bytes
def qD:Slot "bytes" (cmpInfo .Eq).2.2 "bytes.__eq__":=slot_bytes_eq
def qE:Slot "bytes" (cmpInfo .NotEq).2.2 "bytes.__ne__":=slot_bytes_ne
def sub_NoneType_bytes:isSubtype (.type "NoneType") (.type "bytes")=pure false:=by refine J (eV ..) ?_;kernel_rfl
def ul(b:Array UInt8)(t:gN):Gives (Builtin.«NoneType.__eq__» ⟨[.none,.bytes b t],[]⟩) (.val (e9)):=
 .of_wp λM A E s Q h=>by obtain⟨hp,g,d,tk,os⟩:=s;wp_walk;exact⟨_,rfl,h⟩
def um(b:Array UInt8)(t:gN):Gives (Builtin.«NoneType.__ne__» ⟨[.none,.bytes b t],[]⟩) (.val (e9)):=
 .of_wp λM A E s Q h=>by obtain⟨hp,g,d,tk,os⟩:=s;wp_walk;exact⟨_,rfl,h⟩
def un(b:Array UInt8)(t:gN):Gives (Builtin.«bytes.__eq__» ⟨[.bytes b t,.none],[]⟩) (.val (e9)):=
 .of_wp λM A E s Q h=>by obtain⟨hp,g,d,tk,os⟩:=s;wp_walk;exact bE sub_NoneType_bytes (by simp only[Bool.not_false,if_true];exact aa (eF (ag ⟨_,rfl,h⟩)))
def uo(b:Array UInt8)(t:gN):Gives (Builtin.«bytes.__ne__» ⟨[.bytes b t,.none],[]⟩) (.val (e9)):=
 .of_wp λM A E s Q h=>by obtain⟨hp,g,d,tk,os⟩:=s;wp_walk;exact bE sub_NoneType_bytes (by simp only[Bool.not_false,if_true];exact aa (eF (ag ⟨_,rfl,h⟩)))
def sub_bytes_NoneType:isSubtype (.type "bytes") (.type "NoneType")=pure false:=by refine J (eV ..) ?_;kernel_rfl
def KC(b c:Array UInt8)(t u:gN):RcAt A s (.bytes b t) (.bytes c u) (b.toList==c.toList):=λprog w E Q h=>
 richCompare_gives (aX s b t) (aX s c u) slot_bytes_eq entry_bytes_eq (args_bytes_eq_2 _ _) (gives_bytes_eq b c t u) (by simp[Made.takes]) h
def H7(b c:Array UInt8)(t u:gN):RcNeAt A s (.bytes b t) (.bytes c u) (b.toList !=c.toList):=λprog w E Q h=>
 richCompare_gives (aX s b t) (aX s c u) slot_bytes_ne entry_bytes_ne (args_bytes_ne_2 _ _) (gives_bytes_ne b c t u) (by simp[Made.takes]) h
def zT(b:Array UInt8)(u:gN):RcAt A s .none (.bytes b u) false:=λprog w E Q h=>
 rc_eq_decline_or (k:=false) rfl (aX s b u) (by decide) sub_bytes_NoneType F.slot_NoneType_eq qD
  (λ_ hq=>cX F.slot_NoneType_eq rfl F.entry_NoneType_eq (F.args_NoneType_eq_2 _ _) (ul b u) hq)
  (λ_ hq=>cX qD (aX s b u) entry_bytes_eq (args_bytes_eq_2 _ _) (un b u) hq)
  (λ_ hq=>bE (rfl:isSame .none (.bytes b u)=pure false) hq) (.inl rfl) h
def zU(b:Array UInt8)(u:gN):RcAt A s (.bytes b u) .none false:=λprog w E Q h=>
 rc_eq_decline_or (k:=false) (aX s b u) rfl (by decide) sub_NoneType_bytes slot_bytes_eq kq
  (λ_ hq=>cX slot_bytes_eq (aX s b u) entry_bytes_eq (args_bytes_eq_2 _ _) (un b u) hq)
  (λ_ hq=>cX kq rfl F.entry_NoneType_eq (F.args_NoneType_eq_2 _ _) (ul b u) hq)
  (λ_ hq=>bE (rfl:isSame (.bytes b u) .none=pure false) hq) (.inl rfl) h
def yv(b:Array UInt8)(u:gN):RcNeAt A s .none (.bytes b u) true:=λprog w E Q h=>
 rc_ne_decline_or (k:=false) rfl (aX s b u) (by decide) sub_bytes_NoneType F.slot_NoneType_ne qE
  (λ_ hq=>cX F.slot_NoneType_ne rfl F.entry_NoneType_ne (F.args_NoneType_ne_2 _ _) (um b u) hq)
  (λ_ hq=>cX qE (aX s b u) entry_bytes_ne (args_bytes_ne_2 _ _) (uo b u) hq)
  (λ_ hq=>bE (rfl:isSame .none (.bytes b u)=pure false) hq) (.inl rfl) h
def yw(b:Array UInt8)(u:gN):RcNeAt A s (.bytes b u) .none true:=λprog w E Q h=>
 rc_ne_decline_or (k:=false) (aX s b u) rfl (by decide) sub_NoneType_bytes slot_bytes_ne kn
  (λ_ hq=>cX slot_bytes_ne (aX s b u) entry_bytes_ne (args_bytes_ne_2 _ _) (uo b u) hq)
  (λ_ hq=>cX kn rfl F.entry_NoneType_ne (F.args_NoneType_ne_2 _ _) (um b u) hq)
  (λ_ hq=>bE (rfl:isSame (.bytes b u) .none=pure false) hq) (.inl rfl) h
end bytes
theorem uq:∀{a b:List UInt8},a.map aL=b.map aL->a=b
 |[],[],_=>rfl
 |[],_::_,h=>nomatch h
 |_::_,[],h=>nomatch h
 |x::a,y::b,h=>by
  simp only[aK,List.cons.injEq]at h;exact J (i9.mp h.1 ..) (J (uq h.2 ..) rfl)
def toArr{α:Type}{a b:List α}(h:a.toArray=b.toArray):a=b:=by simpa using congrArg iM h
def pz.eq(p:pz h a x)(q:pz h a y):x=y:=by
 obtain⟨n,p⟩:=p;obtain⟨m,q⟩:=q;have e:some _=some _:=p.symm.trans q;clear q;cases e;rfl
inductive BK(n:Nat):PV->PV->Bool->Prop
 |none:BK n .none .none true
 |RD (x:Int):BK n .none (.int x) false
 |RE (x:NL):BK n .none (.str x) false
 |RF (x:NL):BK n .none (.bytes x) false
 |RG (x:List PV):BK n .none (.tup x) false
 |VX (x:Int):BK n (.int x) .none false
 |strN (x:NL):BK n (.str x) .none false
 |KD (x:NL):BK n (.bytes x) .none false
 |VY (x:List PV):BK n (.tup x) .none false
 |bool (x y:Bool):BK n (.bool x) (.bool y) (x==y)
 |int (x y:Int):BK n (.int x) (.int y) (x==y)
 |str (x y:NL):BK n (.str x) (.str y) (x==y)
 |bytes (x y:NL):BK n (.bytes x) (.bytes y) (x==y)
 |tup (x y:List PV) (r:Bool) (hl:x.length=y.length) (h:w5 (vg n) x y=some r):BK n (.tup x) (.tup y) r
 |SQ (x y:List PV) (hl:x.length≠y.length) (h:x=[]\/y=[]):BK n (.tup x) (.tup y) false
def SU(e:(if x.length=y.length then w5 (vg n) x y else if x.isEmpty||y.isEmpty then some false else .none)=some r):BK n (.tup x) (.tup y) r:=by
 split at e
 ·exact .tup x y r (by assumption) e
 split at e
 ·rename_i h1 h2;obtain rfl:=af e;exact .SQ x y h1 (by simpa using h2)
 exact lx e
def GJ(e:vg (n+1) p q=some r):BK n p q r:=by
 have go:∀{b:Bool},some b=some r->BK n p q b->BK n p q r:=λh k=>af h▸k;rcases p with _|_
 case none=>rcases q with _|_<;>first|exact lx e|exact go e (by constructor)
 case bool=>rcases q with _|_<;>first|exact lx e|exact go e (by constructor)
 case int=>rcases q with _|_<;>first|exact lx e|exact go e (by constructor)
 case str=>rcases q with _|_<;>first|exact lx e|exact go e (by constructor)
 case bytes=>rcases q with _|_<;>first|exact lx e|exact go e (by constructor)
 case tup=>rcases q with _|_<;>first|exact SU e|exact lx e|exact go e (by constructor)
 all_goals exact lx e
def aan{α β:Type}(h:o.bind f=some r):∃a,o=some a/\f a=some r:=jF.mp h
theorem H8(hf:∀{p q:PV}{v:Value}{r:Bool},Rv h p v->Rv h q v->f p q=some r->r=true):
  ∀{ps qs:List PV}{vs:List Value}{r:Bool},lR h ps vs->lR h qs vs->w5 f ps qs=some r->r=true:=by
 intro ps
 induction ps with
 |nil=>
  intro qs vs r a b e;rcases qs with _|_
  ·exact(af e).symm
  dsimp only[lR]at a b;subst a;obtain⟨_,_,z,_⟩:=b;contradiction
 |cons x ps ih=>
  intro qs vs r a b e;obtain⟨u,us,a1,a2⟩:=lR.ni a;rcases qs with _|⟨y,qs⟩
  ·dsimp only[lR]at b;contradiction
  dsimp only[lR]at b;refine lr λGp gk=>?_;obtain⟨u',us',z,b1,b2⟩:=b;rcases z with _|_
  refine lS e λp e1 e=>?_;refine lS e λq e2 e=>?_;refine gk ?_;refine rr (af e ..) (J (hf a1 b1 e1 ..) (J (ih a2 b2 e2 ..) ?_));rfl
set_option tactic.hygienic true in
def Dp{h:Heap}:∀(n:Nat) {p q:PV}{v:Value}{r:Bool},Rv h p v->Rv h q v->vg n p q=some r->r=true:=by
 intro z9
 induction z9 with
 |zero=>
  intro _ _ _ _ _ _ e;exact lx e
 |succ n ih=>
  intro p q v r rp rq e;rcases GJ e with _|_
  case none=>rfl
  case RD=>obtain rfl:=rp.of_none;obtain⟨_,z⟩:=rq.nR;contradiction
  case RE=>obtain rfl:=rp.of_none;obtain⟨_,z⟩:=rq.mz;contradiction
  case RF=>obtain rfl:=rp.of_none;obtain⟨_,_,z,_⟩:=rq.l8;contradiction
  case RG=>obtain rfl:=rp.of_none;obtain⟨_,_,z,_⟩:=rq.mJ;contradiction
  case VX=>obtain rfl:=rq.of_none;obtain⟨_,z⟩:=rp.nR;contradiction
  case strN=>obtain rfl:=rq.of_none;obtain⟨_,z⟩:=rp.mz;contradiction
  case KD=>obtain rfl:=rq.of_none;obtain⟨_,_,z,_⟩:=rp.l8;contradiction
  case VY=>obtain rfl:=rq.of_none;obtain⟨_,_,z,_⟩:=rp.mJ;contradiction
  case bool=>clear e;obtain rfl:=rp.r8;have z:=rq.r8;clear rq;rcases z with _|_;exact beq_self_eq_true _
  case int=>clear e;obtain⟨_,rfl⟩:=rp.nR;obtain⟨_,z⟩:=rq.nR;clear rq;rcases z with _|_;exact beq_self_eq_true _
  case str=>obtain⟨_,rfl⟩:=rp.mz;obtain⟨_,z⟩:=rq.mz;injection z with z _;injection z with z;exact beq_iff_eq.mpr (toArr z)
  case bytes=>clear e;obtain⟨_,_,rfl,rfl⟩:=rp.l8;obtain⟨_,_,z,rfl⟩:=rq.l8;injection z with z _;exact J (toArr z ..) (beq_self_eq_true _)
  case tup hl e=>
   refine lr λGp gk=>?_;obtain⟨_,_,rfl,f,g⟩:=rp.mJ;obtain⟨_,_,z,f',g'⟩:=rq.mJ;rcases z with _|_
   rw[←toArr (f.eq f')]at g';refine gk ?_;exact H8 (ih) g g' e
  case SQ hl h=>
   refine lr λGp gk=>?_;obtain⟨_,_,rfl,f,g⟩:=rp.mJ;obtain⟨_,_,z,f',g'⟩:=rq.mJ;rcases z with _|_
   rw[←toArr (f.eq f')]at g';refine gk ?_;exact absurd (g.length.symm.trans g'.length) hl
abbrev pW(A:bm)(n:Nat):Prop:=A.units+n<cLine
def pW.in1(r:pW A (n+1)):pW A.in1 n:=by
 refine(?_:A.units+1+n<cLine);refine J (iI ..) ?_;exact r
def pW.here(r:pW A n):A.units<cLine:=a8 (aM ..) r
def EqAt.of_rc(hf:∀x t,a≠.float x t)(h:RcAt A s a b k)(hs:a=b->k=true):EqAt A s a b k:=λprog w E Q hq=>by
 dsimp only[eqBool];refine ax ?_;refine wpAny_ite_split (λVZ=>?_) (λ_=>?_)
 ·rw[hs (eq_of_beq VZ)]at hq;exact aa (eF (ag hq))
 rcases a with _|_
 case float=>exact absurd rfl (hf _ _)
 all_goals exact aa (h prog w E _ (eS hq))
def pz.tuple(p:pz h a x):h.IsTuple a x:=by
 obtain⟨n,p⟩:=p;exact⟨_,p,rfl,n,rfl⟩
theorem KE:∀{x y:List PV}{r:Bool},x.length=y.length->w5 f x y=some r->
  ∃e:Nat->Bool,(∀j p q,x[j]? =some p->y[j]? =some q->f p q=some (e j))/\(cH x.length).all e=r:=by
 intro x
 induction x with
 |nil=>
  intro y r hl h;obtain rfl:y=[]:=gA.mp hl.symm;exact⟨λ_=>true,λj p q hp=>(nomatch hp),af h⟩
 |cons a x ih=>
  intro y r hl h;rcases y with _|⟨b,y⟩
  ·contradiction
  refine lr λGp gk=>?_;refine lS h λp e1 h=>?_;refine lS h λq e2 h=>?_;obtain⟨e,he,hr⟩:=ih (gj hl) e2;refine gk ?_;refine⟨λj=>match j with|0=>p|j+1=>e j,λj p' q' hp hq=>?_,?_⟩
  ·rcases j with _|j
   ·obtain rfl:=af hp;obtain rfl:=af hq;exact e1
   exact he j p' q' hp hq
  refine J (au ..) (J (jT ..) (J (ce ..) (J (List.all_map ..) (rr (af h ..) (rr (hr ..) ?_)))));rfl
set_option tactic.hygienic true in
def kinds(r:Rv h p v)(hp:∀w,p≠.raw w):∀x t,v≠.float x t:=by
 intro x t e;subst e;rcases p with _|_<;>dsimp only[Rv]at r
 case raw w=>exact hp w rfl
 all_goals first
  |exact nomatch r
  |(obtain⟨_,z⟩:=r;exact nomatch z)
  |(obtain⟨_,_,z,_⟩:=r;exact nomatch z)
def GK(e:vg n p q=some r):∀w,p≠.raw w:=by
 intro w h;subst h;rcases n with _|_<;>exact lx e
def wc(A:bm)(s:Shared)(a b:Value)(r:Bool):Prop:=RcAt A s a b r/\RcNeAt A s a b (!r)
def item_at(g:lR h x vs)(hj:j<vs.length):∃p,x[j]? =some p/\Rv h p vs[j]:=by
 have hx:j<x.length:=rr (g.length ..) hj;obtain⟨v,gv,rv⟩:=g.get (aT hx);rw[aT hj]at gv;exact⟨_,aT hx,af gv▸rv⟩
def SW(ih:∀{A:bm}{p q:PV}{a b:Value}{r:Bool},pW A n->Rv s.heap p a->Rv s.heap q b->vg n p q=some r->wc A s a b r)(hu:pW A (n+1))
  (f:pz s.heap a vs.toArray) (g:lR s.heap x vs) (f':pz s.heap b us.toArray) (g':lR s.heap y us) (hl:x.length=y.length) (e:w5 (vg n) x y=some r):wc A s (.ref a) (.ref b) r:=by
 obtain⟨ee,he,hr⟩:=KE hl e;have at':∀j (h1:j<vs.toArray.size) (h2:j<us.toArray.size),EqAt A.in1 s vs.toArray[j] us.toArray[j] (ee j):=λj h1 h2=>by
  refine lr λGp gk=>?_;obtain⟨p,ep,rv⟩:=item_at g (j:=j) h1;obtain⟨q,eq,ru⟩:=item_at g' (j:=j) h2;have e1:=he j _ _ ep eq;refine gk ?_;exact EqAt.of_rc (kinds rv (GK e1)) (ih hu.in1 rv ru e1).1 λq=>Dp n rv (q▸ru) e1
 have hs:vs.toArray.size=us.toArray.size:=g.length.trans (hl.trans g'.length.symm);have hz:((cH (min vs.toArray.size us.toArray.size)).all ee&&vs.toArray.size==us.toArray.size)=r:=by
  refine rr (hs ..) (J (kc ..) (J (beq_self_eq_true ..) (J (gr ..) (rr (hr ..) (rr (g.length ..) ?_)))));rfl
 have w1:=RcAt.tuples f.tuple f'.tuple hu.here at';have w2:=RcNeAt.tuples f.tuple f'.tuple hu.here at';rw[hz]at w1 w2;exact⟨w1,w2⟩
def OR(hu:A.units<cLine)
  (f:pz s.heap a vs.toArray) (g:lR s.heap x vs) (f':pz s.heap b us.toArray) (g':lR s.heap y us) (hl:x.length≠y.length) (hm:x=[]\/y=[]):wc A s (.ref a) (.ref b) false:=by
 have Ze:min vs.toArray.size us.toArray.size=0:=by
  rcases hm with h|h
  ·exact cO (ah (db (g.length.trans (by refine J (h ..) ?_;rfl))) (aO _))|>.trans (g.length.trans (by refine J (h ..) ?_;rfl))
  exact gE (ah (db (g'.length.trans (by refine J (h ..) ?_;rfl))) (aO _))|>.trans (g'.length.trans (by refine J (h ..) ?_;rfl))
 have at':∀j (h1:j<vs.toArray.size) (h2:j<us.toArray.size),EqAt A.in1 s vs.toArray[j] us.toArray[j] ((λ_=>true) j):=λj h1 h2=>absurd (Nat.lt_min.mpr ⟨h1,h2⟩) (J (Ze ..) (Nat.not_lt_zero _));have sP:(vs.toArray.size==us.toArray.size)=false:=beq_eq_false_iff_ne.mpr λe=>hl (g.length.symm.trans (Eq.trans e g'.length));have hz:((cH (min vs.toArray.size us.toArray.size)).all (λ_=>true)&&vs.toArray.size==us.toArray.size)=false:=J (sP ..) (J (fX ..) rfl);have w1:=RcAt.tuples f.tuple f'.tuple hu at';have w2:=RcNeAt.tuples f.tuple f'.tuple hu at';rw[hz]at w1 w2;exact⟨w1,w2⟩
def str_beq(x y:NL):(x==y)=((⟨x.toArray⟩:Str)==⟨y.toArray⟩):=by
 refine ri (a0 ..) (ri (beq_iff_eq ..) (ri (beq_iff_eq ..) ?_));exact⟨λh=>by rw[h],λh=>toArr (Str.mk.inj h)⟩
def H9(x y:List UInt8):(x.map aL==y.map aL)=(x.toArray.toList==y.toArray.toList):=by
 refine ri (a0 ..) (ri (beq_iff_eq ..) (ri (beq_iff_eq ..) ?_));exact⟨λh=>uq h,λh=>congrArg (kB aL) h⟩
set_option tactic.hygienic true in
def Dq:∀(n:Nat) {A:bm}{p q:PV}{a b:Value}{r:Bool},pW A n->Rv s.heap p a->Rv s.heap q b->vg n p q=some r->wc A s a b r:=by
 intro z9
 induction z9 with
 |zero=>
  intro _ _ _ _ _ _ _ _ _ e;exact lx e
 |succ n ih=>
  intro A p q a b r hu rp rq e;cases GJ e
  case none=>obtain rfl:=rp.of_none;obtain rfl:=rq.of_none;exact⟨RcAt.none_none,RcNeAt.none_none⟩
  case RD=>obtain rfl:=rp.of_none;obtain⟨_,rfl⟩:=rq.nR;exact⟨RcAt.none_int _ _,RcNeAt.none_int _ _⟩
  case RE=>obtain rfl:=rp.of_none;obtain⟨_,rfl⟩:=rq.mz;exact⟨RcAt.none_str _ _,RcNeAt.none_str _ _⟩
  case RF=>obtain rfl:=rp.of_none;obtain⟨_,_,rfl,_⟩:=rq.l8;exact⟨zT _ _,yv _ _⟩
  case RG=>obtain rfl:=rp.of_none;obtain⟨_,_,rfl,t,_⟩:=rq.mJ;exact⟨RcAt.none_tuple t.tuple hu.here,RcNeAt.none_tuple t.tuple hu.here⟩
  case VX=>obtain rfl:=rq.of_none;obtain⟨_,rfl⟩:=rp.nR;exact⟨RcAt.int_none _ _,RcNeAt.int_none _ _⟩
  case strN=>obtain rfl:=rq.of_none;obtain⟨_,rfl⟩:=rp.mz;exact⟨RcAt.str_none _ _,RcNeAt.str_none _ _⟩
  case KD=>obtain rfl:=rq.of_none;obtain⟨_,_,rfl,_⟩:=rp.l8;exact⟨zU _ _,yw _ _⟩
  case VY=>obtain rfl:=rq.of_none;obtain⟨_,_,rfl,t,_⟩:=rp.mJ;exact⟨RcAt.tuple_none t.tuple hu.here,RcNeAt.tuple_none t.tuple hu.here⟩
  case bool=>obtain rfl:=rp.r8;obtain rfl:=rq.r8;exact⟨RcAt.bool_bool _ _,RcNeAt.bool_bool _ _⟩
  case int=>obtain⟨_,rfl⟩:=rp.nR;obtain⟨_,rfl⟩:=rq.nR;exact⟨RcAt.int_int _ _ _ _,RcNeAt.int_int _ _ _ _⟩
  case str=>obtain⟨_,rfl⟩:=rp.mz;obtain⟨_,rfl⟩:=rq.mz;exact J (str_beq ..) (⟨RcAt.str_str _ _ _ _,RcNeAt.str_str _ _ _ _⟩)
  case bytes=>clear e;obtain⟨_,_,rfl,rfl⟩:=rp.l8;obtain⟨_,_,rfl,rfl⟩:=rq.l8;exact J (H9 ..) (⟨KC _ _ _ _,H7 _ _ _ _⟩)
  case tup hl e=>
   obtain⟨_,_,rfl,f,g⟩:=rp.mJ;obtain⟨_,_,rfl,f',g'⟩:=rq.mJ;exact SW (ih) hu f g f' g' hl e
  case SQ hl h=>
   obtain⟨_,_,rfl,f,g⟩:=rp.mJ;obtain⟨_,_,rfl,f',g'⟩:=rq.mJ;exact OR hu.here f g f' g' hl h
def SY(n:Nat)(hu:pW A n)(rp:Rv s.heap p a)(rq:Rv s.heap q b)(e:vg n p q=some r):RcAt A s a b r/\RcNeAt A s a b (!r):=Dq n hu rp rq e
end
section
open PySem PySem.W PySem.Calls PyProof.Rows PySem.SeqAt PySem.MeetsSeq PySem.W.FB
variable {B:nX}{kU:List aD}{U:kO}{s:Shared}{A:bm}
noncomputable abbrev nX.K(B:nX):=strKind B.prog B.w
def wd:sk a=sk b↔a=b:=by
 constructor
 ·intro h;injection h with h;exact toArr h
 intro h;exact J (h ..) rfl
noncomputable def DL(h:Heap):List (NL×PV)->List (Str×Value)->Prop
 |[],kvs=>kvs=[]
 |(k,p)::r,kvs=>∃v yx,kvs=(sk k,v)::yx/\Rv h p v/\DL h r yx
def DL.keys:∀{es:List (NL×PV)}{kvs:List (Str×Value)},DL h es kvs->kvs.map (·.1)=es.map λe=>sk e.1:=by
 intro z9
 induction z9 with
 |nil=>
  intro _ r;dsimp only[DL]at r;subst r;rfl
 |cons y9 es ih=>
  intro _ r;obtain⟨k,p⟩:=y9;dsimp only[DL]at r;obtain⟨v,yx,rfl,_,r⟩:=r;simp[ih r]
def DL.nodup(r:DL h es kvs)(n:(es.map (·.1)).Nodup):(kvs.map (·.1)).Nodup:=by
 refine J (r.keys ..) ?_;have:=List.Pairwise.map (S:=λa b=>a≠b) sk (λa b VZ e=>VZ (wd.mp e)) n;rw[bU]at this;exact this
def DL.SZ(r:DL h es kvs)(n:(kvs.map (·.1)).Nodup):(es.map (·.1)).Nodup:=by
 rw[r.keys]at n;have e:(es.map λe=>sk e.1)=(es.map (·.1)).map sk:=by simp
 rw[e]at n;exact List.Pairwise.of_map sk (λa b VZ e=>VZ (J (e ..) rfl)) n
def DL.length(r:DL h es kvs):kvs.length=es.length:=by
 have:=congrArg aZ r.keys
 simpa using this
def DL.keep(k:TK h h'):∀{es:List (NL×PV)}{kvs:List (Str×Value)},DL h es kvs->DL h' es kvs:=by
 intro z9
 induction z9 with
 |nil=>
  intro _ r;dsimp only[DL]at r ⊢;exact r
 |cons y9 es ih=>
  intro _ r;obtain⟨a,p⟩:=y9;dsimp only[DL]at r ⊢;refine lr λGp gk=>?_;obtain⟨v,yx,e,r1,r2⟩:=r;refine gk ?_;exact⟨v,yx,e,r1.keep k,ih r2⟩
def vw(k:Str)(v:Value)(r:List (Str×Value))(x:Str):valueAt ((k,v)::r) x=if k=x then some v else valueAt r x:=by
 dsimp only[valueAt];refine J (dh ..) ?_
 by_cases h:k=x<;>simp[h]
def DL.some:∀{es:List (NL×PV)}{kvs:List (Str×Value)},DL h es kvs->es.lookup k=some p->∃v,valueAt kvs (sk k)=some v/\Rv h p v:=by
 intro z9
 induction z9 with
 |nil=>
  intro _ _ e;simp at e
 |cons y9 es ih=>
  intro _ r e;obtain⟨a,q⟩:=y9;dsimp only[DL]at r;obtain⟨v,yx,rfl,r1,r2⟩:=r;refine J (vw ..) ?_;rw[aQ]at e
  by_cases hk:a=k
  ·subst hk;simp at e;subst e;exact⟨v,by simp,r1⟩
  have:(k==a)=false:=by simpa using λh=>hk h.symm
  rw[this]at e;obtain⟨v',e1,e2⟩:=ih r2 e;exact⟨v',J (if_neg (λh=>hk (wd.mp h)) ..) e1,e2⟩
def DL.no:∀{es:List (NL×PV)}{kvs:List (Str×Value)},DL h es kvs->es.lookup k=.none->valueAt kvs (sk k)=.none:=by
 intro z9
 induction z9 with
 |nil=>
  intro _ r _;dsimp only[DL]at r;subst r;rfl
 |cons y9 es ih=>
  intro _ r e;obtain⟨a,q⟩:=y9;dsimp only[DL]at r;obtain⟨v,yx,rfl,r1,r2⟩:=r;refine J (vw ..) ?_;rw[aQ]at e
  by_cases hk:a=k
  ·subst hk;simp at e
  have:(k==a)=false:=by simpa using λh=>hk h.symm
  rw[this]at e;refine J (if_neg (λh=>hk (wd.mp h)) ..) ?_;exact ih r2 e
def yz(k:Str)(v u:Value)(r:List (Str×Value))(n:k∉r.map (·.1)):stored ((k,u)::r) k v=(k,v)::r:=by
 dsimp only[stored];refine J (if_pos (by simp) ..) ?_;simp only[aK,if_pos];exact J (map_store_of_not_mem r k v n ..) rfl
def yA(k a:Str)(v u:Value)(r:List (Str×Value))(n:a≠k):stored ((a,u)::r) k v=(a,u)::stored r k v:=by
 dsimp only[stored];have:(List.any ((a,u)::r) λkv=>decide (kv.1=k))=List.any r λkv=>decide (kv.1=k):=by simp[n]
 refine J (this ..) ?_
 split
 ·simp[n]
 rfl
def DL.put(e:Rv h p v):∀{es:List (NL×PV)}{kvs:List (Str×Value)},DL h es kvs->(es.map (·.1)).Nodup->DL h (xQ k p es) (stored kvs (sk k) v):=by
 intro z9
 induction z9 with
 |nil=>
  intro _ r _;dsimp only[DL]at r;subst r;refine(?_:∃u kvs,_=_::kvs/\Rv h p u/\DL h [] kvs);exact⟨v,[],rfl,e,rfl⟩
 |cons y9 es ih=>
  intro _ r n;obtain⟨a,q⟩:=y9;dsimp only[DL]at r;obtain⟨u,yx,rfl,r1,r2⟩:=r;have n':(es.map (·.1)).Nodup:=(fq.mp n).2;dsimp only[xQ]
  by_cases hk:a=k
  ·subst hk;rw[yz _ _ _ _ (by
    have:=r2.keys;refine J (this ..) ?_;intro hm;rw[dP]at hm;obtain⟨x,hx,hxe⟩:=hm;exact(fq.mp n).1 (dP.mpr ⟨x,hx,wd.mp hxe⟩)),if_pos rfl]
   dsimp only[DL];exact⟨v,yx,rfl,e,r2⟩
  refine J (yA _ _ _ _ _ (λh=>hk (wd.mp h)) ..) (J (if_neg hk ..) ?_);dsimp only[DL];exact⟨u,_,rfl,r1,ih r2 n'⟩
def Dr(k:NL)(p:PV):∀es:List (NL×PV),(xQ k p es).map (·.1)=if k∈es.map (·.1)then es.map (·.1)else es.map (·.1)++[k]:=by
 intro z9
 induction z9 with
 |nil=>
  exact rfl
 |cons y9 es ih=>
  obtain⟨a,q⟩:=y9;dsimp only[xQ]
  by_cases hk:a=k
  ·subst hk;simp
  refine J (if_neg hk ..) (J (aK ..) (J (ih ..) ?_));have:k≠a:=λh=>hk h.symm
  by_cases hm:k∈es.map (·.1)
  ·refine J (if_pos hm ..) (J (if_pos (by simp only[aK];exact ay _ hm) ..) ?_);rfl
  refine J (if_neg hm ..) (J (if_neg (by simp only[aK,aU,not_or];exact⟨this,hm⟩) ..) ?_);rfl
def xv(k:NL)(p:PV)(es:List (NL×PV)):(xQ k p es).length<=es.length+1:=by
 have:=congrArg aZ (Dr k p es);simp only[ai]at this;refine J (this ..) ?_
 split<;>simp
def E7(h:Heap):∀(es:List (NL×PV)) (l:List bY),oy B.w.params h es l->∃kvs,Pairs B.K l kvs/\DL h es kvs/\∀e∈l,∃k,(B.K).is k e.key=true/\e.hash=(B.K).hash k:=by
 intro z9
 induction z9 with
 |nil=>
  intro l r;dsimp only[oy]at r;subst r;exact⟨[],.nil,rfl,λ_ h=>nomatch h⟩
 |cons y9 es ih=>
  intro l r;obtain⟨k,p⟩:=y9;dsimp only[oy]at r;refine lr λGp gk=>?_;obtain⟨t,v,u0,rfl,r1,r2⟩:=r;obtain⟨kvs,a,b,c⟩:=ih u0 r2;refine gk ?_;refine⟨(sk k,v)::kvs,.cons (fx B.prog B.w _ t) rfl a,by dsimp only[DL];exact⟨v,kvs,rfl,r1,b⟩,λe he=>?_⟩;rcases aU.mp he with rfl|he
  ·exact⟨sk k,fx B.prog B.w _ t,rfl⟩
  exact c e he
def E8(h:Heap):∀(es:List (NL×PV)) (l:List bY) (kvs:List (Str×Value)),Pairs B.K l kvs->DL h es kvs->(∀e∈l,∃k,(B.K).is k e.key=true/\e.hash=(B.K).hash k)->oy B.w.params h es l:=by
 intro z9
 induction z9 with
 |nil=>
  intro l kvs a b _;dsimp only[DL]at b;subst b;cases a;rfl
 |cons y9 es ih=>
  intro l kvs a b c;obtain⟨k,p⟩:=y9;dsimp only[DL]at b;obtain⟨v,yx,rfl,b1,b2⟩:=b;cases a with
  | @cons e _ l' _ a1 a2 a3=>
   dsimp only[oy];obtain⟨t,ht⟩:=Value.isStrOf_shape a1;obtain⟨k',GL,S2⟩:=c e (aj ..);have OS:k'=sk k:=Value.isStrOf_inj _ _ _ GL a1;clear GL;subst OS;refine⟨t,v,l',?_,b1,ih l' yx a3 b2 λe he=>c e (ay _ he)⟩;clear b1 c;obtain⟨eh,ek,ev⟩:=e;simp only at ht a2 S2;clear a1;subst ht;subst a2;subst S2;rfl
def Gs.dict(G:Gs B kU U s)(e:U a=some (.dict es)):∃kvs,s.heap.DictOf B.K a kvs/\DL s.heap es kvs/\es.length<=1000/\(es.map (·.1)).Nodup:=by
 refine lr λGp gk=>?_;obtain⟨_,o,ho,l,n,rfl,r,hn,hl⟩:=G.own.obj a _ e;obtain⟨kvs,p,d,c⟩:=E7 (B:=B) s.heap es l r;refine gk ?_;exact⟨kvs,⟨_,l.toArray,n,ho,⟨rfl,rfl,rfl⟩,rfl,λe he=>c e (by simpa using he),by simpa using p,d.nodup hn⟩,d,hl,hn⟩
def Gs.t7(G:Gs B kU U s){es:List (NL×PV)}{P:Prop}(e:U a=some (.dict es))(k:∀kvs,s.heap.DictOf B.K a kvs->DL s.heap es kvs->es.length<=1000->(es.map (·.1)).Nodup->P):P:=by obtain⟨kvs,h1,h2,h3,h4⟩:=G.dict e;exact k kvs h1 h2 h3 h4
def BL(D:h.DictOf B.K a kvs)(d:DL h es kvs)(hl:es.length<=1000):∃o,h.get? a=some o/\Ro B.w.params h o (.dict es):=by
 refine lr λGp gk=>?_;obtain⟨⟨c,dd,dt,sl⟩,l,ep,ho,⟨x1,x2,x3⟩,hd,hk,hp,hn⟩:=D;simp only at x1 x2 x3 hd;subst x1;subst x2;subst x3;subst hd;refine gk ?_;exact⟨_,ho,l.toList,ep,by simp,E8 h es l.toList kvs hp d (λe he=>hk e (by simpa using he)),d.SZ hn,hl⟩
end
section
open PySem PySem.W PySem.Calls PyProof.Rows PySem.SeqAt PySem.MeetsSeq PySem.W.FB PySem.W.KBy
variable {B:nX}{kU:List aD}{U:kO}{s:Shared}{A:bm}
structure Good0(B:nX):Prop where
 sys:B.H0.get? sysModules≠.none
def Good0.ne(g:Good0 B)(G:Gs B kU U s)(e:U a=some mo)(nf:∀l,mo≠.Aj l):(a==sysModules)=false:=by
 have h1:=G.own.own e nf;simp only[beq_eq_false_iff_ne];intro h;rw[h]at h1;exact g.sys h1
def Ds(i:Int)(u:gN):asIndex (.int i u)=pure i:=rfl
def pX(b:Array UInt8)(t:gN)(i:Int)(u:gN)(h0:0<=i)(h1:i<256):Gives (Builtin.«bytes.__contains__» ⟨[.bytes b t,.int i u],[]⟩) (.val (.bool (b.contains i.toNat.toUInt8))):=by
 refine .of_wp λM A E s Q hq=>?_;refine(?_:aq M A (iE "bytes.__contains__" (.bytes b t) (.int i u)>>=λr=>_) _ E s);refine aa ?_;dsimp only[iE];refine J (Ds ..) ?_;refine aa (wpAny_attempt (ag ?_));refine aa (bE buffer_eq ?_);refine(?_:aq M A (if(decide (i<0)||decide (i>=256))=true then _ else _) _ E s);have e1:decide (i<0)=false:=by simpa using h0
 have e2:decide (i>=256)=false:=by simpa using h1
 refine J (e1 ..) (J (e2 ..) ?_);exact ag (ag ⟨_,rfl,hq⟩)
def KF{l:List UInt8}{E:Value->Shared->Prop}{Q:Value->Shared->Prop}(h0:0<=i)(h1:i<256)(h:Q (.bool ((l.map aL).contains i.toNat)) s):
  aq B.mod A (dE .In (.int i u) (.bytes l.toArray t)) Q E s:=by
 refine in_gives (aX s _ t) slot_bytes_contains entry_bytes_contains (args_bytes_contains_2 _ _) (pX _ t i u h0 h1) ?_;have e:l.toArray.contains i.toNat.toUInt8=(l.map aL).contains i.toNat:=by
  refine J (gS ..) ?_;refine ri (a0 ..) (ri (bj ..) (ri (bj ..) (ri (dP ..) ?_)));constructor
  ·intro hm;exact⟨_,hm,by exact npb h1⟩
  rintro⟨x,hx,e⟩;have:i.toNat.toUInt8=x:=by
   exact rr (e ..) UInt8.ofNat_toNat
  exact J (this ..) hx
 exact J (e ..) h
def Dt{l:List UInt8}{E:Value->Shared->Prop}{Q:Value->Shared->Prop}(h0:0<=i)(h1:i<256)(h:Q (.bool (!(l.map aL).contains i.toNat)) s):
  aq B.mod A (dE .NotIn (.int i u) (.bytes l.toArray t)) Q E s:=by
 refine notIn_gives (aX s _ t) slot_bytes_contains entry_bytes_contains (args_bytes_contains_2 _ _) (pX _ t i u h0 h1) ?_;have e:l.toArray.contains i.toNat.toUInt8=(l.map aL).contains i.toNat:=by
  refine J (gS ..) ?_;refine ri (a0 ..) (ri (bj ..) (ri (bj ..) (ri (dP ..) ?_)));constructor
  ·intro hm;exact⟨_,hm,by exact npb h1⟩
  rintro⟨x,hx,e⟩;have:i.toNat.toUInt8=x:=by
   exact rr (e ..) UInt8.ofNat_toNat
  exact J (this ..) hx
 exact J (e ..) h
theorem KG:∀x y:NL,zE x y=decide (x<y)
 |[],[]=>rfl
 |[],_::_=>rfl
 |_::_,[]=>rfl
 |a::x,b::y=>by
  dsimp only[zE]
  by_cases h:a=b
  ·subst h;refine J (if_pos rfl ..) (J (KG x y ..) ?_);refine ri (a0 ..) (ri (decide_eq_true_iff ..) (ri (decide_eq_true_iff ..) (ri (kh ..) ?_)));simp
  refine J (if_neg h ..) ?_;refine ri (a0 ..) (ri (decide_eq_true_iff ..) (ri (decide_eq_true_iff ..) (ri (kh ..) ?_)));simp[h]
noncomputable def Zf:HM->f7
 |.eq=>.Eq|.ne=>.NotEq|.lt=>.Lt|.le=>.LtE|.gt=>.Gt|.ge=>.GtE|.is=>.Is|.HN=>.IsNot|.isin=>.In|.qb=>.NotIn
def PB(s:Shared)(K:Bool->Prop):Value->Shared->Prop:=λv s'=>∃b t,v=.bool b/\s'={s with toks:=t}/\K b
def PB.here{K:Bool->Prop}(k:K b):PB s K (.bool b) s:=⟨b,s.toks,rfl,rfl,k⟩
def PB.tok{K:Bool->Prop}(k:K b)(t:Nat):PB s K (.bool b) {s with toks:=t}:=⟨b,t,rfl,rfl,k⟩
set_option tactic.hygienic true in
mutual
theorem As:∀{p q:PV}{v:Value},plain p=true->plain q=true->Rv h p v->Rv h q v->p=q
 |.ref _,_,_,a,_,_,_=>by contradiction
 |.raw _,_,_,a,_,_,_=>by contradiction
 |.none,q,v,_,b,r,r'=>by
  have e:=r.of_none;clear r;subst e;rcases q with _|_
  case none=>rfl
  case ref=>contradiction
  case raw=>contradiction
  all_goals (dsimp only[Rv]at r';first|exact nomatch r'|(obtain⟨_,z⟩:=r';exact nomatch z)|(obtain⟨_,_,z,_⟩:=r';exact nomatch z))
 |.bool x,q,v,_,b,r,r'=>by
  have e:=r.r8;clear r;subst e;rcases q with _|_
  case bool=>have:=r'.r8;(clear b r';injection this with this;subst this);rfl
  case ref=>contradiction
  case raw=>contradiction
  all_goals (dsimp only[Rv]at r';first|exact nomatch r'|(obtain⟨_,z⟩:=r';exact nomatch z)|(obtain⟨_,_,z,_⟩:=r';exact nomatch z))
 |.int x,q,v,_,b,r,r'=>by
  obtain⟨t,e⟩:=r.nR;clear r;subst e;rcases q with _|_
  case int=>clear b;obtain⟨u,e⟩:=r'.nR;(clear r';injection e with e;subst e);rfl
  case ref=>contradiction
  case raw=>contradiction
  all_goals (dsimp only[Rv]at r';first|exact nomatch r'|(obtain⟨_,z⟩:=r';exact nomatch z)|(obtain⟨_,_,z,_⟩:=r';exact nomatch z))
 |.str x,q,v,_,b,r,r'=>by
  obtain⟨t,e⟩:=r.mz;clear r;subst e;rcases q with _|_
  case str=>obtain⟨u,e⟩:=r'.mz;injection e with e _;injection e with e;rw[toArr e]
  case ref=>contradiction
  case raw=>contradiction
  all_goals (dsimp only[Rv]at r';first|exact nomatch r'|(obtain⟨_,z⟩:=r';exact nomatch z)|(obtain⟨_,_,z,_⟩:=r';exact nomatch z))
 |.bytes x,q,v,_,b,r,r'=>by
  obtain⟨l,t,e,f⟩:=r.l8;clear r;subst e;rcases q with _|_
  case bytes=>obtain⟨l',u,e,f'⟩:=r'.l8;injection e with e _;rw[←f,←f',toArr e]
  case ref=>contradiction
  case raw=>contradiction
  all_goals (dsimp only[Rv]at r';first|exact nomatch r'|(obtain⟨_,z⟩:=r';exact nomatch z)|(obtain⟨_,_,z,_⟩:=r';exact nomatch z))
 |.tup x,q,v,a,b,r,r'=>by
  obtain⟨t,vs,e,f,g⟩:=r.mJ;clear r;subst e;rcases q with _|_
  case tup y=>
   obtain⟨t',r7,e,f',g'⟩:=r'.mJ
   (injection e with e;subst e)
   have z:=toArr (f.eq f');clear f';subst z;exact J (yB (by dsimp only[plain]at a;exact a) (by dsimp only[plain]at b;exact b) g g' ..) rfl
  case ref=>contradiction
  case raw=>contradiction
  all_goals (dsimp only[Rv]at r';first|exact nomatch r'|(obtain⟨_,z⟩:=r';exact nomatch z)|(obtain⟨_,_,z,_⟩:=r';exact nomatch z))
theorem yB:∀{ps qs:List PV}{vs:List Value},Bi ps=true->Bi qs=true->lR h ps vs->lR h qs vs->ps=qs
 |[],[],_,_,_,_,_=>rfl
 |[],_::_,_,_,_,r,r'=>by
  dsimp only[lR]at r r';subst r;obtain⟨_,_,z,_⟩:=r';contradiction
 |_::_,[],_,_,_,r,r'=>by
  dsimp only[lR]at r r';subst r';obtain⟨_,_,z,_⟩:=r;contradiction
 |p::ps,q::qs,_,a,b,r,r'=>by
  dsimp only[lR]at r r';refine lr λGp gk=>?_;obtain⟨v,vs,rfl,r1,r2⟩:=r;obtain⟨v',r7,z,q1,q2⟩:=r';rcases z with _|_
  replace a:=az.mp a;replace b:=az.mp b;refine gk ?_;exact J (As a.1 b.1 r1 q1 ..) (J (yB a.2 b.2 r2 q2 ..) rfl)
end
def KH(hu:pW A n)(rp:Rv s.heap p a)(rq:Rv s.heap q b)(e:vg n p q=some r):EqAt A s a b r:=
 EqAt.of_rc (kinds rp (GK e)) (SY n hu rp rq e).1 λh=>by rw[←h]at rq;exact Dp n rp rq e
open Classical in
theorem vy(rx:Rv s.heap x vx)(hu:pW A 8):∃e:Value->Bool,∀{l:List PV}{vs:List Value}{r:Bool},lR s.heap l vs->pc x l=some r->
  (∀y∈vs,EqAt A s y vx (e y))/\vs.any e=r:=by
 refine⟨λy=>decide (∃p,plain p=true/\Rv s.heap p y/\vg 8 p x=some true),?_⟩;intro l
 induction l with
 |nil=>
  intro vs r J h;obtain rfl:=lR.q_ J;exact⟨λ_ h=>(nomatch h),af h⟩
 |cons y l ih=>
  intro vs r J h;obtain⟨v,r7,r1,r2⟩:=lR.ni J;clear J;rcases e0:plain y with _|_
  ·change (match plain y with|true=>(vg 8 y x).bind λp=>(pc x l).bind λq=>some (p||q)|false=>cM)=_ at h;rw[e0]at h;exact lx h
  change (match plain y with|true=>(vg 8 y x).bind λp=>(pc x l).bind λq=>some (p||q)|false=>cM)=_ at h;rw[e0]at h;refine lS h λp e1 h=>?_;refine lS h λq e2 h=>?_;obtain rfl:=af h;clear h;obtain⟨i1,i2⟩:=ih r2 e2;have hv:decide (∃p,plain p=true/\Rv s.heap p v/\vg 8 p x=some true)=p:=by
   clear h;induction p with
   |true=>exact decide_eq_true ⟨y,e0,r1,e1⟩
   |false=>
    refine decide_eq_false ?_;rintro⟨p',a,b,c⟩;rw[As a e0 b r1,e1]at c;contradiction
  refine⟨λz hz=>?_,by refine J (fa ..) (J (i2 ..) ?_);simp only[hv]⟩;rcases aU.mp hz with rfl|hz
  ·show EqAt A s z vx (decide _)
   exact J (hv ..) (KH hu r1 rx e1)
  exact i1 z hz
def S3(x:NL):(sk x).cps.toList=x:=by simp[sk]
def IsL.isList(p:IsL h a kX n):h.IsList a kX:=⟨_,p,rfl,n,rfl⟩
def E9(hu:A.units<cLine)(hn:x=[]\/y=[])(hl:IsL s.heap a vs.toArray n)(r:lR s.heap x vs)(yu:IsL s.heap b us.toArray m)(r':lR s.heap y us):
  wc A s (.ref a) (.ref b) (x.isEmpty&&y.isEmpty):=by
 have n1:=r.length;have n2:=r'.length;clear r r';rcases x with _|⟨p,x⟩
 ·clear hn;obtain rfl:=c0 n1;rcases y with _|⟨p,y⟩
  ·obtain rfl:=c0 n2;have z:∀j (h1:j<([]:List Value).toArray.size) (h2:j<([]:List Value).toArray.size),EqAt A.in1 s ([]:List Value).toArray[j] ([]:List Value).toArray[j] ((λ_=>true) j):=λj h=>absurd h (Nat.not_lt_zero _);exact⟨RcAt.lists (IsL.isList hl) (IsL.isList yu) rfl hu z,RcNeAt.lists (IsL.isList hl) (IsL.isList yu) rfl hu z⟩
  have hz:([]:List Value).toArray.size≠us.toArray.size:=λe=>Nat.succ_ne_zero _ (n2.symm.trans e.symm);exact⟨RcAt.lists_lengths (IsL.isList hl) (IsL.isList yu) (bne_iff_ne.mpr hz) hu,RcNeAt.lists_lengths (IsL.isList hl) (IsL.isList yu) (bne_iff_ne.mpr hz) hu⟩
 obtain rfl:=hn.resolve_left (List.cons_ne_nil _ _);obtain rfl:=c0 n2;have hz:vs.toArray.size≠([]:List Value).toArray.size:=λe=>Nat.succ_ne_zero _ (n1.symm.trans e);exact⟨RcAt.lists_lengths (IsL.isList hl) (IsL.isList yu) (bne_iff_ne.mpr hz) hu,RcNeAt.lists_lengths (IsL.isList hl) (IsL.isList yu) (bne_iff_ne.mpr hz) hu⟩
inductive EqB(A:bm)(s:Shared)(va vb:Value)(K:Bool->Prop):Prop
 |mk (r:Bool) (b:wc A s va vb r) (k:K r)
def GN{K:Bool->Prop}(G:Gs B kU U s)(hu:pW A 9)(ra:Rv s.heap a va)(rb:Rv s.heap b vb)(h:OG U a b K):EqB A s va vb K:=by
 have hu8:pW A 8:=a8 (bK (by decide) _) hu;have data:lv (vg 8 a b) K->EqB A s va vb K:=λh=>by
  refine lv.k h λr e k=>?_;exact⟨r,Dq 8 hu8 ra rb e,k⟩
 rcases a with _|_
 case ref=>
  clear data;obtain rfl:=ra.mW;refine lr λGp gk=>?_;obtain⟨b,h⟩:=E5 h rb;refine l9.k h λx ex h=>?_;refine l9.k h λy ey rK=>?_;obtain⟨hn,k⟩:=rK;refine G.nJ ex λvs n hl r=>?_;refine G.nJ ey λus m yu r'=>?_;refine gk ?_;exact⟨_,E9 hu.here hn hl r yu r',k⟩
 all_goals exact data h
def V0{K:Bool->Prop}(G:Gs B kU U s)(hu:pW A 9)(ra:Rv s.heap a va)(rb:Rv s.heap b vb)(h:OG U a b K):aq B.mod A (dE .Eq va vb) (PB s K) n_ s:=by
 obtain⟨r,b,k⟩:=GN G hu ra rb h;exact b.1 _ _ _ _ (PB.here k)
def V1{K:Bool->Prop}(G:Gs B kU U s)(hu:pW A 9)(ra:Rv s.heap a va)(rb:Rv s.heap b vb)(h:OG U a b λr=>K !r):aq B.mod A (dE .NotEq va vb) (PB s K) n_ s:=by
 obtain⟨r,b,k⟩:=GN G hu ra rb h;exact b.2 _ _ _ _ (PB.here k)
def uE(x:NL)(c:Nat):(!(dO (sk x) ⟨#[c]⟩ 0 (sk x).length 1).isEmpty)=x.contains c:=by
 refine J (StrLaws.found_one ..) (J (S3 ..) ?_);rw[a0,decide_eq_true_iff,bj]
set_option tactic.hygienic true in
def V2{a b:PV}{va vb:Value}{K:Bool->Prop}(g:Good0 B)(G:Gs B kU U s)(hu:pW A 9)(ra:Rv s.heap a va)(rb:Rv s.heap b vb)(h:Al U a b K):
  aq B.mod A (dE .In va vb) (PB s K) n_ s:=by
 unfold Al at h;rcases b with _|_<;>try exact h.elim
 case bytes=>
  refine lr λGp gk=>?_;obtain⟨l,u,rfl,rfl⟩:=rb.l8;obtain⟨x,t,h0,h1,k⟩:=sO h ra;refine gk ?_;exact KF h0 h1 (PB.here k)
 case str=>
  refine lr λGp gk=>?_;obtain⟨u,rfl⟩:=rb.mz;obtain⟨x,t,h⟩:=E4 h ra;clear ra;refine h.k λc yt h=>?_;subst yt;refine gk ?_;exact in_str (PB.here (by rw[show∀z:NL,(⟨z.toArray⟩:Str)=sk z from λ_=>rfl];exact(uE _ _).symm▸h))
 case tup=>
  refine lr λGp gk=>?_;obtain⟨b,us,rfl,t,J⟩:=rb.mJ;refine lv.k h λr e k=>?_;obtain⟨f,hf⟩:=vy (A:=A.in1) ra (pW.in1 hu);obtain⟨f1,f2⟩:=hf J e;refine gk ?_;refine in_tupleAt f t.tuple (λy hy=>f1 y (by simpa using hy)) (PB.here ?_);rw[gC,f2];exact k
 case ref r=>
  obtain rfl:=rb.mW;rcases CP.ex h with⟨l,e0,h⟩|⟨es,e0,h⟩
  ·refine lr λGp gk=>?_;refine lv.k h λr e k=>?_;refine G.nJ e0 λvs n hl J=>?_;obtain⟨f,hf⟩:=vy (A:=A.in1) ra (pW.in1 hu);obtain⟨f1,f2⟩:=hf J e;refine gk ?_;refine in_listAt f (IsL.isList hl) (λy hy=>f1 y (by simpa using hy)) (PB.here ?_);rw[gC,f2];exact k
  refine lr λGp gk=>?_;obtain⟨x,t,h⟩:=E4 h ra;refine G.t7 e0 λkvs D d _ _=>?_;change K (es.lookup x).isSome at h;refine gk ?_;refine wpAny_in_of (knd:=B.K) (fx _ _ (sk x) t) (g.ne G e0 λ_ z=>by contradiction) D.mapOf (PB.tok ?_ _);rcases q:es.lookup x with _|v
  ·rw[d.no q];rw[q]at h;exact h
  obtain⟨v',e1,_⟩:=d.some q;rw[e1];rw[q]at h;exact h
set_option tactic.hygienic true in
def KI{a b:PV}{va vb:Value}{K:Bool->Prop}(g:Good0 B)(G:Gs B kU U s)(hu:pW A 9)(ra:Rv s.heap a va)(rb:Rv s.heap b vb)(h:Al U a b λr=>K !r):
  aq B.mod A (dE .NotIn va vb) (PB s K) n_ s:=by
 unfold Al at h;rcases b with _|_<;>try exact h.elim
 case bytes=>
  refine lr λGp gk=>?_;obtain⟨l,u,rfl,rfl⟩:=rb.l8;obtain⟨x,t,h0,h1,k⟩:=sO h ra;refine gk ?_;exact Dt h0 h1 (PB.here k)
 case str=>
  refine lr λGp gk=>?_;obtain⟨u,rfl⟩:=rb.mz;obtain⟨x,t,h⟩:=E4 h ra;clear ra;refine h.k λc yt h=>?_;subst yt;refine gk ?_;exact notIn_str (PB.here (by rw[show∀z:NL,(⟨z.toArray⟩:Str)=sk z from λ_=>rfl];exact(uE _ _).symm▸h))
 case tup=>
  refine lr λGp gk=>?_;obtain⟨b,us,rfl,t,J⟩:=rb.mJ;refine lv.k h λr e k=>?_;obtain⟨f,hf⟩:=vy (A:=A.in1) ra (pW.in1 hu);obtain⟨f1,f2⟩:=hf J e;refine gk ?_;refine notIn_tupleAt f t.tuple (λy hy=>f1 y (by simpa using hy)) (PB.here ?_);rw[gC,f2];exact k
 case ref r=>
  obtain rfl:=rb.mW;rcases CP.ex h with⟨l,e0,h⟩|⟨es,e0,h⟩
  ·refine lr λGp gk=>?_;refine lv.k h λr e k=>?_;refine G.nJ e0 λvs n hl J=>?_;obtain⟨f,hf⟩:=vy (A:=A.in1) ra (pW.in1 hu);obtain⟨f1,f2⟩:=hf J e;refine gk ?_;refine notIn_listAt f (IsL.isList hl) (λy hy=>f1 y (by simpa using hy)) (PB.here ?_);rw[gC,f2];exact k
  refine lr λGp gk=>?_;obtain⟨x,t,h⟩:=E4 h ra;refine G.t7 e0 λkvs D d _ _=>?_;change K !(es.lookup x).isSome at h;refine gk ?_;refine wpAny_notIn_of (knd:=B.K) (fx _ _ (sk x) t) (g.ne G e0 λ_ z=>by contradiction) D.mapOf (PB.tok ?_ _);rcases q:es.lookup x with _|v
  ·rw[d.no q];rw[q]at h;exact h
  obtain⟨v',e1,_⟩:=d.some q;rw[e1];rw[q]at h;exact h
def At(ra:Rv s.heap a va)(h:isNone a=some r):(va==.none)=r:=by
 rcases a with _|_
 case none=>obtain rfl:=af h;refine J (ra.of_none ..) ?_;rfl
 case raw=>contradiction
 all_goals
  rcases h with _|_;dsimp only[Rv]at ra
  first
   |(subst ra;rfl)
   |(obtain⟨_,rfl⟩:=ra;rfl)
   |(obtain⟨_,_,rfl,_⟩:=ra;rfl)
def BM{K:Bool->Prop}(ra:Rv s.heap a va)(rb:Rv s.heap b vb)(h:Vd op a b K)(ho:op=.lt\/op=.le\/op=.gt\/op=.ge):
  aq B.mod A (dE (Zf op) va vb) (PB s K) n_ s:=by
 rcases a with _|_<;>try exact h.elim
 case int=>
  obtain⟨t,rfl⟩:=ra.nR;obtain⟨y,u,h⟩:=sO h rb;rcases ho with rfl|rfl|rfl|rfl
  ·exact lt_int (PB.here h)
  ·exact PySem.P.le_int (PB.here h)
  ·exact gt_int (PB.here h)
  exact PySem.P.ge_int (PB.here h)
 case str=>
  obtain⟨t,rfl⟩:=ra.mz;obtain⟨y,u,h⟩:=E4 h rb;rcases ho with rfl|rfl|rfl|rfl<;>simp only[KG]at h
  ·exact lt_str (PB.here h)
  ·exact PySem.P.le_str (PB.here (by simpa using h))
  ·exact PySem.P.gt_str (PB.here h)
  exact PySem.P.ge_str (PB.here (by simpa using h))
def we{a b:PV}{va vb:Value}{K:Bool->Prop}(g:Good0 B)(G:Gs B kU U s)(hu:pW A 9)(ra:Rv s.heap a va)(rb:Rv s.heap b vb)(h:Sn U op a b K):
  aq B.mod A (dE (Zf op) va vb) (PB s K) n_ s:=by
 rcases op with _|_
 case eq=>exact V0 G hu ra rb h
 case ne=>exact V1 G hu ra rb h
 case lt=>exact BM ra rb h (.inl rfl)
 case le=>exact BM ra rb h (.inr (.inl rfl))
 case gt=>exact BM ra rb h (.inr (.inr (.inl rfl)))
 case ge=>exact BM ra rb h (.inr (.inr (.inr rfl)))
 case isin=>exact V2 g G hu ra rb h
 case qb=>exact KI g G hu ra rb h
 case is=>
  obtain⟨rfl,h⟩:=Ak.ex h;obtain rfl:=rb.of_none;refine lv.k h λr e k=>?_;exact is_none (PB.here (J (At ra e ..) k))
 case HN=>
  obtain⟨rfl,h⟩:=Ak.ex h;obtain rfl:=rb.of_none;refine lv.k h λr e k=>?_;exact isNot_none (PB.here (J (At ra e ..) k))
def BN{K:Bool->Prop}(ra:Rv s.heap a va)(h:Ka a K):aq B.mod A (jY va) (λb s'=>s'=s/\K b) n_ s:=by
 rcases a with _|_<;>try exact h.elim
 obtain rfl:=ra.r8;exact eS ⟨rfl,h⟩
end
section
open PySem PySem.W PySem.Calls PyProof.Rows PySem.SeqAt PySem.MeetsSeq PySem.W.FB PySem.W.KBy
variable {B:nX}{kU:List aD}{U:kO}{s:Shared}{A:bm}
inductive NI(n:Nat)(i:Int)(j:Nat):Prop
 |pos (e:i=j) (h:j<n)
 |neg (h0:i<0) (e:i+n=j) (h:j<n)
def vz(h:oD i n=some j):NI n i j:=by
 dsimp only[oD,eM]at h
 by_cases hi:i<0
 ·simp only[hi,if_true]at h
  split at h
  ·rename_i hh;rw[aE,decide_eq_true_eq,decide_eq_true_eq]at hh;obtain rfl:=af h;exact .neg hi (d0 hh.1).symm ((iV hh.1).mpr hh.2)
  exact lx h
 simp only[hi,if_false]at h
 split at h
 ·rename_i hh;rw[aE,decide_eq_true_eq,decide_eq_true_eq]at hh;obtain rfl:=af h;exact .pos (d0 hh.1).symm ((iV hh.1).mpr hh.2)
 exact lx h
def NI.small(h:NI n i j)(hz:n<=M): -(2^63)<=i/\i<2^63:=by
 have hM:M=16777216:=rfl;have hM:((n:Nat):Int)<=16777216:=aN.mpr hz;rcases h with⟨e,h⟩|⟨h0,e,h⟩
 ·exact⟨fQ (by decide) (e▸av j),iK (e▸aH.mpr h) (fQ hM (by decide))⟩
 exact⟨fQ (fQ (by decide) (Int.neg_le_neg hM)) (U9 e),ki h0 (by decide)⟩
inductive aal(B:nX)(A:bm)(vo vi:Value)(Q:Value->Shared->Prop)(s:Shared):Prop
 |mk (T:String) (id:String) (e:jX (.type T) "__getitem__"=pure (some (.builtin id))) (t:s.TypeIs vo T) (h:aq B.mod A (iO vo vi) Q n_ s)
def JS{vs:List Value}{Q:Value->Shared->Prop}(KJ:IsL s.heap a vs.toArray n)(hz:vs.length<=M)(hj:NI vs.length i j)(gv:vs[j]? =some v)(q:Q v s):aq B.mod A (iO (.ref a) (.int i u)) Q n_ s:=by
 have hb:=hj.small hz;rcases hj with⟨rfl,h⟩|⟨h0,e,h⟩
 ·exact wpAny_getItem_list (x:=v) (IsL.isList KJ) (av j) hb.2 (J (cu ..) (J (dA ..) gv)) q
 refine wpAny_getItem_list_neg (x:=v) (IsL.isList KJ) h0 (by refine J (bG ..) ?_;exact U9 e) hb.1 ?_ q;refine J (bG ..) (J (e ..) (J (cu ..) (J (dA ..) ?_)));exact gv
set_option tactic.hygienic true in
def OT{vo vi:Value}{Q:QV}(G:Gs B kU U s)(ro:Rv s.heap o vo)(ri:Rv s.heap i vi)(h:rF U o i λv=>Q v U):aal B A vo vi (PR B kU l_ Q U s) s:=by
 unfold rF at h;rcases o with _|_<;>try exact h.elim
 case bytes=>
  refine lr λGp gk=>?_;obtain⟨l,t,rfl,rfl⟩:=ro.l8;obtain⟨i,u,h0,hz,h⟩:=sO h ri;refine lv.k h λc hc q=>?_;rw[bH]at hc;refine vZ hc λx hx S4=>?_;clear hc;subst S4;have oX:=(iV h0).mp (aG.mp hx).1;rw[ai]at hz;refine gk ?_;refine⟨"bytes",_,slot_bytes_getitem.lookup,aX _ _ _,getItem_bytes (ah hz (by decide)) h0 oX ?_⟩;refine J (List.getD_eq_getElem?_getD ..) (J (hx ..) ?_);exact PR.tok G q (Rv.int ..) _
 case str=>
  refine lr λGp gk=>?_;obtain⟨t,rfl⟩:=ro.mz;obtain⟨i,u,hz,h⟩:=sO h ri;refine lv.k h λj hj h=>?_;refine lv.k h λc hc q=>?_;have hb:=(vz hj).small hz;refine gk ?_;refine⟨"str",_,F.slot_str_getitem.lookup,typeIs_str _ _ _,PyProof.Rows.getItem_str (c:=c) ?_ ?_ (PR.tok G q (Rv.str _ [c] _) _)⟩
  ·refine J (decide_eq_false (bD.mpr hb.1) ..) (J (decide_eq_false (iJ.mpr hb.2) ..) ?_);rfl
  exact J (str_len ..) (J (show eM i _=some j from hj) ((cu ..).trans hc))
 case tup=>
  refine lr λGp gk=>?_;obtain⟨a,vs,rfl,ht,r⟩:=ro.mJ;obtain⟨i,u,hz,h⟩:=sO h ri;refine lv.k h λj hj h=>?_;refine lv.k h λc hc q=>?_;have hb:=(vz hj).small hz;obtain⟨v,gv,rv⟩:=r.get hc;refine gk ?_;exact⟨"tuple",_,F.slot_tuple_getitem.lookup,ht.tup.typeIs,PyProof.Rows.getItem_tuple (j:=j) (x:=v) ht.tup hb.1 hb.2 (J (bG ..) (J (r.length ..) hj)) ((cu ..).trans gv) (PR.here G q rv)⟩
 case ref a=>
  obtain rfl:=ro.mW;rcases i with _|_<;>try exact h.elim
  case int=>
   refine lr λGp gk=>?_;obtain⟨u,rfl⟩:=ri.nR;refine l9.k h λl e rK=>?_;obtain⟨hz,h⟩:=rK;refine lv.k h λj hj h=>?_;refine lv.k h λc hc q=>?_;refine G.nJ e λvs n KJ r=>?_;obtain⟨v,gv,rv⟩:=r.get hc;rw[←r.length]at hz hj;refine gk ?_;exact⟨"list",_,F.slot_list_getitem.lookup,⟨_,KJ,rfl⟩,JS KJ hz (vz hj) gv (PR.here G q rv)⟩
  case str=>
   refine lr λGp gk=>?_;obtain⟨u,rfl⟩:=ri.mz;refine oC.k h λes e h=>?_;refine lv.k h λc hc q=>?_;refine G.t7 e λkvs D d _ _=>?_;obtain⟨v,e1,rv⟩:=d.some hc;refine gk ?_;exact⟨"dict",_,F.slot_dict_getitem.lookup,D.mapOf.typeIs,wpAny_getItem_of (knd:=B.K) (fx _ _ (sk _) u) D.mapOf e1 (PR.tok G q rv _)⟩
def nC(r:Rv h p v)(e:nF n d p=some a):∃lo,IsPart v lo/\a=lo.elim d (bl n):=by
 rcases p with _|_<;>try exact lx e
 ·obtain rfl:=af e;exact J (r.of_none ..) (⟨_,.none,rfl⟩)
 obtain⟨t,rfl⟩:=r.nR;obtain rfl:=af e;exact⟨_,.int _ _,rfl⟩
def S5(lo hi:Option Int)(n:Nat):eP lo hi 1 n=(cH (hi.elim n (bl n)-lo.elim 0 (bl n))).map (lo.elim 0 (bl n)+ ·):=by
 have e:eP lo hi 1 n=sliceRange ((lo.elim 0 (bl n):Nat):Int) ((hi.elim n (bl n):Nat):Int) 1:=by
  rcases lo with _|_<;>rcases hi with _|_<;>simp[eP,clipAt_cast]
 exact J (e ..) (J (sliceRange_one ..) rfl)
def OU(n:Nat)(i:Int):((bl n i:Nat):Int)=if i<0 then max (i+n) 0 else min i n:=by
 refine J (clipAt_cast ..) ?_
 split
 ·exact J (Int.max_comm ..) (J (fH (by lia) ..) rfl)
 exact J (fh (Int.le_min.mpr ⟨by lia,av n⟩) ..) rfl
def S6(lo hi:Option Int)(n:Nat):e_ lo hi 1 (n:Int)=(((lo.elim 0 (bl n):Nat):Int),((hi.elim n (bl n):Nat):Int)):=by
 dsimp only[e_];have h1:¬((1:Int)<0):=by decide
 rcases lo with _|_<;>rcases hi with _|_<;>simp only[h1,if_false,Option.elim,OU]<;>rfl
def JT(a b:Nat):de (a:Int) (b:Int) 1=b-a:=by
 dsimp only[de];refine J (if_pos (by decide) ..) ?_
 split
 ·exact J (Int.ediv_one _) (J (Int.sub_add_cancel _ 1) (Int.toNat_sub b a))
 rename_i h;exact(eQ (aN.mp (bD.mp h))).symm
def wf{lo hi:Option Int}{E:Value->Shared->Prop}{Q:Int×Int×Nat->Shared->Prop}(hs:s.heap.IsSliceOf sl vl vu .none)(pl:IsPart vl lo)(pu:IsPart vu hi)
  (h:Q (((lo.elim 0 (bl n):Nat):Int),1,hi.elim n (bl n)-lo.elim 0 (bl n)) s):aq B.mod A (iq (.ref sl) (pure (n:Int))) Q E s:=by
 refine lr λGp gk=>?_;obtain⟨os,V3,hcs,V4⟩:=id hs;refine gk ?_;unfold iq Builtin.Slice.sliceFields;refine aa (aa (dX V3 V4 (x:=vl) rfl (aa (dX V3 V4 (x:=vu) rfl (aa (dX V3 V4 (x:=.none) rfl (ag ?_)))))));refine aa (gy ?_);refine(?_:aq _ _ (if((1:Int)==0)=true then _ else _) _ _ s);refine ie (by decide) ?_;have fin:aq B.mod A (pure (match e_ lo hi 1 (n:Int)with|(lo,hi)=>(lo,(1:Int),de lo hi 1))) Q E s:=by
  refine J (S6 ..) ?_;refine ag ?_;refine(?_:Q (_,_,de _ _ 1) s);exact J (JT ..) h
 clear h V4;induction pl<;>induction pu
 ·exact aa (gy (aa (gy (aa (ag fin)))))
 ·exact aa (gy (aa (iZ (aa (ag fin)))))
 ·exact aa (iZ (aa (gy (aa (ag fin)))))
 exact aa (iZ (aa (iZ (aa (ag fin)))))
def H_(xs:List Value)(a n:Nat):((cH n).filterMap λ(k:Nat)=>xs.toArray[((a:Int)+(k:Int)*1).toNat]?).toArray=((xs.drop a).take n).toArray:=by
 have e:(λ(k:Nat)=>xs.toArray[((a:Int)+(k:Int)*1).toNat]?)=λk=>xs.toArray[a+k]? :=by
  funext k
  have:((a:Int)+(k:Int)*1).toNat=a+k:=by exact congrArg (λz:Int=>((a:Int)+z).toNat) (Int.mul_one k)
  exact J (this ..) rfl
 refine J (e ..) ?_;have:=pick_run xs.toArray a n;rw[List.filterMap_map]at this;have e2:((λx=>xs.toArray[x]?)∘λx=>a+x)=λk=>xs.toArray[a+k]? :=rfl;rw[e2]at this;exact J (this ..) rfl
def tT{kX:List Value}{lo hi:Option Int}{E:Value->Shared->Prop}{Q:Value->Shared->Prop}(ht:IsTup s.heap t kX.toArray)(hs:s.heap.IsSliceOf sl vl vu .none)(pl:IsPart vl lo)(pu:IsPart vu hi)
  (OV:Q (.ref s.heap.objs.size) {s with heap:=s.heap.push {cls:=.type "tuple",data:=.seq ((kX.drop (lo.elim 0 (bl kX.length))).take (hi.elim kX.length (bl kX.length)-lo.elim 0 (bl kX.length))).toArray}})
  (hold:lo.elim 0 (bl kX.length)=0->hi.elim kX.length (bl kX.length)-lo.elim 0 (bl kX.length)=kX.length->Q (.ref t) s)
  (H':kX.length<=eT):aq B.mod A (iO (.ref t) (.ref sl)) Q E s:=by
 have hz:sizeOk (.seq ((kX.drop (lo.elim 0 (bl kX.length))).take (hi.elim kX.length (bl kX.length)-lo.elim 0 (bl kX.length))).toArray):=by
  refine(?_:Array.size (c9 _)<=eT);refine J (bG ..) (J (dR ..) (J (a9 ..) ?_));exact oV 0x1010101302300201003 rfl H' (cy _ _) (gD _ _)
 refine lr λGp gk=>?_;obtain⟨os,V3,hcs,V4⟩:=id hs;have hTs:s.TypeIs (.ref sl) "slice":=⟨os,V3,hcs⟩;refine gk ?_;dsimp only[iO]
 try with_reducible refine ax ?_
 first|refine aa (ag ?_)|skip
 refine aa (wpAny_sequenceKey ht.typeIs (by decide) ?_);refine aa (wpAny_callSpecial?_slot (name:=bx "__getitem__") ht.typeIs slot_tuple_getitem
  (wpAny_call_entry slot_tuple_getitem ht.typeIs entry_tuple_getitem ?_ (args_tuple_getitem _ _)))
 refine(?_:aq _ _ (Builtin.Tuple.tupleItemsOf (.ref t)>>=_) _ _ s);refine aa (tupleItemsOf_ ht ?_);refine aa (f8 hTs ?_);refine J (if_pos (by decide) ..) ?_;have e0:((kX.toArray.size:Nat):Int)=(kX.length:Int):=by simp
 refine J (e0 ..) ?_;refine aa (wf hs pl pu ?_);generalize lo.elim 0 (bl kX.length)=a at*;generalize hi.elim kX.length (bl kX.length)=b at*;refine(?_:aq _ _ (if(((a:Int)==0&&(1:Int)==1&&(b-a)==kX.toArray.size))=true then _ else _) _ _ s)
 by_cases hw:((a:Int)==0&&(1:Int)==1&&(b-a)==kX.toArray.size)=true
 ·refine J (if_pos hw ..) ?_;refine aa ?_;dsimp only[Builtin.Tuple.tupleIsExact];refine aa (f8 ht.typeIs (ag ?_));refine J (if_pos (by decide) ..) ?_;simp only[aE,beq_iff_eq,bG]at hw;exact aa (eF (ag ⟨_,rfl,ag (hold (by lia) hw.2)⟩))
 refine J (if_neg hw ..) (J (H_ kX a (b-a) ..) ?_)
 first
  |exact aa (m:=dw _) (cn (ag ⟨_,rfl,ag OV⟩) hz)
  |exact aa (m:=dw _) (cn (aa (ag (ag ⟨_,rfl,ag OV⟩))) hz)
  |exact aa (aa (m:=dw _) (cn (ag (ag ⟨_,rfl,ag OV⟩)) hz))
  |exact aa (aa (m:=dw _) (cn (ag ⟨_,rfl,ag OV⟩) hz))
def yC{lo:Option Int}(p:IsPart v lo):∃l:Option (Int×gN),v=partValue l/\lo=l.map (·.1):=by
 induction p with
 |none=>exact⟨.none,rfl,rfl⟩
 |int i t=>exact⟨some (i,t),rfl,rfl⟩
def GO(n:Nat)(i:Int):bl n i<=n:=aN.mp (J (clipAt_cast ..) (Int.max_le.mpr ⟨av n,Int.min_le_right _ _⟩))
def OW(o:Option Int)(n:Nat):o.elim n (bl n)<=n:=by
 rcases o with _|i
 ·exact aF _
 exact GO n i
def KL(o:Option Int)(n:Nat):o.elim 0 (bl n)<=n:=by
 rcases o with _|i
 ·exact aO _
 exact GO n i
def lR.cut(a b:Nat)(r:lR h ps vs):lR h (cut ps a b) (cut vs a b):=(r.drop a).take (b-a)
noncomputable def uZ(s:Shared)(vl vu:Value):Shared:={s with heap:=s.heap.push {cls:=.type "slice",data:=.fields #[vl,vu,.none]}}
set_option tactic.hygienic true in
def BO(G:Gs B kU U s)(ro:Rv s.heap o vo)(J:Rv s.heap l vl)(ru:Rv s.heap u vu)(h:mS U o l u Q):
  ∃T id,jX (.type T) "__getitem__"=pure (some (.builtin id))/\(uZ s vl vu).TypeIs vo T/\aq B.mod A (iO vo (.ref s.heap.objs.size)) (PR B kU l_ Q U s) n_ (uZ s vl vu):=by
 have hM:M=16777216:=rfl;have H':eT=16777216:=by decide
 have kp:=lG s.heap {cls:=.type "slice",data:=.fields #[vl,vu,.none]};have sz:=BI s.heap {cls:=.type "slice",data:=.fields #[vl,vu,.none]};have tk:TK s.heap (uZ s vl vu).heap:=TK.of_keeps kp;have hs:(uZ s vl vu).heap.IsSliceOf s.heap.objs.size vl vu .none:=Heap.IsSliceOf.new ..;unfold mS at h;rcases o with _|_
 case bytes=>
  refine lr λGp gk=>?_;obtain⟨bs,t,rfl,rfl⟩:=ro.l8;refine lv.k h λa ha h=>?_;refine lv.k h λb hb rK=>?_;obtain⟨hz,q⟩:=rK;simp only[ai]at ha hb hz;clear h;obtain⟨lo,pl,rfl⟩:=nC J ha;obtain⟨hi,pu,rfl⟩:=nC ru hb;refine gk ?_;refine⟨"bytes",_,slot_bytes_getitem.lookup,aX _ _ _,getItem_meets (aX _ _ _) (by decide) slot_bytes_getitem entry_bytes_getitem (args_bytes_getitem_2 _ _) (PySem.W.KBc.meets_slice2 _ t _ pl pu) ⟨hs,?_,λt' k=>?_⟩⟩
  ·refine ah (PySem.W.KBc.size_picked_le _ _ _) ?_;simp;exact nn 0x11001012002010000007fb1210000007fb023 rfl hM H' hz
  rw[PySem.W.KBc.picked_eq];have e:cut (bs.map aL) (lo.elim 0 (bl bs.length)) (hi.elim bs.length (bl bs.length))=((bs.drop (lo.elim 0 (bl bs.length))).take (hi.elim bs.length (bl bs.length)-lo.elim 0 (bl bs.length))).map aL:=by
   dsimp only[cut];rw[ir,jM]
  rw[e]at q;exact PR.grown G q kp (by rw[bG];exact Rv.bytes _ _ t')
 case str x=>
  refine lr λGp gk=>?_;clear sz tk;obtain⟨t,rfl⟩:=ro.mz;refine lv.k h λa ha h=>?_;refine lv.k h λb hb rK=>?_;obtain⟨hz,q⟩:=rK;clear h;obtain⟨lo,pl,rfl⟩:=nC J ha;clear J ha h;obtain⟨hi,pu,rfl⟩:=nC ru hb;clear ru hb;obtain⟨l',rfl,rfl⟩:=yC pl;obtain⟨u',rfl,rfl⟩:=yC pu;have E_:(uZ s (partValue l') (partValue u')).heap.IsSlice s.heap.objs.size l' u' .none:=by
   obtain⟨o,h1,h2,h3⟩:=hs;exact⟨o,h1,h2,h3⟩
  refine gk ?_;refine⟨"str",_,F.slot_str_getitem.lookup,typeIs_str _ _ _,wpAny_getItem_str_slice E_ rfl ?_⟩;have e1:slicePicked ⟨x.toArray⟩ l' u' .none=(cH ((u'.map (·.1)).elim x.length (bl x.length)-(l'.map (·.1)).elim 0 (bl x.length))).map ((l'.map (·.1)).elim 0 (bl x.length)+ ·):=by
   dsimp only[slicePicked];have:=S5 (l'.map (·.1)) (u'.map (·.1)) (⟨x.toArray⟩:Str).length;rw[str_len]at this;exact J (str_len ..) this
  have e2:(((cH ((u'.map (·.1)).elim x.length (bl x.length)-(l'.map (·.1)).elim 0 (bl x.length))).map ((l'.map (·.1)).elim 0 (bl x.length)+ ·)).filterMap (x.toArray[·]?))=cut x ((l'.map (·.1)).elim 0 (bl x.length)) ((u'.map (·.1)).elim x.length (bl x.length)):=pick_run x.toArray _ _;have JU:(u'.map (·.1)).elim x.length (bl x.length)<=x.length:=OW _ _;have V5:(l'.map (·.1)).elim 0 (bl x.length)<=x.length:=KL _ _;dsimp only[sliceMade];refine J (e1 ..) ?_;simp only[ai,List.length_range,str_len];refine J (e2 ..) ?_;generalize (l'.map (·.1)).elim 0 (bl x.length)=a at*;generalize (u'.map (·.1)).elim x.length (bl x.length)=b at*
  split
  ·rename_i hw;simp only[aE,beq_iff_eq]at hw;have Zg:cut x a b=x:=by
    dsimp only[cut];have:a=0:=by exact oV 0x10010100b32230a21201023 rfl hw.2 JU (aA (ah V5 (hw.2▸cy ..)))
    clear q e1 e2 V5;subst this;exact J (gZ ..) (J (bS (by lia) ..) rfl)
   rw[Zg]at q;exact PR.grown (t:=s.toks) G q kp (Rv.str ..)
  refine⟨?_,PR.grown G q kp (Rv.str ..)⟩;rw[str_len,cut,dR,a9];exact tD 0x110010101014034023002010000007fb1210000007fb025 rfl hM H' hz (cy _ _) (gD _ _)
 case tup=>
  refine lr λGp gk=>?_;obtain⟨t,vs,rfl,ht,r⟩:=ro.mJ;refine lv.k h λa ha h=>?_;refine lv.k h λb hb rK=>?_;obtain⟨hz,q⟩:=rK;clear h;obtain⟨lo,pl,rfl⟩:=nC J ha;obtain⟨hi,pu,rfl⟩:=nC ru hb;have hl:=r.length;rw[←hl]at q hz;have Zh:pz (uZ s vl vu).heap t vs.toArray:=tk _ _ ht;refine gk ?_;refine⟨"tuple",_,F.slot_tuple_getitem.lookup,Zh.tup.typeIs,tT Zh.tup hs pl pu ?_ (λh1 h2=>?_) (nn 0x11001012002010000007fb1210000007fb023 rfl hM H' hz)⟩
  ·refine PR.grown (t:=s.toks) G q (λb o e=>lG _ _ _ _ (kp b o e)) (Rv.tup (vs:=cut vs _ _) ⟨0,IsT.new _ _⟩ ((r.cut _ _).keep (tk.trans (TK.of_keeps (lG _ _)))))
  have hc:∀{α:Type} (l:List α),l.length=vs.length->cut l (lo.elim 0 (bl vs.length)) (hi.elim vs.length (bl vs.length))=l:=λl h=>by
   dsimp only[cut];rw[h1];rw[h1]at h2;rw[gZ,bS (by lia)]
  rw[hc _ hl.symm]at q;exact PR.grown (t:=s.toks) G q kp (Rv.tup Zh (r.keep tk))
 case ref=>
  obtain rfl:=ro.mW;refine lr λGp gk=>?_;refine Bh.k h λps e h=>?_;refine lv.k h λa ha h=>?_;refine lv.k h λb hb rK=>?_;obtain⟨hz,q⟩:=rK;clear h;obtain⟨vs,n,KJ,r⟩:=G.VW e;clear h;obtain⟨lo,pl,rfl⟩:=nC J ha;obtain⟨hi,pu,rfl⟩:=nC ru hb;have hl:=r.length;rw[←hl]at q hz;refine G.keepsK (t:=s.toks) kp λG1 p1=>?_;have V6:IsL (uZ s vl vu).heap _ vs.toArray n:=kp _ _ KJ;refine gk ?_;refine⟨"list",_,F.slot_list_getitem.lookup,⟨_,V6,rfl⟩,wpAny_getItem_list_slice (IsL.isList V6) hs pl pu .none (λh=>nomatch h) ?_ (by simp;exact nn 0x11001012002010000007fb1210000007fb023 rfl hM H' hz)⟩;have:=PR.newList (t:=s.toks) (Q:=Q) G1 (ly _) (lG _ {cls:=.type "list",data:=.seq (slicePick vs.toArray lo hi none)}) (l:=cut ps _ _) (vs:=cut vs _ _) (n:=0) (by
   have e:slicePick vs.toArray lo hi none=(cut vs (lo.elim 0 (bl vs.length)) (hi.elim vs.length (bl vs.length))).toArray:=by
    rw[slicePick_plain];simp[cut]
   rw[e];exact IsL.new _ _) ((r.cut _ _).keep tk) q
  exact PR.up p1 this
 all_goals exact h.elim
inductive V7{α β:Type}(f:β->Option α)(p:β)(r:List β):List α->Prop
 |mk (a:α) (l:List α) (e:f p=some a) (h:rE f r=some l):V7 f p r (a::l)
def oJ{α β:Type}{f:β->Option α}{p:β}{r:List β}{b:List α}(h:rE f (p::r)=some b):V7 f p r b:=by
 refine lr λGp gk=>?_;refine lS h λa e h=>?_;refine lS h λl e2 h=>?_;refine gk ?_;refine rr (af h ..) ?_;exact⟨a,l,e,e2⟩
inductive RH(n:Nat):PV->Prop
 |mk (i:Int) (hi:0<=i/\i<256) (e:i.toNat=n):RH n (.int i)
set_option tactic.hygienic true in
def Ia{p:PV}{n:Nat}(h:ER p=some n):RH n p:=by
 rcases p with _|_<;>try exact lx h
 rename_i i;dsimp only[ER]at h
 by_cases hi:0<=i/\i<256
 ·simp only[hi,and_self,if_true]at h;exact⟨i,hi,af h⟩
 simp only[hi,if_false]at h;exact lx h
def OX{i:Int}(h:0<=i/\i<256):i.toNat.toUInt8.toNat=i.toNat:=Nat.mod_eq_of_lt ((iV h.1).mpr h.2)
inductive V8(vs:List Value)(b:NL):Prop
 |mk (ns:List Int) (h1:IntsAre vs ns) (h2:∀n∈ns,0<=n/\n<256) (h3:(ns.map λn=>n.toNat.toUInt8).map aL=b)
def BP{h:Heap}{l:List PV}:∀{vs:List Value}{b:NL},lR h l vs->vh l=some b->V8 vs b:=by
 induction l with
 |nil=>
  intro vs b r e;obtain rfl:=lR.q_ r;exact⟨[],.nil,λ_ h=>(nomatch h),af e⟩
 |cons p l ih=>
  intro vs b r e;obtain⟨v,r7,r1,r2⟩:=lR.ni r;clear r;obtain⟨c,b',e1,e2⟩:=oJ e;clear e;obtain⟨i,hi,rfl⟩:=Ia e1;clear e1;obtain⟨ns,h1,h2,h3⟩:=ih r2 e2;obtain⟨t,rfl⟩:=r1.nR;refine⟨i::ns,.cons i t h1,λn hn=>?_,?_⟩
  ·clear r1;rcases aU.mp hn with rfl|hn
   ·exact hi
   exact h2 n hn
  rw[aK,aK,h3,OX hi]
def Du(n:Nat):(bx (toString (n:Int)))=sk (zA n):=by
 refine J (PySem.Str.ofString_eq_toList ..) ?_;rfl
def KM{n:Nat}(h:n<=M):¬(n:Int)>=2^63:=by
 have hM:M=16777216:=rfl;lia
def S7{a:PV}{va:Value}{Q:QV}(G:Gs B kU U s)(ra:Rv s.heap a va)(h:Sp U .len a Q):aq B.mod A (call (.builtin "len") [va]) (PR B kU l_ Q U s) n_ s:=by
 rcases a with _|_<;>try exact a_ h
 case str=>
  obtain⟨t,rfl⟩:=ra.mz;refine PySem.P.len_str (J (str_len ..) (KM h.1)) (PR.tok G h.2 ?_ _);exact J (str_len ..) (Rv.int ..)
 case bytes=>
  refine lr λGp gk=>?_;obtain⟨l,t,rfl,rfl⟩:=ra.l8;obtain⟨hz,q⟩:=h;rw[ai]at hz q;refine gk ?_;refine len_bytes (ah hz (by decide)) (PR.tok G q (Rv.int _ l.length _) _)
 case tup=>
  refine lr λGp gk=>?_;obtain⟨t,vs,rfl,ht,r⟩:=ra.mJ;obtain⟨hz,q⟩:=h;rw[←r.length]at hz q;refine gk ?_;exact PyProof.Rows.len_tuple ht.tup (iJ.mp (KM hz)) (PR.tok G q (Rv.int ..) _)
 case ref=>
  obtain rfl:=ra.mW;refine lr λGp gk=>?_;refine l9.k h λl e rK=>?_;obtain⟨hz,q⟩:=rK;refine G.nJ e λvs n hl r=>?_;rw[←r.length]at hz q;refine gk ?_;exact PyProof.Rows.len_list (IsL.isList hl) (iJ.mp (KM hz)) (PR.tok G q (Rv.int ..) _)
def KN{a:PV}{va:Value}{Q:QV}(G:Gs B kU U s)(ra:Rv s.heap a va)(h:Sp U .tuple a Q):aq B.mod A (call (.type "tuple") [va]) (PR B kU l_ Q U s) n_ s:=by
 rcases a with _|_<;>try exact a_ h
 case tup=>
  refine lr λGp gk=>?_;obtain⟨t,vs,rfl,ht,r⟩:=ra.mJ;refine gk ?_;exact call_tuple_same ht.tuple (PR.here G h (Rv.tup ht r))
 case ref=>
  obtain rfl:=ra.mW;refine lr λGp gk=>?_;refine l9.k h λl e rK=>?_;obtain⟨hz,q⟩:=rK;refine G.nJ e λvs n hl r=>?_;rw[←r.length]at hz;refine gk ?_;refine call_tuple_list (IsL.isList hl) (λh' kp=>?_) (ah hz (by decide));have kp2:∀b o,s.heap.get? b=some o->(h'.push {cls:=.type "tuple",data:=.seq vs.toArray}).get? b=some o:=λb o e=>lG _ _ _ _ (kp b o e);exact PR.grown (t:=s.toks) G q kp2 (Rv.tup ⟨0,IsT.new _ _⟩ (r.keep (TK.of_keeps kp2)))
def OY(G:Gs B kU U s)(ra:Rv s.heap a va)(h:Sp U .list a Q):aq B.mod A (call (.type "list") [va]) (PR B kU l_ Q U s) n_ s:=by
 rcases a with _|_<;>try exact a_ h
 case tup=>
  refine lr λGp gk=>?_;obtain⟨t,vs,rfl,⟨n,hn⟩,r⟩:=ra.mJ;obtain⟨hz,q⟩:=h;rw[←r.length]at hz;refine gk ?_;exact call_list_seq t (.inr rfl) hn rfl rfl (λh' c' kp e=>PR.newList (t:=s.toks) G (ly _) kp e r q) (ah hz (by decide))
 case ref=>
  obtain rfl:=ra.mW;refine lr λGp gk=>?_;refine l9.k h λl e rK=>?_;obtain⟨hz,q⟩:=rK;refine G.nJ e λvs n hl r=>?_;rw[←r.length]at hz;refine gk ?_;exact call_list_seq _ (.inl rfl) hl rfl rfl (λh' c' kp e=>PR.newList (t:=s.toks) G (ly _) kp e r q) (ah hz (by decide))
def KO(G:Gs B kU U s)(hh:A.handled=.none)(ra:Rv s.heap a va)(h:Sp U .bytes a Q):aq B.mod A (call (.type "bytes") [va]) (PR B kU l_ Q U s) n_ s:=by
 refine lr λGp gk=>?_;obtain⟨a,h⟩:=E5 h ra;refine l9.k h λl e h=>?_;refine lv.k h λb hb rK=>?_;obtain⟨hz,q⟩:=rK;refine G.nJ e λvs n hl r=>?_;obtain⟨ns,h1,h2,rfl⟩:=BP r hb;rw[←r.length]at hz;refine gk ?_;exact call_bytes_ints (IsL.isList hl) h1 h2 (ah hz (by decide)) hh λh' t k kp=>PR.grown G q kp (Rv.bytes ..)
def abs_eq(i:Int):(if i<0 then -i else i)=((i.natAbs:Nat):Int):=by
 by_cases h:i<0
 ·exact(if_pos h).trans (Int.ofNat_natAbs_of_nonpos (Int.le_of_lt h)).symm
 exact(if_neg h).trans (Int.natAbs_of_nonneg (bD.mp h)).symm
def str_int{i:Int}(h0:0<=i):bx (toString i)=sk (zA i.toNat):=by
 obtain⟨n,rfl⟩:=Int.eq_ofNat_of_zero_le h0;exact Du n
def V9{Q:QV}(G:Gs B kU U s)(hh:A.handled=.none)(ra:Rv s.heap a va)(h:Sp U f a Q):aq B.mod A (call (UH f) [va]) (PR B kU l_ Q U s) n_ s:=by
 rcases f with _|_
 case len=>exact S7 G ra h
 case tuple=>exact KN G ra h
 case list=>exact OY G ra h
 case bytes=>exact KO G hh ra h
 case chr=>
  obtain⟨i,t,h0,h1,q⟩:=sO h ra;exact chr_of_range h0 (by lia) (PR.tok G q (Rv.str _ [_] _) _)
 case ord=>
  obtain⟨x,t,h⟩:=E4 h ra;clear ra;refine h.k λc yt h=>?_;subst yt;exact PySem.P.ord_of_char (PR.tok G h (Rv.int ..) _)
 case abs=>
  obtain⟨i,t,h⟩:=sO h ra;refine PyProof.Rows.call_abs_int λu tk=>?_;refine J (abs_eq ..) ?_;exact PR.tok G h (Rv.int ..) _
 case int=>
  obtain⟨i,t,h⟩:=sO h ra;exact call_int_int (PR.here G h (Rv.int ..))
 case str=>
  obtain⟨i,t,h0,h1,q⟩:=sO h ra;refine PyProof.Rows.str_of_int_fit (N:=1000000) (J (if_neg (bD.mpr h0) ..) h1) (by decide) λ_=>?_;refine J (str_int h0 ..) ?_;exact PR.tok G q (Rv.str ..) _
def V_(G:Gs B kU U s)(hh:A.handled=.none)(ra:Rv s.heap a va)(rb:Rv s.heap b vb)(h:YQ f a b λv=>Q v U):aq B.mod A (call (X3 f) [va,vb]) (PR B kU l_ Q U s) n_ s:=by
 obtain⟨x,t,h⟩:=sO h ra;obtain⟨y,u,h⟩:=sO h rb;rcases f with _|_
 ·refine min_two_ints hh λh' tk kp=>PR.grown G h kp ?_;refine(?_:Rv h' (.int (min x y)) _)
  split
  ·rename_i hc;exact J (je (Int.le_of_lt hc) ..) (Rv.int ..)
  rename_i hc;exact J (fH (bD.mp hc) ..) (Rv.int ..)
 refine max_two_ints hh λh' tk kp=>PR.grown G h kp ?_;refine(?_:Rv h' (.int (max x y)) _)
 split
 ·rename_i hc;exact J (fh (by lia) ..) (Rv.int ..)
 rename_i hc;exact J (Int.max_eq_left (by lia) ..) (Rv.int ..)
end
section
open PySem PySem.W PySem.Calls PyProof.Rows PySem.SeqAt PySem.MeetsSeq PySem.W.FB PySem.W.KBy
variable {B:nX}{kU:List aD}{U:kO}{s:Shared}{A:bm}
inductive V'(n:NL):PV->Prop
 |mk:V' n (.str n)
def Ib(h:Kb p=some n):V' n p:=by
 rcases p with _|_<;>first|exact lx h|exact af h▸⟨⟩
def Fa:∀{vs:List Value}{ts:List NL},lR h l vs->Bj l=some ts->StrsAre vs (ts.map sk):=by
 induction l with
 |nil=>
  intro vs ts r e;obtain rfl:=lR.q_ r;refine rr (af e ..) ?_;exact .nil
 |cons p l ih=>
  intro vs ts r e;obtain⟨v,r7,r1,r2⟩:=lR.ni r;clear r;obtain⟨c,b',e1,e2⟩:=oJ e;clear e;obtain⟨⟩:=Ib e1;obtain⟨t,rfl⟩:=r1.mz;exact .cons _ t (ih r2 e2)
theorem Au(x:NL):∀ts:List NL,kI (sk x) (ts.map sk)=sk (tY x ts)
 |[]=>rfl
 |[_]=>rfl
 |a::b::r=>by
  refine(?_:kI (sk x) (sk a::sk b::r.map sk)=_);rw[show∀(sep x y:Str) (r:List Str),kI sep (x::y::r)=x++sep++kI sep (y::r)from λ_ _ _ _=>rfl];have:=Au x (b::r);rw[aK]at this;refine J this ?_;refine(?_:(⟨a.toArray⟩:Str)++(⟨x.toArray⟩:Str)++(⟨(tY x (b::r)).toArray⟩:Str)=_);rw[BJ,BJ];rfl
noncomputable def KP(nm:NL):String:=if nm=nu then "str.join" else if nm=nZ then "str.find" else "str.lower"
noncomputable def Ic(nm:NL):String:=if nm=nu then "bytes.join" else if nm=nZ then "bytes.find" else if nm=qo then "bytes.strip" else "bytes.rstrip"
def lR.rL(r:lR h [p] vs):∃v,vs=[v]/\Rv h p v:=by
 obtain⟨v,r7,r1,r2⟩:=lR.ni r;exact⟨v,J (lR.q_ r2 ..) rfl,r1⟩
def OZ(G:Gs B kU U s)(h:l9 U r λl=>lv (Bj l) λts=>(ts.map aZ).sum+ts.length*x.length<=M/\Q (.str (tY x ts)) U):
  aq B.mod A (call (.builtin "str.join") [.str ⟨x.toArray⟩ t,.ref r]) (PR B kU l_ Q U s) n_ s:=by
 refine lr λGp gk=>?_;refine l9.k h λl e h=>?_;refine lv.k h λts hs rK=>?_;obtain⟨hz,q⟩:=rK;refine G.nJ e λus n KJ r=>?_;refine gk ?_;refine join_list (IsL.isList KJ) (ys:=ts.map sk) (Fa r hs) ?_ λt' k=>?_
 ·have e1:((ts.map sk).map (·.length))=ts.map aZ:=by
   exact J (bU ..) (ip λx _=>str_len x)
  refine J (e1 ..) (J (ai ..) (J (str_len ..) ?_));have hM:M=16777216:=rfl;have H':eT=16777216:=by decide
  exact nn 0x101010000007fb10a010000007fb22210a02 rfl hz hM
 refine J (show Txt.join ⟨x.toArray⟩ (ts.map sk)=sk (tY x ts)from(StrLaws.glued_eq_join _ _).trans (Au x ts)) ?_;exact PR.tok G q (Rv.str ..) _
def O0{x:NL}{Q:QV}(G:Gs B kU U s)(hc:x.contains c=false)(q:Q (.int (-1)) U):
  aq B.mod A (call (.builtin "str.find") [.str ⟨x.toArray⟩ t,.str ⟨[c].toArray⟩ u]) (PR B kU l_ Q U s) n_ s:=by
 refine cX F.slot_str_find (typeIs_str _ _ _) F.entry_str_find (F.args_str_find_2 _ _) (gives_str_find _ _ _ _) ?_;have e2:dO ⟨x.toArray⟩ ⟨#[c]⟩ 0 (⟨x.toArray⟩:Str).length 1=[]:=by
  have:(!(dO (sk x) ⟨#[c]⟩ 0 (sk x).length 1).isEmpty)=false:=(uE x c).trans hc;rw[Bool.not_eq_false',dS]at this;exact this
 refine(?_:PR B kU l_ Q U s (.int (match dO ⟨x.toArray⟩ ⟨#[c]⟩ 0 (⟨x.toArray⟩:Str).length 1 with|i::_=>(i:Int)|[]=> -1) s.toks) {s with toks:=s.toks+1});refine J (e2 ..) ?_;exact PR.tok G q (Rv.int ..) _
def KQ{x:NL}{Q:QV}(G:Gs B kU U s)(hz:x.length<=M)(ha:∀c∈x,c<128)(q:Q (.str (x.map mj)) U):
  aq B.mod A (call (.builtin "str.lower") [.str ⟨x.toArray⟩ t]) (PR B kU l_ Q U s) n_ s:=by
 have e:Txt.lower ⟨x.toArray⟩=sk (x.map mj):=by
  refine J (lower_ascii (by simpa using ha) ..) ?_;refine(?_:(⟨_⟩:Str)=⟨_⟩)
  congr 1
  simp only[List.map_toArray];rfl
 refine PySem.SC.lower ?_ ?_
 ·refine J (e ..) (J (show (sk (x.map mj)).length=x.length from(str_len _).trans (ai ..)) ?_);exact decide_eq_false (iF.mpr hz)
 refine J (e ..) ?_;exact PR.tok G q (Rv.str ..) _
def Wa{vs:List Value}{Q:QV}(G:Gs B kU U s)(rx:Rv s.heap (.str x) vx)(ra:lR s.heap as vs)(h:Os U nm x as Q):
  aq B.mod A (call (.builtin (KP nm)) (vx::vs)) (PR B kU l_ Q U s) n_ s:=by
 unfold Os at h;obtain⟨t,rfl⟩:=rx.mz;rcases as with _|⟨a,as⟩
 ·obtain rfl:=lR.q_ ra;obtain⟨rfl,hz,ha,q⟩:=h;exact KQ G hz ha q
 obtain⟨rfl,h⟩:=h;obtain⟨v,rfl,r1⟩:=ra.rL;clear ra;rcases a with _|_<;>try exact h.elim
 case ref=>
  obtain rfl:=r1.mW;obtain⟨rfl,h⟩:=h;exact OZ G h
 case str=>
  obtain⟨u,rfl⟩:=r1.mz;clear r1;refine tR.k h λc yt rK=>?_;clear h;subst yt;obtain⟨rfl,hc,hz,q⟩:=rK;exact O0 G hc q
section bytes
def sJ:Slot "bytes" "find" "bytes.find":=
 .of (owner:="bytes") (n:="find") (by refine J (ig ..) (J (fm ..) ?_);kernel_rfl) (by decide+kernel) (by decide+kernel) (by decide+kernel)
  (by first|exact .inl (by decide+kernel)|exact .inr (by decide+kernel)) (by refine J (eV ..) ?_;kernel_rfl)
def xb:i_ (.builtin "bytes.find")=pure (.type "method_descriptor"):=by refine(?_:jJ _=_);refine J (f0 ..) ?_;kernel_rfl
def wg:entryFor table "bytes.find"=some Builtin.«bytes.find»:=gT (by kernel_rfl)
def xc(a b c d:Value):jB "bytes.find" ⟨[a,b,c,d],[]⟩:=by
 dsimp only[jB];refine J (iW (id:="bytes.find") (n:=['d','n','i','f']) (o:=['s','e','t','y','b']) (by kernel_rfl) owner_bytes ..) ?_;kernel_rfl
def rM:Slot "bytes" "strip" "bytes.strip":=
 .of (owner:="bytes") (n:="strip") (by refine J (ig ..) (J (fm ..) ?_);kernel_rfl) (by decide+kernel) (by decide+kernel) (by decide+kernel)
  (by first|exact .inl (by decide+kernel)|exact .inr (by decide+kernel)) (by refine J (eV ..) ?_;kernel_rfl)
def wh:i_ (.builtin "bytes.strip")=pure (.type "method_descriptor"):=by refine(?_:jJ _=_);refine J (f0 ..) ?_;kernel_rfl
def vA:entryFor table "bytes.strip"=some Builtin.«bytes.strip»:=gT (by kernel_rfl)
def wi(a b:Value):jB "bytes.strip" ⟨[a,b],[]⟩:=by
 dsimp only[jB];refine J (iW (id:="bytes.strip") (n:=['p','i','r','t','s']) (o:=['s','e','t','y','b']) (by kernel_rfl) owner_bytes ..) ?_;kernel_rfl
def rg:Slot "bytes" "rstrip" "bytes.rstrip":=
 .of (owner:="bytes") (n:="rstrip") (by refine J (ig ..) (J (fm ..) ?_);kernel_rfl) (by decide+kernel) (by decide+kernel) (by decide+kernel)
  (by first|exact .inl (by decide+kernel)|exact .inr (by decide+kernel)) (by refine J (eV ..) ?_;kernel_rfl)
def vB:i_ (.builtin "bytes.rstrip")=pure (.type "method_descriptor"):=by refine(?_:jJ _=_);refine J (f0 ..) ?_;kernel_rfl
def uF:entryFor table "bytes.rstrip"=some Builtin.«bytes.rstrip»:=gT (by kernel_rfl)
def vC(a b:Value):jB "bytes.rstrip" ⟨[a,b],[]⟩:=by
 dsimp only[jB];refine J (iW (id:="bytes.rstrip") (n:=['p','i','r','t','s','r']) (o:=['s','e','t','y','b']) (by kernel_rfl) owner_bytes ..) ?_;kernel_rfl
def sK:Slot "bytes" "join" "bytes.join":=
 .of (owner:="bytes") (n:="join") (by refine J (ig ..) (J (fm ..) ?_);kernel_rfl) (by decide+kernel) (by decide+kernel) (by decide+kernel)
  (by first|exact .inl (by decide+kernel)|exact .inr (by decide+kernel)) (by refine J (eV ..) ?_;kernel_rfl)
def xd:i_ (.builtin "bytes.join")=pure (.type "method_descriptor"):=by refine(?_:jJ _=_);refine J (f0 ..) ?_;kernel_rfl
def wj:entryFor table "bytes.join"=some Builtin.«bytes.join»:=gT (by kernel_rfl)
def xe(a b:Value):jB "bytes.join" ⟨[a,b],[]⟩:=by
 dsimp only[jB];refine J (iW (id:="bytes.join") (n:=['n','i','o','j']) (o:=['s','e','t','y','b']) (by kernel_rfl) owner_bytes ..) ?_;kernel_rfl
def Av{M:Model}{E:Value->Shared->Prop}{Q:Option Int->Shared->Prop}(h:Q (some i) s):aq M A (Builtin.Bytes.bound? (some (.int i u))) Q E s:=by
 refine(?_:aq M A (specialOf (.int i u) "__index__">>=λr=>_) Q E s);refine aa (jO (T:="int") (typeIs_int s i u) int_index ?_);simp only[Option.isNone_some,aY,if_false];exact aa (bE (a:=i) rfl (ag h))
noncomputable def O4(b c:Array UInt8)(lo hi:Int):Int:=match (if min (b.size:Int) hi-lo<c.size then none else eC b c lo.toNat (min (b.size:Int) hi).toNat)with
 |some i=>(i:Int)
 |none=> -1
set_option tactic.hygienic true in
def wk(b c:Array UInt8)(lo hi:Int)(t u v w:gN)(h0:0<=lo)(h1:0<=hi):
  Gives (Builtin.«bytes.find» ⟨[.bytes b t,.bytes c u,.int lo v,.int hi w],[]⟩) (.int (O4 b c lo hi)):=by
 refine .of_wp λM A E s Q hq=>?_;unfold O4 at hq;refine(?_:aq M A (iD .bytes "find" ⟨[.bytes b t,.bytes c u,.int lo v,.int hi w],[]⟩>>=λr=>_) _ E s);refine aa ?_;unfold iD;refine aa (bE (a:=(.bytes b t,[.bytes c u,.int lo v,.int hi w])) rfl ?_);refine aa (Av ?_);refine aa (Av ?_);refine aa (bE buffer_eq ?_);refine aa (ag ?_);refine aa (bE (a:=b) rfl ?_);have hw:jc b.size (some lo) (some hi)=(lo,min (b.size:Int) hi):=by
  unfold jc;simp only[Option.getD_some];exact J (if_neg (by lia:¬hi<0) ..) (J (if_neg (by lia:¬lo<0) ..) rfl)
 refine J (hw ..) ?_;refine ag ?_;simp only[aY,if_false]
 split at hq
 ·rename_i i hf
  split at hf
  ·contradiction
  rename_i hn;refine J (if_neg hn ..) (J (Option.bind_some ..) ?_);simp only[hf];exact aa (wpAny_mkInt (ag ⟨_,rfl,hq⟩))
 rename_i hf;have hx:(Option.bind (if min (b.size:Int) hi-lo<c.size then none else some (lo.toNat,(min (b.size:Int) hi).toNat)) λx=>eC b c x.1 x.2)=none:=by
  split at hf
  ·rename_i hn;refine J (if_pos hn ..) ?_;rfl
  rename_i hn;exact J (if_neg hn ..) hf
 simp only[hx];exact aa (eF (aa (wpAny_mkInt (ag ⟨_,rfl,hq⟩))))
def Fb{α:Type}{p q:α->Bool}:∀l:List α,(∀a∈l,p a=q a)->l.find? p=l.find? q:=by
 intro z9
 induction z9 with
 |nil=>
  intro _;exact rfl
 |cons a l ih=>
  intro h;exact J (dh ..) (J (dh ..) (J (h a (aj ..) ..) (J (ih λx hx=>h x (ay _ hx) ..) rfl)))
def Fc{α:Type}[BEq α](c:α):∀m:List α,(cH m.length).find? (λk=>m[k]? ==some c)=m.findIdx? (· ==c):=by
 intro z9
 induction z9 with
 |nil=>
  exact rfl
 |cons x m ih=>
  refine J (au ..) (J (jT ..) (J (dh ..) (J (fU ..) (J (List.find?_map ..) ?_))));simp only[jR];have e:(some x==some c)=(x==c):=rfl;refine J (e ..) ?_
  induction x==c with
  |true=>rfl
  |false=>
   have:=ih;have e2:((λk=>(x::m)[k]? ==some c)∘Nat.succ)=λk=>m[k]? ==some c:=by funext k;simp
   refine J (e2 ..) (J (this ..) ?_);rfl
def Dv{α:Type}(l:List α)(i:Nat)(h:i<l.length):l.extract i (i+1)=[l[i]'h]:=by
 refine J (List.extract_eq_take_drop ..) (J (bL ..) (J (dU h ..) ?_));rfl
def O5(x c:UInt8):(([x]:List UInt8).toArray==#[c])=(some x==some c):=by
 refine ri (a0 ..) (ri (beq_iff_eq ..) (ri (beq_iff_eq ..) ?_));exact⟨λh=>congrArg some (bw (congrArg iM h)).1,λh=>by rw[af h]⟩
def KR(l:List UInt8)(hi:Nat):∃m,m<=l.length/\l.take hi=l.take m/\min (l.toArray.size:Int) (hi:Int)=(m:Int):=by
 rcases iU hi l.length with h|h
 ·exact⟨hi,h,rfl,je (aN.mpr h)⟩
 exact⟨l.length,aF _,(bS h).trans (bS (aF _)).symm,fH (aN.mpr h)⟩
def O6(l:List UInt8)(c:UInt8){m lo:Nat}(h:m<=l.length)(k:Nat)(hk:k<((l.take m).drop lo).length):((λi=>l.toArray.extract i (i+1)==#[c])∘λx=>x+lo) k=(((l.take m).drop lo)[k]? ==some c):=by
 rw[a9,dR,cO h]at hk;have hk:=Nat.add_lt_of_lt_sub' hk;have hl:=cv hk h;refine(?_:(l.toArray.extract (k+lo) (k+lo+1)==#[c])=_);refine J (ck k lo ..) (J (List.extract_toArray ..) (J (Dv l _ hl ..) (J (c_ ..) (J (List.getElem?_take_of_lt hk ..) (J (aT hl ..) ?_)))));exact O5 _ _
def KS(l:List UInt8)(c:UInt8)(lo hi:Nat):
  O4 l.toArray #[c] (lo:Int) (hi:Int)=OI c.toNat (l.map aL) lo hi:=by
 have hm:(kB aL l|>.take hi|>.drop lo).findIdx? (· ==c.toNat)=((l.take hi).drop lo).findIdx? (· ==c):=by
  refine rr (ir ..) (rr (jM ..) (J (List.findIdx?_map ..) ?_))
  congr 1
  funext x
  refine(?_:(x.toNat==c.toNat)=(x==c));rw[a0,beq_iff_eq,beq_iff_eq,i9]
 dsimp only[OI,O4];obtain⟨m,h,e,e2⟩:=KR l hi;refine J (hm ..) (J (dA ..) (J (e ..) (J (e2 ..) ?_)))
 show (match (if(m:Int)-lo<((1:Nat):Int)then none else eC l.toArray #[c] lo (m:Int).toNat)with
  |some i=>(i:Int)
  |none=> -1)=_
 rcases iT lo m with hn|hn
 ·refine J (if_neg (by lia) ..) (J (dA ..) ?_);dsimp only[eC];refine J (List.find?_map ..) ?_;have e1:m+1-(lo+1)=((l.take m).drop lo).length:=J (a9 ..) (J (dR ..) (J (cO h ..) (J (Nat.add_sub_add_right ..) rfl)))
  show (match ((cH (m+1-(lo+1))).find? ((λi=>l.toArray.extract i (i+1)==#[c])∘λx=>x+lo)).map (λx=>x+lo)with
   |some i=>(i:Int)
   |none=> -1)=_
  refine J (e1 ..) (J (Fb _ (λk hk=>O6 l c h k (List.mem_range.mp hk)) ..) (J (Fc ..) ?_));rcases((l.take m).drop lo).findIdx? (· ==c)with _|i
  ·rfl
  exact congrArg ff (ck i lo)
 refine J (if_pos (by lia)) (J (List.drop_eq_nil_of_le (by rw[dR,cO h];exact hn)) ?_);rfl
end bytes
end
section
open PySem PySem.W PySem.Calls PyProof.Rows PySem.SeqAt PySem.MeetsSeq PySem.W.FB PySem.W.KBy
variable {B:nX}{kU:List aD}{U:kO}{s:Shared}{A:bm}
def rD{α β:Type}(f:α->β)(p:β->Bool):∀l:List α,(l.map f).dropWhile p=(l.dropWhile (p∘f)).map f:=by
 intro z9
 induction z9 with
 |nil=>
  exact rfl
 |cons a l ih=>
  refine J (aK ..) (J (fG ..) (J (fG ..) ?_));refine(?_:(if p (f a)=true then _ else _)=kB f (if p (f a)=true then _ else _))
  split
  ·exact ih
  rfl
noncomputable def tZ(left:Bool)(cs:List UInt8)(l:List UInt8):List UInt8:=
 ((if left then l.dropWhile cs.toArray.contains else l).reverse.dropWhile cs.toArray.contains).reverse
def BQ(cs:List UInt8)(x:UInt8):(cs.map aL).contains x.toNat=cs.toArray.contains x:=by
 rw[gS,a0,bj,bj,dP];constructor
 ·rintro⟨y,hy,e⟩;rw[←i9.mp e];exact hy
 intro h;exact⟨x,h,rfl⟩
def Dw(left:Bool)(cs l:List UInt8):(tZ left cs l).map aL=rstrip (cs.map aL) (if left then lstrip (cs.map aL) (l.map aL)else l.map aL):=by
 have hf:(cs.map aL).contains∘aL=cs.toArray.contains:=by funext x;exact BQ cs x
 dsimp only[tZ,rstrip,lstrip];rcases left with _|_
 ·simp only[aY,if_false];exact rr (dQ ..) (J (rD ..) (J (hf ..) (rr (dQ ..) rfl)))
 simp only[if_true];exact J (rD ..) (J (hf ..) (rr (dQ ..) (J (rD ..) (J (hf ..) (rr (dQ ..) rfl)))))
def uG(l cs:List UInt8)(t u:gN):
  Gives (Builtin.«bytes.rstrip» ⟨[.bytes l.toArray t,.bytes cs.toArray u],[]⟩) (if(tZ false cs l).length==l.toArray.size then .val (.bytes l.toArray t)else .bytes (tZ false cs l).toArray):=by
 refine .of_wp λM A E s Q hq=>?_;unfold Builtin.«bytes.rstrip» jd;refine aa (bE (a:=(.bytes l.toArray t,[.bytes cs.toArray u])) rfl ?_);refine aa (aa (bE buffer_eq (ag ?_)));refine aa (ag ?_);refine aa (bE (a:=l.toArray) rfl ?_);refine(?_:aq M A (if((tZ false cs l).length==l.toArray.size)=true then _ else _) _ E s)
 split at hq
 ·rename_i hc;refine J (if_pos hc ..) ?_;refine aa (eF (aa ?_));unfold hW;refine aa (f8 (aX _ _ _) ?_);exact ag (ag ⟨_,rfl,hq⟩)
 rename_i hc;refine J (if_neg hc ..) ?_;exact aa (kF (ag ⟨_,rfl,hq.2⟩) hq.1)
def vD(l cs:List UInt8)(t u:gN):
  Gives (Builtin.«bytes.strip» ⟨[.bytes l.toArray t,.bytes cs.toArray u],[]⟩) (if(tZ true cs l).length==l.toArray.size then .val (.bytes l.toArray t)else .bytes (tZ true cs l).toArray):=by
 refine .of_wp λM A E s Q hq=>?_;unfold Builtin.«bytes.strip» jd;refine aa (bE (a:=(.bytes l.toArray t,[.bytes cs.toArray u])) rfl ?_);refine aa (aa (bE buffer_eq (ag ?_)));refine aa (ag ?_);refine aa (bE (a:=l.toArray) rfl ?_);refine(?_:aq M A (if((tZ true cs l).length==l.toArray.size)=true then _ else _) _ E s)
 split at hq
 ·rename_i hc;refine J (if_pos hc ..) ?_;refine aa (eF (aa ?_));unfold hW;refine aa (f8 (aX _ _ _) ?_);exact ag (ag ⟨_,rfl,hq⟩)
 rename_i hc;refine J (if_neg hc ..) ?_;exact aa (kF (ag ⟨_,rfl,hq.2⟩) hq.1)
def oG{α:Type}(p:α->Bool):∀l:List α,(l.dropWhile p).length<=l.length:=by
 intro z9
 induction z9 with
 |nil=>
  exact aF _
 |cons a l ih=>
  refine J (fG ..) ?_
  split
  ·exact eJ (ih)
  exact aF _
def te{α:Type}(p:α->Bool):∀l:List α,(l.dropWhile p).length=l.length->l.dropWhile p=l:=by
 intro z9
 induction z9 with
 |nil=>
  intro _;exact rfl
 |cons a l ih=>
  intro h;rw[fG]at h ⊢
  split at h
  ·have:=oG p l;simp at h;lia
  rename_i hn;exact J (if_neg hn ..) rfl
def KT(left:Bool)(cs l:List UInt8):(tZ left cs l).length<=l.length:=by
 dsimp only[tZ];refine J (cz ..) ?_;refine ah (oG _ _) ?_;refine J (cz ..) ?_
 split
 ·exact oG _ _
 exact aF _
def Ie(left:Bool)(cs l:List UInt8)(h:(tZ left cs l).length=l.length):tZ left cs l=l:=by
 dsimp only[tZ]at h ⊢;rw[cz]at h;have h1:=oG cs.toArray.contains (if left then l.dropWhile cs.toArray.contains else l).reverse;rw[cz]at h1;have h2:(if left then l.dropWhile cs.toArray.contains else l).length<=l.length:=by
  split
  ·exact oG _ _
  exact aF _
 refine J (te _ _ (by rw[cz];exact nn 0x100001000010002021202001023 rfl h h1 h2) ..) (J (List.reverse_reverse ..) ?_)
 split
 ·rename_i hl;rw[if_pos hl]at h1 h2;exact te _ _ (by rw[if_pos hl]at h;exact nn 0x100100000000101221202001023 rfl h h1 h2)
 rfl
inductive Wb(n:NL):PV->Prop
 |mk:Wb n (.bytes n)
def Dx(h:xW p=some n):Wb n p:=by
 rcases p with _|_<;>first|exact lx h|exact af h▸⟨⟩
inductive Wc(vs:List Value)(ts:List NL):Prop
 |mk (bs:List (List UInt8×gN)) (h1:vs=bs.map λb=>.bytes b.1.toArray b.2) (h2:ts=bs.map λb=>b.1.map aL)
def Dy:∀{vs:List Value}{ts:List NL},lR h l vs->qU l=some ts->Wc vs ts:=by
 induction l with
 |nil=>
  intro vs ts r e;obtain rfl:=lR.q_ r;exact⟨[],rfl,(af e).symm⟩
 |cons p l ih=>
  intro vs ts r e;obtain⟨v,r7,r1,r2⟩:=lR.ni r;clear r;obtain⟨c,b',e1,e2⟩:=oJ e;clear e;obtain⟨⟩:=Dx e1;clear e1;obtain⟨x,t,rfl,rfl⟩:=r1.l8;obtain⟨bs,rfl,rfl⟩:=ih r2 e2;exact⟨(x,t)::bs,rfl,rfl⟩
def Fd{b:Array UInt8}{id:String}:gW id (.bytes b t) 0=pure (some (b,.none)):=by
 unfold gW Builtin.Bytes.takeBuffer?;refine J (special_eq look_buffer ..) (J (own_buffer ..) (J (show ((0:Int)==Builtin.Bytes.fullReadOnly)=false from by decide) (J (buffer_eq ..) ?_)))
 kernel_rfl
def KU{M:Model}{E:Value->Shared->Prop}{P:Unit->Shared->Prop}(h:P () s):∀(r k:List Value),aq M A (letGo r k) P E s:=by
 intro z9
 induction z9 with
 |nil=>
  intro _;exact ag h
 |cons _ r ih=>
  intro k;exact aa (ax (fL (ih k)))
def BR{M:Model}{E:Value->Shared->Prop}{P:Unit->Shared->Prop}(h:P () s):∀(bs:List (List UInt8×gN)) (k:List Value),aq M A (iR (bs.map λb=>(Value.bytes b.1.toArray b.2,cM)) k) P E s:=by
 intro z9
 induction z9 with
 |nil=>
  intro _;exact ag h
 |cons b bs ih=>
  intro k;refine(?_:aq M A (letGo _ _>>=λ_=>iR _ k) P E s);exact aa (KU (ih k) _ _)
def Dz:∀(l:List (Array UInt8)),gb #[] l=(l.map iM).flatten.toArray:=by
 have key:∀(l:List (Array UInt8)) (k:Nat) (acc:Array UInt8),((l.zipIdx k).foldl (λout (p:Array UInt8×Nat)=>(if p.2>0 then out++ #[]else out)++p.1) acc)=acc++(l.map iM).flatten.toArray:=by
  intro l
  induction l with
  |nil=>intro k acc;simp
  |cons x l ih=>
   intro k acc;refine J (i6 ..) (J (jh ..) (J (ih ..) ?_));apply Array.toList_inj.mp;simp
 intro l;have:=key l 0 #[];dsimp only[gb];refine J (this ..) ?_;simp
def Ig:∀(bs:List (List UInt8×gN)) (k:Nat),(bs.map (·.1.toArray)).foldl (λ(x1:Nat) (x2:Array UInt8)=>x1+x2.size) k=k+(bs.map (·.1)).flatten.length:=by
 intro z9
 induction z9 with
 |nil=>
  intro k;exact rfl
 |cons b bs ih=>
  intro k;refine J (aK ..) (J (jh ..) (J (ih ..) ?_));simp;exact nn 0x21a0a210aa20 rfl
noncomputable def jv(b:List UInt8×gN):Value:=.bytes b.1.toArray b.2
def S8(bs:List (List UInt8×gN)):(∃b,bs=[b])\/∀{α:Type} (h1:Value->α) (h2:Array Value->α),Builtin.Bytes.joinM.match_1 (λ_=>α) (bs.map jv).toArray h1 h2=h2 (bs.map jv).toArray:=
 match bs with
 |[]=>.inr λ_ _=>rfl
 |[b]=>.inl ⟨b,rfl⟩
 |_::_::_=>.inr λ_ _=>rfl
noncomputable def KV(bs:List (List UInt8×gN))(i:Nat):Array (Array UInt8)×List (Value×Option Value):=(((bs.take i).map (·.1.toArray)).toArray,(bs.take i).map λb=>(jv b,cM))
def KW(h:i<bs.length):KV bs (i+1)=((KV bs i).1.push bs[i].1.toArray,(KV bs i).2++[(jv bs[i],cM)]):=by
 dsimp only[KV];refine J (List.take_add_one ..) (J (aT h ..) (J (aS ..) (J (aS ..) (J (List.push_toArray ..) ?_))));rfl
def KX{M:Model}{E:Value->Shared->Prop}{Q:Array (Array UInt8)×List (Value×Option Value)->Shared->Prop}{f:Nat->Array (Array UInt8)×List (Value×Option Value)->fZ (ForInStep (Array (Array UInt8)×List (Value×Option Value)))}{bs:List (List UInt8×gN)}
  (hf:∀i (h:i<bs.length),aq M A (f i (KV bs i)) (λr s'=>r=.yield (KV bs (i+1))/\s'=s) E s) (RI:Q (KV bs bs.length) s):aq M A (forIn [:(bs.map jv).toArray.size] (#[],[]) f) Q E s:=by
 refine J (Std.Legacy.Range.forIn_eq_forIn_range' ..) ?_;have hs:([:(bs.map jv).toArray.size]:Std.Legacy.Range).size=bs.length:=by simp[Std.Legacy.Range.size]
 refine J (hs ..) ?_;refine wpAny_forIn_list _ (λkY st s'=>s'=s/\∃i,i<=bs.length/\kY=kA i (bs.length-i)/\st=KV bs i) _ ?_ ?_ _ _ ⟨rfl,0,aO _,rfl,rfl⟩
 ·intro i kY st s' hh;clear RI;obtain⟨rfl,j,hj,hr,rfl⟩:=hh;clear hj;rcases iT j bs.length with h|h
  ·rw[←Nat.succ_pred_eq_of_pos (Nat.sub_pos_of_lt h),eR]at hr;cases hr;refine aw (hf i h) (λr tU hh=>?_) λ_ _ z=>z;clear hf;obtain⟨rfl,rfl⟩:=hh;exact⟨rfl,i+1,h,J (Nat.pred_eq_sub_one ..) (J (Nat.sub_sub ..) rfl),rfl⟩
  rw[eQ h]at hr;contradiction
 intro st s' hh;clear M E f hf;obtain⟨rfl,j,hj,hr,rfl⟩:=hh;have e:bs.length-j=0:=by refine rr (List.length_range' (s:=j) (n:=bs.length-j) (step:=1) ..) (rr (hr ..) ?_);rfl
 refine J (Nat.le_antisymm hj (Nat.sub_eq_zero_iff_le.mp e) ..) ?_;exact RI
def S9(l:List (List UInt8×gN)):((l.map λb=>(jv b,(cM:Option Value))).any λx=>x.1.onHeap)=false:=by
 induction l with
 |nil=>rfl
 |cons b l ih=>refine J (aK ..) (J (fa ..) (J (ih ..) ?_));rfl
def Fe(t:gN)(a:Nat)(bs:List (List UInt8×gN))(n:Nat):Meets (Builtin.«bytes.join» ⟨[.bytes #[] t,.ref a],[]⟩)
  (λ_ R s=>IsL s.heap a (bs.map jv).toArray n/\(bs.map (·.1)).flatten.length<=eT/\∀t' k,R (.ok (.ret (.bytes (bs.map (·.1)).flatten.toArray t'))) {s with toks:=k}):=by
 refine .of_wp λprog w A R s hS=>?_;obtain⟨hl,hz,h⟩:=hS;have hT:s.TypeIs (.ref a) "list":=⟨_,hl,rfl⟩;unfold Builtin.«bytes.join» Builtin.Bytes.joinM;refine aa (bE (a:=(.bytes #[] t,.ref a)) rfl ?_);refine aa (aa (f8 hT (ag ?_)));refine aa (gu hl rfl ?_);refine wpAny_ite_true (by decide) ?_;rcases S8 bs with⟨b,rfl⟩|e
 ·refine(?_:aq _ _ (i_ (jv b)>>=λv=>_) _ _ _);refine aa (f8 (aX _ _ _) ?_);refine wpAny_ite_true (by decide) ?_;refine aa (eF (ag ⟨_,rfl,?_⟩));have:=h b.2 s.toks;simp only[aK,gI,bh,List.flatten_nil,aJ]at this;exact this
 refine J (e ..) ?_;refine aa (KX (λi hi=>?_) ?_)
 ·refine aa (gu hl rfl ?_);refine(?_:aq _ _ (if((Builtin.Bytes.Kind.bytes==Builtin.Bytes.Kind.bytearray||(KV bs i).2.any λx=>x.1.onHeap)=true)then _ else _) _ _ _);have hg:(kB jv bs).toArray.getD i cx=jv bs[i]:=by
   simp[Array.getD,hi]
  refine ie (by refine J (show ((KV bs i).2.any λx=>x.1.onHeap)=false from S9 _) ?_;decide) ?_;refine J (hg ..) ?_;refine aa (ax (bE Fd ?_));refine aa (gu hl rfl ?_);refine ie (by simp) ?_;exact ag ⟨J (KW hi ..) rfl,rfl⟩
 unfold KV;refine J (i7 ..) ?_;refine aa (bE (a:=#[]) rfl ?_);have Zi:Array.foldl (λ(x1:Nat) (x2:Array UInt8)=>x1+x2.size) ((#[]:Array UInt8).size*((bs.map (·.1.toArray)).toArray.size-1)) (bs.map (·.1.toArray)).toArray=(bs.map (·.1)).flatten.length:=by
  exact J (List.foldl_toArray ..) (J (Ig ..) (J (show (#[]:Array UInt8).size=0 from rfl) (J (iS ..) (J (bV ..) rfl))))
 refine ie (by refine J (Zi ..) ?_;unfold Builtin.Bytes.tooLong;simpa using hz) ?_;have hj:gb #[] ((bs.map (·.1.toArray)).toArray.toList)=(bs.map (·.1)).flatten.toArray:=by
  refine J (Dz ..) (J (bU ..) ?_);rfl
 refine aa ?_;refine J (hj ..) ?_;refine kF ?_ (by simpa using hz);refine aa (ax (fL ?_));refine aa (BR ?_ bs _);exact ag ⟨_,rfl,h _ _⟩
def O7(G:Gs B kU U s)(h:l9 U r λl=>lv (qU l) λts=>ts.flatten.length<=M/\l.length<=M/\Q (.bytes ts.flatten) U):
  aq B.mod A (call (.builtin "bytes.join") [.bytes #[] t,.ref r]) (PR B kU l_ Q U s) n_ s:=by
 refine lr λGp gk=>?_;refine l9.k h λps e h=>?_;refine lv.k h λts hs rK=>?_;obtain⟨hz,hl,q⟩:=rK;refine G.nJ e λus n KJ r=>?_;obtain⟨bs,rfl,rfl⟩:=Dy r hs;have e2:(bs.map λb=>b.1.map aL).flatten=(bs.map (·.1)).flatten.map aL:=by
  refine J (List.map_flatten ..) (J (bU ..) ?_);rfl
 rw[e2]at q hz;rw[ai]at hz;refine gk ?_;exact call_meets sK (aX _ _ _) wj (xe _ _) (Fe t _ bs n) ⟨KJ,ah hz (by decide),λt' k=>PR.tok G q (Rv.bytes ..) _⟩
def O8{l:List UInt8}{t u v w:gN}{lo hi:Int}{Q:QV}(G:Gs B kU U s)(h0:0<=lo)(h1:0<=hi)(q:Q (.int (OI c.toNat (l.map aL) lo.toNat hi.toNat)) U):
  aq B.mod A (call (.builtin "bytes.find") [.bytes l.toArray t,.bytes #[c] u,.int lo v,.int hi w]) (PR B kU l_ Q U s) n_ s:=by
 refine cX sJ (aX _ _ _) wg (xc _ _ _ _) (wk _ _ _ _ _ _ _ _ h0 h1) ?_;have e:=KS l c lo.toNat hi.toNat;rw[d0 h0,d0 h1]at e;refine J (e ..) ?_;exact PR.tok G q (Rv.int ..) _
def DA{l cs:List UInt8}{Q:QV}(G:Gs B kU U s)(hz:l.length<=M)(q:Q (.bytes ((tZ left cs l).map aL)) U):(if(tZ left cs l).length==l.toArray.size then Made.val (.bytes l.toArray t)else Made.bytes (tZ left cs l).toArray).post (PR B kU l_ Q U s) s:=by
 split
 ·rename_i he;rw[Ie left cs l (eq_of_beq he)]at q;exact PR.here G q (Rv.bytes ..)
 exact⟨ah (ah (KT left cs l) hz) (by decide),PR.tok G q (Rv.bytes ..) _⟩
def KY(h:l.map aL=[c]):∃x,l=[x]/\x.toNat=c:=by
 rcases l with _|⟨x,l⟩
 ·contradiction
 rcases l with _|⟨_,_⟩
 ·exact⟨x,rfl,(bw h).1⟩
 rcases(bw h).2 with _|_
def We(G:Gs B kU U s)(rx:Rv s.heap (.bytes x) vx)(ra:lR s.heap as vs)(h:HQ U nm x as Q):
  aq B.mod A (call (.builtin (Ic nm)) (vx::vs)) (PR B kU l_ Q U s) n_ s:=by
 unfold HQ at h;obtain⟨l,t,rfl,rfl⟩:=rx.l8;clear rx;rcases as with _|⟨a,as⟩
 ·exact h.elim
 obtain⟨v,r7,r1,rb⟩:=lR.ni ra;clear ra;rcases a with _|_<;>try exact h.elim
 case ref=>
  obtain rfl:=r1.mW;obtain⟨rfl,rfl,h0,h⟩:=h;obtain rfl:=lR.q_ rb;obtain rfl:=List.map_eq_nil_iff.mp h0;exact O7 G h
 case bytes=>
  obtain⟨cs,u,rfl,rfl⟩:=r1.l8;clear r1;rcases as with _|⟨a1,as⟩
  ·obtain rfl:=lR.q_ rb;obtain⟨hz,hc,h⟩:=h;rw[ai]at hz;rcases h with⟨rfl,q⟩|⟨rfl,q⟩
   ·refine cX rM (aX _ _ _) vA (wi _ _) (vD _ _ _ _) (DA G hz ?_);exact J (Dw ..) q
   refine cX rg (aX _ _ _) uF (vC _ _) (uG _ _ _ _) (DA G hz ?_);exact J (Dw ..) q
  refine lr λGp gk=>?_;obtain⟨v1,vs1,r2,rc⟩:=lR.ni rb;replace h:=tR.ex h;clear rb;obtain⟨a2,rfl,h⟩:=h;obtain⟨v2,rfl,r3⟩:=rc.rL;clear rc;refine tR.k h λc hc h=>?_;obtain⟨lo,w1,h⟩:=sO h r2;obtain⟨hi,w2,h⟩:=sO h r3;obtain⟨rfl,hz,h0,h1,q⟩:=h;clear h;obtain⟨c,rfl,rfl⟩:=KY hc;refine gk ?_;exact O8 G h0 h1 q
variable {kQ:aD}{ρ:lK}
structure Good(B:nX):Prop extends Good0 B where
 pf:B.pf.In B.H0
 lim:B.H0.NoLimit
 JX:∃mg,B.H0.Ns cL mg/\(∀x v,B.ml.lookup x=some v->(x==("__debug__":Str))=false/\∃y,mg x=some y/\Rv B.H0 v y)/\∀x v,BF.lookup x=some v->mg x=.none/\(x==("__debug__":Str))=false
 SI:∃mb,B.H0.Ns hO mb/\∀x v,BF.lookup x=some v->mb x=some v
 att:∀C nm,B.tab.attrs.contains (C,nm)=true->Kr B.pf C (sk nm)=true
 put:∀C nm,B.tab.Kc.contains (C,nm)=true->Ks B.pf C (sk nm)=true
 met:∀C nm f,B.tab.meths.lookup (C,nm)=some f->Kt B.pf C (sk nm) f=true
def Good.KZ(g:Good B)(O:EJ B.w.params B.H0 U s.heap):B.pf.In s.heap:=λa o e=>O.base a o (g.pf a o e)
def xw{h h':Heap}{m:Str->Option Value}(k:∀b o,h.get? b=some o->h'.get? b=some o)(n:h.Ns a m):h'.Ns a m:=by
 obtain⟨o,es,ep,e,d,r⟩:=n;exact⟨o,es,ep,k _ _ e,d,r⟩
def mB(κ:nP)(kQ:aD):Prop:=∀(i:Nat) (x:Str) (k:NameKind),κ.names[i]? =some (x,k)->∃k',kQ.scope.names[i]? =some (x,k')/\(k'=k\/(k=cq/\k'=gV))/\(k=.cell->kQ.frame=some kQ.locals)
def tF:∀{l:List (Str×NameKind)}{x:Str}{i j:Nat}{k:NameKind},ql x l i=some (j,k)->i<=j/\l[j-i]? =some (x,k):=by
 intro z9
 induction z9 with
 |nil=>
  intro _ _ _ _ h;exact nomatch h
 |cons y9 l ih=>
  intro x i j k h;obtain⟨y,k'⟩:=y9;change (if(y==x)=true then some (i,k')else ql x l (i+1))=some (j,k)at h
  by_cases q:(y==x)=true
  ·rw[if_pos q]at h;cases h;obtain rfl:=eq_of_beq q;exact⟨aF _,by refine J (fP ..) ?_;rfl⟩
  rw[if_neg q]at h;obtain⟨h1,h2⟩:=ih h;refine⟨dy h1,?_⟩;refine J (show j-i=(j-(i+1))+1 from oV 0x100000100001010001b3a1201b2a3a2021a21b2a3a0021a004 rfl s2 s2 (aA (mZ 0x1010011b0a01 rfl h1)) (aA (mZ 0x1011b0a011b0a01 rfl h1))) ?_;exact h2
def oR{α β:Type}[BEq α][LawfulBEq α]:∀{l:List (α×β)}{i:Nat}{x:α}{k:β},(l.map (·.1)).Nodup->l[i]? =some (x,k)->l.lookup x=some k:=by
 intro z9
 induction z9 with
 |nil=>intro _ _ _ _ h;exact lx h
 |cons y9 l ih=>
  obtain⟨y,k'⟩:=y9;intro i x k n h;rcases i with _|i
  ·obtain⟨rfl,rfl⟩:=Prod.mk.inj (af h);exact J (aQ ..) (J (beq_self_eq_true ..) rfl)
  have h':l[i]? =some (x,k):=h;have hn:=fq.mp n;have:x≠y:=λe=>hn.1 (by
   clear n h hn;subst e;exact dP.mpr ⟨(x,k),bt h',rfl⟩)
  refine J (aQ ..) (J (beq_false_of_ne this ..) ?_);exact ih hn.2 h'
def K0{κ:nP}{x:Str}{i:Nat}(h:κ.oW x=some i):∃k,ql x κ.names 0=some (i,k)/\(k=.local\/k=.cell\/k=.free):=by
 unfold nP.oW at h;rcases e:ql x κ.names 0 with _|⟨j,k⟩<;>rw[e]at h
 ·contradiction
 rcases k with _|_<;>rcases h with _|_
 ·exact⟨_,rfl,.inl rfl⟩
 ·exact⟨_,rfl,.inr (.inl rfl)⟩
 exact⟨_,rfl,.inr (.inr rfl)⟩
def S_{κ:nP}{x:Str}{i:Nat}(h:κ.own? x=some i):∃k,ql x κ.names 0=some (i,k)/\(k=.local\/k=.cell):=by
 unfold nP.own? at h;rcases e:ql x κ.names 0 with _|⟨j,k⟩<;>rw[e]at h
 ·contradiction
 rcases k with _|_<;>rcases h with _|_
 ·exact⟨_,rfl,.inl rfl⟩
 exact⟨_,rfl,.inr rfl⟩
def K1(E:td kQ)(n:mB κ kQ)(h:κ.oW x=some i):
  ∃k,kQ.scope.names[i]? =some (x,k)/\kQ.kindOf x=some k/\(k=.local\/k=.cell\/k=.free)/\(x==("__debug__":Str))=false/\(x==("__classdict__":Str))=false:=by
 refine lr λGp gk=>?_;obtain⟨k,e,hk⟩:=K0 h;obtain⟨k',e',tG,hf⟩:=n _ _ _ (tF e).2;refine gk ?_;refine⟨k',e',oR E.nodup e',?_,E.odd x k' (bt e')⟩;clear e e' hf;rcases tG with rfl|⟨_,rfl⟩
 ·exact hk
 exact .inr (.inl rfl)
def K3(E:td kQ)(n:mB κ kQ)(h:κ.own? x=some i):∃k,kQ.scope.names[i]? =some (x,k)/\kQ.kindOf x=some k/\(k=.local\/k=.cell/\kQ.frame=some kQ.locals):=by
 refine lr λGp gk=>?_;obtain⟨k,e,hk⟩:=S_ h;obtain⟨k',e',tG,hf⟩:=n _ _ _ (tF e).2;refine gk ?_;refine⟨k',e',oR E.nodup e',?_⟩;clear e e';rcases tG with rfl|⟨rfl,rfl⟩
 ·exact hk.imp id λe=>⟨e,hf e⟩
 rcases hk with h|h<;>contradiction
def Aw(E:td kQ)(n:mB κ kQ)(h:κ.mR x=true):kQ.kindOf x=some .globalImplicit:=by
 unfold nP.mR at h;rcases e:ql x κ.names 0 with _|⟨j,k⟩<;>rw[e]at h
 ·contradiction
 rcases k with _|_<;>rcases h with _|_
 obtain⟨k',e',tG,hf⟩:=n _ _ _ (tF e).2;rcases tG with rfl|⟨h,_⟩
 ·exact oR E.nodup e'
 contradiction
def xz(S:St B kQ kU ρ U s)(n:mB κ kQ)(hi:κ.oW x=some i)(hv:ρ.get i=some v)(q:Q v U):
  aq B.mod A (bZ (.Name x pos) kQ) (PR B kU l_ Q U s) n_ s:=by
 refine lr λGp gk=>?_;obtain⟨k,e,hk,hc,hd,Ot⟩:=K1 S.sS n hi;refine gk ?_;refine wpAny_Name ?_ hd;rcases hc with rfl|hc
 ·refine lr λGp gk=>?_;obtain⟨m,hn,hm⟩:=S.Z.ns;obtain⟨y,e1,r⟩:=hm i x e v hv;refine gk ?_;exact wpAny_loadName_local S.sS.kind hk hn e1 (PR.here S.gs q r)
 refine lr λGp gk=>?_;obtain⟨c,y,e1,e2,r⟩:=(S.Z.cell i x k e hc).2 v hv;refine gk ?_;clear e;rcases hc with rfl|rfl
 ·exact wpAny_loadName_cell S.sS.kind hk e1 e2 (PR.here S.gs q r)
 exact wpAny_loadName_free S.sS.kind hk e1 e2 (PR.here S.gs q r) Ot
def BS{pos:Pos}{Q:QV}(g:Good B)(S:St B kQ kU ρ U s)(n:mB κ kQ)(hκ:κ.ml=B.ml)(hi:κ.sx x=some v)(q:Q v U):
  aq B.mod A (bZ (.Name x pos) kQ) (PR B kU l_ Q U s) n_ s:=by
 unfold nP.sx at hi
 split at hi
 ·rename_i hg;refine lr λGp gk=>?_;obtain⟨mg,hm,h1,_⟩:=g.JX;rw[hκ]at hi;obtain⟨hd,y,e,r⟩:=h1 x v hi;refine gk ?_;refine Name_function_global S.sS.kind (Aw S.sS n hg) (loadGlobal_global (mg:=mg) ?_ e (PR.here S.gs q (r.keep (TK.of_keeps S.own.base)))) hd;exact J (S.sS.glob ..) (xw S.own.base hm)
 contradiction
def yD{pos:Pos}{Q:Value->Shared->Prop}(g:Good B)(S:St B kQ kU ρ U s)(n:mB κ kQ)(hg:κ.mR x=true)(hb:BF.lookup x=some v)(q:Q v s):
  aq B.mod A (bZ (.Name x pos) kQ) Q n_ s:=by
 refine lr λGp gk=>?_;obtain⟨mg,hm,_,h2⟩:=g.JX;obtain⟨mb,UL,h3⟩:=g.SI;obtain⟨h4,hd⟩:=h2 x v hb;refine gk ?_;refine Name_function_global S.sS.kind (Aw S.sS n hg) (loadGlobal_builtin (mg:=mg) (mb:=mb) ?_ h4 ?_ (h3 x v hb) q) hd
 ·exact J (S.sS.glob ..) (xw S.own.base hm)
 exact J (S.sS.SI ..) (xw S.own.base UL)
def DB(k j:NL)(t:gN):(ea (sk k) t).isStr (sk j)=decide (k=j):=by
 refine(?_:(sk k==sk j)=_);refine ri (a0 ..) (ri (beq_iff_eq ..) (ri (decide_eq_true_iff ..) ?_));exact wd
theorem tg:∀{es:List (NL×PV)}{l:List bY},oy P h es l->
  (∀p,es.lookup k=some p->∃v,getL (sk k) l=some (some v)/\Rv h p v)/\(es.lookup k=.none->getL (sk k) l=some .none)/\l.any (·.refKey)=false:=by
 intro z9
 induction z9 with
 |nil=>
  intro l r;dsimp only[oy]at r;subst r;exact⟨λp e=>by simp at e,λ_=>rfl,rfl⟩
 |cons y9 es ih=>
  intro l r;obtain⟨j,q⟩:=y9;dsimp only[oy]at r;obtain⟨t,v,l',rfl,r1,r2⟩:=r;obtain⟨a,b,c⟩:=ih r2;have Fg:(List.any (⟨cC P ⟨j.toArray⟩,.str ⟨j.toArray⟩ t,v⟩::l') (·.refKey))=false:=by refine J (fa ..) (J (c ..) ?_);rfl
  have Fh:(ea ⟨j.toArray⟩ t).isStr (sk k)=decide (j=k):=DB j k t;refine⟨λp e=>?_,λe=>?_,Fg⟩
  ·rw[aQ]at e;dsimp only[getL];refine J (dh ..) ?_;clear b;by_cases hk:j=k
   ·clear a;subst hk;simp at e;subst e;simp only[Fh,decide_true];exact⟨v,rfl,r1⟩
   have:(k==j)=false:=by simpa using λh=>hk h.symm
   rw[this]at e;obtain⟨v',e1,e2⟩:=a p e;simp only[Fh,decide_eq_false hk];refine⟨v',?_,e2⟩;dsimp only[getL]at e1;refine J (Fg ..) ?_;rw[c]at e1;exact e1
  rw[aQ]at e;dsimp only[getL];refine J (dh ..) ?_;clear a;by_cases hk:j=k
  ·clear b Fh;subst hk;simp at e
  have:(k==j)=false:=by simpa using λh=>hk h.symm
  rw[this]at e;have e1:=b e;simp only[Fh,decide_eq_false hk];dsimp only[getL]at e1;refine J (Fg ..) ?_;rw[c]at e1;exact e1
def K4{k j:NL}{p u:PV}{r:List (NL×PV)}:xQ k p ((j,u)::r)=if j=k then(j,p)::r else(j,u)::xQ k p r:=rfl
def Ih{nm:Str}{hh:Int}{kv v:Value}{e:bY}{r:List bY}:putL nm hh kv v (e::r)=if e.key.isStr nm then⟨e.hash,e.key,v⟩::r else e::putL nm hh kv v r:=rfl
theorem vE(rv:Rv h p v):∀{es:List (NL×PV)}{l:List bY},oy P h es l->
  oy P h (xQ k p es) (putL (sk k) (cC P (sk k)) (.str (sk k) t) v l):=by
 intro z9
 induction z9 with
 |nil=>
  intro l r;dsimp only[oy]at r;subst r;dsimp only[xQ,putL,oy];exact⟨t,v,[],rfl,rv,rfl⟩
 |cons y9 es ih=>
  intro l r;obtain⟨j,q⟩:=y9;dsimp only[oy]at r;obtain⟨t',v',l',rfl,r1,r2⟩:=r;have Fh:(ea ⟨j.toArray⟩ t').isStr (sk k)=decide (j=k):=DB j k t';refine J (K4 ..) (J (Ih ..) (J (Fh ..) ?_));clear Fh;by_cases hk:j=k
  ·subst hk;refine J (if_pos rfl ..) (J (if_pos (by simp) ..) ?_);dsimp only[oy];exact⟨t',v,l',rfl,rv,r2⟩
  refine J (if_neg hk ..) (J (if_neg (by simpa using hk) ..) ?_);dsimp only[oy];exact⟨t',v',_,rfl,r1,ih r2⟩
def DC:∀{es:List (NL×PV)}{l:List bY},oy P h es l->l.length=es.length:=by
 intro z9
 induction z9 with
 |nil=>
  intro l r;dsimp only[oy]at r;subst r;rfl
 |cons y9 es ih=>
  intro l r;obtain⟨j,q⟩:=y9;dsimp only[oy]at r;obtain⟨t',v',l',rfl,_,r2⟩:=r;simp[ih r2]
def Ii(n:(es.map (·.1)).Nodup):((xQ k p es).map (·.1)).Nodup:=by
 rw[Dr]
 split
 ·exact n
 rename_i h;refine ri (List.nodup_append ..) ?_;exact⟨n,by simp,λa ha b hb=>by simp at hb;subst hb;exact λe=>h (e▸ha)⟩
set_option tactic.hygienic true in
def Rv.handed(r:Rv h p v)(hp:∀w,p≠.raw w):handedIn v=true:=by
 rcases p with _|_<;>dsimp only[Rv]at r
 case raw w=>exact absurd rfl (hp w)
 all_goals first
  |(subst r;rfl)
  |(obtain⟨_,rfl⟩:=r;rfl)
  |(obtain⟨_,_,rfl,_⟩:=r;rfl)
inductive IAt(B:nX)(h:Heap)(a C d:Nat)(es:List (NL×PV)):Prop
 |mk (l:List bY) (n:Nat) (I:InstAt h a {cls:=.ref C,dict:=some d,data:=.plain} C (some (eZ l n))) (hd:h.get? d=some (eZ l n)) (r:oy B.w.params h es l) (hn:(es.map (·.1)).Nodup) (hz:es.length<=1000)
def Gs.inst(G:Gs B kU U s)(e1:U a=some (.inst C d))(e2:U d=some (.dict es)):
  IAt B s.heap a C d es:=by
 obtain⟨_,o,ho,r⟩:=G.own.obj a _ e1;obtain⟨_,o',zF,l,n,rfl,r',n',z⟩:=G.own.obj d _ e2;change o=_ at r;subst r;exact⟨l,n,⟨ho,rfl,rfl,zF⟩,zF,r',n',z⟩
def O9(g:Good B)(G:Gs B kU U s)(ro:Rv s.heap o vo)(h:xX B.tab U o nm λv=>Q v U):
  aq B.mod A (getAttr vo (sk nm) expr) (PR B kU l_ Q U s) n_ s:=by
 unfold xX at h;obtain⟨a,h⟩:=E5 h ro
 ·refine sU.k h λC d es e1 e2 h=>?_;refine lv.k h λv e3 rK=>?_;obtain⟨nr,e4,q⟩:=rK;obtain⟨l,n,I,_,r,_,_⟩:=G.inst e1 e2;obtain⟨v',e5,rv⟩:=(tg r).1 v e3;have k:=g.att C nm e4;dsimp only[Kr]at k;simp only[aE]at k;obtain⟨⟨k1,k2⟩,k3⟩:=k
  split at k3
  ·rename_i attr hf;exact get_value (g.KZ G.own) I (plainGet_of k1).1 (findObj_own k2 hf k3 e5) (rv.handed nr.ne) (PR.tok G q rv _)
  contradiction
def O_(g:Good B)(G:Gs B kU U s)(ro:Rv s.heap o vo)(rv:Rv s.heap v vv)(h:CR B.tab U o nm v λU=>Q () U):
  aq B.mod A (setAttr vo (sk nm) vv) (PR B kU ON Q U s) n_ s:=by
 unfold CR at h;obtain⟨a,h⟩:=E5 h ro
 ·refine sU.k h λC d es e1 e2 q58=>?_;obtain⟨hz,e4,q⟩:=q58;obtain⟨l,n,I,hd,r,hn,_⟩:=G.inst e1 e2;have k:=g.put C nm e4;unfold Ks at k;simp only[aE,beq_iff_eq]at k;obtain⟨⟨⟨k1,k2⟩,k3⟩,k4⟩:=k;have X:=g.KZ G.own;refine set_plain X I k1 (osa_open (s:={s with toks:=s.toks+1}) X I k2 k3 λb=>?_);obtain⟨cd,hc,Zj⟩:=any_some k4;obtain⟨hx,Zk,_,_⟩:=I;refine aa (ag (aa (aa (gw hx (aa ((iC X hc).at ?_))))));refine J (Zj ..) ?_;refine ag (a:=some d) (aa (ag (aa ?_)));unfold nsSet;refine aa (aa (wpAny_askSetting (ag (aa (f9 (aa (gw hd ?_)))))));dsimp only;have c:(!l.toArray.any (·.key.isStr (sk nm))&&l.toArray.any (·.refKey))=false:=by
   exact rr (gz ..) (rr (gz ..) (J (tg (k:=nm) r).2.2 (J (fX ..) rfl)))
  refine J (aRefKeyMayBeTheName_at ..) (J (c ..) ?_);refine wpAny_updatePart hd ?_;have he:(s.heap.update d (Obj.putName (sk nm) (cC B.w.params (sk nm)) (.str (sk nm) (s.toks+1)) vv)).get? d=some (eZ (putL (sk nm) (cC B.w.params (sk nm)) (.str (sk nm) (s.toks+1)) vv l) (putN (sk nm) l n)):=by
   refine rr (jk ..) ?_;exact bp _ hd (by refine J (jk ..) ?_;rfl)
  have hl:(putL (sk nm) (cC B.w.params (sk nm)) (.str (sk nm) (s.toks+1)) vv l).length<=1000:=by
   have e:=DC (vE (k:=nm) (t:=s.toks+1) rv r);have:=xv nm v es;lia
  obtain⟨G',p⟩:=G.change (t:=s.toks+1+1) (mo:=.dict (xQ nm v es)) e2 (λb o hb e=>(fD _ _ _ _ hb).trans e) he (λ_ z=>nomatch z) λtk=>⟨_,_,rfl,(vE (k:=nm) rv r).keep tk,Ii hn,by have:=xv nm v es;lia⟩;refine aa (wpAny_lookBehind he (pastItsLine_dict (J (bG ..) (J (sizeLine_eq ..) (sR 0x101b10000007fba003e83fb001 rfl hl)))) ?_);exact ag ⟨(),_,q,trivial,G',p⟩
def Fi(h:Heap):Callee->Value×List Value->Prop
 |.fn f self,c=>∃v,c=(.ref f,[v])/\Rv h self v
 |.bs nm x,c=>∃t,c=(.builtin (KP nm),[.str (sk x) t])/\(nm=nu\/nm=nZ\/nm=qV)
 |.bb nm x,c=>∃l t,c=(.builtin (Ic nm),[.bytes (c9 l) t])/\l.map aL=x/\(nm=nu\/nm=nZ\/nm=qo\/nm=pS)
 |.la a,c=>c=(.builtin "list.append",[.ref a])
 |.dg a,c=>c=(.builtin "dict.get",[.ref a])
theorem Fi.keep(k:TK h h'):∀{c:Callee}{v:Value×List Value},Fi h c v->Fi h' c v
 |.fn _ _,_,⟨v,e,r⟩=>⟨v,e,r.keep k⟩
 |.bs _ _,_,r=>r
 |.bb _ _,_,r=>r
 |.la _,_,r=>r
 |.dg _,_,r=>r
def GP(G:Gs B kU U s)(e:U a=some mo)(sb:bR a s.heap h'):TK s.heap h':=λb kX t=>by
 have nb:b≠a:=λz=>by rw[z]at t;rw[G.own.E3 t]at e;contradiction
 obtain⟨n,t⟩:=t;exact⟨n,(sb.2 b nb).trans t⟩
def GQ(G:Gs B kU U s)(e:U a=some (.list l))(hl:IsL s.heap a vs.toArray n)(r:lR s.heap l vs)(rv:Rv s.heap v vv)(q:Q () (U.put a (.list (l.set j v)))):
  PR B kU ON Q U s () {s with heap:=s.heap.update a (Obj.mapSeq (·.setIfInBounds j vv))}:=by
 have he:(s.heap.update a (Obj.mapSeq (·.setIfInBounds j vv))).get? a=some (listOf (vs.set j vv).toArray n):=by
  refine J (bp _ hl rfl ..) ?_;simp[Obj.mapSeq]
 obtain⟨G',p⟩:=G.change (t:=s.toks) (mo:=.list (l.set j v)) e (λb o hb e=>(fD _ _ _ _ hb).trans e) he (λ_ z=>nomatch z) λtk=>⟨_,_,rfl,(r.set rv j).keep tk⟩;exact⟨(),_,q,trivial,G',p⟩
def set_dict(G:Gs B kU U s)(e:U a=some (.dict es))(hz:es.length<=900)(rv:Rv s.heap v vv)(q:Q () (U.put a (.dict (xQ x v es)))):
  aq B.mod A (setItem (.ref a) (.str (sk x) u) vv) (PR B kU ON Q U s) n_ s:=by
 refine G.t7 e λkvs D d _ hn=>?_;have hu:(xQ x v es).length<=1000:=ah (xv x v es) (ah (bB hz) (by decide));refine wpAny_setItem_pairs (knd:=B.K) (fx _ _ (sk x) u) D (λh' D' sb=>?_) (J (d.length ..) (ah hz (by decide)));obtain⟨o',zF,_⟩:=BL (B:=B) (es:=xQ x v es) D' (DL.put (rv.keep (GP G e sb)) (d.keep (GP G e sb)) hn) hu;obtain⟨G',p⟩:=G.change (t:=s.toks+1) (mo:=.dict (xQ x v es)) e (λb o hb e=>(sb.2 b hb).trans e) zF (λ_ z=>nomatch z) λtk=>by
  obtain⟨o'',Wf,r⟩:=BL (B:=B) (es:=xQ x v es) D' (DL.put (rv.keep tk) (d.keep tk) hn) hu;rw[zF]at Wf;obtain rfl:=af Wf;exact r
 exact⟨(),_,q,trivial,G',p⟩
def Pa(G:Gs B kU U s)(ro:Rv s.heap o vo)(ri:Rv s.heap i vi)(rv:Rv s.heap v vv)(h:zH U o i v λU=>Q () U):
  aq B.mod A (setItem vo vi vv) (PR B kU ON Q U s) n_ s:=by
 unfold zH at h;obtain⟨a,h⟩:=E5 h ro;rcases i with _|_<;>try exact h.elim
 case int i=>
  obtain⟨u,rfl⟩:=ri.nR;clear ri;refine l9.k h λl e h=>?_;refine lv.k h λj hj rK=>?_;obtain⟨oX,hz,q⟩:=rK;clear h;refine G.nJ e λvs n hl r=>?_;have hn:=vz hj;rw[←r.length]at hn hz;have hb:=hn.small hz;clear h hj;rcases hn with⟨rfl,UM⟩|⟨h0,e1,UM⟩
  ·exact ki_setAt hl (av j) hb.2 (aH.mpr UM) (GQ G e hl r rv q)
  refine ki_setBack hl h0 (by refine J (bG ..) ?_;lia) hb.1 ?_;refine J (bG ..) (J (e1 ..) ?_);exact GQ G e hl r rv q
 case str x=>
  obtain⟨u,rfl⟩:=ri.mz;refine oC.k h λes e rK=>?_;obtain⟨hz,q⟩:=rK;exact set_dict G e hz rv q
def Ij(G:Gs B kU U s)(rv:Rv s.heap v vv)(e:U a=some (.list l))(hz:l.length<M)(q:Q .none (U.put a (.list (l++[v])))):
  aq B.mod A (call (.builtin "list.append") [.ref a,vv]) (PR B kU l_ Q U s) n_ s:=by
 have hM:M=16777216:=rfl;have H':eT=16777216:=by decide
 refine G.nJ e λvs n hl r=>?_;have hlen:=r.length;refine append_at hl (λh' sb he=>?_) (by simp;exact oV 0x1011001023003210000007fb2210000007fb121014 rfl hz hM H' hlen);obtain⟨G',p⟩:=G.change (t:=s.toks) (mo:=.list (l++[v])) e (λb o hb e=>(sb.2 b hb).trans e) he (λ_ z=>nomatch z) λtk=>⟨vs++[vv],n+1,by simp,(r.app (.one rv)).keep tk⟩;exact⟨.none,_,q,Rv.none _,G',p⟩
variable {σ₁:kO}{k8:Shared}
def Pb(g:Good B)(G:Gs B kU U s)(e:U a=some (.dict es))(rk:Rv s.heap (.str k) vk)(rd:Rv s.heap d vd)(q:Q ((es.lookup k).getD d) U):
  aq B.mod A (call (.builtin "dict.get") [.ref a,vk,vd]) (PR B kU l_ Q U s) n_ s:=by
 refine lr λGp gk=>?_;obtain⟨t,rfl⟩:=rk.mz;refine G.t7 e λkvs D dl _ _=>?_;refine gk ?_;refine call_meetsIn F.slot_dict_get D.mapOf.typeIs F.entry_dict_get (F.args_dict_get_3 _ _ _) (meets_dict_get_default (knd:=B.K) a (fx _ _ (sk k) t) (g.toGood0.ne G e λ_ z=>by contradiction) vd) ⟨_,D.mapOf,?_⟩;rcases h:es.lookup k with _|p
 ·refine J (dl.no h ..) ?_;rw[h]at q;exact PR.tok G q rd _
 obtain⟨v,e1,rv⟩:=dl.some h;refine J (e1 ..) ?_;rw[h]at q;exact PR.tok G q rv _
def GR:sk nu=bx "join":=by kernel_rfl
def GS:sk nZ=bx "find":=by kernel_rfl
def K5:sk qV=bx "lower":=by kernel_rfl
def K6:sk qo=bx "strip":=by kernel_rfl
def Ik:sk pS=bx "rstrip":=by kernel_rfl
def Il:sk CQ=bx "append":=by kernel_rfl
def Ta:sk Ri=bx "get":=by kernel_rfl
def Im:KP nu="str.join":=by kernel_rfl
def Io:KP nZ="str.find":=by kernel_rfl
def Fj:KP qV="str.lower":=by kernel_rfl
def Ip:Ic nu="bytes.join":=by kernel_rfl
def Iq:Ic nZ="bytes.find":=by kernel_rfl
def Fk:Ic qo="bytes.strip":=by kernel_rfl
def DD:Ic pS="bytes.rstrip":=by kernel_rfl
def BU:∀a,Value.bytes b t=.ref a->∃o,s.heap.get? a=some o/\o.dict=none:=λ_ e=>nomatch e
def K7{M:Model}{E:Value->Shared->Prop}{b:Array UInt8}{pl:fZ Bool}{Q:Value×List Value->Shared->Prop}(h:Q (.builtin "bytes.join",[.bytes b t]) s):aq M A (fA (.bytes b t) "join" pl) Q E s:=by
 with_reducible exact dM (aX _ _ _) plainAttrs_bytes sK xd BU h
def K8{M:Model}{E:Value->Shared->Prop}{b:Array UInt8}{pl:fZ Bool}{Q:Value×List Value->Shared->Prop}(h:Q (.builtin "bytes.find",[.bytes b t]) s):aq M A (fA (.bytes b t) "find" pl) Q E s:=by
 with_reducible exact dM (aX _ _ _) plainAttrs_bytes sJ xb BU h
def Ir{M:Model}{E:Value->Shared->Prop}{b:Array UInt8}{pl:fZ Bool}{Q:Value×List Value->Shared->Prop}(h:Q (.builtin "bytes.strip",[.bytes b t]) s):aq M A (fA (.bytes b t) "strip" pl) Q E s:=by
 with_reducible exact dM (aX _ _ _) plainAttrs_bytes rM wh BU h
def Fn{M:Model}{E:Value->Shared->Prop}{b:Array UInt8}{pl:fZ Bool}{Q:Value×List Value->Shared->Prop}(h:Q (.builtin "bytes.rstrip",[.bytes b t]) s):aq M A (fA (.bytes b t) "rstrip" pl) Q E s:=by
 with_reducible exact dM (aX _ _ _) plainAttrs_bytes rg vB BU h
def Fo{M:Model}{E:Value->Shared->Prop}{pl:fZ Bool}{Q:Value×List Value->Shared->Prop}(hT:s.TypeIs (.ref a) "list")(hd:∀b,bP a=.ref b->∃o,s.heap.get? b=some o/\o.dict=none)(h:Q (.builtin "list.append",[.ref a]) s):aq M A (fA (.ref a) "append" pl) Q E s:=by
 with_reducible exact dM hT F.plainAttrs_list F.slot_list_append F.type_list_append hd h
def Pc{M:Model}{E:Value->Shared->Prop}{pl:fZ Bool}{Q:Value×List Value->Shared->Prop}(hT:s.TypeIs (.ref a) "dict")(hd:∀b,bP a=.ref b->∃o,s.heap.get? b=some o/\o.dict=none)(h:Q (.builtin "dict.get",[.ref a]) s):aq M A (fA (.ref a) "get" pl) Q E s:=by
 with_reducible exact dM hT F.plainAttrs_dict F.slot_dict_get F.type_dict_get hd h
set_option maxHeartbeats 4000000 in
set_option tactic.hygienic true in
def Pd{vo:Value}{nm:NL}{pl:fZ Bool}{K:Callee->Prop}(g:Good B)(G:Gs B kU U s)(ro:Rv s.heap o vo)(h:methP B.tab U o nm K):
  aq B.mod A (fA vo (sk nm) pl) (λc s'=>s'=s/\∃cl,Fi s.heap cl c/\K cl) n_ s:=by
 unfold methP at h;rcases o with _|_<;>try exact h.elim
 case str x=>
  obtain⟨t,rfl⟩:=ro.mz;obtain⟨hn,h⟩:=h;rcases hn with rfl|rfl|rfl
  ·refine J (GR ..) ?_;refine PySem.GM.join ?_;exact⟨rfl,.bs nu x,⟨t,by refine J (Im ..) ?_;rfl,.inl rfl⟩,h⟩
  ·refine J (GS ..) ?_;refine PySem.GM.find ?_;exact⟨rfl,.bs nZ x,⟨t,by refine J (Io ..) ?_;rfl,.inr (.inl rfl)⟩,h⟩
  refine J (K5 ..) ?_;refine PySem.GM.lower ?_;exact⟨rfl,.bs qV x,⟨t,by refine J (Fj ..) ?_;rfl,.inr (.inr rfl)⟩,h⟩
 case bytes _=>
  obtain⟨l,t,rfl,rfl⟩:=ro.l8;obtain⟨hn,h⟩:=h;rcases hn with rfl|rfl|rfl|rfl
  ·refine J (GR ..) ?_;refine K7 ?_;exact⟨rfl,.bb nu (l.map aL),⟨l,t,J (Ip ..) rfl,rfl,.inl rfl⟩,h⟩
  ·refine J (GS ..) ?_;refine K8 ?_;exact⟨rfl,.bb nZ (l.map aL),⟨l,t,J (Iq ..) rfl,rfl,.inr (.inl rfl)⟩,h⟩
  ·refine J (K6 ..) ?_;refine Ir ?_;exact⟨rfl,.bb qo (l.map aL),⟨l,t,J (Fk ..) rfl,rfl,.inr (.inr (.inl rfl))⟩,h⟩
  refine J (Ik ..) ?_;refine Fn ?_;exact⟨rfl,.bb pS (l.map aL),⟨l,t,J (DD ..) rfl,rfl,.inr (.inr (.inr rfl))⟩,h⟩
 case ref a=>
  obtain rfl:=ro.mW;rcases e1:U a with _|x<;>simp only[e1]at h
  rcases x with _|_<;>try exact h.elim
  case inst C d=>
   refine oC.k h λes e2 rK=>?_;obtain⟨e3,h⟩:=rK;refine lv.k h λf e4 h=>?_;obtain⟨l,n,I,_,r,_,_⟩:=G.inst e1 e2;have k:=g.met C nm f e4;dsimp only[Kt]at k;simp only[aE,beq_iff_eq]at k;obtain⟨⟨k1,k2⟩,k3⟩:=k;refine method_fn (g.KZ G.own) I (plainGet_of k1).1 (plainGet_of k1).2 k2 (beq_iff_eq.mp k3) ?_ ⟨rfl,.fn f (.ref a),⟨_,rfl,Rv.ref _ _⟩,h⟩;refine(?_:(lookIn (sk nm) (eZ l n)).map _=_);rw[lookIn_dict,(tg r).2.1 e3];rfl
  case list=>
   obtain⟨rfl,h⟩:=h;refine G.nJ e1 λvs n hl r=>?_;refine J (Il ..) ?_;exact Fo ⟨_,hl,rfl⟩ (λb e=>by(injection e with e;subst e);exact⟨_,hl,rfl⟩) ⟨rfl,.la a,rfl,h⟩
  case dict=>
   obtain⟨rfl,h⟩:=h;refine G.t7 e1 λkvs D dl _ _=>?_;refine J (Ta ..) ?_;exact Pc D.mapOf.typeIs D.mapOf.noDict ⟨rfl,.dg a,rfl,h⟩
def Gs.adopt(G:Gs B kU U s)(oK:Gs B kU σ₁ k8)(p:mr B.H0 Nx U s.heap σ₁ k8.heap)(ha:s.heap.get? a=.none)(hn:σ₁ a=.none)(Wg:∀kX,¬pz k8.heap a kX)(sb:bR a k8.heap h')
  (he:h'.get? a=some o) (r:TK k8.heap h'->Ro B.w.params h' o mo):
  Gs B kU (σ₁.put a mo) {k8 with heap:=h',toks:=t}/\mr B.H0 Nx U s.heap (σ₁.put a mo) h':=by
 have tk:TK k8.heap h':=λb kX q=>by
  have nb:b≠a:=λz=>Wg kX (z▸q);refine lr λGp gk=>?_;obtain⟨o,e⟩:=q;refine gk ?_;exact⟨o,(sb.2 b nb).trans e⟩
 have Zl:∀b o,s.heap.get? b=some o->b≠a:=λb o e z=>by rw[z,ha]at e;contradiction
 have P:mr B.H0 Nx U s.heap (σ₁.put a mo) h':=by
  refine⟨λb o e=>?_,λb o e n nx=>?_,λb e=>?_,λb e=>?_⟩
  ·refine lr λGp gk=>?_;obtain⟨o',e'⟩:=p.live b o e;refine gk ?_;exact⟨o',(sb.2 b (Zl b o e)).trans e'⟩
  ·refine lr λGp gk=>?_;obtain⟨o',e',z⟩:=p.keep b o e n nx;refine gk ?_;exact⟨o',(sb.2 b (Zl b o e)).trans e',z⟩
  ·dsimp only[kO.put]at e
   split at e
   ·rename_i q;clear hn Wg sb he Zl;subst q;exact .inr ha
   exact p.RC b e
  dsimp only[kO.put]
  split
  ·intro z;contradiction
  exact p.old b e
 refine⟨⟨⟨λb o e=>?_,λb VP e=>?_⟩,G.kU.step P λ_ _ _ _ z=>z,oK.gens,oK.os⟩,P⟩
 ·exact(sb.2 b (λz=>by subst z;have:=G.own.fresh ha;rw[this]at e;contradiction)).trans (oK.own.base b o e)
 dsimp only[kO.put]at e
 split at e
 ·rename_i q;subst q;obtain rfl:=af e;exact⟨.inl (G.own.fresh ha),o,he,r tk⟩
 rename_i q;refine lr λGp gk=>?_;obtain⟨l,o',e',r⟩:=oK.own.obj b VP e;refine gk ?_;exact⟨l,o',(sb.2 b q).trans e',r.keep tk⟩
theorem Iu(sP:l≠it):∀(n i:Nat) (s:Shared) (Q:List Value->Shared->Prop),s.heap.IsListIter it l i->s.heap.IsList l kX->i+n<=kX.size->
  (∀h',h'.IsListIter it l (i+n)->bR it s.heap h'->Q ((kX.toList.drop i).take n) {s with heap:=h'})->aq B.mod A (draw (.ref it) n) Q n_ s:=by
 intro z9
 induction z9 with
 |zero=>
  intro i s Q hit _ _ hQ;refine(?_:aq _ _ (pure []) Q _ s);exact ag (by simpa using hQ s.heap hit (gQ ..))
 |succ n ih=>
  intro i s Q hit ht JU hQ;have oX:i<kX.size:=cv (Nat.lt_add_of_pos_right (cB n)) JU;refine(?_:aq _ _ (pyNext (.ref it)>>=_) Q _ s);refine aa (wpAny_pyNext_list_item hit ht (x:=kX[i]) (by simp[oX]) λh₁ Fp ur=>?_);refine aa (ax (ih (i+1) _ _ Fp (ht.extBut ur.extBut sP) ((iI i 1 n).symm▸JU) λlL Tb Wh=>ag ?_));have hd:kX.toList.drop i=kX[i]::kX.toList.drop (i+1):=by simp[dU,oX]
  have:=hQ lL (J (show i+(n+1)=i+1+n from(iI i n 1)) Tb) (ur.trans Wh);rw[hd,List.take_succ_cons]at this;exact this
def wl(hh:A.handled=none)(ht:s.heap.IsList l kX)
  (hQ:∀h',Heap.ExtBut s.heap.objs.size s.heap h'->Q kX.toList {s with heap:=h'}):aq B.mod A (unpackItems (.ref l) kX.size none) Q n_ s:=by
 have oX:l≠s.heap.objs.size:=by obtain⟨o,ho,_⟩:=ht;exact ka (iQ ho)
 dsimp only[unpackItems];refine aa ?_;dsimp only[notIterableAtAll];refine aa (jO ht.typeIs F.slot_list_iter.lookup ?_);refine ag ?_;simp only[aY,if_false];refine aa (ax (wpAny_pyIter_list ht ?_));refine aa (ax (Iu oX kX.size 0 _ _ ⟨_,aP _ rfl,rfl,rfl⟩ (ht.push _) (sR 0xba00 rfl) λh₁ Fp ur=>?_));have r9:List.take kX.size (List.drop 0 kX.toList)=kX.toList:=by
  exact J (gZ ..) (bS (by simp))
 refine J (r9 ..) ?_;refine J (if_neg (by simp) ..) ?_;have Wi:h₁.IsList l kX:=(ht.push _).extBut ur.extBut oX;refine aa (ax (wpAny_pyNext_list_end hh Fp Wi (by simp) λlL GT=>?_));simp only[ku,aY,if_false];exact ag (hQ lL λb o hb e=>GT b o hb (ur.extBut b o hb (cg _ e)))
def vF(x:Heap.ExtBut h.objs.size h h'):∀b o,h.get? b=some o->h'.get? b=some o:=λb o e=>x b o (λz=>by rw[z,ly]at e;contradiction) e
def Ax(G:Gs B kU U s)(hh:A.handled=.none)(rv:Rv s.heap v vv)(h:qW U v n λvs=>Q vs U):
  aq B.mod A (unpackItems vv n none) (PR B kU SK Q U s) n_ s:=by
 dsimp only[qW]at h;rcases v with _|_
 case tup=>
  obtain⟨t,vs,rfl,ht,r⟩:=rv.mJ;obtain⟨hn,q⟩:=xp.beq h;have hl:=r.length;have e:n=vs.toArray.size:=by simp;exact nn 0x1010101002120221022 rfl hn hl
  refine J (e ..) ?_;refine wpAny_unpackItems_tuple hh ht.tuple λh' hx=>?_;refine G.keepsK (t:=s.toks) (vF hx) λG' p=>?_;exact⟨_,U,q,r.keep (TK.of_keeps (vF hx)),G',p⟩
 case ref=>
  obtain rfl:=rv.mW;refine l9.k h λl e q=>?_;obtain⟨hn,q⟩:=xp.beq q;refine G.nJ e λvs m hl r=>?_;have yu:=r.length;have e:n=vs.toArray.size:=by simp;exact nn 0x1010101002120221022 rfl hn yu
  refine J (e ..) ?_;refine wl hh (IsL.isList hl) λh' hx=>?_;refine G.keepsK (t:=s.toks) (vF hx) λG' p=>?_;exact⟨_,U,q,r.keep (TK.of_keeps (vF hx)),G',p⟩
 all_goals exact h.elim
set_option backward.match.sparseCases true
variable {σ₀:kO}{s₀:Shared}{κ:nP}{k n:Nat}{C:CT}
structure uH(B:nX)(C:CT)(k:Nat):Prop where
 run:∀{f:Nat}{vs:List PV}{args:List Value}{U:kO}{s:Shared}{kU:List aD}{A:bm}{Q:QV}{E:nI},C f vs U Q E->Gs B kU U s->lR s.heap vs args->Kz k 0 kU A->
  aq B.mod A (call (.ref f) args) (PR B kU l_ Q U s) (PX B kU .none E U s) s
 keep:∀{f:Nat}{vs:List PV}{U:kO}{Q:QV}{E:nI},C f vs U Q E->jC B.pf (.ref f)=true
structure Cx(B:nX)(C:CT)(k n:Nat)(κ:nP)(kQ:aD)(kU:List aD)(A:bm):Prop where
 g:Good B
 nm:mB κ kQ
 gl:κ.ml=B.ml
 ex:κ.m0=B.m0
 a:Kz k n kU A
 c:uH B C k
 fr:∃e∈kU,e.frame=kQ.frame
def Cx.room(x:Cx B C k n κ kQ kU A):pW A 100:=by
 have h:=x.a.units;have:cLine=9900:=by decide+kernel
 unfold pW;exact oV 0x11003642fb0a126ac4fb3223284fb213c2fd0aa02 rfl h this
def Cx.less(x:Cx B C k (n+1) κ kQ kU A):Cx B C k n κ kQ kU A:=⟨x.g,x.nm,x.gl,x.ex,x.a.mono (aF _) (gp _),x.c,x.fr⟩
def tH(B:nX)(C:CT)(k n:Nat):Prop:=∀{κ:nP}{kQ:aD}{kU:List aD}{A:bm}{e:am}{ρ:lK}{U:kO}{s:Shared}{Q:QV}{E:nI},
 Cx B C k n κ kQ kU A->St B kQ kU ρ U s->mh C B.tab (lP n κ e) ρ U Q E->aq B.mod A (bZ e kQ) (PR B kU l_ Q U s) (PX B kU .none E U s) s
def Fq(B:nX)(C:CT)(k n:Nat):Prop:=∀{κ:nP}{kQ:aD}{kU:List aD}{A:bm}{es:List am}{ρ:lK}{U:kO}{s:Shared}{pos:Pos}{Q:QL}{E:nI},
 Cx B C k n κ kQ kU A->St B kQ kU ρ U s->noStar es=true->tS C B.tab (pR n κ es) ρ U Q E->
  aq B.mod A (spliced (eX pos (cN es kQ))) (PR B kU SK Q U s) (PX B kU .none E U s) s
def nA{e:am}{r:List am}{kQ:aD}(h:pt e=false):cN (e::r) kQ=(false,bZ e kQ)::cN r kQ:=by
 rcases e with _|_<;>first|rfl|contradiction
def oS{kQ:aD}{pos:Pos}:∀{es:List am},noStar es=true->(eX pos (cN es kQ)).any (·.1)=false/\(eX pos (cN es kQ)).length=es.length:=by
 intro z9
 induction z9 with
 |nil=>
  intro _;exact⟨rfl,rfl⟩
 |cons e r ih=>
  intro h;unfold noStar at h;rw[ce,aE]at h;have h1:pt e=false:=by simpa using h.1
  obtain⟨a,b⟩:=ih h.2;refine J (nA h1 ..) ?_;unfold eX at a b ⊢;refine J (aK ..) (J (fa ..) (J (a ..) (J (au ..) (J (b ..) ?_))));exact⟨rfl,rfl⟩
def UN(B:nX)(C:CT)(k n:Nat):Prop:=∀{κ:nP}{kQ:aD}{kU:List aD}{A:bm}{e:am}{ρ:lK}{U:kO}{s:Shared}{Q:Bool->kO->Prop}{E:nI},
 Cx B C k n κ kQ kU A->St B kQ kU ρ U s->rU C B.tab (zD n κ e) ρ U Q E->aq B.mod A (ja e kQ (bZ e kQ)) (PR B kU Do Q U s) (PX B kU .none E U s) s
def Wj{L:Option Nat}{α β γ:Type}{rel:Heap->β->α->Prop}{m:fZ α}{f:α->fZ γ}{Q:β->kO->Prop}{E:nI}{P:γ->Shared->Prop}(G:Gs B kU U s)(p:mr B.H0 Nx σ₀ s₀.heap U s.heap)
  (hm:aq B.mod A m (PR B kU rel Q U s) (PX B kU L E U s) s) (hk:∀a s' b kP,Q b kP->rel s'.heap b a->Gs B kU kP s'->mr B.H0 Nx σ₀ s₀.heap kP s'.heap->TK s.heap s'.heap->mr B.H0 Nx U s.heap kP s'.heap->aq B.mod A (f a) P (PX B kU L E σ₀ s₀) s'):
  aq B.mod A (m>>=f) P (PX B kU L E σ₀ s₀) s:=
 aa (aw hm (λa s' z9=>by obtain⟨b,kP,q,r,G',p'⟩:=z9;exact hk a s' b kP q r G' (p.app p') (p'.tk G.own n9) p') λ_ _ x=>x.up p)
def nD{M:Model}{f:Value}{first:List Value}{args:List (Bool×fZ Value)}{pos:Pos}{Q:Value->Shared->Prop}{E:Value->Shared->Prop}(hs:args.any (·.1)=false)
  (h:aq M A (spliced args) (λvs k8=>(∃k,(k=cY\/k=cD)/\fo M k8.heap (fN f) k)/\aq M A (call f (first++vs)) Q E k8) E s):aq M A (fO pos f first args []) Q E s:=by
 have key:∀vs k8,(∃k,(k=cY\/k=cD)/\fo M k8.heap (fN f) k)/\aq M A (call f (first++vs)) Q E k8->
   aq M A (do
    g_ pos
    let GU:=args.any (·.1)||([]:List (Option Str×fZ Value)).any (·.1.isNone)
    let pos:=first++vs
    let r←match←fN f,GU with
     |.frame,true=>callMarked starredCall f pos []
     |.frame,false=>if args.length+2*([]:List (Option Str×fZ Value)).length>30 then call f pos []else callMarked plainCall f pos []
     |.boundFrame,false=>if args.length+2*([]:List (Option Str×fZ Value)).length>30 then call f pos []else callMarked callOfAMethodObject f pos []
     |.machine,false=>call f pos []
     |_,_=>operate (f::(if GU then pos.reverse else pos)++([]:List (Str×Value)).map (·.2)) (call f pos [])
    c7 [r] point
    pure r) Q E k8:=by
  rintro vs k8 ⟨⟨kp,hk,L⟩,hc⟩;obtain⟨h1,g1,d1,t1,Zm⟩:=k8;refine aa (aI ?_);dsimp only;refine J (hs ..) ?_;have fin:∀m:fZ Value,(∀P E,aq M A (call f (first++vs)) P E ⟨h1,g1,d1,t1,Zm⟩->aq M A m P E ⟨h1,g1,d1,t1,Zm⟩)->aq M A (m>>=λr=>do
    c7 [r] point
    pure r) Q E ⟨h1,g1,d1,t1,Zm⟩:=λm hm=>aa (hm _ _ (aw hc (λv s h=>aa (ax (fL (ag h)))) λ_ _ x=>x))
  refine aa (L.at ?_);clear L;rcases hk with rfl|rfl
  ·refine(?_:aq M A (if args.length+2*([]:List (Option Str×fZ Value)).length>30 then _ else _) Q E _)
   by_cases hz:args.length+2*([]:List (Option Str×fZ Value)).length>30
   ·refine J (if_pos hz ..) ?_;exact fin _ λP E h=>h
   refine J (if_neg hz ..) ?_;refine fin _ λP E h=>?_;refine(?_:aq _ _ ((call f (first++vs)).keep [plainCall]) _ _ _);intro Γ p X6;refine J (fZ.wp_keep ..) ?_;exact h Γ p X6
  exact fin _ λP E h=>h
 unfold fO;refine aa (ax ?_);unfold evalArgs;have tail:∀vs k8,((∃k,(k=cY\/k=cD)/\fo M k8.heap (fN f) k)/\aq M A (call f (first++vs)) Q E k8)->∀(P:Args->Shared->Prop),P ⟨vs,[]⟩ k8->
   aq M A (c7 (vs++(cM:Option Value).toList) (do
    let kw:=(([]:List (Option Str×fZ Value)).filterMap (·.1)).zip (←evalAll (([]:List (Option Str×fZ Value)).map (·.2)))
    return ⟨←(pure vs:fZ (List Value)),kw⟩:fZ Args)) P E k8:=λvs k8 _ P h=>ax (aa (ag (aa (ag (ag h)))))
 rcases args with _|⟨⟨b,x⟩,_|⟨y,r⟩⟩
 ·refine aa (aw h (λvs k8 h₁=>?_) λ_ _ e=>e);exact tail vs k8 h₁ _ (key vs k8 h₁)
 ·have hb:b=false:=by simpa using hs
  clear hs;subst hb;refine aa (aw h (λvs k8 h₁=>?_) λ_ _ e=>e);exact tail vs k8 h₁ _ (key vs k8 h₁)
 have hb:b=false:=by
  rw[fa,cQ]at hs;exact hs.1
 clear hs;subst hb;refine aa (aw h (λvs k8 h₁=>?_) λ_ _ e=>e);exact tail vs k8 h₁ _ (key vs k8 h₁)
variable {Q:QV}{E:nI}
def fst{L:Option Nat}{α β γ:Type}{rel:Heap->β->α->Prop}{m:fZ α}{f:α->fZ γ}{Q:β->kO->Prop}{P:γ->Shared->Prop}(S:St B kQ kU ρ U s)
  (hm:aq B.mod A m (PR B kU rel Q U s) (PX B kU L E U s) s) (hk:∀a s' b kP,Q b kP->rel s'.heap b a->St B kQ kU ρ kP s'->mr B.H0 Nx U s.heap kP s'.heap->TK s.heap s'.heap->aq B.mod A (f a) P (PX B kU L E U s) s'):
  aq B.mod A (m>>=f) P (PX B kU L E U s) s:=
 Wj S.gs (.KA _) hm λa s' b kP q r G p tk _=>hk a s' b kP q r (S.up p G) p tk
def GV{L:Option Nat}{α β γ:Type}{rel:Heap->β->α->Prop}{m:fZ α}{f:α->fZ γ}{Q:β->kO->Prop}{P:γ->Shared->Prop}(S:St B kQ kU ρ U s)(p:mr B.H0 Nx σ₀ s₀.heap U s.heap)
  (hm:aq B.mod A m (PR B kU rel Q U s) (PX B kU L E U s) s) (hk:∀a s' b kP,Q b kP->rel s'.heap b a->St B kQ kU ρ kP s'->mr B.H0 Nx σ₀ s₀.heap kP s'.heap->TK s.heap s'.heap->aq B.mod A (f a) P (PX B kU L E σ₀ s₀) s'):
  aq B.mod A (m>>=f) P (PX B kU L E σ₀ s₀) s:=
 Wj S.gs p hm λa s' b kP q r G p' tk p''=>hk a s' b kP q r (S.up p'' G) p' tk
def fin{α β:Type}{L:Option Nat}{rel:Heap->β->α->Prop}{m:fZ α}{Q:β->kO->Prop}(p:mr B.H0 Nx σ₀ s₀.heap U s.heap)(hm:aq B.mod A m (PR B kU rel Q U s) n_ s):aq B.mod A m (PR B kU rel Q σ₀ s₀) (PX B kU L E σ₀ s₀) s:=last p (mY hm)
def Wk{L:Option Nat}{m:fZ Value}{Q:QV}(G:Gs B kU U s)(p:mr B.H0 Nx σ₀ s₀.heap U s.heap)(hm:aq B.mod A m (PB s λr=>Q (.bool r) U) n_ s):aq B.mod A m (PR B kU l_ Q σ₀ s₀) (PX B kU L E σ₀ s₀) s:=
 fin p (aw hm (λv s' z9=>by obtain⟨b,t,e,e',q⟩:=z9;subst e;subst e';exact PR.tok G q (Rv.bool ..) _) λ_ _ x=>x)
def K9{c:Const}{v:PV}{x1:Nat}{x2:Pos}(S:St B kQ kU ρ U s)(h:ve c=some v)(q:Q v U):aq B.mod A (bZ (.Constant c x1 x2) kQ) (PR B kU l_ Q U s) (PX B kU .none E U s) s:=by
 refine mY ?_;rcases c with _|_<;>try exact lx h
 all_goals obtain rfl:=af h
 ·exact ag (PR.here S.gs q (Rv.none _))
 ·exact ag (PR.here S.gs q (Rv.bool ..))
 ·exact wpAny_mkInt (PR.tok S.gs q (Rv.int ..) _)
 ·exact f9 (PR.tok S.gs q (Rv.VR ..) _)
 exact Constant_bytes (PR.tok S.gs q (Rv.bytes ..) _)
def K_(ih:tH B C k n){l r:am}{op:Operator}{o:Oz}{pos:Pos}(x:Cx B C k n κ kQ kU A)(S:St B kQ kU ρ U s)(ho:CM op=some o)
  (h:mh C B.tab (.bin o (lP n κ l) (lP n κ r)) ρ U Q E):aq B.mod A (bZ (.BinOp l op r pos) kQ) (PR B kU l_ Q U s) (PX B kU .none E U s) s:=by
 have e:OO o=op:=by rcases op with _|_<;>first|exact lx ho|exact af ho▸rfl
 dsimp only[mh]at h;refine J (arm_eval_BinOp ..) ?_;refine fst S (ih x S h) λa k8 p σ₁ h₁ lM lq lm nN=>?_;refine GV lq lm (ax (ih x lq h₁)) λb me q σ₂ lL oz mi lV qS=>?_;refine aa (aI ?_);refine rr (e ..) ?_;exact fin lV (ez (SO mi.gs (Rv.keep qS lM) oz lL))
def K'(ih:tH B C k n){e:am}{pos:Pos}(x:Cx B C k n κ kQ kU A)(S:St B kQ kU ρ U s)
  (h:mh C B.tab (.not (lP n κ e)) ρ U Q E):aq B.mod A (bZ (.UnaryOp .Not e pos) kQ) (PR B kU l_ Q U s) (PX B kU .none E U s) s:=by
 dsimp only[mh]at h;refine J (arm_eval_UnaryOp ..) ?_;refine fst S (ih x S h) λa k8 p σ₁ h₁ lM lq lm nN=>?_;refine aa (aI (ax (not_of ?_)));exact mY (aw (BN lM h₁) (λb s' z9=>by clear a lM nN;obtain⟨e,q⟩:=z9;subst e;exact PR.up lm (PR.here lq.gs q (Rv.bool ..))) λ_ _ x=>x)
def La(ih:tH B C k n){e:am}{pos:Pos}(x:Cx B C k n κ kQ kU A)(S:St B kQ kU ρ U s)
  (h:mh C B.tab (.neg (lP n κ e)) ρ U Q E):aq B.mod A (bZ (.UnaryOp .USub e pos) kQ) (PR B kU l_ Q U s) (PX B kU .none E U s) s:=by
 dsimp only[mh]at h;refine J (arm_eval_UnaryOp ..) ?_;refine fst S (ih x S h) λa k8 p σ₁ h₁ lM lq lm nN=>?_;refine aa (aI (ax ?_));obtain⟨i,t,h₁⟩:=sO h₁ lM;exact fin lm (PySem.P.neg_int (PR.tok lq.gs h₁ (Rv.int ..) _))
theorem Lb(ih:tH B C k n)(UO:UN B C k n){t a b:am}{pos:Pos}(x:Cx B C k n κ kQ kU A)(S:St B kQ kU ρ U s)
  (h:mh C B.tab (.ite (zD n κ t) (lP n κ a) (lP n κ b)) ρ U Q E):aq B.mod A (bZ (.IfExp t a b pos) kQ) (PR B kU l_ Q U s) (PX B kU .none E U s) s:=by
 dsimp only[mh]at h;refine J (arm_eval_IfExp ..) ?_;refine fst S (UO x S h) λc k8 p σ₁ h₁ lM lq lm nN=>?_;have lM:c=p:=lM;subst lM;clear lM;induction c with
 |true=>exact last lm (ih x lq h₁.t)
 |false=>exact last lm (ih x lq h₁.f)
def Lc(ih:Fq B C k n){es:List am}{pos:Pos}{y:Nat}(x:Cx B C k n κ kQ kU A)(S:St B kQ kU ρ U s)(hs:noStar es=true)
  (h:mh C B.tab (.tup (pR n κ es)) ρ U Q E):aq B.mod A (bZ (.Tuple es y pos) kQ) (PR B kU l_ Q U s) (PX B kU .none E U s) s:=by
 dsimp only[mh]at h;refine J (arm_eval_Tuple ..) ?_;refine aa (aI ?_);refine fst S (ih x S hs h) λvs k8 p σ₁ h₁ lM lq lm nN=>?_;exact fin lm (wpAny_newTuple (PR.E6 (t:=k8.toks) lq.gs lM h₁.le.2) (by have:=lR.length lM;exact J (this ..) h₁.le.1))
def Iv(ih:Fq B C k n){es:List am}{pos:Pos}(x:Cx B C k n κ kQ kU A)(S:St B kQ kU ρ U s)(hs:noStar es=true)
  (h:mh C B.tab (.list (pR n κ es)) ρ U Q E):aq B.mod A (bZ (.List es pos) kQ) (PR B kU l_ Q U s) (PX B kU .none E U s) s:=by
 dsimp only[mh]at h;refine J (arm_eval_List ..) ?_;refine aa (aI ?_);refine fst S (ih x S hs h) λvs k8 p σ₁ h₁ lM lq lm nN=>?_;exact fin lm (wpAny_newList (PR.newList (t:=k8.toks) lq.gs (ly _) (lG _ _) (IsL.new _ _) lM h₁.le.2) (by have:=lR.length lM;exact J (this ..) h₁.le.1))
def GW:lP n κ (.Set es y pos)=.stuck:=by rcases n with _|_<;>rfl
def tI(ih:tH B C k n)(x:Cx B C k n κ kQ kU A)(S:St B kQ kU ρ U s)(h:mh C B.tab (lP n κ e) ρ U Q E):
  aq B.mod A (eU op e (bZ e kQ)) (PR B kU l_ Q U s) (PX B kU .none E U s) s:=by
 dsimp only[eU];rcases e with _|_
 case Set=>rw[GW]at h;exact a_ h
 all_goals exact ih x S h
def wm(op:f7):Zf (oj op)=op:=by rcases op with _|_<;>rfl
def Cx.Ay(x:Cx B C k n κ kQ kU A):pW A 9:=by have:=x.room;dsimp only[pW]at*;exact mZ 0x1019b0a11642fb0a11 rfl this
def Az:hJ pos a [op] [r]=(c7 [a] r>>=λrv=>g_ pos>>=λ_=>operate [a,rv] (dE op a rv)):=rfl
def Iw:hJ pos a [o1,o2] [r,q]=(c7 [a] r>>=λrv=>g_ pos>>=λ_=>c7 [a,rv] (dE o1 a rv)>>=λc=>release [a,rv] [c]>>=λ_=>c7 [c,rv] (jY c)>>=λb=>if b then hJ pos rv [o2] [q]else pure c):=rfl
def Ld(ih:tH B C k n)(x:Cx B C k n κ kQ kU A)(S:St B kQ kU ρ U s)
  (h:mh C B.tab (.cmp (oj op) (lP n κ l) (lP n κ r)) ρ U Q E):aq B.mod A (bZ (.Compare l [op] [r] pos) kQ) (PR B kU l_ Q U s) (PX B kU .none E U s) s:=by
 dsimp only[mh]at h;refine J (arm_eval_Compare ..) ?_;refine fst S (ih x S h) λa k8 p σ₁ h₁ lM lq lm nN=>?_;refine(?_:aq _ _ (hJ pos a [op] [eU op r (bZ r kQ)]) _ _ _);refine J (Az ..) ?_;refine GV lq lm (ax (tI ih x lq h₁)) λb me q σ₂ lL oz mi lV qS=>?_;refine aa (aI ?_);have:=we x.g.toGood0 mi.gs x.Ay (Rv.keep qS lM) oz lL;rw[wm]at this;exact Wk mi.gs lV (ez this)
def Ix(ih:tH B C k n)(x:Cx B C k n κ kQ kU A)(S:St B kQ kU ρ U s)
  (h:mh C B.tab (.qj (oj o1) (oj o2) (lP n κ l) (lP n κ m) (lP n κ r)) ρ U Q E):aq B.mod A (bZ (.Compare l [o1,o2] [m,r] pos) kQ) (PR B kU l_ Q U s) (PX B kU .none E U s) s:=by
 dsimp only[mh]at h;refine J (arm_eval_Compare ..) ?_;refine fst S (ih x S h) λa k8 p σ₁ h₁ lM lq lm nN=>?_;refine(?_:aq _ _ (hJ pos a [o1,o2] [bZ m kQ,eU o2 r (bZ r kQ)]) _ _ _);refine J (Iw ..) ?_;refine GV lq lm (ax (ih x lq h₁)) λb me q σ₂ lL oz mi lV qS=>?_;refine aa (aI ?_);have c1:=we x.g.toGood0 mi.gs x.Ay (Rv.keep qS lM) oz lL;rw[wm]at c1;refine aa (aw (ax c1) (λc vG hc=>?_) λ_ _ z=>z.elim);obtain⟨cb,tk,rfl,rfl,hq⟩:=hc;have qF:St B kQ kU ρ σ₂ {me with toks:=tk}:=mi.tok tk;refine aa (gL ?_);refine aa (ax (eS ?_));rcases cb with _|_
 ·exact fin lV (ag (PR.here qF.gs hq.f (Rv.bool ..)))
 simp only[if_true];refine J (Az ..) ?_;refine GV qF lV (ax (tI ih x qF hq.t)) λd Iy Zn mH p_ Tc r_ vH Ft=>?_;refine aa (aI ?_);have:=we x.g.toGood0 r_.gs x.Ay (Rv.keep Ft oz) Tc p_;rw[wm]at this;exact Wk r_.gs vH (ez this)
def Fu(B:nX)(C:CT)(k n:Nat):Prop:=∀{κ:nP}{kQ:aD}{kU:List aD}{A:bm}{op:BoolOp}{es:List am}{pos:Pos}{ρ:lK}{U:kO}{s:Shared}{Q:QV}{E:nI},
 Cx B C k n κ kQ kU A->St B kQ kU ρ U s->mh C B.tab (uA n κ op es) ρ U Q E->aq B.mod A (boolOp pos op (evalEach es kQ)) (PR B kU l_ Q U s) (PX B kU .none E U s) s
def Iz(ih:tH B C k n)(ihb:Fu B C k n):Fu B C k (n+1):=by
 intro κ kQ kU A op es pos ρ U s Q E x S h;rcases es with _|⟨e,_|⟨e2,r⟩⟩
 ·contradiction<;>exact a_ h
 ·have h':mh C B.tab (lP n κ e) ρ U Q E:=by rcases op with _|_<;>exact h
  exact ih x.less S h'
 rcases op with _|_
 ·have h':mh C B.tab (.and (lP n κ e) (uA n κ .And (e2::r))) ρ U Q E:=h;dsimp only[mh]at h';refine(?_:aq _ _ (bZ e kQ>>=λv=>_) _ _ _);refine fst S (ih x.less S h') λa k8 p σ₁ h₁ lM lq lm nN=>?_;refine aa (aI (aa (ax (mY (aw (BN lM h₁) (λb s' z9=>?_) λ_ _ z=>z)))));clear nN;obtain⟨e,q⟩:=z9;subst e;rcases b with _|_
  ·exact fin lm (ag (PR.here lq.gs q.f lM))
  exact last lm (ihb x.less lq q.t)
 have h':mh C B.tab (.or (lP n κ e) (uA n κ .Or (e2::r))) ρ U Q E:=h;dsimp only[mh]at h';refine(?_:aq _ _ (bZ e kQ>>=λv=>_) _ _ _);refine fst S (ih x.less S h') λa k8 p σ₁ h₁ lM lq lm nN=>?_;refine aa (aI (aa (ax (mY (aw (BN lM h₁) (λb s' z9=>?_) λ_ _ z=>z)))));clear nN;obtain⟨e,q⟩:=z9;subst e
 induction b with
 |true=>exact fin lm (ag (PR.here lq.gs q.t lM))
 |false=>exact last lm (ihb x.less lq q.f)
def Pe(ih:tH B C k n)(rV:Fq B C k n):Fq B C k (n+1):=by
 intro κ kQ kU A es ρ U s pos Q E x S hs h;rcases es with _|⟨e,r⟩
 ·exact mY (ag ⟨[],U,h,lR.nil,S.gs,.KA _⟩)
 have h':tS C B.tab (.cons (lP n κ e) (pR n κ r)) ρ U Q E:=h;dsimp only[tS]at h';dsimp only[noStar]at hs;rw[ce,aE]at hs;refine J (nA (by simpa using hs.1) ..) ?_;refine(?_:aq _ _ (bZ e kQ>>=λv=>_) _ _ _);refine fst S (ih x.less S h') λa k8 p σ₁ h₁ lM lq lm nN=>?_;refine aa (ag ?_);refine GV lq lm (ax (rV x.less lq hs.2 h₁)) λvs me q σ₂ lL oz mi lV qS=>?_;exact mY (ag ⟨_,σ₂,lL,lR.cons (Rv.keep qS lM) oz,mi.gs,lV⟩)
set_option tactic.hygienic true in
def xA(h:pQ o=true):attributeBase o nm kQ m=m:=by
 rcases o with _|_<;>try rfl
 rename_i f as kw p;rcases f with _|_<;>try rfl
 rcases as with _|_<;>try rfl
 rcases kw with _|_<;>try rfl
 contradiction
def GX(nm:Str):sk (cs nm)=nm:=by induction nm;simp[sk,cs]
def IA(ih:tH B C k n)(x:Cx B C k n κ kQ kU A)(S:St B kQ kU ρ U s)(hn:pQ o=true)
  (h:mh C B.tab (.attr (lP n κ o) (cs nm)) ρ U Q E):aq B.mod A (bZ (.Attribute o nm pos) kQ) (PR B kU l_ Q U s) (PX B kU .none E U s) s:=by
 dsimp only[mh]at h;refine J (arm_eval_Attribute ..) (J (xA hn ..) ?_);refine fst S (ih x S h) λa k8 p σ₁ h₁ lM lq lm nN=>?_;refine aa (aI ?_);have:=O9 (A:=A) (expr:=true) x.g lq.gs lM h₁;rw[GX]at this;refine GV lq lm (mY (ax this)) λv me q σ₂ lL oz mi lV qS=>?_;exact aa (iy (fin lV (ag (PR.here mi.gs lL oz))))
def DE{value slice:am}{T id:String}{ops:List Value}{Q:QV}{L:Option Nat}(S:Gs B kU U s)(p:mr B.H0 Nx σ₀ s₀.heap U s.heap)
  (hl:jX (.type T) "__getitem__"=pure (some (.builtin id))) (hT:k8.TypeIs vo T) (hs:jH slice false vo vi=operate ops (iO vo vi)) (h:aq B.mod A (iO vo vi) (PR B kU l_ Q U s) n_ k8):
  aq B.mod A (do let r←jH slice (←getitemInPython vo) vo vi;letTemporaryGo value vo r;pure r) (PR B kU l_ Q σ₀ s₀) (PX B kU L E σ₀ s₀) k8:=by
 refine aa ?_;refine J (getitemInPython_of_ne hT.not_modules ..) ?_;refine aa (jO hT hl ?_);have Te:aq B.mod A (jH slice false vo vi) (λr vG=>aq B.mod A (letTemporaryGo value vo r>>=λ_=>pure r) (PR B kU l_ Q σ₀ s₀) (PX B kU L E σ₀ s₀) vG) (PX B kU L E σ₀ s₀) k8:=by
  refine J (hs ..) ?_;exact ez (mY (aw h (λr vG nG=>aa (iy (ag (nG.up p)))) λ_ _ z=>z))
 first
  |exact ag (aa Te)
  |exact aa (ag (aa Te))
  |exact aa Te
def sub_eq(hi:HO i=false):jH i false a b=operate [a,b] (iO a b):=by
 rcases i with _|_<;>first|rfl|contradiction
def Le(ih:tH B C k n)(x:Cx B C k n κ kQ kU A)(S:St B kQ kU ρ U s)(hi:HO i=false)
  (h:mh C B.tab (.sub (lP n κ o) (lP n κ i)) ρ U Q E):aq B.mod A (bZ (.Subscript o i pos) kQ) (PR B kU l_ Q U s) (PX B kU .none E U s) s:=by
 dsimp only[mh]at h;refine J (arm_eval_Subscript ..) ?_;refine fst S (ih x S h) λa k8 p σ₁ h₁ lM lq lm nN=>?_;refine GV lq lm (ax (ih x lq h₁)) λb me q σ₂ lL oz mi lV qS=>?_;refine aa (aI ?_);obtain⟨T,id,hl,hT,hw⟩:=OT (A:=A) mi.gs (Rv.keep qS lM) oz lL;exact DE (ops:=[a,b]) mi.gs lV hl hT (sub_eq hi) hw
def Zo(B:nX)(C:CT)(k n:Nat):Prop:=∀{κ:nP}{kQ:aD}{kU:List aD}{A:bm}{e:Option am}{ρ:lK}{U:kO}{s:Shared}{Q:QV}{E:nI},
 Cx B C k n κ kQ kU A->St B kQ kU ρ U s->mh C B.tab (OF n κ e) ρ U Q E->aq B.mod A (valueOrNone (evalOpt e kQ)) (PR B kU l_ Q U s) (PX B kU .none E U s) s
def Lg(ih:tH B C k n):Zo B C k (n+1):=by
 intro κ kQ kU A e ρ U s Q E x S h;rcases e with _|e
 ·exact mY (ag (PR.here S.gs h (Rv.none _)))
 exact ih x.less S h
def Fv(ih:tH B C k n)(iho:Zo B C k n)(x:Cx B C k n κ kQ kU A)(S:St B kQ kU ρ U s)
  (h:mh C B.tab (.slice (lP n κ o) (OF n κ l) (OF n κ u)) ρ U Q E):aq B.mod A (bZ (.Subscript o (.Slice l u .none aaw) pos) kQ) (PR B kU l_ Q U s) (PX B kU .none E U s) s:=by
 dsimp only[mh]at h;refine J (arm_eval_Subscript ..) ?_;refine fst S (ih x S h) λa k8 p σ₁ h₁ lM lq lm nN=>?_;refine aa (ax ?_);refine J (arm_eval_Slice ..) ?_;refine GV lq lm (iho x lq h₁) λb me q σ₂ lL oz mi lV qS=>?_;refine GV mi lV (ax (iho x mi lL)) λc vG Tf lH nG Tg qF uI Lh=>?_;refine aa (ax (ag ?_));refine cn ?_;refine aa (aI ?_);refine lr λGp gk=>?_;obtain⟨T,id,hl,hT,hw⟩:=BO (A:=A) qF.gs (Rv.keep Lh (Rv.keep qS lM)) (Rv.keep Lh oz) Tg nG;refine gk ?_;exact DE (ops:=[.ref vG.heap.objs.size,a]) qF.gs uI hl hT rfl hw
def Cx.hh(x:Cx B C k n κ kQ kU A):A.handled=.none:=x.a.handled
def nj{M:Model}{i:String}:∃k,(k=cY\/k=cD)/\fo M h (fN (.builtin i)) k:=⟨.machine,.inr rfl,.now⟩
def sa{M:Model}{i:String}:∃k,(k=cY\/k=cD)/\fo M h (fN (.type i)) k:=⟨.machine,.inr rfl,.now⟩
def Li{M:Model}{h:Heap}:∃k,(k=cY\/k=cD)/\fo M h (fN (UH f)) k:=by
 rcases f with _|_<;>first|exact nj|exact sa
def Lj{M:Model}{h:Heap}:∃k,(k=cY\/k=cD)/\fo M h (fN (X3 f)) k:=by
 rcases f with _|_<;>exact nj
def Pf:∀{x:Str}{f:B1},qT.lookup x=some f->BF.lookup x=some (UH f):=by
 intro x f h;dsimp only[BF];have key:∀l:List (Str×B1),l.lookup x=some f->∀m,(l.map (λp=>(p.1,UH p.2))++m).lookup x=some (UH f):=by
  intro l
  induction l with
  |nil=>intro h;simp at h
  |cons p l ih=>
   intro h m;obtain⟨y,g⟩:=p;refine J (aK ..) (J (cV ..) (J (aQ ..) ?_));rw[aQ]at h
   split at h
   ·cases h;rename_i q;exact J (q ..) rfl
   rename_i q;exact J (q ..) (ih h m)
 refine J (ao ..) ?_;exact key _ h _
def Pg:∀{x:Str}{f:B2},qm.lookup x=some f->BF.lookup x=some (X3 f):=by
 intro x f h;have hx:x="min"/\f=.min\/x="max"/\f=.max:=by
  dsimp only[qm]at h;simp only[aQ,List.lookup_nil]at h
  split at h
  ·rename_i q;obtain rfl:=af h;exact .inl ⟨eq_of_beq q,rfl⟩
  split at h
  ·rename_i q;obtain rfl:=af h;exact .inr ⟨eq_of_beq q,rfl⟩
  contradiction
 clear h;rcases hx with⟨rfl,rfl⟩|⟨rfl,rfl⟩<;>kernel_rfl
def Ph(ih:tH B C k n)(x:Cx B C k n κ kQ kU A)(S:St B kQ kU ρ U s)(hb:κ.blt f=true)(hf:qT.lookup f=some g)(hs:noStar [e]=true)
  (h:mh C B.tab (.b1 g (lP n κ e)) ρ U Q E):aq B.mod A (bZ (.Call (.Name f p) [e] [] pos) kQ) (PR B kU l_ Q U s) (PX B kU .none E U s) s:=by
 dsimp only[mh]at h;have hg:κ.mR f=true:=by dsimp only[nP.blt]at hb;rw[aE]at hb;exact hb.1
 refine(?_:aq _ _ (bZ (.Name f p) kQ>>=λv=>fO pos v [] (eX pos (cN [e] kQ)) []) _ _ s);refine aa (mY (yD x.g S x.nm hg (Pf hf) ?_));refine nD (oS hs).1 ?_;have E_:pt e=false:=by dsimp only[noStar]at hs;simpa using hs
 refine J (nA E_ ..) ?_;refine(?_:aq _ _ (bZ e kQ>>=λv=>_) _ _ s);refine fst S (ih x S h) λa k8 q σ₁ h₁ lM lq lm nN=>?_;refine aa (ag (aa (ax (ag (ag ⟨Li,?_⟩)))));exact fin lm (V9 lq.gs x.hh lM h₁)
def Pi(ih:tH B C k n)(x:Cx B C k n κ kQ kU A)(S:St B kQ kU ρ U s)(hb:κ.blt f=true)(hf:qm.lookup f=some g)(hs:noStar [e,e']=true)
  (h:mh C B.tab (.b2 g (lP n κ e) (lP n κ e')) ρ U Q E):aq B.mod A (bZ (.Call (.Name f p) [e,e'] [] pos) kQ) (PR B kU l_ Q U s) (PX B kU .none E U s) s:=by
 dsimp only[mh]at h;have hg:κ.mR f=true:=by dsimp only[nP.blt]at hb;rw[aE]at hb;exact hb.1
 refine(?_:aq _ _ (bZ (.Name f p) kQ>>=λv=>fO pos v [] (eX pos (cN [e,e'] kQ)) []) _ _ s);refine aa (mY (yD x.g S x.nm hg (Pg hf) ?_));refine nD (oS hs).1 ?_;have E_:pt e=false/\pt e'=false:=by dsimp only[noStar]at hs;simpa using hs
 refine J (nA E_.1 ..) (J (nA E_.2 ..) ?_);refine(?_:aq _ _ (bZ e kQ>>=λv=>_) _ _ s);refine fst S (ih x S h) λa k8 q σ₁ h₁ lM lq lm nN=>?_;refine aa (ag (aa (ax ?_)));refine(?_:aq _ _ (bZ e' kQ>>=λv=>_) _ _ _);refine GV lq lm (ih x lq h₁) λb me Lk σ₂ lL oz mi lV qS=>?_;refine aa (ag (aa (ax (ag (ag (ag ⟨Lj,?_⟩))))));exact fin lV (V_ mi.gs x.hh (Rv.keep qS lM) oz lL)
def yE{M:Model}{s:Shared}(g:Good B)(G:Gs B kU U s)(e:jC B.pf (.ref f)=true):∃k,(k=cY\/k=cD)/\fo M s.heap (fN (.ref f)) k:=looks_keep e (g.KZ G.own)
def IB(ih:tH B C k n)(rV:Fq B C k n)(x:Cx B C k n κ kQ kU A)(S:St B kQ kU ρ U s)(hs:noStar es=true)(hf:∃y p,f=.Name y p)
  (h:mh C B.tab (.call (lP n κ f) (pR n κ es)) ρ U Q E):aq B.mod A (bZ (.Call f es [] pos) kQ) (PR B kU l_ Q U s) (PX B kU .none E U s) s:=by
 dsimp only[mh]at h;obtain⟨y,p,rfl⟩:=hf;refine(?_:aq _ _ (bZ (.Name y p) kQ>>=λv=>fO pos v [] (eX pos (cN es kQ)) []) _ _ s);refine fst S (ih x S h) λfv k8 q σ₁ h₁ lM lq lm nN=>?_;refine nD (oS hs).1 ?_;refine aw (rV x lq hs h₁) (λvs me z9=>?_) λ_ _ z=>z.up lm;obtain⟨ps,σ₂,lL,oz,pI,lV⟩:=z9;obtain⟨a,lL⟩:=E5 lL lM;refine⟨yE x.g pI (x.c.keep lL),?_⟩;exact aw (x.c.run lL pI oz (x.a.mono (aF _) (aO _))) (λ_ _ z=>z.up (lm.app lV)) λ_ _ z=>z.up (lm.app lV)
def Fi.Ll{M:Model}{cl:Callee}{c:Value×List Value}{s:Shared}{as:List PV}{h0:Heap}(g:Good B)(x:uH B C k)(G:Gs B kU U s)(r:Fi h0 cl c)(h:ES C cl as U Q E):∃k,(k=cY\/k=cD)/\fo M s.heap (fN c.1) k:=by
 rcases cl with⟨f,self⟩|⟨nm,s⟩|⟨nm,s⟩|a|a
 ·obtain⟨v,rfl,_⟩:=r;exact yE g G (x.keep h)
 ·obtain⟨t,rfl,_⟩:=r;exact nj
 ·obtain⟨l,t,rfl,_⟩:=r;exact nj
 ·subst r;exact nj
 subst r;exact nj
theorem Lm(x:Cx B C k n κ kQ kU A)(G:Gs B kU U s)(r:Fi s.heap cl c)(ra:lR s.heap as vs)(h:ES C cl as U Q E):
  aq B.mod A (call c.1 (c.2++vs)) (PR B kU l_ Q U s) (PX B kU .none E U s) s:=by
 cases cl with
 |fn f self=>
  obtain⟨v,rfl,rv⟩:=r;exact x.c.run h G (lR.cons rv ra) (x.a.mono (aF _) (aO _))
 |bs nm y=>
  obtain⟨t,rfl,_⟩:=r;exact mY (Wa G (Rv.str _ y t) ra h)
 |bb nm y=>
  refine lr λGp gk=>?_;obtain⟨l,t,rfl,rfl,_⟩:=r;refine gk ?_;exact mY (We G (Rv.bytes _ l t) ra h)
 |la a=>
  refine lr λGp gk=>?_;subst r;refine tR.k h λp yt h=>?_;subst yt;obtain⟨v,rfl,r1⟩:=ra.rL;refine l9.k h λl e rK=>?_;obtain⟨hz,q⟩:=rK;refine gk ?_;exact mY (Ij G r1 e hz q)
 |dg a=>
  subst r;cases as with
  |nil=>exact h.elim
  |cons p as=>
  refine lr λGp gk=>?_;refine w4.k h λy yt h=>?_;subst yt;refine tR.k h λp yt h=>?_;subst yt;obtain⟨v,r7,r1,r2⟩:=lR.ni ra;clear ra;obtain⟨v2,rfl,r3⟩:=r2.rL;refine oC.k h λes e q=>?_;refine gk ?_;exact mY (Pb x.g G e r1 r3 q)
def IC(ih:tH B C k n)(rV:Fq B C k n)(x:Cx B C k n κ kQ kU A)(S:St B kQ kU ρ U s)(hs:noStar es=true)(hl:(ap.endLine==pos.line)=true)(hz:es.length<29)(hn:pQ o=true)
  (h:mh C B.tab (.py (lP n κ o) (cs nm) (pR n κ es)) ρ U Q E):aq B.mod A (bZ (.Call (.Attribute o nm ap) es [] pos) kQ) (PR B kU l_ Q U s) (PX B kU .none E U s) s:=by
 dsimp only[mh]at h;obtain⟨X7,hb2⟩:=oS (kQ:=kQ) (pos:=pos) hs;refine J (arm_eval_Call ..) (J (xA hn ..) ?_);refine fst S (ih x S h) λov k8 q σ₁ h₁ lM lq lm nN=>?_;refine aa (aI ?_);have Th:jZ (es.length+([]:List hU).length) (eX pos (cN es kQ)) (backToKw pos (jI [] kQ))=true:=by
  dsimp only[jZ];have e1:(eX pos (cN es kQ)).all (λx=> !x.1)=true:=by
   refine J (List.all_eq_not_any_not ..) ?_;simp only[Bool.not_not,X7];rfl
  refine J (e1 ..) ?_;refine(?_:(true&&true&&decide (es.length+0+0<30))=true);simp;exact sR 0x101e2fb011d2fb011 rfl hz
 dsimp only[methodCall];refine J (Th ..) ?_;have hc:=Pd (A:=A) (pl:=do return (←importBound o kQ).getD true) x.g lq.gs lM h₁;rw[GX]at hc;refine aa (ax (mY (aw hc (λc s' hc=>?_) λ_ _ z=>z)));clear lM nN;obtain⟨rfl,cl,hr,lL⟩:=hc;obtain⟨f,first⟩:=c;have hp:fJ true o kQ ap pos=pure pos:=by
  dsimp only[fJ];refine J (hl ..) ?_;rfl
 refine(?_:aq _ _ (fJ true o kQ ap pos>>=λcp=>fO cp f first (eX pos (cN es kQ)) (backToKw pos (jI [] kQ))) _ _ _);refine J (hp ..) ?_;refine aa (ag ?_);refine nD X7 ?_;refine aw (rV x lq hs lL) (λvs me z9=>?_) λ_ _ z=>z.up lm;obtain⟨ps,σ₂,nG,oz,pI,lV⟩:=z9;have RI:=hr.keep (lV.tk lq.gs.own n9);refine⟨RI.Ll x.g x.c pI nG,?_⟩;exact aw (Lm x pI RI oz nG) (λ_ _ z=>z.up (lm.app lV)) λ_ _ z=>z.up (lm.app lV)
def DF(h:J' c=some x):c=.str x:=by rcases c with _|_<;>first|(exact lx h;done)|(obtain rfl:=af h;rfl)
inductive Wl(k:NL):Option am->Prop
 |mk (s:Str) (y:Nat) (p:Pos) (e:cs s=k):Wl k (some (.Constant (.str s) y p))
def DG{o:Option am}{k:NL}(h:Sg o=some k):Wl k o:=by
 refine lr λGp gk=>?_;refine lS h λe h0 ha=>?_;refine lS ha λc h1 hb=>?_;clear ha;refine lS hb λs h2 hc=>?_;clear hb;obtain⟨y,p,rfl⟩:=uy h1;clear h1;obtain rfl:=DF h2;refine gk ?_;refine J (h0 ..) ?_;exact⟨s,y,p,af hc⟩
inductive uJ(h:Heap):List NL->List PV->List (Value×Value)->Prop
 |nil:uJ h [] [] []
 |cons {k:NL}{ks:List NL}{p:PV}{ps:List PV}{l:List (Value×Value)} (t:gN) (v:Value) (r:Rv h p v) (rs:uJ h ks ps l):uJ h (k::ks) (p::ps) ((.str (sk k) t,v)::l)
def uJ.carry(r:uJ h ks ps l):∃kvs,Carries B.K l kvs/\DL h (ks.zip ps) kvs:=by
 induction r with
 |nil=>exact⟨[],trivial,rfl⟩
 | @cons k ks p ps l t v r1 r2 ih=>
  obtain⟨kvs,c,d⟩:=ih;exact⟨(sk k,v)::kvs,⟨fx _ _ (sk k) t,rfl,c⟩,(show∃w ws,(sk k,v)::kvs=(sk k,w)::ws/\Rv h p w/\DL h (ks.zip ps) ws from⟨v,kvs,rfl,r1,d⟩)⟩
def Pj(B:nX)(C:CT)(k n:Nat):Prop:=∀{κ:nP}{kQ:aD}{kU:List aD}{A:bm}{keys:List (Option am)}{ks:List NL}{es:List am}{ρ:lK}{U:kO}{s:Shared}{pos:Pos}{Q:QL}{E:nI},
 Cx B C k n κ kQ kU A->St B kQ kU ρ U s->keys.length=es.length->uY keys=some ks->tS C B.tab (pR n κ es) ρ U Q E->
  aq B.mod A (evalPairs (pairTrees keys es kQ pos)) (PR B kU (λh ps l=>uJ h ks ps l) Q U s) (PX B kU .none E U s) s
def Pk(ih:tH B C k n)(rV:Pj B C k n):Pj B C k (n+1):=by
 intro κ kQ kU A keys ks es ρ U s pos Q E x S hl hk h;rcases keys with _|⟨key,keys⟩
 ·rcases es with _|⟨e,r⟩
  ·obtain rfl:=af hk;exact mY (pairTrees_nil_walk ⟨[],U,h,.nil,S.gs,.KA _⟩)
  contradiction
 rcases es with _|⟨e,r⟩
 ·contradiction
 obtain⟨k',ks',GL,S2⟩:=oJ hk;clear hk;obtain⟨s0,y,p,rfl⟩:=DG GL;have h':tS C B.tab (.cons (lP n κ e) (pR n κ r)) ρ U Q E:=h;dsimp only[tS]at h';refine pairTrees_cons_walk (mY (f9 ?_));have S':St B kQ kU ρ U {s with toks:=s.toks+1}:=S.tok _;refine aw (ih x.less S' h') (λv k8 hz=>?_) λ_ _ z=>z.lo rfl;obtain⟨p,σ₁,h₁,lM,oK,lm⟩:=hz;refine aw (rV x.less (S'.up lm oK) (gj hl) S2 h₁) (λl me hz=>?_) λ_ _ z=>(z.up lm).lo rfl;obtain⟨ps,σ₂,lL,oz,pI,lV⟩:=hz;refine⟨p::ps,σ₂,lL,?_,pI,lm.app lV⟩;refine rr (GX s0 ..) ?_;exact .cons s.toks v (Rv.keep (lV.tk oK.own n9) lM) oz
def Fw{keys:List (Option am)}:∀{ks:List NL},uY keys=some ks->keys.all (·.isSome)=true/\ks.length=keys.length:=by
 induction keys with
 |nil=>intro ks h;obtain rfl:=af h;exact⟨rfl,rfl⟩
 |cons key keys ih=>
  intro ks h;obtain⟨k',ks',GL,S2⟩:=oJ h;clear h;obtain⟨s0,y,p,_⟩:=DG GL;obtain⟨a,b⟩:=ih S2;exact⟨by refine J (ce ..) (J (a ..) ?_);rfl,congrArg Nat.succ b⟩
def ID(ihp:Pj B C k n)(x:Cx B C k n κ kQ kU A)(S:St B kQ kU ρ U s)(hl:keys.length=es.length)(hk:uY keys=some ks)(hz:keys.length<=15)
  (h:mh C B.tab (.dict ks (pR n κ es)) ρ U Q E):aq B.mod A (bZ (.Dict keys es pos) kQ) (PR B kU l_ Q U s) (PX B kU .none E U s) s:=by
 dsimp only[mh]at h;obtain⟨ha,Ti⟩:=Fw hk
 by_cases h0:keys=[]
 ·clear ihp x hz ha Ti;subst h0;have:es=[]:=c0 hl.symm;clear hl;subst this;obtain rfl:=af hk;have h':tS C B.tab (pR n κ []) ρ U _ E:=h;clear h;rcases n with _|n
  ·exact a_ h'
  refine J (arm_eval_Dict ..) ?_;refine aa (aI ?_);refine(?_:aq _ _ newDict _ _ _);refine mY (cn ?_);obtain⟨f,G',p⟩:=S.gs.fresh (t:=s.toks) (mo:=.dict []) (ly _) (lG _ {cls:=.type "dict",data:=.dict #[]}) (aP _ rfl) ⟨[],0,rfl,rfl,by simp,by simp⟩;exact⟨_,_,h'.2.2.2 _ f,Rv.ref _ _,G',p⟩
 obtain⟨S1,p1⟩:St B kQ kU ρ U {s with heap:=s.heap.push {cls:=.type "dict",data:=.dict #[]}}/\mr B.H0 Nx U s.heap U (s.heap.push {cls:=.type "dict",data:=.dict #[]}):=by
  refine S.gs.keepsK (t:=s.toks) (lG _ {cls:=.type "dict",data:=.dict #[]}) λG' p=>?_;exact⟨S.up p G',p⟩
 refine wpAny_Dict_walk (knd:=B.K) ha hl h0 (sR 0x10f1fb00f1fb001 rfl hz) ?_;refine aw (ihp x S1 hl hk h) (λl k8 z9=>?_) λ_ _ z=>z.up p1;refine lr λGp gk=>?_;obtain⟨ps,σ₁,h₁,lM,oK,lm⟩:=z9;obtain⟨kvs,c,d⟩:=uJ.carry (B:=B) lM;have Wm:U s.heap.objs.size=.none:=S.own.free (ly _);obtain⟨o',e',so,_⟩:=lm.keep s.heap.objs.size _ (aP _ rfl) Wm id;have zF:=so.eq (by refine(?_:Value.type "dict"≠Value.type "frame");decide);clear so;clear right;subst zF;have Ln:σ₁ s.heap.objs.size=.none:=lm.free (aP _ rfl) Wm;obtain⟨hlen,_,hn,q⟩:=h₁;have hkz:((ks.zip ps).map (·.1)).Nodup:=by
  refine J (List.map_fst_zip (mZ 0x101001021 rfl hlen) ..) ?_;exact hn
 refine gk ?_;refine⟨kvs,c,⟨_,#[],0,e',⟨rfl,rfl,rfl⟩,rfl,λe he=>by simp at he,.nil,by simp⟩,λh' D' sb=>?_⟩;rw[merged_nil_of_nodup kvs (d.nodup hkz)]at D';have Tj:(ks.zip ps).length<=1000:=J (List.length_zip ..) (nn 0x1010103e83fb20120012f1fb003 rfl hz Ti (Nat.min_le_left _ _));have Wg:∀kX,¬pz k8.heap s.heap.objs.size kX:=λkX z9=>by
  obtain⟨m,z⟩:=z9;change k8.heap.get? s.heap.objs.size=some _ at z;rw[e']at z;exact absurd (congrArg Obj.cls (af z)) (by refine(?_:Value.type "dict"≠Value.type "tuple");decide)
 have tk:TK k8.heap h':=λb kX z=>by
  have nb:b≠s.heap.objs.size:=λy=>Wg kX (y▸z);obtain⟨m,z⟩:=z;exact⟨m,(sb.2 b nb).trans z⟩
 refine lr λGp gk=>?_;obtain⟨o',zF,r⟩:=BL (B:=B) D' (d.keep tk) Tj;obtain⟨G',p'⟩:=S.gs.adopt (t:=k8.toks+l.length) oK (p1.app lm) (ly _) Ln Wg sb zF λ_=>r;refine gk ?_;exact⟨_,_,q _ Ln,Rv.ref _ _,G',p'⟩
set_option backward.match.sparseCases false
variable {Q:Bool->kO->Prop}
def Tk.here(G:Gs B kU U s){b:Bool}(q:Q b U)(t:Nat):PR B kU Do Q U s b {s with toks:=t}:=⟨b,U,q,rfl,G.tok t,.refl ..⟩
def Wn{L:Option Nat}{m:fZ Value}{K:Bool->Prop}(G:Gs B kU U s)(p:mr B.H0 Nx σ₀ s₀.heap U s.heap)(hm:aq B.mod A m (PB s λr=>Q r U) n_ s){vs:Value->List Value}:
  aq B.mod A (m>>=λc=>c7 (vs c) (jY c)) (PR B kU Do Q σ₀ s₀) (PX B kU L E σ₀ s₀) s:=
 fin p (aa (aw hm (λv s' z9=>by obtain⟨b,t,e,e',q⟩:=z9;subst e;subst e';exact ax (eS (Tk.here G q _))) λ_ _ x=>x))
def DH{pos:Pos}{a:Value}{op:f7}{r:fZ Value}:jy pos a [op] [r]=(c7 [a] r>>=λrv=>g_ pos>>=λ_=>operate [a,rv] (dE op a rv)>>=λc=>c7 [c] (jY c)):=rfl
def Lo{pos:Pos}{a:Value}{o1 o2:f7}{r q:fZ Value}:jy pos a [o1,o2] [r,q]=(c7 [a] r>>=λrv=>g_ pos>>=λ_=>c7 [a,rv] (dE o1 a rv)>>=λc=>release [a,rv] [c]>>=λ_=>c7 [c,rv] (jY c)>>=λb=>if b then jy pos rv [o2] [q]else pure false):=rfl
def IE(ih:tH B C k n){l r:am}{op:f7}{pos:Pos}{w:fZ Value}(x:Cx B C k n κ kQ kU A)(S:St B kQ kU ρ U s)
  (h:rU C B.tab (.cmp (oj op) (lP n κ l) (lP n κ r)) ρ U Q E):aq B.mod A (ja (.Compare l [op] [r] pos) kQ w) (PR B kU Do Q U s) (PX B kU .none E U s) s:=by
 dsimp only[rU]at h;refine J (arm_isTrue_Compare ..) ?_;refine fst S (ih x S h) λa k8 p σ₁ h₁ lM lq lm nN=>?_;refine(?_:aq _ _ (jy pos a [op] [eU op r (bZ r kQ)]) _ _ _);refine J (DH ..) ?_;refine GV lq lm (ax (tI ih x lq h₁)) λb me q σ₂ lL oz mi lV qS=>?_;refine aa (aI ?_);have:=we x.g.toGood0 mi.gs x.Ay (Rv.keep qS lM) oz lL;rw[wm]at this;exact Wn (K:=λ_=>True) mi.gs lV (ez this)
def Fx(ih:tH B C k n){l m r:am}{o1 o2:f7}{pos:Pos}{w:fZ Value}(x:Cx B C k n κ kQ kU A)(S:St B kQ kU ρ U s)
  (h:rU C B.tab (.qj (oj o1) (oj o2) (lP n κ l) (lP n κ m) (lP n κ r)) ρ U Q E):aq B.mod A (ja (.Compare l [o1,o2] [m,r] pos) kQ w) (PR B kU Do Q U s) (PX B kU .none E U s) s:=by
 dsimp only[rU]at h;refine J (arm_isTrue_Compare ..) ?_;refine fst S (ih x S h) λa k8 p σ₁ h₁ lM lq lm nN=>?_;refine(?_:aq _ _ (jy pos a [o1,o2] [bZ m kQ,eU o2 r (bZ r kQ)]) _ _ _);refine J (Lo ..) ?_;refine GV lq lm (ax (ih x lq h₁)) λb me q σ₂ lL oz mi lV qS=>?_;refine aa (aI ?_);have c1:=we x.g.toGood0 mi.gs x.Ay (Rv.keep qS lM) oz lL;rw[wm]at c1;refine aa (aw (ax c1) (λc vG hc=>?_) λ_ _ z=>z.elim);obtain⟨cb,tk,rfl,rfl,hq⟩:=hc;have qF:St B kQ kU ρ σ₂ {me with toks:=tk}:=mi.tok tk;refine aa (gL ?_);refine aa (ax (eS ?_));rcases cb with _|_
 ·exact fin lV (ag (PR.lo (Tk.here mi.gs hq.f _) rfl))
 simp only[if_true];refine J (DH ..) ?_;refine GV qF lV (ax (tI ih x qF hq.t)) λd Iy Zn mH p_ Tc r_ vH Ft=>?_;refine aa (aI ?_);have:=we x.g.toGood0 r_.gs x.Ay (Rv.keep Ft oz) Tc p_;rw[wm]at this;exact Wn (K:=λ_=>True) r_.gs vH (ez this)
def GY(B:nX)(C:CT)(k n:Nat):Prop:=∀{κ:nP}{kQ:aD}{kU:List aD}{A:bm}{op:BoolOp}{es:List am}{ρ:lK}{U:kO}{s:Shared}{Q:Bool->kO->Prop}{E:nI},
 Cx B C k n κ kQ kU A->St B kQ kU ρ U s->rU C B.tab (Ai n κ op es) ρ U Q E->aq B.mod A (allTrue op es kQ) (PR B kU Do Q U s) (PX B kU .none E U s) s
def th{Q:Bool->kO->Prop}(h:rU C B.tab (.val .stuck) ρ U Q E):False:=by exact h
def Lq(ih:UN B C k n)(X8:GY B C k n):GY B C k (n+1):=by
 intro κ kQ kU A op es ρ U s Q E x S h;rcases es with _|⟨e,_|⟨e2,r⟩⟩
 ·contradiction<;>exact(th h).elim
 ·have h':rU C B.tab (zD n κ e) ρ U Q E:=by rcases op with _|_<;>exact h
  refine(?_:aq _ _ (ja e kQ (bZ e kQ)>>=λb=>_) _ _ _);refine fst S (ih x.less S h') λb k8 p σ₁ h₁ lM lq lm nN=>?_;change b=p at lM;clear h;subst lM;rcases op with _|_<;>rcases b with _|_<;>exact fin lm (ag (Tk.here lq.gs h₁ _))
 rcases op with _|_
 ·have h':rU C B.tab (.and (zD n κ e) (Ai n κ .And (e2::r))) ρ U Q E:=h;dsimp only[rU]at h';refine(?_:aq _ _ (ja e kQ (bZ e kQ)>>=λb=>_) _ _ _);refine fst S (ih x.less S h') λb k8 p σ₁ h₁ lM lq lm nN=>?_;have lM:b=p:=lM;subst lM;clear lM;rcases b with _|_
  ·exact fin lm (ag (Tk.here lq.gs h₁.f _))
  exact last lm (X8 x.less lq h₁.t)
 have h':rU C B.tab (.or (zD n κ e) (Ai n κ .Or (e2::r))) ρ U Q E:=h;dsimp only[rU]at h';refine(?_:aq _ _ (ja e kQ (bZ e kQ)>>=λb=>_) _ _ _);refine fst S (ih x.less S h') λb k8 p σ₁ h₁ lM lq lm nN=>?_;have lM:b=p:=lM;subst lM;clear lM;rcases b with _|_
 ·exact last lm (X8 x.less lq h₁.f)
 exact fin lm (ag (Tk.here lq.gs h₁.t _))
def Fy{e:am}{pos:Pos}{w:fZ Value}(x:Cx B C k n κ kQ kU A)(S:St B kQ kU ρ U s)(ih:tH B C k n)(h:rU C B.tab (.val (lP n κ e)) ρ U Q E):
  aq B.mod A (do let v←bZ e kQ;g_ e.pos;c7 [v] (jY v)) (PR B kU Do Q U s) (PX B kU .none E U s) s:=by
 dsimp only[rU]at h;refine fst S (ih x S h) λa k8 p σ₁ h₁ lM lq lm nN=>?_;refine aa (aI (ax ?_));exact mY (aw (BN lM h₁) (λb s' z9=>by clear a lM nN;obtain⟨e,q⟩:=z9;subst e;exact PR.up lm (Tk.here lq.gs q _)) λ_ _ z=>z)
noncomputable def isVal:am->Bool
 |.UnaryOp op _ _=>(match op with
  |.Not=>false
  |_=>true)
 |.BoolOp .. =>false
 |.IfExp .. =>false
 |.Compare .. =>false
 |_=>true
set_option tactic.hygienic true in
def Fz{e:am}{w:fZ Value}(h:isVal e=true):ja e kQ w=(do let v←w;g_ e.pos;c7 [v] (jY v)):=by
 rcases e with _|_
 case UnaryOp op _ _=>rcases op with _|_<;>first|rfl|contradiction
 all_goals first|rfl|contradiction
set_option tactic.hygienic true in
def Pm{e:am}(h:isVal e=true):zD (n+1) κ e=.val (lP n κ e):=by
 rcases e with _|_
 case UnaryOp op _ _=>rcases op with _|_<;>first|rfl|contradiction
 all_goals first|rfl|contradiction
inductive yF:am->Prop
 |not (y:am) (p:Pos):yF (.UnaryOp .Not y p)
 |bool (op:BoolOp) (vs:List am) (p:Pos):yF (.BoolOp op vs p)
 |ite (t a b:am) (p:Pos):yF (.IfExp t a b p)
 |cmp (l:am) (ops:List f7) (rs:List am) (p:Pos):yF (.Compare l ops rs p)
set_option tactic.hygienic true in
def Pn{e:am}(h:isVal e=false):yF e:=by
 rcases e with _|_
 case UnaryOp op y p=>rcases op with _|_<;>first|constructor|contradiction
 all_goals first|constructor|contradiction
def Tl(ih:tH B C k n)(UO:UN B C k n)(X8:GY B C k n):UN B C k (n+1):=by
 intro κ kQ kU A e ρ U s Q E x S h;have x':=x.less
 induction hv:isVal e with
 |true=>
  rw[Pm hv]at h;refine J (Fz hv ..) ?_;exact Fy (w:=bZ e kQ) (pos:=e.pos) x' S ih h
 |false=>
  rcases Pn hv with⟨y,p⟩|⟨op,vs,p⟩|⟨t,a,b,p⟩|⟨l,ops,rs,p⟩
  ·refine J (arm_isTrue_UnaryOp ..) ?_;refine fst S (UO x' S h) λb k8 p σ₁ h₁ lM lq lm nN=>?_;have lM:b=p:=lM;subst lM;exact fin lm (ag (Tk.here (Q:=Q) lq.gs h₁ _))
  ·refine J (arm_isTrue_BoolOp ..) ?_;exact X8 x' S h
  ·refine J (arm_isTrue_IfExp ..) ?_;refine fst S (UO x' S h) λb k8 p σ₁ h₁ lM lq lm nN=>?_;have lM:b=p:=lM;subst lM;clear lM;rcases b with _|_
   ·exact last lm (UO x' lq h₁.f)
   exact last lm (UO x' lq h₁.t)
  have h:rU C B.tab (match EP ops rs with
   |.one op r=>.cmp (oj op) (lP n κ l) (lP n κ r)
   |.two o1 o2 m r=>.qj (oj o1) (oj o2) (lP n κ l) (lP n κ m) (lP n κ r)
   |.no=>.val .stuck) ρ U Q E:=h
  have v:=Gv ops rs;generalize EP ops rs=w at v h;clear hv;rcases v with⟨op,r⟩|⟨o1,o2,m,r⟩|_
  ·exact IE ih x' S h
  ·exact Fx ih x' S h
  exact(th h).elim
end
section
open PySem PySem.W PySem.Calls PyProof.Rows PySem.SeqAt PySem.MeetsSeq PySem.W.FB PySem.W.KBy
variable {B:nX}{kU:List aD}{U:kO}{σ₀:kO}{σ₁:kO}{s:Shared}{s₀:Shared}{k8:Shared}{A:bm}{kQ:aD}{ρ:lK}{ρ':lK}{κ:nP}{k:Nat}{n:Nat}{C:CT}{Q:lK->kO->Prop}{E:nI}
def zV(name:Str)(h:Int)(key v c:Value)(d:Option Nat)(es:Array bY)(m:Nat)(sl:Array (Option Value)):∃u0 m',Obj.putName name h key v ⟨c,d,.dict es m,sl⟩=⟨c,d,.dict u0 m',sl⟩:=by
 refine J (Obj.putName_eq ..) ?_;unfold Obj.putNameByArray;dsimp only
 split<;>exact⟨_,_,rfl⟩
def yG(hk:kQ.kindOf x=some .cell)(hf:kQ.scope.kind=.function):fy kQ x v=(cellOf kQ x>>=λc=>cellSet c (some v)):=by
 unfold fy;rw[hk,hf];rfl
def IF{M:Model}{m:Str->Option Value}{name:Str}{v:Value}{Q:Unit->Shared->Prop}{E:Value->Shared->Prop}(hn:s.heap.Ns a m)(ho:s.heap.get? a=some o)
  (h:∀h' u0 m',h'.Ns a (λx=>if x=name then some v else m x)->bR a s.heap h'->h'.get? a=some {o with data:=.dict u0 m'}->Q () {s with heap:=h',toks:=s.toks+1}):aq M A (nsSet a name v) Q E s:=by
 obtain⟨o',es,ep,zF,hd,hk,hm⟩:=id hn;rw[ho]at zF;obtain rfl:=af zF;intro Γ p X6;have key:∀P:Unit->Pos->Shared->Prop,fZ.wp M Γ (nsSet a name v) P (λe x s'=>E e s') p s=((s.heap.get? a).isSome=true/\P () p {s with heap:=s.heap.update a (Obj.putName name (if name.cps.isEmpty then 0 else reduceHash (M.w.params.strHash name.cps)) (.str name s.toks) v),toks:=s.toks+1}):=by
  intro P;simp(config:={iota:=false}) only[nsSet,strHash,j5,fZ.wp_cmd_ask,j4,fZ.wp_cmd_mkText];rw[fZ.wp_loadPart_of M Γ _ p {s with toks:=s.toks+1} (o:=o) _ ho];have Fg:es.any (·.refKey)=false:=by
   rw[kE];intro e he;obtain⟨n,t,h⟩:=hk e he;simp[j7,h]
  rw[hd];simp only[aRefKeyMayBeTheName_eq,aRefKeyMayBeTheNameByArray,Fg,fX,aY,if_false,km]
 have BV:=fZ.wp_nsSet M Γ (λe x s'=>E e s') p s hn name v (λ_ _ s'=>s'.heap.Ns a (λx=>if x=name then some v else m x)/\bR a s.heap s'.heap) (λh' a b=>⟨a,b⟩);rw[key]at BV;clear zF;obtain⟨_,h1,h2⟩:=BV;have Zp:∃u0 m',(s.heap.update a (Obj.putName name (if name.cps.isEmpty then 0 else reduceHash (M.w.params.strHash name.cps)) (.str name s.toks) v)).get? a=some {o with data:=.dict u0 m'}:=by
  clear Q h;obtain⟨c,d,dt,sl⟩:=o;dsimp only at hd;subst hd;obtain⟨u0,m',e⟩:=zV name (if name.cps.isEmpty then 0 else reduceHash (M.w.params.strHash name.cps)) (.str name s.toks) v c d es ep sl;exact⟨u0,m',by rw[bp _ ho (by rw[e];rfl),e]⟩
 obtain⟨u0,m',h3⟩:=Zp;rw[key];exact⟨by rw[ho];rfl,h _ u0 m' h1 h2 h3⟩
inductive SR(B:nX)(kQ:aD)(kU:List aD)(Q:lK->kO->Prop)(U:kO)(s:Shared)(_:Unit)(s':Shared):Prop
 |mk (ρ':lK) (kP:kO) (q:Q ρ' kP) (S:St B kQ kU ρ' kP s') (p:mr B.H0 (oh kQ) U s.heap kP s'.heap)
def mr.own(x:mr B.H0 Nx U h kP h'):mr B.H0 (oh kQ) U h kP h':=x.wide λ_ z=>z.elim
def lK.get_set(h:i<ρ.length):lK.get (ρ.set i v) j=if j=i then v else ρ.get j:=by
 dsimp only[lK.get];refine J (List.getElem?_set ..) ?_
 by_cases e:i=j
 ·subst e;simp[h]
 exact J (if_neg e ..) (J (if_neg (λz=>e z.symm) ..) rfl)
def uK(E:td kQ){i j:Nat}{k k':NameKind}(h:kQ.scope.names[i]? =some (x,k))(h':kQ.scope.names[j]? =some (x,k')):i=j:=by
 have n:=E.nodup;have hi:(kQ.scope.names.map (·.1))[i]? =some x:=by refine J (bH ..) (J (h ..) ?_);rfl
 have hj:(kQ.scope.names.map (·.1))[j]? =some x:=by refine J (bH ..) (J (h' ..) ?_);rfl
 obtain⟨li,ei⟩:=aG.mp hi;obtain⟨lj,ej⟩:=aG.mp hj;exact(List.getElem_inj n).mp (ei.trans ej.symm)
def pY(S:St B kQ kU ρ U s)(hx:kQ.scope.names[i]? =some (x,.local))(hk:kQ.kindOf x=some .local)(r:Rv s.heap p v)(q:Q (ρ.set i (some p)) U):
  aq B.mod A (fy kQ x v) (SR B kQ kU Q U s) n_ s:=by
 refine lr λGp gk=>?_;obtain⟨m,hn,hm⟩:=S.Z.ns;obtain⟨Tm,Tn,o,ho,hc,es,ep,hd⟩:=S.place;refine gk ?_;have oX:i<ρ.length:=by rw[S.Z.len];exact(aG.mp hx).1
 rw[storeName_local hk (by rw[S.sS.kind];rfl)];refine IF hn ho λh' u0 m' Zq sb he=>?_;have al:∀b o,b≠kQ.locals->s.heap.get? b=some o->h'.get? b=some o:=λb o hb e=>(sb.2 b hb).trans e;have tk:TK s.heap h':=λb kX z=>by
  have nb:b≠kQ.locals:=λy=>by
   clear es ep hd u0 m' he;subst y;obtain⟨_,z⟩:=z;have z:s.heap.get? kQ.locals=some _:=z;rw[ho]at z;obtain rfl:=af z;rcases hc with hc|hc
   ·exact absurd hc (by show Value.type "tuple"≠Value.type "frame";decide)
   exact absurd hc (by show Value.type "tuple"≠Value.type "dict";decide)
  obtain⟨m,z⟩:=z;exact⟨m,al _ _ nb z⟩
 have P:mr B.H0 (oh kQ) U s.heap U h':=by
  refine⟨λb o e=>?_,λb o e _ nx=>?_,λ_ e=>.inl e,λ_ e=>e⟩
  ·by_cases hb:b=kQ.locals
   ·clear e;subst hb;exact⟨_,he⟩
   exact⟨o,al b o hb e⟩
  exact⟨o,al b o (λz=>nx (.inl z)) e,.inl rfl,λ_=>rfl⟩
 refine⟨ρ.set i (some p),U,q,⟨⟨λb o e=>?_,λa mo e=>?_⟩,S.sS,⟨by rw[gO];exact S.Z.len,?_,?_,?_⟩,⟨Tm,Tn,_,he,hc,u0,m',rfl⟩,λy c JY=>?_,S.apart,λe To=>?_,S.gens,S.os⟩,P⟩
 ·exact al b o (λz=>by subst z;rw[Tm]at e;contradiction) (S.own.base b o e)
 ·obtain⟨a1,o',e',r'⟩:=S.own.obj a mo e;exact⟨a1,o',al a o' (λz=>by clear a1 e';subst z;rw[Tn]at e;contradiction) e',r'.keep tk⟩
 ·refine⟨_,Zq,λj y hy w hw=>?_⟩;rw[lK.get_set oX]at hw;dsimp only;clear q;by_cases hj:j=i
  ·subst hj;rw[if_pos rfl]at hw;obtain rfl:=af hw;rw[hx]at hy;cases hy;exact⟨v,if_pos rfl,r.keep tk⟩
  rw[if_neg hj]at hw;obtain⟨z,e1,e2⟩:=hm j y hy w hw;exact⟨z,by rw[if_neg (λe=>hj (uK S.sS hy (e▸hx)))];exact e1,e2.keep tk⟩
 ·intro j y k hy tG;have hj:j≠i:=λe=>by clear q oX;subst e;rw[hx]at hy;cases hy;rcases tG with h|h<;>contradiction
  refine lr λGp gk=>?_;obtain⟨⟨c,w,RJ,o1,Wo,Wp⟩,q'⟩:=S.Z.cell j y k hy tG;have GZ:∀c,kQ.cells.lookup y=some c->c≠kQ.locals:=λc h=>(S.cells y c h).d';refine gk ?_;refine⟨⟨c,w,RJ,o1,al _ _ (GZ c RJ) Wo,Wp⟩,λw hw=>?_⟩;rw[lK.get_set oX,if_neg hj]at hw;refine lr λGp gk=>?_;obtain⟨c,z,c1,⟨o2,c2,c3⟩,rr⟩:=q' w hw;refine gk ?_;exact⟨c,z,c1,⟨o2,al _ _ (GZ c c1) c2,c3⟩,rr.keep tk⟩
 ·intro j y k hy tG;have hj:j≠i:=λe=>by clear q oX;subst e;rw[hx]at hy;cases hy;rcases tG with h|h<;>contradiction
  rw[lK.get_set oX,if_neg hj];exact S.Z.JX j y k hy tG
 ·refine lr λGp gk=>?_;obtain⟨c1,c2,c3,o',w,c4,c5,c6⟩:=S.cells y c JY;refine gk ?_;exact⟨c1,c2,c3,o',w,al _ _ c3 c4,c5,c6⟩
 refine lr λGp gk=>?_;obtain⟨k,L,o',f1,f2,f3,f4,f5,Lr,n1,f6⟩:=S.kU e To;refine gk ?_
 by_cases hL:L=kQ.locals
 ·clear Lr n1 f6;subst hL;rw[ho]at f4;obtain rfl:=af f4;exact⟨k,_,_,f1,f2,f3,he,f5,u0,m',rfl⟩
 exact⟨k,L,o',f1,f2,f3,al _ _ hL f4,f5,Lr,n1,f6⟩
variable {B:nX}{kU:List aD}{U σ₀ σ₁:kO}{s s₀ k8:Shared}{A:bm}{kQ:aD}{ρ ρ':lK}{κ:nP}{k n:Nat}
variable {C:CT}{Q:lK->kO->Prop}{E:nI}
def yH{i:Nat}{v:Value}(hf:kQ.frame=some kQ.locals)(S:St B kQ kU ρ U s)(hx:kQ.scope.names[i]? =some (x,.cell))(hk:kQ.kindOf x=some .cell)(r:Rv s.heap p v)(q:Q (ρ.set i (some p)) U):
  aq B.mod A (fy kQ x v) (SR B kQ kU Q U s) n_ s:=by
 refine lr λGp gk=>?_;obtain⟨⟨c,w0,hc,_⟩,_⟩:=S.Z.cell i x .cell hx (.inl rfl);clear right right_1;obtain⟨c1,c2,c3,o,w,ho,ccl,hd⟩:=S.cells x c hc;refine gk ?_;have oX:i<ρ.length:=J (S.Z.len ..) ((aG.mp hx).1);refine J (yG hk S.sS.kind) ?_;refine aa (wpAny_cellOf hc ?_);dsimp only[cellSet];refine aa (wpAny_load ho ?_);refine J (hd ..) ?_;refine wpAny_update ho ?_;have he:(s.heap.update c λo=>{o with data:=.cell (some v)}).get? c=some {o with data:=.cell (some v)}:=bp _ ho rfl;have sb:bR c s.heap (s.heap.update c λo=>{o with data:=.cell (some v)}):=jp ..;generalize (s.heap.update c λo=>{o with data:=.cell (some v)})=h' at he sb ⊢;have al:∀b o,b≠c->s.heap.get? b=some o->h'.get? b=some o:=λb o hb e=>(sb.2 b hb).trans e;have tk:TK s.heap h':=λb kX z=>by
  have nb:b≠c:=λy=>by
   clear hc c1 c2 c3 w hd he sb al;subst y;obtain⟨_,z⟩:=z;have z:s.heap.get? b=some _:=z;rw[ho]at z;obtain rfl:=af z;exact absurd ccl (by show Value.type "tuple"≠Value.type "cell";decide)
  obtain⟨m,z⟩:=z;exact⟨m,al _ _ nb z⟩
 have P:mr B.H0 (oh kQ) U s.heap U h':=by
  refine⟨λb o e=>?_,λb o e _ nx=>?_,λ_ e=>.inl e,λ_ e=>e⟩
  ·clear hc c1 c2 c3 ho sb;by_cases hb:b=c
   ·subst hb;exact⟨_,he⟩
   exact⟨o,al b o hb e⟩
  exact⟨o,al b o (λz=>nx (.inr ⟨hf,x,hk,z▸hc⟩)) e,.inl rfl,λ_=>rfl⟩
 refine lr λGp gk=>?_;clear sb;obtain⟨m,hn,hm⟩:=S.Z.ns;obtain⟨Tm,Tn,ol,Po,hlc,es,ep,Ls⟩:=S.place;have Zr:=al _ _ (dW c3) Po;refine gk ?_;refine⟨ρ.set i (some p),U,q,⟨⟨λb o e=>?_,λa mo e=>?_⟩,S.sS,⟨J (gO ..) S.Z.len,⟨m,?_,?_⟩,?_,?_⟩,⟨Tm,Tn,ol,Zr,hlc,es,ep,Ls⟩,λy c' JY=>?_,S.apart,λe To=>?_,S.gens,S.os⟩,P⟩
 ·exact al b o (λz=>by clear hc c2 c3 ho he al;subst z;rw[c1]at e;contradiction) (S.own.base b o e)
 ·clear hc c1 c3 ho he;obtain⟨a1,o',e',r'⟩:=S.own.obj a mo e;exact⟨a1,o',al a o' (λz=>by subst z;rw[c2]at e;contradiction) e',r'.keep tk⟩
 ·refine lr λGp gk=>?_;obtain⟨o2,es2,ep2,e2,d2,r2⟩:=hn;refine gk ?_;exact⟨o2,es2,ep2,al _ _ (dW c3) e2,d2,r2⟩
 ·intro j y hy w' hw;have hj:j≠i:=λe=>by clear q oX w' hw;subst e;rw[hx]at hy;cases hy
  rw[lK.get_set oX,if_neg hj]at hw;obtain⟨z,e1,e2⟩:=hm j y hy w' hw;exact⟨z,e1,e2.keep tk⟩
 ·intro j y k hy tG;clear q;by_cases hj:j=i
  ·clear tG;subst hj;rw[hx]at hy;cases hy;refine⟨⟨c,some v,hc,_,he,rfl⟩,λw' hw=>?_⟩;rw[lK.get_set oX,if_pos rfl]at hw;obtain rfl:=af hw;exact⟨c,v,hc,⟨_,he,rfl⟩,r.keep tk⟩
  have GZ:∀c',kQ.cells.lookup y=some c'->c'≠c:=λc' h z=>hj (uK S.sS hy (by
   have e:=S.apart y x c' h (z▸hc);exact J (e ..) hx))
  refine lr λGp gk=>?_;obtain⟨⟨c',w',RJ,o1,Wo,Wp⟩,q'⟩:=S.Z.cell j y k hy tG;refine gk ?_;refine⟨⟨c',w',RJ,o1,al _ _ (GZ c' RJ) Wo,Wp⟩,λw' hw=>?_⟩;rw[lK.get_set oX,if_neg hj]at hw;refine lr λGp gk=>?_;obtain⟨c'',z,c1,⟨o2,c2,c3⟩,rr⟩:=q' w' hw;refine gk ?_;exact⟨c'',z,c1,⟨o2,al _ _ (GZ c'' c1) c2,c3⟩,rr.keep tk⟩
 ·intro j y k hy tG;have hj:j≠i:=λe=>by clear q oX;subst e;rw[hx]at hy;cases hy;rcases tG with h|h<;>contradiction
  refine J (lK.get_set oX ..) (J (if_neg hj ..) ?_);exact S.Z.JX j y k hy tG
 ·refine lr λGp gk=>?_;obtain⟨d1,d2,d3,o',w',d4,d5,d6⟩:=S.cells y c' JY;refine gk ?_;clear c2;by_cases hcc:c'=c
  ·clear w' d6;subst hcc;rw[ho]at d4;obtain rfl:=af d4;exact⟨d1,d2,d3,_,some v,he,d5,rfl⟩
  exact⟨d1,d2,d3,o',w',al _ _ hcc d4,d5,d6⟩
 refine lr λGp gk=>?_;clear c2;obtain⟨k,L,o',f1,f2,f3,f4,f5,Lr,n1,f6⟩:=S.kU e To;have hL:L≠c:=λz=>by
  clear Lr n1 f6;clear c1;subst z;rw[ho]at f4;obtain rfl:=af f4;rw[ccl]at f5;exact absurd f5 (by decide)
 refine gk ?_;exact⟨k,L,o',f1,f2,f3,al _ _ hL f4,f5,Lr,n1,f6⟩
def Pp(S:St B kQ kU ρ U s)(nm:mB κ kQ)(hx:κ.own? x=some i)(r:Rv s.heap p v)(q:Q (ρ.set i (some p)) U):
  aq B.mod A (gU kQ x v) (SR B kQ kU Q U s) n_ s:=by
 refine lr λGp gk=>?_;obtain⟨k,h1,h2,h3⟩:=K3 S.sS nm hx;refine gk ?_;dsimp only[gU];refine aa (ax (fL ?_));refine aa (aw (Q:=SR B kQ kU Q U s) ?_ (λ_ _ h=>fL h) λ_ _ z=>z);rcases h3 with rfl|⟨rfl,hf⟩
 ·exact pY S h1 h2 r q
 exact yH hf S h1 h2 r q
end
section
open PySem PySem.W PySem.Calls PyProof.Rows PySem.SeqAt PySem.MeetsSeq PySem.W.FB PySem.W.KBy
variable {B:nX}{kU:List aD}{U σ₀ σ₁:kO}{s s₀ k8:Shared}{A:bm}{kQ:aD}{ρ ρ':lK}{κ:nP}{k n:Nat}{C:CT}{Q:lK->kO->Prop}{E:nI}
abbrev JZ:Oq->kO->Prop:=λ_ _=>False
def Wq{L:Option Nat}{v:Value}{s':Shared}(h:PX B kU L JZ U s v s'):False:=let ⟨_,_,q,_,_,_⟩:=h;q
def UP{α:Type}{L:Option Nat}{m:fZ α}{P:α->Shared->Prop}(h:aq B.mod A m P (PX B kU L JZ U s) s):aq B.mod A m P n_ s:=aw h (λ_ _ z=>z) λ_ _ z=>Wq z
def SR.up(p:mr B.H0 (oh kQ) σ₀ s₀.heap U s.heap){u:Unit}{s':Shared}(h:SR B kQ kU Q U s u s'):SR B kQ kU Q σ₀ s₀ u s':=by
 obtain⟨ρ',kP,q,S',p'⟩:=h;exact⟨ρ',kP,q,S',p.trans p' λ_ z=>.inl z⟩
def UQ(B:nX)(C:CT)(k n:Nat):Prop:=∀{κ:nP}{kQ:aD}{kU:List aD}{A:bm}{e:am}{p:PV}{v:Value}{ρ:lK}{U:kO}{s:Shared}{Q:lK->kO->Prop},
 Cx B C k n κ kQ kU A->St B kQ kU ρ U s->Rv s.heap p v->zI C B.tab (v4 n κ e) p ρ U Q JZ->aq B.mod A (iB e kQ v) (SR B kQ kU Q U s) n_ s
def Lu(B:nX)(C:CT)(k n:Nat):Prop:=∀{κ:nP}{kQ:aD}{kU:List aD}{A:bm}{es:List am}{ps:List PV}{vs:List Value}{ρ:lK}{U:kO}{s:Shared}{Q:lK->kO->Prop},
 Cx B C k n κ kQ kU A->St B kQ kU ρ U s->noStar es=true->lR s.heap ps vs->ps.length=es.length->CS C B.tab (wZ n κ es) ps ρ U Q JZ->aq B.mod A (ew ((dY es kQ).map (·.2)) vs) (SR B kQ kU Q U s) n_ s
def St.Lv{kP:kO}{s':Shared}(S:St B kQ kU ρ U s)(p:mr B.H0 (oh kQ) U s.heap kP s'.heap):TK s.heap s'.heap:=p.tk S.own S.SJ
def AA{e:am}{r:List am}{kQ:aD}(h:pt e=false):dY (e::r) kQ=(false,iB e kQ)::dY r kQ:=by
 rcases e with _|_<;>first|rfl|contradiction
def Lw{kQ:aD}:∀{es:List am},noStar es=true->(dY es kQ).length=es.length/\(dY es kQ).findIdx? (·.1)=.none:=by
 intro z9
 induction z9 with
 |nil=>
  intro _;exact⟨rfl,rfl⟩
 |cons e r ih=>
  intro h;dsimp only[noStar]at h;rw[ce,aE]at h;obtain⟨a,b⟩:=ih h.2;refine J (AA (by simpa using h.1) ..) (J (au ..) (J (a ..) (J (fU ..) (J (b ..) ?_))));exact⟨rfl,rfl⟩
def Pq(ih:UQ B C k n)(rV:Lu B C k n):Lu B C k (n+1):=by
 intro κ kQ kU A es ps vs ρ U s Q x S hs r hl h;rcases es with _|⟨e,es⟩
 ·clear r;rcases ps with _|⟨p,ps⟩
  ·dsimp only[wZ,CS]at h;refine(?_:aq _ _ (ew [] vs) _ _ _);refine(?_:aq _ _ (pure _) _ _ _);exact ag ⟨ρ,U,h,S,.refl ..⟩
  contradiction
 rcases ps with _|⟨p,ps⟩
 ·contradiction
 obtain⟨v,r7,r1,r2⟩:=lR.ni r;have h':CS C B.tab (.cons (v4 n κ e) (wZ n κ es)) (p::ps) ρ U Q JZ:=h;dsimp only[CS]at h';dsimp only[noStar]at hs;rw[ce,aE]at hs;refine J (AA (by simpa using hs.1) ..) ?_;refine(?_:aq _ _ (c7 r7 (iB e kQ v)>>=λ_=>ew ((dY es kQ).map (·.2)) r7) _ _ _);refine aa (ax (aw (ih x.less S r1 h') (λu k8 z9=>?_) λ_ _ z=>z));obtain⟨nV,σ₁,h₁,lq,lm⟩:=z9;exact aw (rV x.less lq hs.2 (r2.keep (S.Lv lm)) (by simpa using hl) h₁) (λ_ _ z=>z.up lm) λ_ _ z=>z
theorem RK:∀(n:Nat) {es:List am},es.length<n->(wZ n κ es).len=es.length
 |0,_,h=>by lia
 |n+1,[],_=>rfl
 |n+1,e::es,h=>by
  refine(?_:(Ts.cons (v4 n κ e) (wZ n κ es)).len=_);dsimp only[Ts.len];refine J (RK n (by simpa using h) ..) ?_;rfl
def FA{v:PV}{n:Nat}{K:List PV->Prop}(h:qW U v n K):qW U v n λvs=>vs.length=n/\K vs:=by
 rcases v with _|_<;>try exact h.elim
 ·have h:=xp.ex h;exact xp.mk h.1 ⟨dx h.1,h.2⟩
 refine l9.k h λl e h=>?_;have h:=xp.ex h;refine(?_:l9 U _ _);unfold l9;refine J (e ..) ?_;exact xp.mk h.1 ⟨dx h.1,h.2⟩
inductive TV(n:Nat)(κ:nP):am->T->Prop
 |stuck (e:am):TV n κ e .stuck
 |name {nm:Str}{i:Nat}{p:Pos} (h:κ.own? nm=some i):TV n κ (.Name nm p) (.name i)
 |attr (o:am) (nm:Str) (p:Pos):TV n κ (.Attribute o nm p) (.attr (lP n κ o) (cs nm))
 |sub {o i:am}{p:Pos} (h:HO i=false):TV n κ (.Subscript o i p) (.sub (lP n κ o) (lP n κ i))
 |tup {es:List am}{y:Nat}{p:Pos} (h:(noStar es&&decide (es.length<n))=true):TV n κ (.Tuple es y p) (.tup (wZ n κ es))
set_option tactic.hygienic true in
def Tp(e:am):TV n κ e (v4 (n+1) κ e):=by
 rcases e with _|_<;>try exact .stuck _
 case Name nm p=>
  refine(?_:TV n κ _ (match κ.own? nm with|some i=>.name i|.none=>.stuck));rcases hi:κ.own? nm with _|i
  ·exact .stuck _
  exact .name hi
 case Attribute o nm p=>exact .attr o nm p
 case Subscript o i p=>
  show TV n κ _ (match sT i with
    |.no=>.sub (lP n κ o) (lP n κ i)
    |_=>.stuck)
  have v:=Ah i;generalize sT i=w at v;rcases v with⟨_,hh⟩|⟨l,u,q⟩|_
  ·exact .sub hh
  ·exact .stuck _
  exact .stuck _
 case Tuple es y p=>
  refine(?_:TV n κ _ (match noStar es&&decide (es.length<n)with|true=>.tup (wZ n κ es)|false=>.stuck));rcases hs:noStar es&&decide (es.length<n)with _|_
  ·exact .stuck _
  exact .tup hs
def Wr(ih:tH B C k n){o i:am}{pos:Pos}{p:PV}{v:Value}(x:Cx B C k n κ kQ kU A)(S:St B kQ kU ρ U s)(r:Rv s.heap p v)
  (h:mh C B.tab (lP n κ o) ρ U (λov U=>mh C B.tab (lP n κ i) ρ U (λiv U=>zH U ov iv p λU=>Q ρ U) JZ) JZ):aq B.mod A (iB (.Subscript o i pos) kQ v) (SR B kQ kU Q U s) n_ s:=by
 refine J (arm_assign_Subscript ..) ?_;refine aa (ax (aw (UP (ih x S h)) (λov k8 hz=>?_) λ_ _ z=>z));obtain⟨po,σ₁,h₁,lM,oK,lm⟩:=hz;have lq:=S.up lm oK;refine aa (ax (aw (UP (ih x lq h₁)) (λiv me hz=>?_) λ_ _ z=>z));obtain⟨pi,σ₂,lL,oz,pI,lV⟩:=hz;have qS:=lV.tk lq.own n9;refine aa (aI ?_);have hs:=Pa (A:=A) (vv:=v) (Q:=λ_ U=>Q ρ U) pI (Rv.keep qS lM) oz (Rv.keep qS (Rv.keep (lm.tk S.own n9) r)) lL;refine aa (ax (aw hs (λu vG hz=>?_) λ_ _ z=>z));obtain⟨_,lH,nG,_,IG,uI⟩:=hz;exact gL ⟨ρ,lH,nG,(lq.up lV pI).up uI IG,((lm.app lV).app uI).own⟩
def Tq(ih:tH B C k n){o:am}{nm:Str}{pos:Pos}{p:PV}{v:Value}(x:Cx B C k n κ kQ kU A)(S:St B kQ kU ρ U s)(r:Rv s.heap p v)
  (h:mh C B.tab (lP n κ o) ρ U (λov U=>CR B.tab U ov (cs nm) p λU=>Q ρ U) JZ):aq B.mod A (iB (.Attribute o nm pos) kQ v) (SR B kQ kU Q U s) n_ s:=by
 refine J (arm_assign_Attribute ..) ?_;refine aa (ax (aw (UP (ih x S h)) (λov k8 hz=>?_) λ_ _ z=>z));obtain⟨po,σ₁,h₁,lM,oK,lm⟩:=hz;refine aa (aI ?_);have hs:=O_ (A:=A) (vv:=v) (Q:=λ_ U=>Q ρ U) x.g oK lM (Rv.keep (lm.tk S.own n9) r) h₁;rw[GX]at hs;refine aa (ax (aw hs (λu me hz=>?_) λ_ _ z=>z));obtain⟨_,σ₂,lL,_,pI,lV⟩:=hz;exact gL ⟨ρ,σ₂,lL,(S.up lm oK).up lV pI,(lm.app lV).own⟩
def Ws(rV:Lu B C k n){es:List am}{y:Nat}{pos:Pos}{p:PV}{v:Value}(x:Cx B C k n κ kQ kU A)(S:St B kQ kU ρ U s)(r:Rv s.heap p v)(AB:noStar es=true)(oX:es.length<n)
  (h:qW U p (wZ n κ es).len (λvs=>CS C B.tab (wZ n κ es) vs ρ U Q JZ)):aq B.mod A (iB (.Tuple es y pos) kQ v) (SR B kQ kU Q U s) n_ s:=by
 rw[RK n oX]at h;refine J (arm_assign_Tuple ..) ?_;refine aa (aI ?_);obtain⟨e1,e2⟩:=Lw (kQ:=kQ) AB;dsimp only[unpack];refine J (e1 ..) (J (e2 ..) ?_);refine aa (aw (ax (Ax (Q:=λvs U=>vs.length=es.length/\CS C B.tab (wZ n κ es) vs ρ U Q JZ) S.gs x.hh r (FA h))) (λvs k8 hz=>?_) λ_ _ z=>z);obtain⟨ps,σ₁,⟨hl,h₁⟩,lM,oK,lm⟩:=hz;exact aw (rV x (S.up lm oK) AB lM hl h₁) (λ_ _ z=>z.up lm.own) λ_ _ z=>z
def Tr(ih:tH B C k n)(rV:Lu B C k n):UQ B C k (n+1):=by
 intro κ kQ kU A e p v ρ U s Q x S r h;have x':=x.less;have tv:=Tp (n:=n) (κ:=κ) e;generalize v4 (n+1) κ e=t at tv h
 induction tv with
 |stuck=>exact a_ h
 |name hi=>
  refine J (arm_assign_Name ..) ?_;exact aa (aI (Pp S x.nm hi r (xp.ex h).2))
 |attr o nm pos=>exact Tq ih x' S r h
 |sub hi=>exact Wr ih x' S r h
 |tup AB=>
  rw[aE,decide_eq_true_iff]at AB;exact Ws rV x' S r AB.1 AB.2 h
set_option backward.match.sparseCases true
def CE(fp:NL)(h h':Heap):Prop:=(∀b o,b∉fp->h.get? b=some o->h'.get? b=some o)/\∀b o,h.get? b=some o->∃o',h'.get? b=some o'
def CE.refl(fp:NL)(a:Heap):CE fp a a:=⟨λ_ _ _ e=>e,λ_ o e=>⟨o,e⟩⟩
structure J0(B:nX)(I:Nat)(fp:NL)(kX:List PV)(unch:kO->Prop)(enum:Bool)(T:Nat->Heap->Prop)(T':Nat->Value->Heap->Prop):Prop where
 next:∀{A:bm}{kU:List aD}{U:kO}{s:Shared}{j:Nat}{p:PV}{P:Option Value->Shared->Prop},A.handled=.none->Gs B kU U s->unch U->T j s.heap->kX[j]? =some p->
  (∀v h' t,Rv h' p v->T' j v h'->CE fp s.heap h'->P (some v) {s with heap:=h',toks:=t})->aq B.mod A (pyNext (.ref I)) P n_ s
 stop:∀{A:bm}{kU:List aD}{U:kO}{s:Shared}{j:Nat}{P:Option Value->Shared->Prop},A.handled=.none->Gs B kU U s->unch U->T j s.heap->kX[j]? =.none->
  (∀h' t,(∀b o,b∉fp->s.heap.get? b=some o->h'.get? b=some o)->P .none {s with heap:=h',toks:=t})->aq B.mod A (pyNext (.ref I)) P n_ s
 go:∀{A:bm}{s:Shared}{j:Nat}{v:Value}{t:am}{P:Unit->Shared->Prop},T' j v s.heap->(enum=true->EH t=true)->
  (∀h',T (j+1) h'->CE fp s.heap h'->P () {s with heap:=h'})->aq B.mod A (letOwnedTupleGo t (.ref I) v) P n_ s
 self:∀{A:bm}{s:Shared}{j:Nat}{P:Value->Shared->Prop},T j s.heap->P (.ref I) s->aq B.mod A (pyIter (.ref I)) P n_ s
 keep:∀{h h':Heap}{j:Nat},T j h->(∀b∈fp,∀o,h.get? b=some o->h'.get? b=some o)->TK h h'->T j h'
 zW:∀{h:Heap}{j:Nat},T j h->∀b∈fp,∃o,h.get? b=some o/\o.cls≠.type "tuple"/\o.cls≠.type "frame"
 zX:∀{h:Heap}{j:Nat}{v:Value},T' j v h->∀b∈fp,∃o,h.get? b=some o/\o.cls≠.type "tuple"/\o.cls≠.type "frame"
def CE.same{I:Nat}{h h':Heap}{T:Prop}(sb:bR I h h')(hI:∃o,h'.get? I=some o):CE [I] h h':=
 ⟨λb o n e=>(sb.2 b (by simpa using n)).trans e,λb o e=>by
  by_cases q:b=I
  ·clear sb;subst q;exact hI
  exact⟨o,(sb.2 b q).trans e⟩⟩
def nT{s:String}{t:String}(h:s≠t):Value.type s≠Value.type t:=λe=>h (by injection e)
set_option tactic.hygienic true in
def rN{I a:Nat}{j:Nat}{v:Value}{t:am}{ty:String}{P:Unit->Shared->Prop}{E:Value->Shared->Prop}{o:Obj}(ho:s.heap.get? I=some o)(hc:o.cls=.type ty)
  (hn:["enumerate","zip","dict_itemiterator","dict_reverseitemiterator","odict_iterator","itertools.zip_longest","itertools.pairwise"].contains ty=false) (h:P () s):aq B.mod A (letOwnedTupleGo t (.ref I) v) P E s:=by
 have key:aq B.mod A (do
   let (.ref r,.ref a):=((bP I,v):Value×Value)|return
   let o←load r
   match o.cls,o.data with
   |.type n,.fields vs=>
    if["enumerate","zip","dict_itemiterator","dict_reverseitemiterator","odict_iterator","itertools.zip_longest","itertools.pairwise"].contains n&&vs[0]? ==some (eo a)then
     rule "for.unpacks-the-owned-tuple"
     updateField r 0 .none
   |_,_=>pure ():fZ Unit) P E s:=by
  rcases v with _|_
  case ref b=>
   refine aa (wpAny_load ho ?_);refine J (hc ..) ?_;rcases o.data with _|_
   case fields vs=>
    dsimp only;refine J (hn ..) ?_;exact ag h
   all_goals exact ag h
  all_goals exact ag h
 rcases t with _|_<;>first|exact key|exact ag h
def Lx{a I:Nat}{kX:List PV}(sP:a≠I):J0 B I [I] kX (λU=>U a=some (.list kX)) false (λj h=>h.IsListIter I a j) (λj _ h=>h.IsListIter I a (j+1)) where
 next:=λhh G u t hp h=>by
  refine G.nJ u λvs n hl r=>?_;obtain⟨v,gv,rv⟩:=r.get hp;refine wpAny_pyNext_list_item t (IsL.isList hl) (x:=v) (by simpa using gv) λh' t' sb=>?_;have e:CE [I] _ h':=CE.same (T:=True) sb (let ⟨o,ho,_⟩:=t';⟨o,ho⟩);have tk:TK _ h':=λb its z9=>by obtain⟨m,z⟩:=z9;exact⟨m,e.1 b _ (λq=>by
   simp only[aB]at q;subst q;obtain⟨o,ho,hc,_⟩:=t;have z:_=some _:=z;rw[ho]at z;obtain rfl:=af z;exact absurd hc (nT (by decide))) z⟩
  exact h v h' _ (rv.keep tk) t' e
 stop:=λhh G u t hp h=>by
  refine G.nJ u λvs n hl r=>?_;have hlen:=r.length;refine wpAny_pyNext_list_end hh t (IsL.isList hl) (by
   rw[aR]at hp;simp only[cu,aR];exact nn 0x10101200221002 rfl hp hlen) λh' e=>h h' _ λb o n z=>e b o (by simpa using n) z
 go:=λt _ h=>by
  obtain⟨o,ho,hc,_⟩:=id t;exact rN (I:=I) (a:=a) (j:=0) ho hc (by decide) (h _ t (.refl ..))
 self:=λt h=>wpAny_pyIter_listiter t h
 keep:=λt k _=>by obtain⟨o,ho,r⟩:=t;exact⟨o,k I (by simp) o ho,r⟩
 zW:=λt b hb=>by
  simp only[aB]at hb;subst hb;obtain⟨o,ho,hc,_⟩:=t;exact⟨o,ho,J (hc ..) (nT (by decide)),J (hc ..) (nT (by decide))⟩
 zX:=λt b hb=>by
  simp only[aB]at hb;subst hb;obtain⟨o,ho,hc,_⟩:=t;exact⟨o,ho,J (hc ..) (nT (by decide)),J (hc ..) (nT (by decide))⟩
def ut{I:Nat}{h:Heap}{ty:String}{P:Obj->Prop}(t:∃o,h.get? I=some o/\o.cls=.type ty/\P o)(h1:ty≠"tuple")(h2:ty≠"frame"):∀b∈[I],∃o,h.get? b=some o/\o.cls≠.type "tuple"/\o.cls≠.type "frame":=by
 intro b hb;simp only[aB]at hb;subst hb;obtain⟨o,ho,hc,_⟩:=t;exact⟨o,ho,J (hc ..) (nT h1),J (hc ..) (nT h2)⟩
def Wt{I:Nat}{h h':Heap}{ty:String}{P:Obj->Prop}(t:∃o,h.get? I=some o/\o.cls=.type ty/\P o)(h1:ty≠"tuple")(e:CE [I] h h'):TK h h':=λb its z9=>by obtain⟨m,z⟩:=z9;exact⟨m,e.1 b _ (λq=>by
 simp only[aB]at q;clear h' e;subst q;obtain⟨o,ho,hc,_⟩:=t;have z:h.get? b=some _:=z;rw[ho]at z;clear right;obtain rfl:=af z;exact absurd hc (nT (λh=>h1 h.symm))) z⟩
def Pr{a I:Nat}{kX:List PV}{vs:List Value}(sP:a≠I):J0 B I [I] kX (λ_=>True) false (λj h=>h.IsTupleIter I a j/\pz h a vs.toArray/\lR h kX vs) (λj _ h=>h.IsTupleIter I a (j+1)/\pz h a vs.toArray/\lR h kX vs) where
 next:=λhh G u t hp h=>by
  obtain⟨t1,t2,r⟩:=t;obtain⟨v,gv,rv⟩:=r.get hp;refine wpAny_pyNext_tuple_item t1 t2.tuple (x:=v) (by simpa using gv) λh' t' sb=>?_;have e:CE [I] _ h':=CE.same (T:=True) sb (let ⟨o,ho,_⟩:=t';⟨o,ho⟩);have tk:=Wt t1 (by decide) e;exact h v h' _ (rv.keep tk) ⟨t',tk _ _ t2,r.keep tk⟩ e
 stop:=λhh G u t hp h=>by
  obtain⟨t1,t2,r⟩:=t;have hlen:=r.length;refine wpAny_pyNext_tuple_end hh t1 t2.tuple (by
   rw[aR]at hp;simp only[cu,aR];exact nn 0x10101200221002 rfl hp hlen) λh' e=>h h' _ λb o n z=>e b o (by simpa using n) z
 go:=λt _ h=>by
  obtain⟨o,ho,hc,_⟩:=id t.1;exact rN (I:=I) (a:=a) (j:=0) ho hc (by decide) (h _ t (.refl ..))
 self:=λt h=>wpAny_pyIter_tupleiter t.1 h
 keep:=λt k tk=>by
  obtain⟨⟨o,ho,q⟩,t2,r⟩:=t;exact⟨⟨o,k I (by simp) o ho,q⟩,tk _ _ t2,r.keep tk⟩
 zW:=λt=>ut t.1 (by decide) (by decide)
 zX:=λt=>ut t.1 (by decide) (by decide)
def IH{I:Nat}{n:Nat}:J0 B I [I] (vj n) (λ_=>True) false (λj h=>IsRangeIter h I (j:Int) ((n:Int)-j) 1) (λj _ h=>IsRangeIter h I ((j:Int)+1) ((n:Int)-j-1) 1) where
 next:=λ{A kU U s j p P} hh G u t hp h=>by
  have hj:j<n:=by
   have:=(aG.mp hp).1
   simpa [vj]using this
  have Tt:p=.int (j:Nat):=by
   simp[vj,hj]at hp;exact hp.symm
  clear hp;subst Tt;refine wpAny_pyNext_range_item t (by lia) λh' t' sb=>?_;exact h _ h' _ (Rv.int ..) t' (CE.same (T:=True) sb ⟨_,t'⟩)
 stop:=λ{A kU U s j P} hh G u t hp h=>by
  have hj:n<=j:=by
   rw[aR]at hp
   simpa [vj]using hp
  exact wpAny_pyNext_range_end hh t (by lia) λh' e=>h h' _ λb o n z=>e b o (by simpa using n) z
 go:=λ{A s j v t P} t' _ h=>by
  refine rN (I:=I) (a:=0) (j:=0) t' rfl (by decide) (h _ ?_ (.refl ..));have e1:((j+1:Nat):Int)=(j:Int)+1:=by lia
  have e2:(n:Int)-((j+1:Nat):Int)=(n:Int)-j-1:=by lia
  rw[e1]at*;refine J (show (n:Int)-((j:Int)+1)=(n:Int)-j-1 from by lia) ?_;exact t'
 self:=λt h=>wpAny_pyIter_rangeiter t h
 keep:=λt k _=>k I (by simp) _ t
 zW:=λt=>ut (P:=λ_=>True) ⟨_,t,rfl,trivial⟩ (by decide) (by decide)
 zX:=λt=>ut (P:=λ_=>True) ⟨_,t,rfl,trivial⟩ (by decide) (by decide)
def II{I:Nat}{l:List UInt8}{t:gN}:J0 B I [I] ((l.map aL).map λc=>.int (c:Nat)) (λ_=>True) false (λj h=>iY h I l.toArray t j) (λj _ h=>iY h I l.toArray t (j+1)) where
 next:=λ{A kU U s j p P} hh G u t hp h=>by
  rw[bH,bH]at hp;rcases hc:l[j]? with _|c
  ·rw[hc]at hp;simp at hp
  rw[hc]at hp;simp only[fk,dZ]at hp;subst hp;refine PySem.W.KBw.next_item t (c:=c) (by simpa using hc) λh' t' sb=>?_;exact h _ h' _ (Rv.int ..) t' (CE.same (T:=True) sb (let ⟨o,ho,_⟩:=t';⟨o,ho⟩))
 stop:=λ{A kU U s j P} hh G u t hp h=>by
  refine PySem.W.KBw.next_end hh t (by
   rw[aR]at hp;simp only[cu,aR]
   simpa using hp) λh' e=>h h' _ λb o n z=>e b o (by simpa using n) z
 go:=λt _ h=>by
  obtain⟨o,ho,hc,_⟩:=id t;exact rN (I:=I) (a:=0) (j:=0) ho hc (by decide) (h _ t (.refl ..))
 self:=λt h=>PySem.W.KBw.pyIter_self t h
 keep:=λt k _=>by obtain⟨o,ho,r⟩:=t;exact⟨o,k I (by simp) o ho,r⟩
 zW:=λt=>ut t (by decide) (by decide)
 zX:=λt=>ut t (by decide) (by decide)
def Ly{I:Nat}{x:NL}{t:gN}:J0 B I [I] (x.map λc=>.str [c]) (λ_=>True) false (λj h=>h.IsStrIter I "str_ascii_iterator" (sk x) t j) (λj _ h=>h.IsStrIter I "str_ascii_iterator" (sk x) t (j+1)) where
 next:=λ{A kU U s j p P} hh G u t hp h=>by
  rw[bH]at hp;rcases hc:x[j]? with _|c
  ·rw[hc]at hp;simp at hp
  rw[hc]at hp;simp only[fk,dZ]at hp;subst hp;refine wpAny_pyNext_ascii_item t (c:=c) (by simpa [sk]using hc) λh' t' sb=>?_;exact h _ h' _ (Rv.str _ [c] _) t' (CE.same (T:=True) sb (let ⟨o,ho,_⟩:=t';⟨o,ho⟩))
 stop:=λ{A kU U s j P} hh G u t hp h=>by
  refine wpAny_pyNext_ascii_end hh t (by
   rw[aR]at hp
   simpa [sk]using hp) λh' e=>h h' _ λb o n z=>e b o (by simpa using n) z
 go:=λt _ h=>by
  obtain⟨o,ho,hc,_⟩:=id t;exact rN (I:=I) (a:=0) (j:=0) ho hc (by decide) (h _ t (.refl ..))
 self:=λt h=>wpAny_pyIter_striter_ascii t h
 keep:=λt k _=>by obtain⟨o,ho,r⟩:=t;exact⟨o,k I (by simp) o ho,r⟩
 zW:=λt=>ut t (by decide) (by decide)
 zX:=λt=>ut t (by decide) (by decide)
def Lz{I:Nat}{x:NL}{t:gN}:J0 B I [I] (x.map λc=>.str [c]) (λ_=>True) false (λj h=>h.IsStrIter I "str_iterator" (sk x) t j) (λj _ h=>h.IsStrIter I "str_iterator" (sk x) t (j+1)) where
 next:=λ{A kU U s j p P} hh G u t hp h=>by
  rw[bH]at hp;rcases hc:x[j]? with _|c
  ·rw[hc]at hp;simp at hp
  rw[hc]at hp;simp only[fk,dZ]at hp;subst hp;refine wpAny_pyNext_wide_item t (c:=c) (by simpa [sk]using hc) λh' t' sb=>?_;exact h _ h' _ (Rv.str _ [c] _) t' (CE.same (T:=True) sb (let ⟨o,ho,_⟩:=t';⟨o,ho⟩))
 stop:=λ{A kU U s j P} hh G u t hp h=>by
  refine wpAny_pyNext_wide_end hh t (by
   rw[aR]at hp
   simpa [sk]using hp) λh' e=>h h' _ λb o n z=>e b o (by simpa using n) z
 go:=λt _ h=>by
  obtain⟨o,ho,hc,_⟩:=id t;exact rN (I:=I) (a:=0) (j:=0) ho hc (by decide) (h _ t (.refl ..))
 self:=λt h=>wpAny_pyIter_striter_wide t h
 keep:=λt k _=>by obtain⟨o,ho,r⟩:=t;exact⟨o,k I (by simp) o ho,r⟩
 zW:=λt=>ut t (by decide) (by decide)
 zX:=λt=>ut t (by decide) (by decide)
def IJ{a e it:Nat}{kX:List PV}(sP:e≠it)(X9:a≠e)(Zs:a≠it):J0 B e [e,it] (numbered kX) (λU=>U a=some (.list kX)) true (λj h=>(∃old,IsEnum h e it (j:Int) old)/\h.IsListIter it a j)
  (λj v h=>∃x b,v=.ref b/\IsEnumOut h e it ((j:Int)+1) x b/\h.IsListIter it a (j+1)) where
 next:=λ{A kU U s j p P} hh G u t hp h=>by
  clear X9 Zs;obtain⟨⟨old,t1⟩,t2⟩:=t;refine G.nJ u λvs n hl r=>?_;have hj:j<kX.length:=by
   have:=(aG.mp hp).1
   simpa [numbered]using this
  have Tt:p=.tup [.int (j:Nat),kX[j]]:=by
   simp[numbered,hj]at hp;exact hp.symm
  clear hp;subst Tt;obtain⟨v,gv,rv⟩:=r.get (aT hj);refine wpAny_pyNext_enum_item t1 t2 (IsL.isList hl) (x:=v) (by simpa using gv) sP λh' u1 u2 u3 u4 u5=>?_;have e1:CE [e,it] s.heap h':=⟨λb o n z=>u5 b o (λq=>n (by simp[q])) (λq=>n (by simp[q])) z,λb o z=>by
   clear sP t2 old t1 h;by_cases q:b=e
   ·clear u5;subst q;exact⟨_,u1⟩
   clear u1;by_cases q2:b=it
   ·clear u5;subst q2;obtain⟨o,ho,_⟩:=u2;exact⟨o,ho⟩
   exact⟨o,u5 b o q q2 z⟩⟩
  have tk:TK s.heap h':=λb its z9=>by clear u1 u2 e1;clear sP h;obtain⟨m,z⟩:=z9;exact⟨m,u5 b _ (λq=>by
   clear u5;subst q;have z:s.heap.get? b=some _:=z;rw[t1]at z;exact absurd (congrArg Obj.cls (af z)) (nT (by decide))) (λq=>by
   clear old t1 u5;subst q;obtain⟨o,ho,hc,_⟩:=t2;have z:s.heap.get? b=some _:=z;rw[ho]at z;clear right;obtain rfl:=af z;exact absurd hc (nT (by decide))) z⟩
  refine h _ h' _ (Rv.tup (vs:=[.int j s.toks,v]) ⟨0,u3⟩ (lR.cons (Rv.int ..) (lR.one (rv.keep tk)))) ⟨v,_,rfl,u1,u2⟩ e1
 stop:=λ{A kU U s j P} hh G u t hp h=>by
  obtain⟨⟨old,t1⟩,t2⟩:=t;refine G.nJ u λvs n hl r=>?_;have hlen:=r.length;have hj:kX.length<=j:=by
   rw[aR]at hp
   simpa [numbered]using hp
  exact wpAny_pyNext_enum_end hh t1 t2 (IsL.isList hl) (by simp;exact nn 0x10102002101022 rfl hlen hj) λh' x=>h h' _ λb o n z=>x b o (λq=>n (by simp[q])) z
 go:=λ{A s j v t P} t' ht h=>by
  clear X9;obtain⟨x,b,rfl,u1,u2⟩:=t';have ht:=ht rfl;rcases t with _|_<;>try contradiction
  refine jW u1 λh' w1 sb=>?_;refine h h' ⟨⟨x,J (show ((j+1:Nat):Int)=(j:Int)+1 from by lia) w1⟩,?_⟩ ⟨λb o n z=>(sb.2 b (λq=>n (by simp[q]))).trans z,λb o z=>?_⟩
  ·obtain⟨o,ho,r⟩:=u2;exact⟨o,(sb.2 it (dW sP)).trans ho,r⟩
  clear sP P h u1;by_cases q:b=e
  ·clear sb;subst q;exact⟨_,w1⟩
  exact⟨o,(sb.2 b q).trans z⟩
 self:=λt h=>let ⟨⟨_,t1⟩,_⟩:=t;gF t1 h
 keep:=λt k _=>by
  obtain⟨⟨old,t1⟩,⟨o,ho,r⟩⟩:=t;exact⟨⟨old,k e (by simp) _ t1⟩,⟨o,k it (by simp) o ho,r⟩⟩
 zW:=λt b hb=>by
  clear sP X9 Zs;obtain⟨⟨old,t1⟩,⟨o,ho,hc,_⟩⟩:=t;simp only[aU,bq,or_false]at hb;rcases hb with rfl|rfl
  ·exact⟨_,t1,nT (by decide),nT (by decide)⟩
  exact⟨o,ho,J (hc ..) (nT (by decide)),J (hc ..) (nT (by decide))⟩
 zX:=λt b hb=>by
  clear sP X9 Zs;obtain⟨x,b',_,t1,⟨o,ho,hc,_⟩⟩:=t;simp only[aU,bq,or_false]at hb;rcases hb with rfl|rfl
  ·exact⟨_,t1,nT (by decide),nT (by decide)⟩
  exact⟨o,ho,J (hc ..) (nT (by decide)),J (hc ..) (nT (by decide))⟩
set_option backward.match.sparseCases false
def IL{e it:Nat}{x:NL}{t:gN}{ty:String}(X_:ty≠"tuple"/\ty≠"frame")(sP:e≠it)
  (D:∀A:bm,A.handled=.none->Draws B.prog B.w A it [it] (sk x).cps.size (λi v=>∃c u,(sk x).cps[i]? =some c/\v=.str ⟨#[c]⟩ u) (λi h=>h.IsStrIter it ty (sk x) t i)):
  J0 B e [e,it] (numbered (x.map λc=>.str [c])) (λ_=>True) true (λj h=>((∃old,IsEnum h e it (j:Int) old)/\h.IsStrIter it ty (sk x) t j)/\j<=x.length) (λj v h=>(∃y b,v=.ref b/\IsEnumOut h e it ((j:Int)+1) y b/\h.IsStrIter it ty (sk x) t (j+1))/\j<x.length) where
 next:=λ{A kU U s j p P} hh G u t hp h=>by
  obtain⟨⟨⟨old,t1⟩,t2⟩,_⟩:=t;have hj:j<x.length:=by
   have:=(aG.mp hp).1
   simpa [numbered]using this
  have Tt:p=.tup [.int (j:Nat),.str [x[j]]]:=by
   simp[numbered,hj]at hp;exact hp.symm
  clear hp;subst Tt;refine wpAny_pyNext_enum_itemD (D A.in1 hh) t1 t2 (by simpa [sk]using hj) sP (by simpa using sP) λv h' tk pv u1 u2 u3 u4 u5=>?_;clear sP D t2 old t1;obtain⟨c,w,hc,rfl⟩:=pv;have JY:x[j]=c:=by
   have:x[j]? =some c:=by simpa [sk]using hc
   rw[aT hj]at this;clear hc u1 u3;obtain rfl:=af this;rfl
  have e1:CE [e,it] s.heap h':=⟨λb o n z=>u5 b o (λq=>n (by simp[q])) (λq=>n (by simp[q])) z,λb o z=>by
   clear h;by_cases q:b=e
   ·clear u5;subst q;exact⟨_,u1⟩
   clear u1;by_cases q2:b=it
   ·clear u5;subst q2;obtain⟨o,ho,_⟩:=u2;exact⟨o,ho⟩
   exact⟨o,u5 b o q q2 z⟩⟩
  rw[JY]at h;exact h _ h' _ (Rv.tup (vs:=[.int j tk,.str ⟨#[c]⟩ w]) ⟨0,u3⟩ (lR.cons (Rv.int ..) (lR.one (Rv.str _ [c] w)))) ⟨⟨_,_,rfl,u1,u2⟩,hj⟩ e1
 stop:=λ{A kU U s j P} hh G u t hp h=>by
  obtain⟨⟨⟨old,t1⟩,t2⟩,JU⟩:=t;have hj:x.length<=j:=by
   rw[aR]at hp
   simpa [numbered]using hp
  have hjn:(sk x).cps.size=j:=by simp[sk];exact mZ 0x1000000100120101002 rfl JU hj
  refine wpAny_pyNext_enum_endD (D A.in1 hh) t1 (J (hjn ..) t2) λh' y=>h h' _ λb o n z=>y b o (λq=>n (by simp[q])) z
 go:=λ{A s j v t P} t' ht h=>by
  obtain⟨⟨y,b,rfl,u1,u2⟩,oX⟩:=t';have ht:=ht rfl;rcases t with _|_<;>try contradiction
  refine jW u1 λh' w1 sb=>?_;refine h h' ⟨⟨⟨y,J (show ((j+1:Nat):Int)=(j:Int)+1 from by lia) w1⟩,?_⟩,oX⟩ ⟨λb o n z=>(sb.2 b (λq=>n (by simp[q]))).trans z,λb o z=>?_⟩
  ·obtain⟨o,ho,r⟩:=u2;exact⟨o,(sb.2 it (dW sP)).trans ho,r⟩
  clear sP P h u1;by_cases q:b=e
  ·clear sb;subst q;exact⟨_,w1⟩
  exact⟨o,(sb.2 b q).trans z⟩
 self:=λt h=>let ⟨⟨⟨_,t1⟩,_⟩,_⟩:=t;gF t1 h
 keep:=λt k _=>by
  obtain⟨⟨⟨old,t1⟩,⟨o,ho,r⟩⟩,JU⟩:=t;exact⟨⟨⟨old,k e (by simp) _ t1⟩,⟨o,k it (by simp) o ho,r⟩⟩,JU⟩
 zW:=λt b hb=>by
  clear sP D;obtain⟨⟨⟨old,t1⟩,⟨o,ho,hc,_⟩⟩,_⟩:=t;simp only[aU,bq,or_false]at hb;rcases hb with rfl|rfl
  ·exact⟨_,t1,nT (by decide),nT (by decide)⟩
  exact⟨o,ho,J (hc ..) (nT X_.1),J (hc ..) (nT X_.2)⟩
 zX:=λt b hb=>by
  obtain⟨⟨y,b',_,t1,⟨o,ho,hc,_⟩⟩,_⟩:=t;simp only[aU,bq,or_false]at hb;clear sP D;rcases hb with rfl|rfl
  ·exact⟨_,t1,nT (by decide),nT (by decide)⟩
  exact⟨o,ho,J (hc ..) (nT X_.1),J (hc ..) (nT X_.2)⟩
def Wu(B:nX)(kU:List aD)(ik:IK)(K:List PV->(kO->Prop)->Prop)(U:kO)(s:Shared):Value->Shared->Prop:=λv s'=>
 ∃I fp kX unch T T',v=.ref I/\J0 B I fp kX unch (match ik with|.enum=>true|_=>false) T T'/\T 0 s'.heap/\K kX unch/\unch U/\Gs B kU U s'/\mr B.H0 Nx U s.heap U s'.heap/\∀b∈fp,s.heap.get? b=.none
def ti{I:Nat}{o:Obj}(G:Gs B kU U s):Gs B kU U {s with heap:=s.heap.push o}/\mr B.H0 Nx U s.heap U (s.heap.push o):=G.keeps (t:=s.toks) (lG _ o)
set_option tactic.hygienic true in
def DI{o:PV}{vo:Value}{K:List PV->(kO->Prop)->Prop}(G:Gs B kU U s)(ro:Rv s.heap o vo)(h:lT U .val o K):aq B.mod A (pyIter vo) (Wu B kU .val K U s) n_ s:=by
 unfold lT at h;dsimp only at h;rcases o with _|_
 case tup=>
  refine lr λGp gk=>?_;obtain⟨a,vs,rfl,ht,r⟩:=ro.mJ;obtain⟨G',p⟩:=ti (I:=0) (o:={cls:=.type "tuple_iterator",data:=.fields #[.ref a,.int 0 0]}) G;obtain⟨n,ho⟩:=id ht;have sP:a≠s.heap.objs.size:=λq=>by
   have ho:s.heap.get? a=some _:=ho;rw[q,ly]at ho;contradiction
  have tk:TK s.heap (s.heap.push {cls:=.type "tuple_iterator",data:=.fields #[.ref a,.int 0 0]}):=TK.of_keeps (lG _ _);refine gk ?_;exact wpAny_pyIter_tuple ht.tuple ⟨_,[_],_,_,_,_,rfl,Pr (vs:=vs) sP,⟨⟨_,aP _ rfl,rfl,rfl⟩,tk _ _ ht,r.keep tk⟩,h.2,trivial,G',p,by simpa using ly _⟩
 case bytes=>
  refine lr λGp gk=>?_;obtain⟨l,t,rfl,rfl⟩:=ro.l8;obtain⟨G',p⟩:=ti (I:=0) (o:={cls:=.type "bytes_iterator",data:=.fields #[.bytes l.toArray t,.int 0 0]}) G;refine gk ?_;exact PySem.W.KBw.pyIter_bytes ⟨_,[_],_,_,_,_,rfl,II,⟨_,aP _ rfl,rfl,rfl⟩,h.2,trivial,G',p,by simpa using ly _⟩
 case str x=>
  refine lr λGp gk=>?_;obtain⟨t,rfl⟩:=ro.mz;refine gk ?_
  by_cases ha:(sk x).cps.all (· <128)=true
  ·refine lr λGp gk=>?_;obtain⟨G',p⟩:=ti (I:=0) (o:={cls:=.type "str_ascii_iterator",data:=.fields #[.str (sk x) t,.int 0 0]}) G;refine gk ?_;exact wpAny_pyIter_ascii (x:=sk x) ha ⟨_,[_],_,_,_,_,rfl,Ly,⟨_,aP _ rfl,rfl,rfl⟩,h.2,trivial,G',p,by simpa using ly _⟩
  refine lr λGp gk=>?_;obtain⟨G',p⟩:=ti (I:=0) (o:={cls:=.type "str_iterator",data:=.fields #[.str (sk x) t,.int 0 0]}) G;refine gk ?_;exact wpAny_pyIter_wide (x:=sk x) (by simpa using ha) ⟨_,[_],_,_,_,_,rfl,Lz,⟨_,aP _ rfl,rfl,rfl⟩,h.2,trivial,G',p,by simpa using ly _⟩
 case ref a=>
  obtain rfl:=ro.mW;refine lr λGp gk=>?_;refine l9.k h λl e rK=>?_;obtain⟨hz,k⟩:=rK;refine G.nJ e λvs n hl r=>?_;obtain⟨G',p⟩:=ti (I:=0) (o:={cls:=.type "list_iterator",data:=.fields #[.ref a,.int 0 0]}) G;have sP:a≠s.heap.objs.size:=λq=>by
   have hl:s.heap.get? a=some _:=hl;rw[q,ly]at hl;contradiction
  refine gk ?_;exact wpAny_pyIter_list (IsL.isList hl) ⟨_,[_],_,_,_,_,rfl,Lx sP,⟨_,aP _ rfl,rfl,rfl⟩,k,e,G',p,by simpa using ly _⟩
 all_goals exact h.elim
end
section
open PySem PySem.W PySem.Calls PyProof.Rows PySem.SeqAt PySem.MeetsSeq PySem.W.FB PySem.W.KBy
variable {B:nX}{kU:List aD}{U σ₀ σ₁:kO}{s s₀ k8:Shared}{A:bm}{kQ:aD}{ρ ρ':lK}{κ:nP}{k n:Nat}{C:CT}{E:nI}
def Zt(B:nX)(kU:List aD)(en:Bool)(K:kO->List PV->(kO->Prop)->Prop)(U:kO)(s:Shared):Value->Shared->Prop:=λv s'=>
 ∃σ₁ I fp kX unch T T',v=.ref I/\J0 B I fp kX unch en T T'/\T 0 s'.heap/\K σ₁ kX unch/\unch σ₁/\Gs B kU σ₁ s'/\mr B.H0 Nx U s.heap σ₁ s'.heap/\∀b∈fp,s.heap.get? b=.none/\σ₁ b=.none
noncomputable def FC:IK->Bool
 |.enum=>true
 |_=>false
def DJ(B:nX)(kU:List aD)(A:bm)(it:am)(kQ:aD)(en:Bool)(K:kO->List PV->(kO->Prop)->Prop)(E:nI)(U:kO)(s:Shared):Prop:=
 aq B.mod A (bZ it kQ) (λv k8=>aq B.mod A (pyIter v) (Zt B kU en K U s) n_ k8) (PX B kU .none E U s) s
def tJ(h:∀a b c,it≠.Set a b c)(x:Value):dN it kQ x=pure x:=by
 dsimp only[dN];rcases it with _|_
 case Set=>exact absurd rfl (h _ _ _)
 all_goals rfl
def yI(hw:mh C B.tab (lP n κ it) ρ U Q E):∀a b c,it≠.Set a b c:=by
 rintro a b c rfl;rw[GW]at hw;exact a_ hw
set_option tactic.hygienic true in
def xB(hw:mh C B.tab (lP n κ e) ρ U Q E):pt e=false:=by
 rcases e with _|_<;>try rfl
 rename_i v p;have:lP n κ (.Starred v p)=.stuck:=by clear hw;rcases n with _|_<;>rfl
 rw[this]at hw;exact a_ hw
def Ps(ih:tH B C k n){K:kO->List PV->(kO->Prop)->Prop}(x:Cx B C k n κ kQ kU A)(S:St B kQ kU ρ U s)
  (h:mh C B.tab (lP n κ it) ρ U (λiv U=>lT U .val iv (K U)) E):DJ B kU A it kQ false K E U s:=by
 refine aw (ih x S h) (λv k8 z9=>?_) λ_ _ z=>z;refine lr λGp gk=>?_;obtain⟨p,σ₁,h₁,lM,oK,lm⟩:=z9;refine gk ?_;refine aw (DI oK lM h₁) (λw me z9=>?_) λ_ _ z=>z;refine lr λGp gk=>?_;obtain⟨I,fp,kX,unch,T,T',e,It,t0,q,u,G,p,fr⟩:=z9;refine gk ?_;exact⟨σ₁,I,fp,kX,unch,T,T',e,It,t0,q,u,G,lm.app p,λb hb=>⟨lm.none b (fr b hb),oK.own.free (fr b hb)⟩⟩
def uL(m:Int)(h0:0<=m):dH 0 m 1=m:=by
 dsimp only[dH];simp;lia
set_option tactic.hygienic true in
def src_range(ih:tH B C k n){K:kO->List PV->(kO->Prop)->Prop}(x:Cx B C k n κ kQ kU A)(S:St B kQ kU ρ U s)(hb:κ.blt f=true)(hf:f=("range":Str))
  (h:mh C B.tab (lP n κ e) ρ U (λiv U=>lT U .range iv (K U)) E):DJ B kU A (.Call (.Name f p) [e] [] q) kQ false K E U s:=by
 have hg:κ.mR f=true:=by dsimp only[nP.blt]at hb;rw[aE]at hb;exact hb.1
 have E_:pt e=false:=xB h;have hs:noStar [e]=true:=by dsimp only[noStar];simpa using E_
 dsimp only[DJ];refine(?_:aq _ _ (bZ (.Name f p) kQ>>=λv=>fO q v [] (eX q (cN [e] kQ)) []) _ _ s);refine aa (mY (yD x.g S x.nm hg (v:=.type "range") (by clear hb hg;subst hf;kernel_rfl) ?_));refine nD (oS hs).1 ?_;refine J (nA E_ ..) ?_;refine(?_:aq _ _ (bZ e kQ>>=λv=>_) _ _ s);refine fst S (ih x S h) λa k8 Tu σ₁ h₁ lM lq lm nN=>?_;refine aa (ag (aa (ax (ag (ag ⟨sa,?_⟩)))));unfold lT at h₁;dsimp only at h₁;rcases Tu with _|_
 case int m=>
  obtain⟨t,rfl⟩:=Rv.nR lM;obtain⟨h0,hz,hk⟩:=h₁;refine call_range_1 ?_;have hr:IsRange (k8.heap.push {cls:=.type "range",data:=.fields #[.int 0 k8.toks,.int m t,.int 1 (k8.toks+1)]}) k8.heap.objs.size 0 m 1 k8.toks t (k8.toks+1):=aP _ rfl;have RL:jg 0 m 1=true:=by
   dsimp only[jg];refine J (uL m h0 ..) ?_;simp[Builtin.Range.rangeFitsLong];exact⟨⟨fQ (by decide) h0,ki hz (by decide)⟩,.inr ⟨fQ (by decide) h0,ki hz (by decide)⟩⟩
  refine lq.gs.keepsK (t:=k8.toks+1+1) (lG _ {cls:=.type "range",data:=.fields #[.int 0 k8.toks,.int m t,.int 1 (k8.toks+1)]}) λG2 p2=>?_;refine wpAny_pyIter_range hr RL ?_;refine G2.keepsK (t:=k8.toks+1+1) (lG _ {cls:=.type "range_iterator",data:=.fields #[eo 0,eo (dH 0 m 1),eo 1]}) λG3 p3=>?_;refine⟨σ₁,_,[_],_,_,_,_,rfl,IH (n:=m.toNat),?_,hk,trivial,G3,(lm.app p2).app p3,λb hb=>?_⟩
  ·have:((m.toNat:Nat):Int)=m:=d0 h0;have e:=aP (k8.heap.push {cls:=.type "range",data:=.fields #[.int 0 k8.toks,.int m t,.int 1 (k8.toks+1)]}) (o:={cls:=.type "range_iterator",data:=.fields #[eo 0,eo (dH 0 m 1),eo 1]}) rfl;rw[uL m h0]at e;refine(?_:IsRangeIter _ _ ((0:Nat):Int) ((m.toNat:Int)-((0:Nat):Int)) 1);refine J (this ..) (J (show m-((0:Nat):Int)=m from by lia) ?_);refine J (uL m h0 ..) ?_;exact e
  simp only[aB]at hb;subst hb;exact⟨lm.none _ (p2.none _ (ly _)),lq.own.free (p2.none _ (ly _))⟩
 all_goals exact h₁.elim
set_option tactic.hygienic true in
def LA(ih:tH B C k n){K:kO->List PV->(kO->Prop)->Prop}(x:Cx B C k n κ kQ kU A)(S:St B kQ kU ρ U s)(hb:κ.blt f=true)(hf:f=("enumerate":Str))
  (h:mh C B.tab (lP n κ e) ρ U (λiv U=>lT U .enum iv (K U)) E):DJ B kU A (.Call (.Name f p) [e] [] q) kQ true K E U s:=by
 have hg:κ.mR f=true:=by dsimp only[nP.blt]at hb;rw[aE]at hb;exact hb.1
 have E_:pt e=false:=xB h;have hs:noStar [e]=true:=by dsimp only[noStar];simpa using E_
 dsimp only[DJ];refine(?_:aq _ _ (bZ (.Name f p) kQ>>=λv=>fO q v [] (eX q (cN [e] kQ)) []) _ _ s);refine aa (mY (yD x.g S x.nm hg (v:=.type "enumerate") (by clear hb hg;subst hf;kernel_rfl) ?_));refine nD (oS hs).1 ?_;refine J (nA E_ ..) ?_;refine(?_:aq _ _ (bZ e kQ>>=λv=>_) _ _ s);refine fst S (ih x S h) λa k8 Tu σ₁ h₁ lM lq lm nN=>?_;refine aa (ag (aa (ax (ag (ag ⟨sa,?_⟩)))));unfold lT at h₁;dsimp only at h₁;rcases Tu with _|_
 case str l=>
  obtain⟨t,rfl⟩:=Rv.mz lM;refine call_enumerate_str λh' e1 e2 hz ext=>?_;refine gF e1 ?_;refine lq.gs.keepsK (t:=k8.toks) ext λG2 p2=>?_;refine⟨σ₁,_,[_,_],_,_,_,_,rfl,IL (x:=l) (t:=t) (ty:=strIterType (sk l)) ?_ (sR 0x100b0b501b0a21 rfl) ?_,⟨⟨⟨_,e1⟩,e2⟩,aO _⟩,h₁.2,trivial,G2,lm.app p2,λb hb=>?_⟩
  ·dsimp only[strIterType];split<;>exact⟨by decide,by decide⟩
  ·intro A hh;dsimp only[strIterType]
   split
   ·exact Draws.strAscii hh _ _ _
   exact Draws.strWide hh _ _ _
  simp only[aU,bq,or_false]at hb;have Tj:k8.heap.get? b=.none:=by
   rcases hb with rfl|rfl
   ·exact be (sR 0x1b0a000 rfl)
   exact be (sR 0x0 rfl)
  exact⟨lm.none _ Tj,lq.own.free Tj⟩
 case ref a=>
  obtain rfl:=Rv.mW lM;refine lr λGp gk=>?_;refine l9.k h₁ λl e rK=>?_;obtain⟨hz,hk⟩:=rK;refine lq.gs.nJ e λvs n hl r=>?_;refine gk ?_;refine call_enumerate_list (IsL.isList hl) λh' e1 e2 hz ext=>?_;refine gF e1 ?_;refine lq.gs.keepsK (t:=k8.toks) ext λG2 p2=>?_;have oX:a<k8.heap.objs.size:=by
   by_cases q:a<k8.heap.objs.size
   ·exact q
   change k8.heap.get? a=some _ at hl;rw[be (by lia)]at hl;contradiction
  refine⟨σ₁,_,[_,_],_,_,_,_,rfl,IJ (a:=a) (kX:=l) (sR 0x100b0b501b0a21 rfl) (mZ 0x11000b0b51b1a021012 rfl oX) (mZ 0x11000b0b51021012 rfl oX),⟨⟨_,e1⟩,e2⟩,hk,e,G2,lm.app p2,λb hb=>?_⟩;simp only[aU,bq,or_false]at hb;have Tj:k8.heap.get? b=.none:=by
   rcases hb with rfl|rfl
   ·exact be (sR 0x1b0a000 rfl)
   exact be (sR 0x0 rfl)
  exact⟨lm.none _ Tj,lq.own.free Tj⟩
 all_goals exact h₁.elim
def Zu(B:nX)(C:CT)(k n:Nat):Prop:=∀{κ:nP}{kQ:aD}{kU:List aD}{A:bm}{it:am}{ρ:lK}{U:kO}{s:Shared}{K:kO->List PV->(kO->Prop)->Prop}{E:nI},
 Cx B C k n κ kQ kU A->St B kQ kU ρ U s->mh C B.tab (sA n κ it).2 ρ U (λiv U=>lT U (sA n κ it).1 iv (K U)) E->DJ B kU A it kQ (FC (sA n κ it).1) K E U s/\∀x,dN it kQ x=pure x
def wn:sA (n+1) κ it=(match xU κ it with
  |some (b,x)=>(match b with
   |true=>(.range,lP n κ x)
   |false=>(.enum,lP n κ x))
  |.none=>(.val,lP n κ it)):=rfl
def G0(h:xU κ e=some (b,x)):∃f p q,e=.Call (.Name f p) [x] [] q/\κ.blt f=true/\f=(match b with|true=>("range":Str)|false=>("enumerate":Str)):=by
 refine lr λGp gk=>?_;refine lS h λuz h1 h=>?_;obtain⟨g,as,kw⟩:=uz;refine lS h λf h2 h=>?_;refine lS h λy h3 h=>?_;dsimp only at h h2 h3;obtain⟨q,e1⟩:=Ag h1;obtain⟨p,e2⟩:=og h2;have key:∀z,y=z->κ.blt f&&kw.isEmpty->e=.Call (.Name f p) [z] [] q/\κ.blt f=true:=λz hz hk=>by
  have hk:=az.mp hk;refine J (e1 ..) (J (e2 ..) (J (xn h3 ..) (J (hz ..) (J (dS.mp hk.2 ..) ?_))));exact⟨rfl,hk.1⟩
 refine gk ?_;clear Gp gk h3;rcases hk:κ.blt f&&kw.isEmpty with _|_
 ·rw[hk]at h;contradiction
 rw[hk]at h;dsimp only at h
 induction hr:f==("range":Str)with
 |true=>
  rw[hr]at h;rcases h with _|_
  obtain⟨k1,k2⟩:=key _ rfl hk;exact⟨f,p,q,k1,k2,eq_of_beq hr⟩
 |false=>
  rw[hr]at h;dsimp only at h;cases he:f==("enumerate":Str)with
  |true=>
   rw[he]at h;rcases h with _|_
   obtain⟨k1,k2⟩:=key _ rfl hk;exact⟨f,p,q,k1,k2,eq_of_beq he⟩
  |false=>rw[he]at h;contradiction
def Tv(ih:tH B C k n):Zu B C k (n+1):=by
 intro κ kQ kU A it ρ U s K E x S h;rcases e:xU κ it with _|⟨_|_,a⟩
 ·rw[wn,e]at h ⊢;exact⟨Ps ih x.less S h,tJ (yI h)⟩
 ·rw[wn,e]at h ⊢;refine lr λGp gk=>?_;obtain⟨f,p,q,rfl,hb,hf⟩:=G0 e;refine gk ?_;exact⟨LA ih x.less S hb hf h,tJ λ_ _ _ z=>nomatch z⟩
 rw[wn,e]at h ⊢;refine lr λGp gk=>?_;obtain⟨f,p,q,rfl,hb,hf⟩:=G0 e;refine gk ?_;exact⟨src_range ih x.less S hb hf h,tJ λ_ _ _ z=>nomatch z⟩
set_option backward.match.sparseCases true
def DK{M:Model}{scope:io}{cl:List (Str×hZ)}{qual:Str}{k7:aD}{Q:aD->Shared->Prop}{E':Value->Shared->Prop}(hc:∀x∈scope.names,x.2≠.cell)
  (h:Q {scope,locals:=s.heap.objs.size,globals:=g,cells:=cl,qual,func:=.none,code:=k7.code,frame:=k7.frame,builtins:=k7.builtins} {s with heap:=s.heap.push {cls:=.type "dict",data:=.dict #[]}}):
  aq M A (gx scope g cl [] qual .none .none (some k7)) Q E' s:=by
 simp only[gx,Option.isSome_some,if_true];refine aa (wpAny_alloc ?_);rw[forIn_yield_id cl (λx hx c=>by
   obtain⟨name,kind⟩:=x;have:(kind==gV)=false:=by simpa using hc _ hx
   simp only[this,aY,if_false])]
 exact aa (ag (aa (ag (ag h))))
theorem FD(f:Str×NameKind->List (Str×hZ)->fZ (ForInStep (List (Str×hZ))))(hf:∀x k cs,f (x,k) cs=if(k==cq)=true then(cellOf kQ x>>=λa=>pure (.yield ((x,a)::cs)))else pure (.yield cs)):∀(names:List (Str×NameKind)) (cs:List (Str×hZ)),(∀x,(x,cq)∈names->∃c,kQ.cells.lookup x=some c)->(∀x c,cs.lookup x=some c->kQ.cells.lookup x=some c)->
  ∃cl,forIn names cs f=(pure cl:fZ _)/\(∀x c,cl.lookup x=some c->kQ.cells.lookup x=some c)/\(∀x,((x,cq)∈names\/∃c,cs.lookup x=some c)->∃c,cl.lookup x=some c):=by
 intro z9
 induction z9 with
 |nil=>
  intro cs _ h2;exact⟨cs,rfl,h2,λx hx=>hx.elim (λz=>(bq z).elim) id⟩
 |cons y9 r ih=>
  intro cs h1 h2;obtain⟨y,k⟩:=y9;refine J (fu ..) (J (hf ..) ?_)
  by_cases hk:k=.free
  ·subst hk;obtain⟨c,hc⟩:=h1 y (by simp);obtain⟨cl,e,a,b⟩:=ih ((y,c)::cs) (λx hx=>h1 x (by simp[hx])) (λx d hd=>by
    rw[aQ]at hd
    split at hd
    ·rename_i q;obtain rfl:=af hd;exact J (eq_of_beq q ..) hc
    exact h2 x d hd)
   refine⟨cl,?_,a,λx hx=>b x ?_⟩
   ·have hce:cellOf kQ y=pure c:=by dsimp only[cellOf];rw[hc]
    refine J (hce ..) ?_;exact e
   clear h1 hc e b;by_cases q:x=y
   ·clear hx;subst q;exact .inr ⟨c,by simp⟩
   refine hx.imp (λz=>?_) λz9=>by obtain⟨d,z⟩:=z9;exact⟨d,J (aQ ..) (J (beq_false_of_ne q ..) z)⟩
   clear hx;rcases aU.mp z with z|z
   ·(injection z with z;subst z);exact absurd rfl q
   exact z
  obtain⟨cl,e,a,b⟩:=ih cs (λx hx=>h1 x (by simp[hx])) h2;refine⟨cl,?_,a,λx hx=>b x (hx.imp (λz=>?_) id)⟩
  ·exact J (if_neg (by simpa using hk) ..) e
  clear h1 hx;rcases aU.mp z with z|z
  ·cases z;exact absurd rfl hk
  exact z
def FE(h:∀x,(x,cq)∈scope.names->∃c,kQ.cells.lookup x=some c):
  ∃cl,closureFor scope kQ=pure cl/\(∀x c,cl.lookup x=some c->kQ.cells.lookup x=some c)/\(∀x,(x,cq)∈scope.names->cl.lookup x=kQ.cells.lookup x):=by
 dsimp only[closureFor];obtain⟨cl,e,a,b⟩:=FD (kQ:=kQ) (λx r=>match x with
  |(name,kind)=>if(kind==cq)=true then(cellOf kQ name>>=λa=>pure (.yield ((name,a)::r)))else pure (.yield r)) (λ_ _ _=>rfl) scope.names [] h (λ_ _ z=>by contradiction)
 refine⟨cl,?_,a,λx hx=>?_⟩
 ·exact(congrArg (· >>=λr=>pure r) e)
 obtain⟨c,hc⟩:=b x (.inl hx);exact J (hc ..) (J (a x c hc ..) rfl)
def tj:∀{l:List Str},p7 l=true->l.Nodup:=by
 intro z9
 induction z9 with
 |nil=>
  intro _;exact .nil
 |cons x r ih=>
  intro h;refine lw h λh1 h2=>?_;exact fq.mpr ⟨λz=>absurd (bj.mpr z) (by rw[(bu _).mp h1];decide),ih h2⟩
def IM(κ:nP)(fv:List (Option Nat))(i:Nat)(x:Str)(k:NameKind):Prop:=
 ((k=.local\/k=.globalImplicit)/\fv[i]? =some .none)\/(k=.free/\∃(j:Nat) (k':NameKind),fv[i]? =some (some j)/\ql x κ.names 0=some (j,k')/\(k'=.cell\/k'=.free))
set_option backward.match.sparseCases false in
def yJ:∀{names:List (Str×NameKind)}{fv:List (Option Nat)},qR κ names=some fv->fv.length=names.length/\∀(i:Nat) (x:Str) (k:NameKind),names[i]? =some (x,k)->IM κ fv i x k:=by
 intro z9
 induction z9 with
 |nil=>
  intro fv h;obtain rfl:=af h;exact⟨rfl,λi x k e=>nomatch e⟩
 |cons y9 r ih=>
  intro fv h;obtain⟨y,ky⟩:=y9;have key:∀(o:Option Nat) (Wv:List (Option Nat)),fv=o::Wv->qR κ r=some Wv->(∀r,IM κ (o::r) 0 y ky)->fv.length=((y,ky)::r).length/\∀(i:Nat) (x:Str) (k:NameKind),((y,ky)::r)[i]? =some (x,k)->IM κ fv i x k:=by
   intro o Wv e h1 h2;clear h;subst e;obtain⟨l,z⟩:=ih h1;refine⟨by simp[l],λi x k e=>?_⟩;rcases i with _|i
   ·simp only[jR,dZ,Prod.mk.injEq]at e;obtain⟨rfl,rfl⟩:=e;exact h2 _
   have:=z i x k (by simpa using e);dsimp only[IM]at this ⊢
   simpa using this
  have got:∀(o:Option Nat),(qR κ r).map (o:: ·)=some fv->(∀r,IM κ (o::r) 0 y ky)->fv.length=((y,ky)::r).length/\∀(i:Nat) (x:Str) (k:NameKind),((y,ky)::r)[i]? =some (x,k)->IM κ fv i x k:=λo h g=>by
   refine vZ h λWv e h=>?_;exact key o Wv h.symm e g
  clear key;rcases ky with _|_<;>try contradiction
  case «local»=>exact got _ h λ_=>.inl ⟨.inl rfl,rfl⟩
  case globalImplicit=>exact got _ h λ_=>.inl ⟨.inr rfl,rfl⟩
  case free=>
   have h:(match ql y κ.names 0 with
    |some (i,.cell)=>(qR κ r).map (some i:: ·)
    |some (i,.free)=>(qR κ r).map (some i:: ·)
    |_=>.none)=some fv:=h
   rcases hj:ql y κ.names 0 with _|⟨j,kd⟩<;>rw[hj]at h
   ·contradiction
   rcases kd with _|_<;>try exact lx h
   ·exact got _ h λ_=>.inr ⟨rfl,j,_,rfl,hj,.inl rfl⟩
   exact got _ h λ_=>.inr ⟨rfl,j,_,rfl,hj,.inr rfl⟩
def wo:lK.get (ρ.inner fv) i=(fv[i]?).bind λo=>o.bind ρ.get:=by
 dsimp only[lK.inner];refine(?_:((fv.map _)[i]?).join=_);refine J (bH ..) ?_;rcases fv[i]? with _|_<;>rfl
def tm{sc:io}{i:Nat}{x:Str}{k':NameKind}(h:(gG sc kQ).names[i]? =some (x,k')):∃k,sc.names[i]? =some (x,k)/\(k'=k\/(k=.free/\k'=.cell)):=by
 dsimp only[gG]at h;rw[bH]at h;rcases e:sc.names[i]? with _|p
 ·rw[e]at h;contradiction
 rw[e]at h;obtain⟨y,k⟩:=p;simp only[fk,dZ]at h
 split at h
 ·rename_i q;clear e;rcases h with _|_
  refine⟨k,rfl,.inr ⟨?_,rfl⟩⟩;simp only[aE,beq_iff_eq]at q;exact q.1.1
 clear e;rcases h with _|_;exact⟨_,rfl,.inl rfl⟩
def BW{sc:io}{i:Nat}{x:Str}{k:NameKind}(h:sc.names[i]? =some (x,k)):∃k',(gG sc kQ).names[i]? =some (x,k')/\(k'=k\/(k=.free/\k'=.cell)):=by
 dsimp only[gG];refine J (bH ..) (J (h ..) ?_);simp only[fk]
 split
 ·rename_i q;simp only[aE,beq_iff_eq]at q;exact⟨_,rfl,.inr ⟨q.1.1,rfl⟩⟩
 exact⟨_,rfl,.inl rfl⟩
def wP:(gG sc kQ).names.map (·.1)=sc.names.map (·.1):=by
 unfold gG;refine J (bU ..) ?_;apply ip;rintro⟨x,k⟩ _;simp only[Function.comp]
 split<;>rfl
def yK(S:St B kQ kU ρ U s)(nm:mB κ kQ){sc:io}{fv:List (Option Nat)}(u6:qR κ sc.names=some fv){i:Nat}{x:Str}(h:sc.names[i]? =some (x,.free)):
  ∃j k c v,fv[i]? =some (some j)/\kQ.scope.names[j]? =some (x,k)/\(k=.cell\/k=.free)/\kQ.cells.lookup x=some c/\s.heap.IsCell c v:=by
 rcases(yJ u6).2 i x _ h with⟨z,_⟩|⟨_,j,k',e1,e2,e3⟩
 ·rcases z with z|z<;>contradiction
 refine lr λGp gk=>?_;obtain⟨k,e4,e5,_⟩:=nm _ _ _ (tF e2).2;have hk:k=.cell\/k=.free:=by
  clear e2 e4;clear right;rcases e5 with rfl|⟨rfl,rfl⟩
  ·exact e3
  exact .inl rfl
 obtain⟨⟨c,v,hc,hv⟩,_⟩:=S.Z.cell j x k e4 hk;refine gk ?_;exact⟨j,k,c,v,e1,e4,hk,hc,hv⟩
inductive Pt(B:nX)(U:kO)(h:Heap)(L:Nat):Prop
 |mk (a:B.H0.get? L=.none) (b:U L=.none) (m:∃m,h.Ns L m) (o:Obj) (e:h.get? L=some o) (c:o.cls=.type "frame"\/o.cls=.type "dict") (es n:_) (d:o.data=.dict es n):Pt B U h L
def Pu(S:St B kQ kU ρ U s)(nm:mB κ kQ){sc:io}{fv:List (Option Nat)}{cl:List (Str×hZ)}{L:Nat}(u6:qR κ sc.names=some fv)(EL:ux sc=true)
  (c1:∀x c,cl.lookup x=some c->kQ.cells.lookup x=some c) (c2:∀x,(x,cq)∈sc.names->cl.lookup x=kQ.cells.lookup x) (hL:Pt B U s.heap L):
  St B (eW sc cl L kQ) kU (ρ.inner fv) U s:=by
 dsimp only[ux]at EL;simp only[aE,beq_iff_eq,aC,bu]at EL;refine lr λGp gk=>?_;obtain⟨⟨hk,Ww⟩,X'⟩:=EL;obtain⟨l1,l2,⟨m,l3⟩,lo,l4,l5,les,len,l6⟩:=hL;refine gk ?_;refine⟨S.own,⟨hk,S.sS.glob,S.sS.SI,?_,?_⟩,⟨?_,⟨m,l3,?_⟩,?_,?_⟩,⟨l1,l2,lo,l4,l5,les,len,l6⟩,?_,?_,S.kU,S.gens,S.os⟩
 ·refine(?_:((gG sc kQ).names.map (·.1)).Nodup);exact J (wP ..) (tj Ww)
 ·intro x k hx;have:x∈(gG sc kQ).names.map (·.1):=kL (f:=(·.1)) hx;rw[wP]at this;refine lr λGp gk=>?_;clear k hx;obtain⟨q,hq,rfl⟩:=dP.mp this;refine gk ?_;exact X' q hq
 ·refine(?_:(ρ.inner fv).length=(gG sc kQ).names.length);dsimp only[lK.inner,gG];exact J (ai ..) (J (ai ..) (J (yJ u6).1 rfl))
 ·intro i x hx v hv;refine lr λGp gk=>?_;obtain⟨k',e1,e2⟩:=tm hx;refine gk ?_;have tG:k'=.local:=by clear e1;rcases e2 with rfl|⟨_,z⟩<;>first|rfl|contradiction
  clear e2;subst tG;rcases(yJ u6).2 i x _ e1 with⟨_,z⟩|⟨z,_⟩
  ·rw[wo,z]at hv;contradiction
  contradiction
 ·intro i x k hx OS;refine lr λGp gk=>?_;obtain⟨k',e1,e2⟩:=tm hx;have tG:k'=.free:=by
   clear hx;rcases e2 with rfl|⟨z,_⟩
   ·rcases OS with rfl|rfl
    ·rcases(yJ u6).2 i x _ e1 with⟨z,_⟩|⟨z,_⟩
     ·rcases z with z|z<;>contradiction
     contradiction
    rfl
   exact z
  clear e2;subst tG;obtain⟨j,kj,c,v,f1,f2,f3,f4,f5⟩:=yK S nm u6 e1;have hc:(eW sc cl L kQ).cells.lookup x=some c:=(c2 x (bt e1)).trans f4;refine gk ?_;refine⟨⟨c,v,hc,f5⟩,λw hw=>?_⟩;rw[wo,f1]at hw;refine lr λGp gk=>?_;obtain⟨c',y,g1,g2,g3⟩:=(S.Z.cell j x kj f2 f3).2 w hw;refine gk ?_;exact⟨c',y,(c2 x (bt e1)).trans g1,g2,g3⟩
 ·intro i x k hx OS;refine lr λGp gk=>?_;obtain⟨k',e1,e2⟩:=tm hx;have tG:k'=k:=by
   clear hx e1;rcases e2 with rfl|⟨_,rfl⟩
   ·rfl
   rcases OS with z|z<;>contradiction
  clear hx e2;subst tG;refine gk ?_;rcases(yJ u6).2 i x _ e1 with⟨_,z⟩|⟨z,_⟩
  ·refine J (wo ..) (J (z ..) ?_);rfl
  clear e1;subst z;rcases OS with z|z<;>contradiction
 ·intro x c hc;refine lr λGp gk=>?_;clear l1 l2 les len l6 m l3;obtain⟨a,b,d,o,v,e,f,g⟩:=S.cells x c (c1 x c hc);refine gk ?_;refine⟨a,b,λz=>?_,o,v,e,f,g⟩;change c=L at z;clear x hc Gp gk;subst z;rw[e]at l4;obtain rfl:=af l4;rcases l5 with z|z<;>(rw[f]at z;exact absurd z (by decide))
 exact λx y c h1 h2=>S.apart x y c (c1 x c h1) (c1 y c h2)
def Pv{sc:io}{cl:List (Str×hZ)}{L:hZ}{fv:List (Option Nat)}(u6:qR κ sc.names=some fv):mB {κ with names:=sc.names} (eW sc cl L kQ):=by
 intro i x k h;obtain⟨k',a,b⟩:=BW (kQ:=kQ) h;refine⟨k',a,b,λz=>?_⟩;clear b;subst z;rcases(yJ u6).2 i x _ h with⟨z,_⟩|⟨z,_⟩
 ·rcases z with z|z<;>contradiction
 contradiction
def LB(hf:kQ.frame≠some L)(h:oh (eW sc cl L kQ) b):b=L:=by
 rcases h with h|⟨h,_⟩
 ·exact h
 exact absurd h hf
def St.Zv(S:St B kQ kU ρ U s):Pt B U s.heap kQ.locals:=by
 obtain⟨a,b,o,e,c,es,n,d⟩:=S.place;obtain⟨m,h,_⟩:=S.Z.ns;exact⟨a,b,⟨m,h⟩,o,e,c,es,n,d⟩
inductive oH(B:nX)(U:kO)(h:Heap)(b:Nat):Prop
 |mk (a:B.H0.get? b=.none) (f:U b=.none) (o:Obj) (e:h.get? b=some o) (c:o.cls≠.type "tuple") (d:o.cls≠.type "frame"):oH B U h b
def oH.f'(l:oH B U h b):U b=.none:=by induction l;assumption
def qG{fp:NL}(hl:∀b∈fp,oH B U h b)(k:∀b o,b∉fp->h.get? b=some o->h'.get? b=some o):TK h h':=λb kX z9=>by obtain⟨m,e⟩:=z9;exact⟨m,k _ _ (λz=>by
 obtain⟨_,_,o,e',c,_⟩:=hl b z;have e:h.get? b=some _:=e;rw[e]at e';clear d;obtain rfl:=af e';exact c rfl) e⟩
def Gs.loose{fp:NL}(G:Gs B kU U s)(hl:∀b∈fp,oH B U s.heap b)(k:∀b o,b∉fp->s.heap.get? b=some o->h'.get? b=some o):Gs B kU U {s with heap:=h',toks:=t}:=by
 have tk:=qG hl k;refine⟨⟨λb o e=>?_,λa mo e=>?_⟩,λe he=>?_,G.gens,G.os⟩
 ·exact k b o (λz=>by rw[(hl b z).1]at e;contradiction) (G.own.base b o e)
 ·obtain⟨a1,o,e',r⟩:=G.own.obj a mo e;exact⟨a1,o,k a o (λz=>by rw[(hl a z).f']at e;contradiction) e',r.keep tk⟩
 obtain⟨kd,L,o',f1,f2,f3,f4,f5,Lr,n1,f6⟩:=G.kU e he;refine⟨kd,L,o',f1,f2,f3,k L o' (λz=>?_) f4,f5,Lr,n1,f6⟩;obtain⟨_,_,o,e',_,c⟩:=hl L z;rw[f4]at e';obtain rfl:=af e';exact c f5
def mr.loose{fp:NL}{h h₁ h':Heap}(p:mr B.H0 Nx σ₀ h U h₁)(hf:∀b∈fp,h.get? b=.none)(k:∀b o,b∉fp->h₁.get? b=some o->h'.get? b=some o):mr B.H0 Nx σ₀ h U h':=by
 refine⟨λb o e=>?_,λb o e n nx=>?_,p.RC,p.old⟩
 ·obtain⟨o',e'⟩:=p.live b o e;exact⟨o',k b o' (λz=>by rw[hf b z]at e;contradiction) e'⟩
 obtain⟨o',e',z⟩:=p.keep b o e n nx;exact⟨o',k b o' (λz=>by rw[hf b z]at e;contradiction) e',z⟩
def mr.wq{X:Nat->Prop}(p:mr B.H0 Nx σ₀ h σ₁ h₁)(q:mr B.H0 X σ₁ h₁ σ₂ lL)(hX:∀b,X b->h.get? b=.none):mr B.H0 Nx σ₀ h σ₂ lL:=p.trans q λb z=>.inr (hX b z)
noncomputable def BX(kQ:aD):am->Bool->fZ (ForInStep Bool):=λc r=>if r=true then do let ok←ja c kQ (bZ c kQ);pure (iL ok)else pure (iL r)
def IN(B:nX)(C:CT)(k n:Nat):Prop:=∀{κ:nP}{kQ:aD}{kU:List aD}{A:bm}{es:List am}{ρ:lK}{U:kO}{s:Shared}{Q:Bool->kO->Prop}{E:nI},
 Cx B C k n κ kQ kU A->St B kQ kU ρ U s->Bk C B.tab (v5 n κ es) ρ U Q E->aq B.mod A (forIn es true (BX kQ)) (PR B kU Do Q U s) (PX B kU .none E U s) s
def DM:∀(es:List am),(forIn es false (BX kQ):fZ Bool)=pure false:=by
 intro z9
 induction z9 with
 |nil=>
  exact rfl
 |cons e r ih=>
  exact J (fu ..) (ih)
def Pw(ih:UN B C k n)(rV:IN B C k n):IN B C k (n+1):=by
 intro κ kQ kU A es ρ U s Q E x S h;rcases es with _|⟨e,es⟩
 ·dsimp only[v5,Bk]at h;exact ag ⟨true,U,h,rfl,S.gs,.refl ..⟩
 have h':Bk C B.tab (.cons (zD n κ e) (v5 n κ es)) ρ U Q E:=h;dsimp only[Bk]at h';refine J (fu ..) ?_;refine(?_:aq _ _ ((ja e kQ (bZ e kQ)>>=λok=>pure (iL ok))>>=λr=>_) _ _ _);refine aa (aa (aw (ih x.less S h') (λb k8 ⟨b',σ₁,h₁,lM,oK,lm⟩=>ag ?_) λ_ _ z=>z));have lM:b=b':=lM;subst lM;clear lM;induction b with
 |true=>exact aw (rV x.less (S.up lm oK) h₁.t) (λ_ _ z=>z.up lm) λ_ _ z=>z.up lm
 |false=>
  refine(?_:aq _ _ (forIn es false (BX kQ)) _ _ _);refine J (DM ..) ?_;exact ag ⟨false,σ₁,h₁.f,rfl,oK,lm⟩
structure Lp(B:nX)(kU:List aD)(fp:NL)(L D:Nat)(U:kO)(s:Shared)(acc:List PV)(kP:kO)(s':Shared):Prop where
 gs:Gs B kU kP s'
 st:mr B.H0 Nx U s.heap kP s'.heap
 pl:Pt B kP s'.heap L
 d:oH B kP s'.heap D/\∃us:List Value,s'.heap.PlainList D us.toArray/\lR s'.heap acc us
 fp:∀b∈fp,oH B kP s'.heap b
structure Fs(h:Heap)(fp:NL)(L D:Nat):Prop where
 l:h.get? L=.none
 d:h.get? D=.none
 f:∀b∈fp,h.get? b=.none
 ld:L≠D
 lf:L∉fp
 df:D∉fp
def Pt.keep(p:Pt B U h L)(k:∀o,h.get? L=some o->h'.get? L=some o):Pt B U h' L:=by
 refine lr λGp gk=>?_;obtain⟨a,b,⟨m,o,es,ep,e,d,r⟩,o',e',c,ds,dn,dd⟩:=p;refine gk ?_;exact⟨a,b,⟨m,o,es,ep,k _ e,d,r⟩,o',k _ e',c,ds,dn,dd⟩
def wG.keep{h h':Heap}{us:Array Value}(p:h.PlainList D us)(k:∀o,h.get? D=some o->h'.get? D=some o):h'.PlainList D us:=by
 obtain⟨n,e⟩:=p;exact⟨n,k _ e⟩
def oH.keep(p:oH B U h b)(k:∀o,h.get? b=some o->h'.get? b=some o):oH B U h' b:=by
 obtain⟨a,c,o,e,z,y⟩:=p;exact⟨a,c,o,k _ e,z,y⟩
def Lp.move{fp:NL}{acc:List PV}(l:Lp B kU fp L D U s acc kP s')(F:Fs s.heap fp L D)(x:CE fp s'.heap h')(zW:∀b∈fp,∃o,h'.get? b=some o/\o.cls≠.type "tuple"/\o.cls≠.type "frame"):
  Lp B kU fp L D U s acc kP {s' with heap:=h',toks:=t}:=by
 have tk:=qG l.fp x.1;obtain⟨d1,us,d2,d3⟩:=l.d;exact⟨l.gs.loose l.fp x.1,l.st.loose F.f x.1,l.pl.keep λo e=>x.1 _ o F.lf e,⟨d1.keep λo e=>x.1 _ o F.df e,us,wG.keep d2 λo e=>x.1 _ o F.df e,d3.keep tk⟩,
  λb hb=>by
   refine lr λGp gk=>?_;obtain⟨o,e,z,y⟩:=zW b hb;obtain⟨a,f,_⟩:=l.fp b hb;refine gk ?_;clear Gp gk;exact⟨a,f,o,e,z,y⟩⟩
def pN{X:Nat->Prop}(p:mr B.H0 X σ₁ h₁ σ₂ lL)(l:oH B σ₁ h₁ b)(nx:¬X b):(∀o,h₁.get? b=some o->lL.get? b=some o)/\oH B σ₂ lL b:=by
 refine lr λGp gk=>?_;obtain⟨a,c,o,e,z1,z2⟩:=l;obtain⟨o',e',q,_⟩:=p.keep b o e c nx;rw[q.eq z2]at e';refine gk ?_;exact⟨λH6 h=>by rw[e]at h;obtain rfl:=af h;exact e',a,p.free e c,o,e',z1,z2⟩
def Lp.step{fp:NL}{acc:List PV}{kP mQ:kO}{s' tU:Shared}{X:Nat->Prop}(l:Lp B kU fp L D U s acc kP s')(F:Fs s.heap fp L D)(p:mr B.H0 X kP s'.heap mQ tU.heap)(hX:∀b,X b->b=L)(SJ:X4 X s'.heap)
  (G:Gs B kU mQ tU) (pl:Pt B mQ tU.heap L):Lp B kU fp L D U s acc mQ tU/\(∀b∈fp,∀o,s'.heap.get? b=some o->tU.heap.get? b=some o)/\TK s'.heap tU.heap:=by
 have tk:=p.tk l.gs.own SJ;refine lr λGp gk=>?_;obtain⟨d1,us,d2,d3⟩:=l.d;obtain⟨k1,k2⟩:=pN p d1 λz=>F.ld (hX _ z).symm;have nf:∀b∈fp,¬X b:=λb hb z=>F.lf (hX b z▸hb);refine gk ?_;exact⟨⟨G,l.st.wq p λb z=>J (hX b z ..) F.l,pl,⟨k2,us,wG.keep d2 k1,d3.keep tk⟩,λb hb=>(pN p (l.fp b hb) (nf b hb)).2⟩,λb hb=>(pN p (l.fp b hb) (nf b hb)).1,tk⟩
inductive ClI(B:nX)(kU:List aD)(fp:NL)(L D:Nat)(U:kO)(s:Shared)(kX:List PV)(unch:kO->Prop)(T:Nat->Heap->Prop)(lQ:PV->kO->(QL)->Prop)(K:QL)(m:Nat)(tU:Shared):Prop
 |mk (j:Nat) (mQ:kO) (acc:List PV) (e:m=kX.length-j) (hj:j<=kX.length) (ha:acc.length<=j) (l:Lp B kU fp L D U s acc mQ tU) (t:T j tU.heap) (u:unch mQ) (h:pT unch lQ (kX.drop j) acc mQ K):ClI B kU fp L D U s kX unch T lQ K m tU
def IQ{unch:kO->Prop}{T:Nat->Heap->Prop}{T':Nat->Value->Heap->Prop}{cl:List (Str×hZ)}{fv:List (Option Nat)}
  {K:QL}{R:Result->Shared->Prop}
  (It:J0 B I fp kX unch en T T') (Wx:en=true->EH t=true) (Wy:tH B C k n) (Wz:UQ B C k n) (WA:IN B C k n) (x:Cx B C k n κ kQ kU A) (S:St B kQ kU ρ U s)
  (u6:qR κ sc.names=some fv) (EL:ux sc=true) (c1:∀x c,cl.lookup x=some c->kQ.cells.lookup x=some c) (c2:∀x,(x,cq)∈sc.names->cl.lookup x=kQ.cells.lookup x)
  (F:Fs s.heap fp L D) (hLf:kQ.frame≠some L) {kP:kO}{s':Shared} (l:Lp B kU fp L D U s [] kP s') (t0:T 0 s'.heap) (hu:unch kP)
  (h:pT unch (λx U K=>zI C B.tab (v4 n {κ with names:=sc.names} t) x (ρ.inner fv) U (λρ' U=>Bk C B.tab (v5 n {κ with names:=sc.names} ifs) ρ' U (λok U=>mx ok (mh C B.tab (lP n {κ with names:=sc.names} elt) ρ' U (λv U=>K [v] U) λ_ _=>False) (K [] U)) λ_ _=>False) λ_ _=>False) kX [] kP K) (hK:∀vs U,K vs U->vs.length<=M) (hM:kX.length<=M)
  (hR:∀mQ tU vs,K vs mQ->Lp B kU [] L D U s vs mQ tU->R (.ok .next) tU):
  gH B.mod A (.compLoop (.ListComp elt [⟨t,it,ifs,0⟩] sc pos) 0 (.ref I) (.ref D) (eW sc cl L kQ)) R s':=by
 have nm:=Pv (kQ:=kQ) (cl:=cl) (L:=L) u6;have x':Cx B C k n {κ with names:=sc.names} (eW sc cl L kQ) kU A:=⟨x.g,nm,x.gl,x.ex,x.a,x.c,x.fr⟩;have WB:∀b,oh (eW sc cl L kQ) b->b=L:=λb z=>LB hLf z;have hm:M=16777216:=rfl;have Zw:∀{U:kO}{s:Shared},St B kQ kU ρ U s->Pt B U s.heap L->St B (eW sc cl L kQ) kU (ρ.inner fv) U s:=λS pl=>Pu S x.nm u6 EL c1 c2 pl;have Px:(eW sc cl L kQ).locals=L:=rfl;clear nm c1 c2 hLf;generalize eW sc cl L kQ=WC at x' WB Zw Px ⊢;generalize ({κ with names:=sc.names}:nP)=Zx at x' h;generalize ρ.inner fv=ρ' at Zw h;generalize LC:(λx U K=>zI C B.tab (v4 n Zx t) x ρ' U (λρ' U=>Bk C B.tab (v5 n Zx ifs) ρ' U (λok U=>mx ok (mh C B.tab (lP n Zx elt) ρ' U (λv U=>K [v] U) λ_ _=>False) (K [] U)) λ_ _=>False) λ_ _=>False:PV->kO->(QL)->Prop)=lQ at h;refine codeAny_loop rfl (ClI B kU fp L D U s kX unch T lQ K) ?_ kX.length ⟨0,kP,[],(j9 _).symm,aO _,aF _,l,t0,hu,h⟩;clear l;rintro m k8 ⟨j,σ₁,acc,rfl,hj,Tw,l₁,nN,LD,h₁⟩
 show aq _ A ((compTurn (.ListComp elt [⟨t,it,ifs,0⟩] sc pos) 0 (.ref I) (.ref D) WC).onRaise (λx=>do noteFrame x WC;theTreesLotGoes x)) _ _ k8
 refine wpAny_noted ?_;refine J (compTurn_list ..) ?_;refine aa (aI (aa (mY ?_)));rcases hp:kX[j]? with _|p
 ·refine It.stop x.a.handled l₁.gs LD nN hp λh' t k=>ag ?_;have UM:kX.length<=j:=aR.mp hp;rw[jV UM]at h₁;dsimp only[pT]at h₁;have tk:=qG l₁.fp k;obtain⟨d1,us,d2,d3⟩:=l₁.d;exact hR σ₁ _ acc h₁ ⟨l₁.gs.loose l₁.fp k,l₁.st.loose F.f k,l₁.pl.keep λo e=>k _ o F.lf e,⟨d1.keep λo e=>k _ o F.df e,us,wG.keep d2 λo e=>k _ o F.df e,d3.keep tk⟩,λb hb=>by simp at hb⟩
 clear hR;obtain⟨oX,Zy⟩:=aG.mp hp;refine It.next x.a.handled l₁.gs LD nN hp λv h2 tt rv t2 e2=>?_;rw[dU oX,Zy]at h₁;dsimp only[pT]at h₁;have l₂:=l₁.move (t:=tt) F e2 (It.zX t2);refine aa (mY (It.go t2 Wx λh3 t3 e3=>?_));have DN:=l₂.move (t:=tt) F e3 (It.zW t3);have Zz:Rv h3 p v:=rv.keep (qG l₂.fp e3.1);have qF:=Zw (S.up DN.st DN.gs) DN.pl;rw[←LC]at h₁;refine aa (aw (Wz x' qF Zz h₁) (λu Iy z9=>?_) λ_ _ z=>z.elim);refine lr λGp gk=>?_;clear l₁ l₂;obtain⟨WD,mH,p_,r_,vH⟩:=z9;obtain⟨LH,Tx,LI⟩:=DN.step F vH WB qF.SJ r_.gs (Px▸r_.Zv);have Ft:=It.keep t3 Tx LI;refine gk ?_;clear Gp gk;refine aa (aw (UP (WA x' r_ p_)) (λok WE z9=>?_) λ_ _ z=>z.elim);refine lr λGp gk=>?_;clear DN;obtain⟨b,mL,sd,Py,WF,FF⟩:=z9;have zY:=r_.up FF WF;obtain⟨IR,Tz,LJ⟩:=LH.step F FF (λ_ z=>z.elim) n9 WF (Px▸zY.Zv);have WG:=It.keep Ft Tz LJ;refine gk ?_;clear Gp gk;have Py:ok=b:=Py;clear LH;subst Py;clear Py;rcases ok with _|_
 ·have sd:unch mL/\_:=sd.f;refine ag ⟨rfl,kX.length-(j+1),oV 0x101013101b2a3a221a002 rfl s2 (aA (mZ 0x1011b0a01011 rfl oX)),j+1,mL,acc,rfl,mZ 0x1011b0a01011 rfl oX,mZ 0x101b1a001001 rfl Tw,IR,WG,sd.1,rr (LC ..) (rr (aJ acc ..) sd.2)⟩
 refine aa (aa (aw (UP (Wy x' zY sd.t)) (λv IS z9=>?_) λ_ _ z=>z.elim));refine lr λGp gk=>?_;obtain⟨pv,rh,yL,TA,WH,Pz⟩:=z9;have LK:=zY.up Pz WH;obtain⟨DO,ZA,WI⟩:=IR.step F Pz (λ_ z=>z.elim) n9 WH (Px▸LK.Zv);have ZB:=It.keep WG ZA WI;clear IR;obtain⟨d1,us,d2,d3⟩:=DO.d;have hlen:=d3.length;refine gk ?_;clear Gp gk;refine aa (wpAny_list_append_plain d2 (λh7 WJ sb=>?_) (by
  have:eT=16777216:=by decide
  simp;exact xm 0x10101010110054010000007fb5224203132010000007fb121006 rfl hM hm Tw oX hlen this))
 have kD:∀b o,b∉[D]->IS.heap.get? b=some o->h7.get? b=some o:=λb o nb e=>(sb.2 b (by simpa using nb)).trans e;have Yb:∀b∈[D],oH B rh IS.heap b:=λb hb=>by simp only[aB]at hb;clear R F DO d2 h7 WJ sb kD;subst hb;exact d1
 have tk7:=qG Yb kD;have kf:∀b∈fp,∀o,IS.heap.get? b=some o->h7.get? b=some o:=λb hb o e=>kD b o (λz=>by simp only[aB]at z;clear R DO d1 d2 WJ sb kD Yb;subst z;exact F.df hb) e;have ZC:Lp B kU fp L D U s (acc++[pv]) rh {IS with heap:=h7}:=by
  refine⟨DO.gs.loose (t:=IS.toks) Yb kD,DO.st.loose (λb hb=>by simp only[aB]at hb;clear R DO d1 d2 WJ sb kD Yb;subst hb;exact F.d) kD,DO.pl.keep λo e=>kD _ o (by simpa using F.ld) e,⟨?_,us++[v],by simpa using WJ,(d3.app (.one TA)).keep tk7⟩,λb hb=>(DO.fp b hb).keep (kf b hb)⟩;obtain⟨n',e'⟩:=WJ;obtain⟨da,df,_⟩:=d1;exact⟨da,df,_,e',nT (by decide),nT (by decide)⟩
 have yL:unch rh/\_:=yL;exact ag (ag ⟨rfl,kX.length-(j+1),oV 0x101013101b2a3a221a002 rfl s2 (aA (mZ 0x1011b0a01011 rfl oX)),j+1,rh,acc++[pv],rfl,mZ 0x1011b0a01011 rfl oX,by simp;exact mZ 0x101001001 rfl Tw,ZC,It.keep ZB kf tk7,yL.1,rr (LC ..) yL.2⟩)
def AC(h:v0 ik t=true)(e:FC ik=true):EH t=true:=by
 rcases ik with _|_<;>first|exact h|contradiction
def DP
  (hI:∀{K:kO->List PV->(kO->Prop)->Prop},mh C B.tab tit ρ U (λiv U=>lT U ik iv (K U)) E->DJ B kU A it kQ (FC ik) K E U s/\∀x,dN it kQ x=pure x)
  (Wy:tH B C k n) (Wz:UQ B C k n) (WA:IN B C k n) (x:Cx B C k n κ kQ kU A) (S:St B kQ kU ρ U s)
  (u6:qR κ sc.names=some fv) (EL:ux sc=true) (hit:v0 ik t=true)
  (h:mh C B.tab (.comp (lP n {κ with names:=sc.names} elt) (v4 n {κ with names:=sc.names} t) ik tit (v5 n {κ with names:=sc.names} ifs) fv) ρ U Q E)
  (hE:∀v s',PX B kU .none E U s v s'->E' v s')
  (hP:∀D L kP s' vs,vs.length<=M->(∀r,kP r=.none->Q (.ref r) (kP.put r (.list vs)))->Lp B kU [] L D U s vs kP s'->Fs s.heap [] L D->compPost B.mod A E' use P (.ref D) L (.ok .next) s'):
  aq B.mod A (kH (.ListComp elt [⟨t,it,ifs,0⟩] sc pos) sc kQ aax (newList []) false (bZ it kQ) use) P E' s:=by
 dsimp only[mh]at h;have TB:=EL;unfold ux at TB;simp only[aE,beq_iff_eq,aC,bu]at TB;refine lr λGp gk=>?_;obtain⟨⟨hk,Ww⟩,X'⟩:=TB;have WK:∀y,(y,cq)∈sc.names->∃c,kQ.cells.lookup y=some c:=λy hy=>by
  obtain⟨i,hi⟩:=cP hy;obtain⟨_,_,c,_,_,_,_,hc,_⟩:=yK S x.nm u6 hi;exact⟨c,hc⟩
 obtain⟨cl,Zk,c1,c2⟩:=FE WK;have G4:∀y∈sc.names,y.2≠.cell:=λy hy=>by
  obtain⟨i,hi⟩:=cP hy;clear hy;obtain⟨y,ky⟩:=y;rcases(yJ u6).2 i y ky hi with⟨z|z,_⟩|⟨z,_⟩<;>(show ky≠_;refine J (z ..) ?_;decide)
 obtain⟨src,fold⟩:=hI h;unfold DJ at src;refine gk ?_;refine wpAny_comprehension_free (gs:=[]) rfl fold Zk hk (λy hy hl=>?_) ?_
 ·obtain⟨i,hi⟩:=cP hy;clear hy;obtain⟨y,ky⟩:=y;exact oR (tj Ww) (by have hl:ky=.local:=hl;subst hl;exact hi)
 refine aw src (λv k8 h₁=>aw h₁ (λw me lL=>?_) λ_ _ z=>z.elim) hE;refine lr λGp gk=>?_;obtain⟨σ₁,I,fp,kX,unch,T,T',rfl,It,t0,⟨hlen,hh⟩,hu,pI,lV,fr⟩:=lL;refine gk ?_;refine cn ?_;refine DK G4 ?_;have zW:=It.zW t0;clear gk;obtain⟨h2,g2,d2,k2,o2⟩:=me;dsimp only at*;have kp:∀b o,h2.get? b=some o->((h2.push {cls:=.type "list",data:=.seq ([]:List Value).toArray}).push {cls:=.type "dict",data:=.dict #[]}).get? b=some o:=λb o e=>lG _ _ _ _ (lG _ _ _ _ e);have dz:(h2.push {cls:=.type "list",data:=.seq ([]:List Value).toArray}).objs.size=h2.objs.size+1:=cf ..;have Yc:h2.get? h2.objs.size=.none:=ly _;have Yd:h2.get? (h2.objs.size+1)=.none:=be (sR 0x1b0a000 rfl);have hD:=lG _ ({cls:=.type "dict",data:=.dict #[]}:Obj) _ _ (aP h2 (o:={cls:=.type "list",data:=.seq ([]:List Value).toArray}) rfl);have hL:=aP (h2.push {cls:=.type "list",data:=.seq ([]:List Value).toArray}) (o:={cls:=.type "dict",data:=.dict #[]}) rfl;have hN:((h2.push {cls:=.type "list",data:=.seq ([]:List Value).toArray}).push {cls:=.type "dict",data:=.dict #[]}).Ns (h2.push {cls:=.type "list",data:=.seq ([]:List Value).toArray}).objs.size λ_=>.none:=Heap.Ns.new _ _;rw[dz]at hL hN ⊢;refine pI.keepsK (t:=k2) kp λZD vH=>?_;have F:Fs s.heap fp (h2.objs.size+1) h2.objs.size:=⟨lV.none _ Yd,lV.none _ Yc,λb hb=>(fr b hb).1,sR 0x100b0b501b0a21 rfl,(λz=>by
  obtain⟨o,e,_⟩:=zW _ z;rw[Yd]at e;contradiction),(λz=>by
  obtain⟨o,e,_⟩:=zW _ z;rw[Yc]at e;contradiction)⟩
 have l:Lp B kU fp (h2.objs.size+1) h2.objs.size U s [] σ₁ ⟨(h2.push {cls:=.type "list",data:=.seq ([]:List Value).toArray}).push {cls:=.type "dict",data:=.dict #[]},g2,d2,k2,o2⟩:=by
  refine⟨ZD,lV.app vH,⟨pI.own.fresh Yd,pI.own.free Yd,⟨_,hN⟩,_,hL,.inr rfl,_,_,rfl⟩,⟨⟨pI.own.fresh Yc,pI.own.free Yc,_,hD,nT (by decide),nT (by decide)⟩,[],⟨_,hD⟩,.nil⟩,λb hb=>?_⟩;obtain⟨o,e,z,y⟩:=zW b hb;exact⟨S.own.fresh (fr b hb).1,(fr b hb).2,o,kp _ _ e,z,y⟩
 have t4:=It.keep t0 (h':=(h2.push {cls:=.type "list",data:=.seq ([]:List Value).toArray}).push {cls:=.type "dict",data:=.dict #[]}) (λb _ o e=>kp b o e) (TK.of_keeps kp);have loop:∀R,(∀mQ tU vs,(vs.length<=M/\∀r,mQ r=.none->Q (.ref r) (mQ.put r (.list vs)))->Lp B kU [] (h2.objs.size+1) h2.objs.size U s vs mQ tU->R (.ok .next) tU)->
   gH B.mod A (.compLoop (.ListComp elt [⟨t,it,ifs,0⟩] sc pos) 0 (.ref I) (.ref h2.objs.size) (eW sc cl (h2.objs.size+1) kQ)) R ⟨(h2.push {cls:=.type "list",data:=.seq ([]:List Value).toArray}).push {cls:=.type "dict",data:=.dict #[]},g2,d2,k2,o2⟩:=λR hR=>
  IQ It (AC hit) Wy Wz WA x S u6 EL c1 c2 F (λz=>by
   obtain⟨e',To,UR⟩:=x.fr;obtain⟨_,f,o,e,_,_,ho,_⟩:=S.kU e' To;rw[←UR,e]at z;clear b c;obtain rfl:=af z;rw[F.l]at ho;contradiction) l t4 hu hh (λ_ _ z=>z.1) hlen hR
 have post:∀mQ tU vs,(vs.length<=M/\∀r,mQ r=.none->Q (.ref r) (mQ.put r (.list vs)))->Lp B kU [] (h2.objs.size+1) h2.objs.size U s vs mQ tU->compPost B.mod A E' use P (.ref h2.objs.size) (h2.objs.size+1) (.ok .next) tU:=λmQ tU vs hv lp=>
  hP _ _ mQ tU vs hv.1 hv.2 lp ⟨F.l,F.d,λb hb=>(bq hb).elim,F.ld,bq,bq⟩
 exact codeAny_compStart_list (loop _ post) (mY (It.self t4 (loop _ post)))
set_option backward.match.sparseCases false
def Lp.done{L D:Nat}{vs:List PV}{kP:kO}{s':Shared}(l:Lp B kU [] L D U s vs kP s')(F:Fs s.heap [] L D)(G:Gs B kU U s){h':Heap}(sb:bR L s'.heap h'):
  kP D=.none/\Gs B kU (kP.put D (.list vs)) {s' with heap:=h'}/\mr B.H0 Nx U s.heap (kP.put D (.list vs)) h':=by
 refine lr λGp gk=>?_;obtain⟨d1,us,⟨m,d2⟩,d3⟩:=l.d;obtain⟨l1,l2,l3,lo,l4,l5,l6⟩:=l.pl;have al:∀b o,b∉[L]->s'.heap.get? b=some o->h'.get? b=some o:=λb o nb e=>(sb.2 b (by simpa using nb)).trans e;have tk:TK s'.heap h':=λb kX z9=>by
  clear l F sb l1 l2 l3;clear l6 n d;obtain⟨j,z⟩:=z9;have nb:b≠L:=λy=>by
   clear al;subst y;have z:s'.heap.get? b=some _:=z;rw[l4]at z;obtain rfl:=af z;rcases l5 with c|c
   ·exact absurd c (nT (by decide))
   exact absurd c (nT (by decide))
  exact⟨j,al _ _ (by simpa using nb) z⟩
 have p:=l.st.loose (fp:=[L]) (λb hb=>by simp only[aB]at hb;clear l sb l1 l2 l3 l4 al;subst hb;exact F.l) al;have G':Gs B kU kP {s' with heap:=h'}:=by
  refine G.mk' (s':={s' with heap:=h'}) p ⟨λb o e=>?_,λa mo e=>?_⟩ (l.gs.gens.trans G.gens.symm) (l.gs.os.trans G.os.symm)
  ·exact al b o (λz=>by simp only[aB]at z;clear l F sb l2 l3 l4 al;subst z;rw[l1]at e;contradiction) (l.gs.own.base b o e)
  clear F sb l1 l3 l4;obtain⟨a1,o,e',r⟩:=l.gs.own.obj a mo e;exact⟨a1,o,al a o (λz=>by simp only[aB]at z;subst z;rw[l2]at e;contradiction) e',r.keep tk⟩
 have hD:=al D _ (by simpa using F.ld.symm) d2;obtain⟨G2,p2⟩:=G.adopt (t:=s'.toks) (mo:=.list vs) G' p F.d d1.f' (λkX z9=>by
  obtain⟨j,z⟩:=z9;have z:h'.get? D=some _:=z;rw[hD]at z;exact absurd (congrArg Obj.cls (af z)) (nT (by decide))) (gQ ..) hD λ_=>⟨us,m,rfl,d3.keep tk⟩
 refine gk ?_;exact⟨d1.f',G2,p2⟩
def IT{elt t it:am}{ifs:List am}{sc:io}{pos:Pos}{fv:List (Option Nat)}{Q:QV}
  (hI:Zu B C k n) (Wy:tH B C k n) (Wz:UQ B C k n) (WA:IN B C k n) (x:Cx B C k n κ kQ kU A) (S:St B kQ kU ρ U s) (u6:qR κ sc.names=some fv) (EL:ux sc=true) (hit:v0 (sA n κ it).1 t=true)
  (h:mh C B.tab (.comp (lP n {κ with names:=sc.names} elt) (v4 n {κ with names:=sc.names} t) (sA n κ it).1 (sA n κ it).2 (v5 n {κ with names:=sc.names} ifs) fv) ρ U Q E):
  aq B.mod A (bZ (.ListComp elt [⟨t,it,ifs,0⟩] sc pos) kQ) (PR B kU l_ Q U s) (PX B kU .none E U s) s:=by
 refine J (eval_ListComp ..) ?_;refine(?_:aq _ _ (kH _ sc kQ _ (newList []) false (bZ it kQ) .none) _ _ _);refine DP (λ{K} h=>hI x S h) Wy Wz WA x S u6 EL hit h (λ_ _ z=>z) λD L kP s' vs hM hq l F=>?_;refine⟨_,l.pl.3.choose_spec,λh' sb=>?_⟩;obtain⟨d,G,p⟩:=l.done F S.gs sb;exact⟨.ref D,_,hq D d,Rv.ref _ _,G,p⟩
def pJ{Q:QV}{P:Prop}(h:mh C B.tab .stuck ρ U Q E):P:=a_ h
structure Go(B:nX)(C:CT)(k n:Nat):Prop where
 x:tH B C k n
 xs:Fq B C k n
 b:UN B C k n
 bool:Fu B C k n
 all:GY B C k n
 o:Zo B C k n
 ps:Pj B C k n
 t:UQ B C k n
 ts:Lu B C k n
 cs:IN B C k n
 i:Zu B C k n
def PA:Go B C k 0 where
 x:=λx S h=>pJ h
 xs:=λx S _ h=>pJ h
 b:=λx S h=>(th h).elim
 bool:=λx S h=>pJ h
 all:=λx S h=>(th h).elim
 o:=λx S h=>pJ h
 ps:=λx S _ _ h=>pJ h
 t:=λx S _ h=>a_ h
 ts:=by
  intro κ kQ kU A es ps vs ρ U s Q x S _ r hl h;clear r hl;rcases ps with _|_
  ·exact a_ h
  exact a_ h
 cs:=λx S h=>(th h).elim
 i:=λx S h=>pJ h
inductive XV(n:Nat)(κ:nP):am->X->Prop
 |stuck (e:am):XV n κ e .stuck
 |const {c:Const}{v:PV}{a:Nat}{p:Pos} (h:ve c=some v):XV n κ (.Constant c a p) (.lit v)
 |Z {nm:Str}{i:Nat}{p:Pos} (h:κ.oW nm=some i):XV n κ (.Name nm p) (.Z i)
 |glob {nm:Str}{v:PV}{p:Pos} (h:κ.sx nm=some v):XV n κ (.Name nm p) (.lit v)
 |bool (op:BoolOp) (vs:List am) (p:Pos):XV n κ (.BoolOp op vs p) (uA n κ op vs)
 |bin {l r:am}{op:Operator}{o:Oz}{p:Pos} (h:CM op=some o):XV n κ (.BinOp l op r p) (.bin o (lP n κ l) (lP n κ r))
 |not (x:am) (p:Pos):XV n κ (.UnaryOp .Not x p) (.not (lP n κ x))
 |neg (x:am) (p:Pos):XV n κ (.UnaryOp .USub x p) (.neg (lP n κ x))
 |ite (t a b:am) (p:Pos):XV n κ (.IfExp t a b p) (.ite (zD n κ t) (lP n κ a) (lP n κ b))
 |tup {es:List am}{y:Nat}{p:Pos} (h:noStar es=true):XV n κ (.Tuple es y p) (.tup (pR n κ es))
 |list {es:List am}{p:Pos} (h:noStar es=true):XV n κ (.List es p) (.list (pR n κ es))
 |dict {ks:List (Option am)}{vs:List am}{k':List NL}{p:Pos} (hd:ks.length=vs.length/\ks.length<=15) (hk:uY ks=some k'):XV n κ (.Dict ks vs p) (.dict k' (pR n κ vs))
 |cmp (op:f7) (l r:am) (p:Pos):XV n κ (.Compare l [op] [r] p) (.cmp (oj op) (lP n κ l) (lP n κ r))
 |qj (o1 o2:f7) (l m r:am) (p:Pos):XV n κ (.Compare l [o1,o2] [m,r] p) (.qj (oj o1) (oj o2) (lP n κ l) (lP n κ m) (lP n κ r))
 |py {o:am}{nm:Str}{ap p:Pos}{as:List am} (h:(noStar as&&ap.endLine==p.line&&decide (as.length<29)&&pQ o)=true):XV n κ (.Call (.Attribute o nm ap) as [] p) (.py (lP n κ o) (cs nm) (pR n κ as))
 |b1 {f:Str}{ap p:Pos}{x:am}{b:B1} (hb:κ.blt f=true) (hf:qT.lookup f=some b):XV n κ (.Call (.Name f ap) [x] [] p) (.b1 b (lP n κ x))
 |b2 {f:Str}{ap p:Pos}{x y:am}{b:B2} (hb:κ.blt f=true) (hf:qm.lookup f=some b) (hs:noStar [x,y]=true):XV n κ (.Call (.Name f ap) [x,y] [] p) (.b2 b (lP n κ x) (lP n κ y))
 |call {f:Str}{ap p:Pos}{as:List am} (hs:noStar as=true):XV n κ (.Call (.Name f ap) as [] p) (.call (lP n κ (.Name f ap)) (pR n κ as))
 |attr {o:am}{nm:Str}{p:Pos} (h:pQ o=true):XV n κ (.Attribute o nm p) (.attr (lP n κ o) (cs nm))
 |sub {o i:am}{p:Pos} (h:HO i=false):XV n κ (.Subscript o i p) (.sub (lP n κ o) (lP n κ i))
 |slice (o:am) (l u:Option am) (p q:Pos):XV n κ (.Subscript o (.Slice l u .none q) p) (.slice (lP n κ o) (OF n κ l) (OF n κ u))
 |comp {elt t it:am}{ifs:List am}{sc:io}{p:Pos}{fv:List (Option Nat)} (u6:qR κ sc.names=some fv) (hs:(ux sc&&v0 (sA n κ it).1 t)=true):
  XV n κ (.ListComp elt [⟨t,it,ifs,0⟩] sc p) (.comp (lP n {κ with names:=sc.names} elt) (v4 n {κ with names:=sc.names} t) (sA n κ it).1 (sA n κ it).2 (v5 n {κ with names:=sc.names} ifs) fv)
def uM{e:am}{b:Bool}{x:X}(h:b=true->XV n κ e x):XV n κ e (match (generalizing:=false) b with|true=>x|false=>.stuck):=by
 induction b with
 |true=>exact h rfl
 |false=>exact .stuck _
theorem PC(f:Str)(ap:Pos)(as:List am)(p:Pos):XV n κ (.Call (.Name f ap) as [] p) (match κ.blt f with
     |true=>(match qT.lookup f with
      |some b=>(match CO as with
       |some x=>.b1 b (lP n κ x)
       |.none=>.stuck)
      |.none=>match qm.lookup f with
       |some b=>(match two as with
        |some (x,y)=>(match noStar [x,y]with
         |true=>.b2 b (lP n κ x) (lP n κ y)
         |false=>.stuck)
        |.none=>.stuck)
       |.none=>.stuck)
     |false=>(match noStar as with
      |true=>.call (lP n κ (.Name f ap)) (pR n κ as)
      |false=>.stuck)):=by
 rcases hb:κ.blt f with _|_
 ·exact uM λh=>.call h
 dsimp only
 induction hf:qT.lookup f with
 |some b=>
  induction hx:CO as with
  |none=>exact .stuck _
  |some x=>exact J (xn hx ..) (.b1 hb hf)
 |none=>
  induction hf:qm.lookup f with
  |none=>exact .stuck _
  |some b=>
   induction hx:two as with
   |none=>exact .stuck _
   |some x=>exact J (Bg hx ..) (uM λh=>.b2 hb hf h)
set_option tactic.hygienic true in
def PD(g:am)(as:List am)(kw:List hU)(p:Pos):XV n κ (.Call g as kw p) (lP (n+1) κ (.Call g as kw p)):=by
 induction kw with
 |cons _ _=>exact .stuck _
 |nil=>
  show XV n κ _ (match mO g with
    |.attr o nm ap=>(match noStar as&&ap.endLine==p.line&&decide (as.length<29)&&pQ o with
     |true=>.py (lP n κ o) (cs nm) (pR n κ as)
     |false=>.stuck)
    |.name f _=>(match κ.blt f with
     |true=>(match qT.lookup f with
      |some b=>(match CO as with
       |some x=>.b1 b (lP n κ x)
       |.none=>.stuck)
      |.none=>match qm.lookup f with
       |some b=>(match two as with
        |some (x,y)=>(match noStar [x,y]with
         |true=>.b2 b (lP n κ x) (lP n κ y)
         |false=>.stuck)
        |.none=>.stuck)
       |.none=>.stuck)
     |false=>(match noStar as with
      |true=>.call (lP n κ g) (pR n κ as)
      |false=>.stuck))
    |_=>.stuck)
  have v:=nY g;generalize mO g=w at v
  induction v<;>try exact .stuck _
  case attr o nm ap=>exact uM λh=>.py h
  case name f ap=>exact PC f ap as p
set_option tactic.hygienic true in
def TC(e:am):XV n κ e (lP (n+1) κ e):=by
 rcases e with _|_<;>try exact .stuck _
 case Constant c a b=>
  refine(?_:XV n κ _ (match ve c with|some v=>.lit v|.none=>.stuck));rcases h:ve c with _|v
  ·exact .stuck _
  exact .const h
 case Name nm p=>
  refine(?_:XV n κ _ (match κ.oW nm with|some i=>.Z i|.none=>match κ.sx nm with|some v=>.lit v|.none=>.stuck))
  induction h:κ.oW nm with
  |some i=>exact .Z h
  |none=>
   induction h:κ.sx nm with
   |none=>exact .stuck _
   |some v=>exact .glob h
 case BoolOp op vs p=>exact .bool op vs p
 case BinOp l op r p=>
  refine(?_:XV n κ _ (match CM op with|some o=>.bin o (lP n κ l) (lP n κ r)|.none=>.stuck));rcases h:CM op with _|o
  ·exact .stuck _
  exact .bin h
 case UnaryOp op y p=>rcases op with _|_<;>first|exact .not y p|exact .neg y p|exact .stuck _
 case IfExp t a b p=>exact .ite t a b p
 case Tuple es y p=>exact uM λh=>.tup h
 case List es p=>exact uM λh=>.list h
 case Dict ks vs p=>
  refine(?_:XV n κ _ (match decide (ks.length=vs.length/\ks.length<=15),uY ks with|true,some ks=>.dict ks (pR n κ vs)|_,_=>.stuck));rcases hd:decide (ks.length=vs.length/\ks.length<=15)with _|_
  ·exact .stuck _
  rcases hk:uY ks with _|k'
  ·exact .stuck _
  exact .dict (of_decide_eq_true hd) hk
 case Compare l ops rs p=>
  show XV n κ _ (match EP ops rs with
    |.one op r=>.cmp (oj op) (lP n κ l) (lP n κ r)
    |.two o1 o2 m r=>.qj (oj o1) (oj o2) (lP n κ l) (lP n κ m) (lP n κ r)
    |.no=>.stuck)
  have v:=Gv ops rs;generalize EP ops rs=w at v;rcases v with⟨op,r⟩|⟨o1,o2,m,r⟩|⟨_,_⟩
  ·exact .cmp op l r p
  ·exact .qj o1 o2 l m r p
  exact .stuck _
 case Call g as kw p=>exact PD g as kw p
 case Attribute o nm p=>exact uM λh=>.attr h
 case Subscript o i p=>
  show XV n κ _ (match sT i with
    |.no=>.sub (lP n κ o) (lP n κ i)
    |.ok l u=>.slice (lP n κ o) (OF n κ l) (OF n κ u)
    |.bad=>.stuck)
  have v:=Ah i;generalize sT i=w at v;rcases v with⟨_,hh⟩|⟨l,u,q⟩|_
  ·exact .sub hh
  ·exact .slice o l u p q
  exact .stuck _
 case ListComp elt gens sc p=>
  show XV n κ _ (match HP gens,qR κ sc.names with
    |some (t,it,ifs),some fv=>(match ux sc&&v0 (sA n κ it).1 t with
     |true=>.comp (lP n {κ with names:=sc.names} elt) (v4 n {κ with names:=sc.names} t) (sA n κ it).1 (sA n κ it).2 (v5 n {κ with names:=sc.names} ifs) fv
     |false=>.stuck)
    |_,_=>.stuck)
  rcases hg:HP gens with _|x
  ·exact .stuck _
  rcases u6:qR κ sc.names with _|fv
  ·exact .stuck _
  exact J (Gw hg ..) (uM λh=>.comp u6 h)
def TD(g:Go B C k n):tH B C k (n+1):=by
 intro κ kQ kU A e ρ U s Q E x S h;have x':=x.less;have v:=TC (n:=n) (κ:=κ) e;generalize lP (n+1) κ e=X at v h
 induction v with
 |stuck=>exact pJ h
 |const hc=>exact K9 S hc h
 |Z hi=>
  refine lv.k (show lv (ρ.get _) (λv=>Q v U)from h) λv hv q=>?_;exact mY (xz S x.nm hi hv q)
 |glob hv=>exact mY (BS x.g S x.nm x.gl hv h)
 |bool op vs p=>exact J (arm_eval_BoolOp ..) (g.bool x' S h)
 |bin ho=>exact K_ g.x x' S ho h
 |not y p=>exact K' g.x x' S h
 |neg y p=>exact La g.x x' S h
 |ite t a b p=>exact Lb g.x g.b x' S h
 |tup hs=>exact Lc g.xs x' S hs h
 |list hs=>exact Iv g.xs x' S hs h
 |dict hd hk=>exact ID g.ps x' S hd.1 hk hd.2 h
 |cmp op l r p=>exact Ld g.x x' S h
 |qj o1 o2 l m r p=>exact Ix g.x x' S h
 |py hs=>
  rw[aE,aE,aE,decide_eq_true_iff]at hs;exact IC g.x g.xs x' S hs.1.1.1 hs.1.1.2 hs.1.2 hs.2 h
 |b1 hb hf=>
  have hs:=xB (show mh C B.tab _ ρ U _ E from h);exact Ph g.x x' S hb hf (by unfold noStar;simpa using hs) h
 |b2 hb hf hs=>exact Pi g.x x' S hb hf hs h
 |call hs=>exact IB g.x g.xs x' S hs ⟨_,_,rfl⟩ h
 |attr hs=>exact IA g.x x' S hs h
 |sub hi=>exact Le g.x x' S hi h
 |slice o l u p q=>exact Fv g.x g.o x' S h
 |comp u6 hs=>
  rw[aE]at hs;exact IT g.i g.x g.t g.cs x' S u6 hs.1 hs.2 h
theorem uN:∀n,Go B C k n
 |0=>PA
 |n+1=>
  have g:=uN n
  ⟨TD g,Pe g.x g.xs,Tl g.x g.b g.all,Iz g.x g.bool,Lq g.b g.all,Lg g.x,Pk g.x g.ps,Tr g.x g.ts,Pq g.t g.ts,Pw g.b g.cs,Tv g.x⟩
end
section
open PySem PySem.W PySem.Calls PyProof.Rows PySem.SeqAt PySem.MeetsSeq PySem.W.FB PySem.W.KBy
variable {B:nX}{kU k7:List aD}{U σ₀ σ₁:kO}{s s₀ k8:Shared}{A:bm}{kQ:aD}{ρ ρ':lK}{κ:nP}{k n:Nat}
structure zZ(H0:Heap)(X:Nat->Prop)(h h':Heap):Prop where
 live:∀b o,h.get? b=some o->∃o',h'.get? b=some o'
 keep:∀b o,h.get? b=some o->¬X b->∃o',h'.get? b=some o'/\re o o'/\(H0.get? b≠.none->o'=o)
def IU(B:nX)(U:kO)(h:Heap)(X:Nat->Prop):Prop:=∀b,X b->B.H0.get? b=.none/\U b=.none/\∃o vs,h.get? b=some o/\o.data=.fields vs/\o.cls≠.type "tuple"
def zZ.WL{X:Nat->Prop}(c:zZ B.H0 X h h'):mr B.H0 X U h U h':=⟨c.live,λb o e _ nx=>c.keep b o e nx,λ_ e=>.inl e,λ_ e=>e⟩
def zZ.tk{X:Nat->Prop}(c:zZ B.H0 X h h')(x:IU B U h X):TK h h':=λa kX z9=>by
 obtain⟨m,e⟩:=z9;have e:h.get? a=some _:=e;obtain⟨o',e',s,_⟩:=c.keep a _ e λq=>by
  obtain⟨_,_,o,_,ho,_,hc⟩:=x a q;rw[e]at ho;clear left_2;obtain rfl:=af ho;exact hc rfl
 rw[s.eq (nT (by decide))]at e';exact⟨m,e'⟩
theorem Ro.yM:∀{mo:MO},Ro P h o mo->o.cls≠.type "frame"
 |.list _,⟨vs,n,e,_⟩=>J (e ..) (nT (by decide))
 |.dict _,⟨l,n,e,_⟩=>J (e ..) (nT (by decide))
 |.inst _ _,e=>by refine J (e ..) ?_;intro q;contradiction
 |.Aj _,⟨vs,n,e,_⟩=>J (e ..) (nT (by decide))
def EJ.chg{X:Nat->Prop}(O:EJ B.w.params B.H0 U h)(c:zZ B.H0 X h h')(x:IU B U h X):EJ B.w.params B.H0 U h':=by
 refine⟨λb o e=>?_,λa mo e=>?_⟩
 ·obtain⟨o',e',_,z⟩:=c.keep b o (O.base b o e) λq=>by rw[(x b q).1]at e;contradiction
  rw[z (by refine J (e ..) ?_;intro q;contradiction)]at e';exact e'
 refine lr λGp gk=>?_;obtain⟨a1,o,ho,r⟩:=O.obj a mo e;obtain⟨o',e',s,_⟩:=c.keep a o ho λq=>by rw[(x a q).2.1]at e;contradiction
 rw[s.eq r.yM]at e';refine gk ?_;exact⟨a1,o,e',r.keep (c.tk x)⟩
def zZ.not{X:Nat->Prop}(x:IU B U h X)(e:h.get? b=some o)(n:∀vs,o.data≠.fields vs):¬X b:=λq=>by
 obtain⟨_,_,o',vs,e',d,_⟩:=x b q;rw[e]at e';clear right;obtain rfl:=af e';exact n _ d
def uk.chg{X:Nat->Prop}(f:uk B.H0 U h kU)(c:zZ B.H0 X h h')(x:IU B U h X):uk B.H0 U h' kU:=λe he=>by
 obtain⟨k,L,o,a,b,d,g,q,es,n,z⟩:=f e he;obtain⟨o',e',s,_⟩:=c.keep L o g (zZ.not x g λvs w=>by rw[z]at w;contradiction);exact⟨k,L,o',a,b,d,e',s.cls.trans q,es,n,s.data.trans z⟩
def Gs.chg{X:Nat->Prop}(G:Gs B kU U s)(c:zZ B.H0 X s.heap h')(x:IU B U s.heap X):Gs B kU U {s with heap:=h',toks:=t}:=⟨G.own.chg c x,G.kU.chg c x,G.gens,G.os⟩
def St.chg{X:Nat->Prop}(S:St B kQ kU ρ U s)(c:zZ B.H0 X s.heap h')(x:IU B U s.heap X):St B kQ kU ρ U {s with heap:=h',toks:=t}:=by
 have tk:=c.tk x;have yr:∀cc v,s.heap.IsCell cc v->h'.IsCell cc v:=λcc v z9=>by
  refine lr λGp gk=>?_;obtain⟨o,e,d⟩:=z9;obtain⟨o',e',z,_⟩:=c.keep cc o e (zZ.not x e λvs w=>by rw[d]at w;contradiction);refine gk ?_;exact⟨o',e',z.data.trans d⟩
 refine⟨S.own.chg c x,S.sS,⟨S.Z.len,?_,?_,S.Z.JX⟩,?_,?_,S.apart,S.kU.chg c x,S.gens,S.os⟩
 ·obtain⟨m,hn,hm⟩:=S.Z.ns;refine⟨m,?_,λi x hx v hv=>let ⟨y,a,b⟩:=hm i x hx v hv;⟨y,a,b.keep tk⟩⟩;refine lr λGp gk=>?_;obtain⟨o,es,ep,e,d,r⟩:=hn;obtain⟨o',e',z,_⟩:=c.keep _ o e (zZ.not x e λvs w=>by rw[d]at w;contradiction);refine gk ?_;exact⟨o',es,ep,e',z.data.trans d,r⟩
 ·intro i x k hx hk;refine lr λGp gk=>?_;obtain⟨⟨c,v,hc,hv⟩,q⟩:=S.Z.cell i x k hx hk;refine gk ?_;refine⟨⟨c,v,hc,yr c v hv⟩,λv hv=>?_⟩;refine lr λGp gk=>?_;obtain⟨c,y,hc,hy,r⟩:=q v hv;refine gk ?_;exact⟨c,y,hc,yr c _ hy,r.keep tk⟩
 ·refine lr λGp gk=>?_;obtain⟨a,b,o,e,cc,es,n,d⟩:=S.place;obtain⟨o',e',z,_⟩:=c.keep _ o e (zZ.not x e λvs w=>by rw[d]at w;contradiction);refine gk ?_;exact⟨a,b,o',e',J (z.cls ..) cc,es,n,z.data.trans d⟩
 intro y cc hc;refine lr λGp gk=>?_;obtain⟨a,b,d,o,v,e,g,f⟩:=S.cells y cc hc;obtain⟨o',e',z,_⟩:=c.keep _ o e (zZ.not x e λvs w=>by rw[f]at w;contradiction);refine gk ?_;exact⟨a,b,d,o',v,e',z.cls.trans g,z.data.trans f⟩
def PE(f:uk B.H0 U s.heap kU):s.heap.FunFrames B.H0 kU:=by
 induction kU with
 |nil=>trivial
 |cons e r ih=>
  obtain⟨k,L,o,a,b,_,d,_,es,n,z⟩:=f e aj;exact⟨by refine J (k ..) ?_;decide,⟨L,o,a,b,d,λvs w=>by rw[z]at w;contradiction⟩,ih λe he=>f e (ay _ he)⟩
def tn(f:Array Value->Array Value)(o:Obj):(Obj.mapFields f o).dict=o.dict:=by
 obtain⟨c,d,dt,s⟩:=o;cases dt<;>rfl
def DQ{M:Model}{L e:Nat}{vs:Array Value}{head:Value}{PF:Bool}{Q:Unit->Shared->Prop}{E':Value->Shared->Prop}(US:A.frames=some (kQ::k7))(F:uk B.H0 U s.heap (kQ::k7))(hf:kQ.frame=some L)
  (he:s.heap.get? e=some oe) (hd:oe.data=.fields vs) (H':1<vs.size)
  (h:∀h' T oT ts,s.heap.get? T=.none->h'.get? e=some (Obj.mapFields (·.setIfInBounds 1 (bP T)) oe)->h'.get? T=some oT->oT.cls=.type "traceback"->oT.data=.fields ts->ts[3]? =some (eo L)->
   (∀b o,b≠e->s.heap.get? b=some o->∃o',h'.get? b=some o'/\re o o'/\(B.H0.get? b≠.none->o'=o))->Q () {s with heap:=h'}):
  aq M A (do let a←frameOf kQ;let pl←entryPlaceOf L PF;let b←jE head a .none (eo L) .none pl;setField (.ref e) 1 b) Q E' s:=by
 have hl:=PE F;have WM:∀b∈(kQ::k7).filterMap (·.frame),B.H0.get? b=.none/\∃o,s.heap.get? b=some o/\o.cls=.type "frame"/\∃es n,o.data=.dict es n:=λb hb=>by
  refine lr λGp gk=>?_;obtain⟨en,Wx,UR⟩:=List.mem_filterMap.mp hb;clear hb;obtain⟨_,L',o,a1,a2,_,a3,a4,es5,en5,a5⟩:=F en Wx;rw[a1]at UR;obtain rfl:=af UR;refine gk ?_;exact⟨a2,o,a3,a4,es5,en5,a5⟩
 have ZE:e∉(kQ::k7).filterMap (·.frame):=λhm=>by
  refine lr λGp gk=>?_;obtain⟨_,o,ho,_,es,n,z⟩:=WM e hm;rw[he]at ho;clear left_1;obtain rfl:=af ho;refine gk ?_;rw[hd]at z;contradiction
 refine aa (wpAny_frameOf_fun US hl hf λh₁ ur=>?_);refine aa (wpAny_entryPlaceOf λpl RM=>?_);dsimp only[jE,newFields];refine aa (cn ?_ (RM.sizeOk5 _ _ _ _ _));have DR:h₁.get? e=some oe:=(ur.2.1 e ZE).trans he;have GT:=cg (h:=h₁) {cls:=.type "traceback",dict:=none,data:=.fields ([head,.ref L,.none,eo L,.none]++(if pl.isEmpty then ci 6 cx else pl)).toArray} DR;refine iu GT hd H' ?_;have LL:h₁.objs.size≠e:=kb (iQ DR);have WN:=Obj.data_mapFields hd (·.setIfInBounds 1 (bP h₁.objs.size));have WO:=bp (Obj.mapFields (·.setIfInBounds 1 (bP h₁.objs.size))) GT (Obj.isFreed_of_fields WN);have WP:=(c8 (h₁.push {cls:=.type "traceback",dict:=none,data:=.fields ([head,.ref L,.none,eo L,.none]++(if pl.isEmpty then ci 6 cx else pl)).toArray})
  (Obj.mapFields (·.setIfInBounds 1 (bP h₁.objs.size))) (dW LL)).trans (aP h₁ rfl)
 refine h _ h₁.objs.size _ _ (be (J (ur.1 ..) (aF _))) WO WP rfl rfl (by first|(simp;done)|(rcases RM with rfl|⟨_,_,_,_,_,_,_,rfl⟩<;>simp)) λb o hbe hb=>?_;have keep:∀o,h₁.get? b=some o->
   ((h₁.push {cls:=.type "traceback",dict:=none,data:=.fields ([head,.ref L,.none,eo L,.none]++(if pl.isEmpty then ci 6 cx else pl)).toArray}).update e (Obj.mapFields (·.setIfInBounds 1 (bP h₁.objs.size)))).get? b=some o:=λo hb=>by
  refine J (c8 _ _ (dW hbe) ..) ?_;exact cg _ hb
 by_cases hm:b∈(kQ::k7).filterMap (·.frame)
 ·refine lr λGp gk=>?_;obtain⟨sl,hs⟩:=ur.2.2 b o hb;obtain⟨h0,o',zF,c,d⟩:=WM b hm;rw[hb]at zF;obtain rfl:=af zF;refine gk ?_;exact⟨_,keep _ hs,.inr ⟨c,d,sl,rfl⟩,λz=>absurd h0 z⟩
 exact⟨o,keep _ ((ur.2.1 b hm).trans hb),.inl rfl,λ_=>rfl⟩
def PH{M:Model}{lo:Heap}{v:Value}(US:A.frames=some (kQ::k7))(hf:kQ.frame=some L)(G:Gs B (kQ::k7) U s)(PI:∀b,lo.get? b=.none->B.H0.get? b=.none)(WQ:∀b,s.heap.get? b=.none->lo.get? b=.none)
  (f:CG B lo U s.heap .none x v) {Q:Unit->Shared->Prop}{E':Value->Shared->Prop} (h:∀X h',zZ B.H0 X s.heap h'->IU B U s.heap X->(∀b,X b->lo.get? b=.none)->CG B lo U h' (some L) x v->Q () {s with heap:=h'}):
  aq M A (noteFrame v kQ) Q E' s:=by
 obtain⟨e,d,oe,vs,od,rfl,⟨a2,a3,a5,a6⟩,q2,q3,q4,q5,⟨q6,IV⟩,q7⟩:=f;have Ou:d≠e:=λz=>by
  clear q7 h a2 a3;subst z;rw[q2]at q6;obtain rfl:=af q6;obtain⟨l,n,z,_⟩:=IV;rw[z]at q5;contradiction
 dsimp only[noteFrame];simp only[hf];rcases q7 with q7|⟨T,oT,ts,b1,⟨b3,b4,DS⟩,b5,b6,b7,b8⟩
 ·refine aa (dX q2 q5 q7 ?_);refine J (if_neg (by decide) ..) ?_;refine DQ US G.kU hf q2 q5 (bM.mp q7).1 λh' T oT ts t1 t2 t3 t4 t5 t6 kp=>?_;have LL:T≠e:=λz=>by clear h a2 a3 Ou t2 kp;subst z;rw[q2]at t1;contradiction
  have c:zZ B.H0 (λb=>b=e) s.heap h':=⟨λb o hb=>by
   clear q2 h a2 a3 Ou LL;by_cases z:b=e
   ·clear kp;subst z;exact⟨_,t2⟩
   obtain⟨o',z,_⟩:=kp b o z hb;exact⟨o',z⟩,λb o hb nx=>kp b o nx hb⟩
  have xo:IU B U s.heap (λb=>b=e):=λb z=>by
   clear h Ou t2 kp LL c;subst z;exact⟨PI _ a2,a3,oe,vs,q2,q5,by refine J (q3 ..) ?_;intro z;contradiction⟩
  clear q2;obtain⟨od',e1,e2,_⟩:=kp d od Ou q6;rw[e2.eq IV.yM]at e1;refine h _ h' c xo (λb z=>by clear t2 kp c xo;clear h a3 Ou LL;subst z;exact a2) ⟨e,d,_,_,od,rfl,⟨a2,a3,a5,a6⟩,t2,(Obj.cls_mapFields _ _).trans q3,?_,Obj.data_mapFields q5 _,⟨e1,IV.keep (c.tk xo)⟩,.inr ⟨T,oT,ts,?_,⟨WQ T t1,G.own.free t1,LL⟩,t3,t4,t5,.inr ⟨L,rfl,t6⟩⟩⟩
  ·exact J (tn ..) q4
  simp[(bM.mp q7).1]
 have b8':ts[3]? =some .none:=b8.elim id λz9=>by obtain⟨l,z,_⟩:=z9;contradiction
 refine aa (dX q2 q5 b1 ?_);refine J (if_pos (show (bP T !=cx)=true from by simp) ..) ?_;refine aa (dX b5 b7 b8' ?_);refine J (if_neg (show¬((cx==eo L)=true)from by simp[eo]) ..) ?_;refine aa (iu b5 b7 (bM.mp b8').1 ?_);have other:∀b,b≠T->(s.heap.update T (Obj.mapFields (·.setIfInBounds 3 cx))).get? b=s.heap.get? b:=λb hb=>c8 _ _ (dW hb);have self:=bp (Obj.mapFields (·.setIfInBounds 3 cx)) b5 (Obj.isFreed_of_fields (Obj.data_mapFields b7 _));generalize (s.heap.update T (Obj.mapFields (·.setIfInBounds 3 cx)))=hm at other self;have dT:d≠T:=λz=>by
  clear b1 b3 b4 DS b6 other self;subst z;rw[q6]at b5;obtain rfl:=af b5;obtain⟨l,n,z,_⟩:=IV;rw[z]at b7;contradiction
 have Ad:zZ B.H0 (λb=>b=T) s.heap hm:=⟨λb o hb=>by
  clear b1 b3 b4 DS b5 dT;by_cases z:b=T
  ·clear other;subst z;exact⟨_,self⟩
  exact⟨o,(other b z).trans hb⟩,λb o hb nx=>⟨o,(other b nx).trans hb,.inl rfl,λ_=>rfl⟩⟩
 have lh:IU B U s.heap (λb=>b=T):=λb z=>by
  clear b1 DS other self dT Ad;subst z;exact⟨PI _ b3,b4,oT,ts,b5,b7,J (b6 ..) (nT (by decide))⟩
 have TE:=(G.chg (t:=s.toks) Ad lh).kU;refine DQ (s:={s with heap:=hm}) (B:=B) US TE hf ((other e (dW DS)).trans q2) q5 (bM.mp b1).1 λh' T' oT' ts' t1 t2 t3 t4 t5 t6 kp=>?_;dsimp only at t1 t2 t3 kp;have LL:T'≠e:=λz=>by clear h a2 a3 Ou t2 kp;subst z;rw[other _ (dW DS),q2]at t1;contradiction
 have t1':s.heap.get? T'=.none:=by
  rcases hq:s.heap.get? T' with _|o
  ·rfl
  obtain⟨o',z⟩:=Ad.live T' o hq;rw[t1]at z;contradiction
 have c:zZ B.H0 (λb=>b=e\/b=T) s.heap h':=⟨λb o hb=>by
  clear q2 h a2 a3 Ou DS LL;by_cases z:b=e
  ·clear kp;subst z;exact⟨_,t2⟩
  obtain⟨H6,WR⟩:=Ad.live b o hb;obtain⟨o',z,_⟩:=kp b H6 z WR;exact⟨o',z⟩,λb o hb nx=>kp b o (λz=>nx (.inl z)) ((other b λz=>nx (.inr z)).trans hb)⟩
 have xo:IU B U s.heap (λb=>b=e\/b=T):=λb z=>by
  clear h Ou DS t2 kp LL c;rcases z with z|z
  ·subst z;exact⟨PI _ a2,a3,oe,vs,q2,q5,by refine J (q3 ..) ?_;intro z;contradiction⟩
  exact lh b z
 clear q2 b4 DS b5 self Ad lh;obtain⟨od',e1,e2,_⟩:=kp d od Ou ((other d dT).trans q6);rw[e2.eq IV.yM]at e1;refine h _ h' c xo (λb z=>by clear b1 other dT t2 kp c xo;clear h a3 Ou LL;rcases z with rfl|rfl<;>assumption) ⟨e,d,_,_,od,rfl,⟨a2,a3,a5,a6⟩,t2,(Obj.cls_mapFields _ _).trans q3,?_,Obj.data_mapFields q5 _,⟨e1,IV.keep (c.tk xo)⟩,.inr ⟨T',oT',ts',?_,⟨WQ T' t1',G.own.free t1',LL⟩,t3,t4,t5,.inr ⟨L,rfl,t6⟩⟩⟩
 ·exact J (tn ..) q4
 simp[(bM.mp b1).1]
def to{M:Model}{lo:Heap}{v:Value}{L:Option Nat}(PI:∀b,lo.get? b=.none->B.H0.get? b=.none)
  (f:CG B lo U s.heap L x v) {Q:Unit->Shared->Prop}{E':Value->Shared->Prop} (h:∀X h',zZ B.H0 X s.heap h'->IU B U s.heap X->(∀b,X b->lo.get? b=.none)->CG B lo U h' .none x v->Q () {s with heap:=h'}):
  aq M A (setFlight v .none) Q E' s:=by
 refine lr λGp gk=>?_;obtain⟨e,d,oe,vs,od,rfl,⟨a2,a3,a5,a6⟩,q2,q3,q4,q5,⟨q6,IV⟩,q7⟩:=f;refine gk ?_;dsimp only[setFlight];rcases q7 with q7|⟨T,oT,ts,b1,⟨b3,b4,DS⟩,b5,b6,b7,b8⟩
 ·refine aa (dX q2 q5 q7 ?_);refine J (if_neg (by decide) ..) ?_;exact ag (h (λ_=>False) s.heap ⟨λb o e=>⟨o,e⟩,λb o e _=>⟨o,e,.inl rfl,λ_=>rfl⟩⟩ (λ_ z=>z.elim) (λ_ z=>z.elim) ⟨e,d,oe,vs,od,rfl,⟨a2,a3,a5,a6⟩,q2,q3,q4,q5,⟨q6,IV⟩,.inl q7⟩)
 refine aa (dX q2 q5 b1 ?_);refine J (if_pos (show (bP T !=cx)=true from by simp) ..) ?_;have h3:3<ts.size:=by
  rcases b8 with z|⟨_,_,z⟩<;>exact(bM.mp z).1
 refine iu b5 b7 h3 ?_;have other:∀b,b≠T->(s.heap.update T (Obj.mapFields (·.setIfInBounds 3 ((none:Option hZ).elim cx λf=>eo f)))).get? b=s.heap.get? b:=λb hb=>c8 _ _ (dW hb);have self:=bp (Obj.mapFields (·.setIfInBounds 3 ((none:Option hZ).elim cx λf=>eo f))) b5 (Obj.isFreed_of_fields (Obj.data_mapFields b7 _));generalize (s.heap.update T (Obj.mapFields (·.setIfInBounds 3 ((none:Option hZ).elim cx λf=>eo f))))=hm at other self ⊢;have dT:d≠T:=λz=>by
  refine lr λGp gk=>?_;clear b1 b3 b4 DS b6 other self;subst z;rw[q6]at b5;obtain rfl:=af b5;obtain⟨l,n,z,_⟩:=IV;refine gk ?_;rw[z]at b7;contradiction
 have Ad:zZ B.H0 (λb=>b=T) s.heap hm:=⟨λb o hb=>by
  clear b1 b3 b4 DS b5 dT;by_cases z:b=T
  ·clear other;subst z;exact⟨_,self⟩
  exact⟨o,(other b z).trans hb⟩,λb o hb nx=>⟨o,(other b nx).trans hb,.inl rfl,λ_=>rfl⟩⟩
 have lh:IU B U s.heap (λb=>b=T):=λb z=>by
  clear b1 DS other self dT Ad;subst z;exact⟨PI _ b3,b4,oT,ts,b5,b7,J (b6 ..) (nT (by decide))⟩
 exact h _ hm Ad lh (λb z=>by clear b1 b4 DS b5 other self dT Ad lh;subst z;exact b3) ⟨e,d,oe,vs,od,rfl,⟨a2,a3,a5,a6⟩,(other e (dW DS)).trans q2,q3,q4,q5,⟨(other d dT).trans q6,IV.keep (Ad.tk lh)⟩,
  .inr ⟨T,_,_,b1,⟨b3,b4,DS⟩,self,(Obj.cls_mapFields _ _).trans b6,Obj.data_mapFields b7 _,.inl (by simp[h3])⟩⟩
set_option backward.match.sparseCases true
variable {nV:lK}{C:CT}{Q:Fl->lK->kO->Prop}{E:QR}
def ZF(h:Heap):Fl->Flow->Prop
 |.next,f=>f=.next
 |.ret p,f=>∃v,f=.ret v/\Rv h p v
inductive SP(B:nX)(kQ:aD)(kU:List aD)(Q:Fl->lK->kO->Prop)(U:kO)(s:Shared)(f:Flow)(s':Shared):Prop
 |mk (fl:Fl) (ρ':lK) (kP:kO) (q:Q fl ρ' kP) (r:ZF s'.heap fl f) (S:St B kQ kU ρ' kP s') (p:mr B.H0 (oh kQ) U s.heap kP s'.heap)
inductive XP(B:nX)(kQ:aD)(kU:List aD)(E:QR)(U:kO)(s:Shared)(v:Value)(s':Shared):Prop
 |mk (x:Oq) (ρ':lK) (kP:kO) (q:E x ρ' kP) (S:St B kQ kU ρ' kP s') (p:mr B.H0 (oh kQ) U s.heap kP s'.heap) (f:CG B s.heap kP s'.heap kQ.frame x v)
def SX(B:nX)(kQ:aD)(kU:List aD)(A:bm)(E:QR)(U:kO)(s:Shared):Value->Shared->Prop:=λv s'=>
 aq B.mod A (noteFrame v kQ) (λ_=>XP B kQ kU E U s v) n_ s'
def WS(B:nX)(C:CT)(k n:Nat):Prop:=∀{κ:nP}{kQ:aD}{k7:List aD}{A:bm}{st:b_}{ρ:lK}{U:kO}{s:Shared}{Q:Fl->lK->kO->Prop}{E:QR},
 Cx B C k n κ kQ (kQ::k7) A->kQ.frame=some kQ.locals->St B kQ (kQ::k7) ρ U s->wpS C B.tab (YN n κ st) ρ U Q E->aq B.mod A (jA st kQ) (SP B kQ (kQ::k7) Q U s) (SX B kQ (kQ::k7) A E U s) s
def tV(B:nX)(C:CT)(k n:Nat):Prop:=∀{κ:nP}{kQ:aD}{k7:List aD}{A:bm}{st:List b_}{ρ:lK}{U:kO}{s:Shared}{Q:Fl->lK->kO->Prop}{E:QR},
 Cx B C k n κ kQ (kQ::k7) A->kQ.frame=some kQ.locals->St B kQ (kQ::k7) ρ U s->lO C B.tab (pH n κ st) ρ U Q E->aq B.mod A (iX st kQ) (SP B kQ (kQ::k7) Q U s) (SX B kQ (kQ::k7) A E U s) s
def SP.up(p:mr B.H0 (oh kQ) σ₀ s₀.heap U s.heap){f:Flow}{s':Shared}(h:SP B kQ kU Q U s f s'):SP B kQ kU Q σ₀ s₀ f s':=by
 obtain⟨fl,ρ',kP,q,r,S,p'⟩:=h;exact⟨fl,ρ',kP,q,r,S,p.trans p' λ_ z=>.inl z⟩
def XP.up(p:mr B.H0 (oh kQ) σ₀ s₀.heap U s.heap){v:Value}{s':Shared}(h:XP B kQ kU E U s v s'):XP B kQ kU E σ₀ s₀ v s':=by
 obtain⟨x,ρ',kP,q,S,p',f⟩:=h;exact⟨x,ρ',kP,q,S,p.trans p' λ_ z=>.inl z,f.low p.none⟩
def SX.up(p:mr B.H0 (oh kQ) σ₀ s₀.heap U s.heap){v:Value}{s':Shared}(h:SX B kQ kU A E U s v s'):SX B kQ kU A E σ₀ s₀ v s':=aw h (λ_ _ z=>z.up p) λ_ _ z=>z
def yN(ha:A.frames=some (kQ::k7))(hf:kQ.frame=some kQ.locals)(S:St B kQ (kQ::k7) ρ U s){E':nI}(hE:∀x U,E' x U->E x ρ U){v:Value}{s':Shared}(h:PX B (kQ::k7) .none E' U s v s'):SX B kQ (kQ::k7) A E U s v s':=by
 obtain⟨x,kP,q,G,p,f⟩:=h;refine PH ha hf G (λb z=>S.own.fresh z) p.none f λX h' c xo xl f'=>?_;refine⟨x,ρ,kP,hE _ _ q,(S.up p G).chg (t:=s'.toks) c xo,p.own.trans c.WL λb z=>.inr (xl b z),J (hf ..) f'⟩
def LM{α:Type}{m:fZ α}{f:α->fZ Flow}{rel:Heap->β->α->Prop}{Qe:β->kO->Prop}{E':nI}(ha:A.frames=some (kQ::k7))(hf:kQ.frame=some kQ.locals)(S:St B kQ (kQ::k7) ρ U s)(hE:∀x U,E' x U->E x ρ U)
  (hm:aq B.mod A m (PR B (kQ::k7) rel Qe U s) (PX B (kQ::k7) .none E' U s) s)
  (hk:∀a s' b kP,Qe b kP->rel s'.heap b a->St B kQ (kQ::k7) ρ kP s'->mr B.H0 Nx U s.heap kP s'.heap->aq B.mod A (f a) (SP B kQ (kQ::k7) Q U s) (SX B kQ (kQ::k7) A E U s) s'):
  aq B.mod A (m>>=f) (SP B kQ (kQ::k7) Q U s) (SX B kQ (kQ::k7) A E U s) s:=
 aa (aw hm (λa s' z9=>by obtain⟨b,kP,q,r,G,p⟩:=z9;exact hk a s' b kP q r (S.up p G) p) λ_ _ z=>yN ha hf S hE z)
def PJ(ih:WS B C k n)(rV:tV B C k n):tV B C k (n+1):=by
 intro κ kQ k7 A st ρ U s Q E x hf S h;rcases st with _|⟨st,r⟩
 ·dsimp only[pH,lO]at h;refine(?_:aq _ _ (pure _) _ _ _);exact ag ⟨.next,ρ,U,h,rfl,S,.refl ..⟩
 have h':lO C B.tab (.cons (YN n κ st) (pH n κ r)) ρ U Q E:=h;dsimp only[lO]at h';refine aa (aw (ih x.less hf S h') (λf k8 z9=>?_) λ_ _ z=>z);obtain⟨fl,nV,σ₁,q,rf,lq,lm⟩:=z9;rcases fl with _|p
 ·change f=.next at rf;subst rf;exact aw (rV x.less hf lq q) (λ_ _ z=>z.up lm) λ_ _ z=>z.up lm
 obtain⟨v,rfl,rv⟩:=rf;exact ag ⟨.ret p,nV,σ₁,q,⟨v,rfl,rv⟩,lq,lm⟩
def IW(g:Go B C k n)(x:Cx B C k n κ kQ (kQ::k7) A)(hf:kQ.frame=some kQ.locals)(S:St B kQ (kQ::k7) ρ U s)(hc:rX e=false)
  (h:wpS C B.tab (.expr (lP n κ e)) ρ U Q E):aq B.mod A (jA (.Expr e pos) kQ) (SP B kQ (kQ::k7) Q U s) (SX B kQ (kQ::k7) A E U s) s:=by
 dsimp only[wpS]at h;refine wpAny_Expr_any ?_ (by dsimp only[interactive];refine J (S.sS.kind ..) ?_;rfl) (by clear h;rcases e with _|_<;>first|rfl|contradiction);refine aw (g.x x S h) (λv s' z9=>?_) λ_ _ z=>yN x.a.frames hf S (λ_ _ q=>q) z;obtain⟨b,kP,q,r,G,p⟩:=z9;exact⟨.next,ρ,kP,q,rfl,S.up p G,p.own⟩
def LN(g:Go B C k n){e:am}{pos:Pos}(x:Cx B C k n κ kQ (kQ::k7) A)(hf:kQ.frame=some kQ.locals)(S:St B kQ (kQ::k7) ρ U s)
  (h:wpS C B.tab (.ret (lP n κ e)) ρ U Q E):aq B.mod A (jA (.Return (some e) pos) kQ) (SP B kQ (kQ::k7) Q U s) (SX B kQ (kQ::k7) A E U s) s:=by
 dsimp only[wpS]at h;refine J (jP ..) ?_;refine aa (aI ?_);refine(?_:aq _ _ (bZ e kQ>>=λv=>pure (Flow.ret v)) _ _ _);exact LM x.a.frames hf S (λ_ _ q=>q) (g.x x S h) λv s' b kP q r S' p=>ag ⟨.ret b,ρ,kP,q,⟨v,rfl,r⟩,S',p.own⟩
def IX{pos:Pos}(S:St B kQ (kQ::k7) ρ U s)
  (h:wpS C B.tab (.ret (.lit .none)) ρ U Q E):aq B.mod A (jA (.Return .none pos) kQ) (SP B kQ (kQ::k7) Q U s) (SX B kQ (kQ::k7) A E U s) s:=by
 dsimp only[wpS,mh]at h;refine J (jP ..) ?_;refine aa (aI ?_);exact ag ⟨.ret .none,ρ,U,h,⟨.none,rfl,Rv.none _⟩,S,.refl ..⟩
def PK(g:Go B C k n)(rV:tV B C k n){e:am}{b o:List b_}{pos:Pos}(x:Cx B C k n κ kQ (kQ::k7) A)(hf:kQ.frame=some kQ.locals)(S:St B kQ (kQ::k7) ρ U s)
  (h:wpS C B.tab (.ite (zD n κ e) (pH n κ b) (pH n κ o)) ρ U Q E):aq B.mod A (jA (.If e b o pos) kQ) (SP B kQ (kQ::k7) Q U s) (SX B kQ (kQ::k7) A E U s) s:=by
 dsimp only[wpS]at h;refine J (arm_exec_If ..) ?_;refine aa (aI ?_);refine LM x.a.frames hf S (λ_ _ q=>q) (g.b x S h) λv s' b' kP q r S' p=>?_;have r:v=b':=r;subst r;clear r;rcases v with _|_
 ·exact aw (rV x hf S' q.f) (λ_ _ z=>z.up p.own) λ_ _ z=>z.up p.own
 exact aw (rV x hf S' q.t) (λ_ _ z=>z.up p.own) λ_ _ z=>z.up p.own
def mem_of_lookup{α β:Type}[BEq α][LawfulBEq α]:∀{l:List (α×β)}{x:α}{v:β},l.lookup x=some v->(x,v)∈l:=by
 intro z9
 induction z9 with
 |nil=>
  intro _ _ h;contradiction
 |cons y9 l ih=>
  intro x v h;obtain⟨y,u⟩:=y9;rw[aQ]at h
  split at h
  ·rename_i q;obtain rfl:=af h;refine J (eq_of_beq q ..) ?_;exact aj
  exact ay _ (ih h)
def BY{α β:Type}{f:α->Option β}:∀{l:List α},(l.any λa=>(f a).isNone)=true->(l.filterMap f).length≠l.length:=by
 intro z9
 induction z9 with
 |nil=>
  intro h;contradiction
 |cons a l ih=>
  intro h;have le:=List.length_filterMap_le f l;refine J (fF ..) ?_;rcases q:f a with _|b
  ·dsimp only;refine J (au ..) ?_;lia
  rw[fa,q]at h;have:=ih (by simpa using h);dsimp only;refine J (au ..) (J (au ..) ?_);lia
def FG(E:td kQ)(nm:mB κ kQ){x:Str}{kd:NameKind}(h:κ.names.lookup x=some kd)(hk:kd=.cell\/kd=.local):kQ.kindOf x=some kd:=by
 obtain⟨i,hi⟩:=cP (mem_of_lookup h);clear h;obtain⟨k',e,tG,_⟩:=nm i x kd hi;have:k'=kd:=by
  clear hi;clear right;rcases tG with rfl|⟨rfl,_⟩
  ·rfl
  rcases hk with h|h<;>contradiction
 clear hk hi tG;clear right;subst this;exact oR E.nodup e
def ZG{t v:am}(h:px t=none)(hl:isList t=false):cW [t] v kQ=pure .none:=by
 rcases t with _|_<;>first|rfl|(exact lx h;done)|(contradiction;done)
def ZH{ts:List am}{v:am}{a:Nat}{b:Pos}(h:px v=none):cW [.Tuple ts a b] v kQ=pure .none:=by
 rcases v with _|_<;>first|rfl|contradiction
noncomputable def yO(kQ:aD)(line:Nat):am->Option Str
 |.Name id pos=>if kQ.kindOf id==some .local&&pos.line==line then some id else none
 |_=>none
def PM{ts vs:List am}(h:(vs.all (gM 8)|| !(ts.length==2||ts.length==3))=true\/(ts.any λe=>(yO kQ ((ts.head?.map (·.pos.line)).getD 0) e).isNone)=true):cW [.Tuple ts a b] (.Tuple vs c d) kQ=pure .none:=by
 unfold cW;dsimp only
 split
 ·rfl
 rename_i h1
 split
 ·rfl
 split
 ·rfl
 rename_i h3;rw[ji]at h;rcases h with(h|h)|h
 ·exact J (if_pos h ..) rfl
 ·rw[h]at h1;exact absurd rfl h1
 exact absurd (J (ji ..) (.inl (bne_iff_ne.mpr (BY (f:=yO kQ _) h)))) h3
def G5(E:td kQ)(nm:mB κ kQ){t v:am}(h:OE κ t v=some .none):cW [t] v kQ=pure .none:=by
 dsimp only[OE]at h
 induction ht:px t with
 |none=>
  rw[ht]at h
  induction hl:isList t with
  |true=>dsimp only at h;rw[hl]at h;exact lx h
  |false=>exact ZG ht hl
 |some ts=>
  obtain⟨a,b,rfl⟩:=qw ht;rw[ht]at h
  induction hv:px v with
  |none=>exact ZH hv
  |some vs=>
   obtain⟨c,d,rfl⟩:=qw hv;dsimp only at h;rw[hv]at h;dsimp only at h
   induction q:(vs.all (gM 8)|| !(ts.length==2||ts.length==3)||ts.any (Ba κ))with
   |false=>
    rw[q]at h;refine lr λGp gk=>?_;refine lS h λl _ h=>?_;refine lS h λis _ h=>?_;refine gk ?_
    induction q:xV l&&p7 (l.map (·.1))&&vs.length==ts.length&&noStar vs&&!vs.all (iz 8)with
    |true=>rw[q]at h;exact nomatch h
    |false=>rw[q]at h;contradiction
   |true=>
    rw[ji]at q;refine PM (q.imp id λq=>?_);rw[List.any_eq_true]at q ⊢;obtain⟨x,hx,hc⟩:=q;refine⟨x,hx,?_⟩;have hx:∃id,κ.names.lookup id=some .cell/\∃p,x=.Name id p:=by
     have v:=nY x;dsimp only[Ba]at hc;generalize mO x=w at v hc;clear hx;induction v<;>first|exact⟨_,eq_of_beq hc,_,rfl⟩|exact ft hc
    clear hc;obtain⟨id,hq,p,rfl⟩:=hx;refine(?_:(if(kQ.kindOf id==some NameKind.local&&_)=true then some id else none).isNone=true);refine J (FG E nm hq (.inl rfl) ..) ?_;rfl
def LQ(h:rX v=false):swapsWith v t line kQ=pure false:=by
 rcases v with _|_<;>first|rfl|contradiction
def LS(h:rX v=true)(ht:qa t=none):swapsWith v (some t) line kQ=pure false:=by
 rcases v with _|_<;>first|(rcases h with _|_;done)|(rcases t with _|_<;>first|rfl|(rcases ht with _|_;done))
def IY(h:rX v=true):∃b,swapsWith v (some (.Name nm np)) line kQ=pure b:=by
 clear h;rcases v with _|_<;>first|exact⟨_,rfl⟩|(rcases h with _|_;done)
def DT(t v:am)(line:Nat)(kQ:aD):∃b,swapsWithSole [t] v line kQ=pure b/\(b=true->(∃nm p,t=.Name nm p)/\rX v=true):=by
 refine(?_:∃b,swapsWith v (some t) line kQ=pure b/\_);rcases hc:rX v with _|_
 ·exact⟨false,LQ hc,λz=>nomatch z⟩
 rcases ht:qa t with _|nm
 ·exact⟨false,LS hc ht,λz=>nomatch z⟩
 obtain⟨p,rfl⟩:=og ht;obtain⟨b,hb⟩:=IY (nm:=nm) (np:=p) (line:=line) (kQ:=kQ) hc;exact⟨b,hb,λ_=>⟨⟨_,_,rfl⟩,rfl⟩⟩
set_option tactic.hygienic true in
def TF{t:am}{v:PV}{Q:lK->kO->Prop}{E:nI}(h:pt t=true)(q:zI C B.tab (v4 n κ t) v ρ U Q E):False:=by
 rcases t with _|_<;>try contradiction
 rename_i a b;have:v4 n κ (.Starred a b)=.stuck:=by clear q;rcases n with _|_<;>rfl
 rw[this]at q;exact q
inductive RN(C:CT)(tab:Tab)(κ:nP)(n:Nat)(ρ:lK)(U:kO)(Q:QV)(E:nI)(elt:am)(sc:io):List kr->Prop
 |mk (t it:am) (ifs:List am) (fv:List (Option Nat)) (u6:qR κ sc.names=some fv) (hs:ux sc=true) (hi:v0 (sA n κ it).1 t=true)
  (h:mh C tab (.comp (lP n {κ with names:=sc.names} elt) (v4 n {κ with names:=sc.names} t) (sA n κ it).1 (sA n κ it).2 (v5 n {κ with names:=sc.names} ifs) fv) ρ U Q E):RN C tab κ n ρ U Q E elt sc [⟨t,it,ifs,0⟩]
set_option backward.match.sparseCases false in
def LU{elt:am}{gens:List kr}{sc:io}{ep:Pos}{Q:QV}{E:nI}(h:mh C B.tab (lP (n+1) κ (.ListComp elt gens sc ep)) ρ U Q E):
  RN C B.tab κ n ρ U Q E elt sc gens:=by
 have h:mh C B.tab (match HP gens,qR κ sc.names with
  |some (t,it,ifs),some fv=>(match ux sc&&v0 (sA n κ it).1 t with
   |true=>.comp (lP n {κ with names:=sc.names} elt) (v4 n {κ with names:=sc.names} t) (sA n κ it).1 (sA n κ it).2 (v5 n {κ with names:=sc.names} ifs) fv
   |false=>.stuck)
  |_,_=>.stuck) ρ U Q E:=h
 rcases hg:HP gens with _|x
 ·rw[hg]at h;exact pJ h
 rw[hg]at h;rcases u6:qR κ sc.names with _|fv
 ·rw[u6]at h;exact pJ h
 rw[u6]at h;dsimp only at h;refine J (Gw hg ..) ?_;rcases hs:ux sc&&v0 (sA n κ x.2.1).1 x.1 with _|_
 ·rw[hs]at h;exact pJ h
 rw[hs]at h;rw[aE]at hs;exact⟨_,_,_,fv,u6,hs.1,hs.2,h⟩
def IZ{t:am}(h:pt t=false):(dY [t] kQ).map (·.2)=[iB t kQ]:=by
 rcases t with _|_<;>first|rfl|contradiction
def St.but(S:St B kQ kU ρ U s)(h1:L≠kQ.locals)(h2:∀x,kQ.cells.lookup x≠some L)(h3:∀e∈kU,e.frame≠some L)(h4:B.H0.get? L=.none)(h5:U L=.none)(h6:∀kX,¬pz s.heap L kX)(sb:bR L s.heap h'):
  St B kQ kU ρ U {s with heap:=h'}:=by
 have al:∀b o,b≠L->s.heap.get? b=some o->h'.get? b=some o:=λb o hb e=>(sb.2 b hb).trans e;have tk:TK s.heap h':=λb kX z=>by
  have nb:b≠L:=λy=>h6 kX (y▸z);obtain⟨m,z⟩:=z;exact⟨m,al _ _ nb z⟩
 have GZ:∀y c,kQ.cells.lookup y=some c->c≠L:=λy c h z=>h2 y (z▸h);refine⟨⟨λb o e=>al b o (λz=>by clear h1 h2 h3 h5 h6 sb al GZ;subst z;rw[h4]at e;contradiction) (S.own.base b o e),λa mo e=>?_⟩,S.sS,⟨S.Z.len,?_,?_,S.Z.JX⟩,?_,?_,S.apart,?_,S.gens,S.os⟩
 ·clear h1 h2 h3 h4 h6 sb GZ;obtain⟨a1,o',e',r'⟩:=S.own.obj a mo e;exact⟨a1,o',al a o' (λz=>by subst z;rw[h5]at e;contradiction) e',r'.keep tk⟩
 ·refine lr λGp gk=>?_;obtain⟨m,⟨o,es,ep,e,d,r⟩,hm⟩:=S.Z.ns;refine gk ?_;exact⟨m,⟨o,es,ep,al _ _ (dW h1) e,d,r⟩,λi x hx v hv=>let ⟨y,a,b⟩:=hm i x hx v hv;⟨y,a,b.keep tk⟩⟩
 ·intro i x k hx hk;refine lr λGp gk=>?_;obtain⟨⟨c,v,hc,o,e,d⟩,q⟩:=S.Z.cell i x k hx hk;refine gk ?_;refine⟨⟨c,v,hc,o,al _ _ (GZ x c hc) e,d⟩,λv hv=>?_⟩;refine lr λGp gk=>?_;obtain⟨c,y,hc,⟨o,e,d⟩,r⟩:=q v hv;refine gk ?_;exact⟨c,y,hc,⟨o,al _ _ (GZ x c hc) e,d⟩,r.keep tk⟩
 ·refine lr λGp gk=>?_;obtain⟨a,b,o,e,cc,zs,zn,z⟩:=S.place;refine gk ?_;exact⟨a,b,o,al _ _ (dW h1) e,cc,zs,zn,z⟩
 ·intro y cc hc;refine lr λGp gk=>?_;obtain⟨a,b,d,o,v,e,g,gf⟩:=S.cells y cc hc;refine gk ?_;exact⟨a,b,d,o,v,al _ _ (GZ y cc hc) e,g,gf⟩
 intro e he;refine lr λGp gk=>?_;obtain⟨k,L',o,a,b,d,g,q,qs,qn,qd⟩:=S.kU e he;refine gk ?_;exact⟨k,L',o,a,b,d,al _ _ (λz=>h3 e he (z▸a)) g,q,qs,qn,qd⟩
def mr.but{X:Nat->Prop}(p:mr B.H0 X σ₀ h U h₁)(hf:h.get? L=.none)(sb:bR L h₁ h'):mr B.H0 X σ₀ h U h':=by
 have al:∀b o,h.get? b=some o->∀o',h₁.get? b=some o'->h'.get? b=some o':=λb o e o' e'=>(sb.2 b (λz=>by rw[z,hf]at e;contradiction)).trans e';refine⟨λb o e=>?_,λb o e n nx=>?_,p.RC,p.old⟩
 ·obtain⟨o',e'⟩:=p.live b o e;exact⟨o',al b o e o' e'⟩
 obtain⟨o',e',z⟩:=p.keep b o e n nx;exact⟨o',al b o e o' e',z⟩
set_option tactic.hygienic true in
def LV(g:Go B C k n)(g':Go B C k (n+1)){t e:am}{pos:Pos}(x:Cx B C k (n+1) κ kQ (kQ::k7) A)(hf:kQ.frame=some kQ.locals)(S:St B kQ (kQ::k7) ρ U s)(hw:OE κ t e=some .none)
  (h:wpS C B.tab (.asg (v4 (n+1) κ t) (lP (n+1) κ e)) ρ U Q E):aq B.mod A (jA (.Assign [t] e pos) kQ) (SP B kQ (kQ::k7) Q U s) (SX B kQ (kQ::k7) A E U s) s:=by
 dsimp only[wpS]at h;have x':=x.less;refine J (jQ ..) ?_;refine aa (aI ?_);obtain⟨b,hb,UL⟩:=DT t e pos.line kQ;refine J (hb ..) (J (pure_bind ..) ?_);rcases b with _|_
 ·simp only[aY,if_false];refine LM x.a.frames hf S (λ_ _ q=>q) (g'.x x S h) λv s' pv kP q r S' p=>?_;refine J (G5 S'.sS x.nm hw ..) (J (pure_bind ..) ?_);refine(?_:aq _ _ (assignAll v ((dY [t] kQ).map (·.2))>>=λ_=>pure Flow.next) _ _ _)
  by_cases AB:pt t=true
  ·exact(TF AB q).elim
  refine J (IZ (by simpa using AB) ..) ?_;refine(?_:aq _ _ (iB t kQ v>>=λ_=>pure Flow.next) _ _ _);refine aa (aw (g'.t x S' r q) (λu k8 z9=>?_) λ_ _ z=>z.elim);obtain⟨nV,σ₁,TG,lq,lm⟩:=z9;exact ag ⟨.next,nV,σ₁,TG,rfl,lq,p.own.trans lm λ_ z=>.inl z⟩
 simp only[if_true];clear hw hb;obtain⟨⟨nm,np,rfl⟩,hc⟩:=UL rfl;clear UL;rcases e with _|_<;>try rcases hc with _|_
 ·rename_i elt gens sc ep;obtain⟨tt,it,ifs,fv,u6,EL,hit,JY⟩:=LU h;refine(?_:aq _ _ ((kH _ sc kQ _ (newList []) false (bZ it kQ) (some λv=>assignAll v ((dY [.Name nm np] kQ).map (·.2)))>>=λ_=>pure ())>>=λ_=>pure Flow.next) _ _ _);refine aa (aa (aw (DP (E:=λx U=>E x ρ U) (E':=SX B kQ (kQ::k7) A E U s) (P:=λ_ s'=>SP B kQ (kQ::k7) Q U s Flow.next s') (λ{K} h=>g.i x' S h) g.x g.t g.cs x' S u6 EL hit JY (λ_ _ z=>yN x.a.frames hf S (λ_ _ q=>q) z) λD L kP s' vs hM hq l F=>?_) (λ_ _ z=>ag (ag z)) λ_ _ z=>z));refine(?_:aq _ _ (iB (.Name nm np) kQ (.ref D)) _ _ _);obtain⟨d,G,p⟩:=l.done F S.gs (gQ ..);have S':=S.up p G;refine aw (g'.t x S' (Rv.ref _ _) (hq D d)) (λu k8 z9=>?_) λ_ _ z=>z.elim;obtain⟨nV,σ₁,TG,lq,lm⟩:=z9;obtain⟨_,l2,_,lo,l4,l5,_⟩:=l.pl;have l2':(kP.put D (.list vs)) L=.none:=by
   dsimp only[kO.put];exact J (if_neg F.ld ..) l2
  have fr:=F.l;have n1:L≠kQ.locals:=λz=>by
   obtain⟨_,_,o,e,_⟩:=S.place;rw[←z,fr]at e;contradiction
  have n2:∀y,kQ.cells.lookup y≠some L:=λy z=>by
   obtain⟨_,_,_,o,v,e,_⟩:=S.cells y L z;rw[fr]at e;contradiction
  have n3:∀e∈kQ::k7,e.frame≠some L:=λe he z=>by
   obtain⟨_,L',o,a1,_,_,a4,_⟩:=S.kU e he;rw[a1]at z;rcases z with _|_;rw[fr]at a4;contradiction
  have nx:¬oh kQ L:=λz=>by
   rcases z with z|⟨_,y,_,z⟩
   ·exact n1 z
   exact n2 y z
  obtain⟨X5,e',so,_⟩:=lm.keep L lo l4 l2' nx;have n5:σ₁ L=.none:=lm.free l4 l2';have n6:∀kX,¬pz k8.heap L kX:=λkX z9=>by
   obtain⟨m,z⟩:=z9;change k8.heap.get? L=some _ at z;rw[e']at z;rcases z with _|_;have:=so.cls.symm;rcases l5 with c|c<;>(rw[c]at this;exact absurd this (nT (by decide)))
  obtain⟨m,hm⟩:∃m,k8.heap.Ns L m:=by
   obtain⟨m,o,es,ep,e,dd,r⟩:=l.pl.3;rw[l4]at e;rcases e with _|_;exact⟨m,X5,es,ep,e',so.data.trans dd,r⟩
  refine⟨m,hm,λh' sb=>?_⟩;exact⟨.next,nV,σ₁,TG,rfl,lq.but n1 n2 n3 l.pl.1 n5 n6 sb,mr.but (p.own.trans lm λ_ z=>.inl z) fr sb⟩
 ·exact pJ h
 exact pJ h
def BZ(h:SX B kQ kU A E U s v s'):notedBy B.mod A kQ (cameBackBy B.mod A kQ (SX B kQ kU A E U s)) v s':=
 PassesOwn.looking (K:=XP B kQ kU E U s) (E₁:=n_) v s' h
def mr.uO(p:mr B.H0 (oh kQ) U h σ₁ h₁)(q:mr B.H0 (oh kQ) σ₁ h₁ σ₂ lL):mr B.H0 (oh kQ) U h σ₂ lL:=p.trans q λ_ z=>.inl z
def FH(g:Go B C k n)(rV:tV B C k n)(x:Cx B C k n κ kQ (kQ::k7) A)(hf:kQ.frame=some kQ.locals)(S:St B kQ (kQ::k7) ρ U s)
  (h:wpS C B.tab (.wY (zD n κ e) (pH n κ b)) ρ U Q E):aq B.mod A (jA (.While e b [] pos) kQ) (SP B kQ (kQ::k7) Q U s) (SX B kQ (kQ::k7) A E U s) s:=by
 dsimp only[wpS]at h;obtain⟨m,h⟩:=h;refine wpAny_While ?_;refine codeAny_whileLoop (λm s'=>∃ρ' kP,xY (rU C B.tab (zD n κ e)) (lO C B.tab (pH n κ b)) m ρ' kP Q E/\St B kQ (kQ::k7) ρ' kP s'/\mr B.H0 (oh kQ) U s.heap kP s'.heap) ?_ m ⟨ρ,U,h,S,.refl ..⟩;rintro m k8 ⟨nV,σ₁,h₁,lq,lm⟩;rcases m with _|m
 ·exact a_ h₁
 dsimp only[xY]at h₁;refine aw (g.b x lq h₁) (λr me z9=>?_) λ_ _ z=>BZ ((yN x.a.frames hf lq (λ_ _ q=>q) z).up lm);obtain⟨r',σ₂,Lk,rr,pI,lV⟩:=z9;have rr:r=r':=rr;subst rr;have mi:=lq.up lV pI;have pK:=lm.uO lV.own;clear rr;rcases r with _|_
 ·simp only[aY,if_false];refine(?_:aq _ _ (iX [] kQ) _ _ _);dsimp only[iX];exact ag ⟨.next,nV,σ₂,Lk.f,rfl,mi,pK⟩
 simp only[if_true];refine aw (rV x hf mi Lk.t) (λf vG z9=>?_) λ_ _ z=>BZ (z.up pK);obtain⟨fl,RO,lH,Tf,rf,qF,uI⟩:=z9;rcases fl with _|p
 ·change f=.next at rf;subst rf;exact⟨m,ba _,RO,lH,Tf,qF,pK.uO uI⟩
 obtain⟨v,rfl,rv⟩:=rf;exact⟨.ret p,RO,lH,Tf,⟨v,rfl,rv⟩,qF,pK.uO uI⟩
def St.LW{fp:NL}(S:St B kQ kU ρ U s)(h1:kQ.locals∉fp)(h2:∀x c,kQ.cells.lookup x=some c->c∉fp)(hl:∀b∈fp,oH B U s.heap b)(al:∀b o,b∉fp->s.heap.get? b=some o->h'.get? b=some o):
  St B kQ kU ρ U {s with heap:=h',toks:=t}:=by
 have tk:=qG hl al;have G:=S.gs.loose (t:=t) hl al;refine⟨G.own,S.sS,⟨S.Z.len,?_,?_,S.Z.JX⟩,?_,?_,S.apart,G.kU,S.gens,S.os⟩
 ·refine lr λGp gk=>?_;obtain⟨m,⟨o,es,ep,e,d,r⟩,hm⟩:=S.Z.ns;refine gk ?_;exact⟨m,⟨o,es,ep,al _ _ h1 e,d,r⟩,λi x hx v hv=>let ⟨y,a,b⟩:=hm i x hx v hv;⟨y,a,b.keep tk⟩⟩
 ·intro i x k hx hk;refine lr λGp gk=>?_;obtain⟨⟨c,v,hc,o,e,d⟩,q⟩:=S.Z.cell i x k hx hk;refine gk ?_;refine⟨⟨c,v,hc,o,al _ _ (h2 x c hc) e,d⟩,λv hv=>?_⟩;refine lr λGp gk=>?_;obtain⟨c,y,hc,⟨o,e,d⟩,r⟩:=q v hv;refine gk ?_;exact⟨c,y,hc,⟨o,al _ _ (h2 x c hc) e,d⟩,r.keep tk⟩
 ·refine lr λGp gk=>?_;obtain⟨a,b,o,e,cc,zs,zn,z⟩:=S.place;refine gk ?_;exact⟨a,b,o,al _ _ h1 e,cc,zs,zn,z⟩
 intro y cc hc;refine lr λGp gk=>?_;obtain⟨a,b,d,o,v,e,g,gf⟩:=S.cells y cc hc;refine gk ?_;exact⟨a,b,d,o,v,al _ _ (h2 y cc hc) e,g,gf⟩
def mr.B0{X:Nat->Prop}{fp:NL}{h h₁ h':Heap}(p:mr B.H0 X σ₀ h U h₁)(hf:∀b∈fp,h.get? b=.none)(k:∀b o,b∉fp->h₁.get? b=some o->h'.get? b=some o):mr B.H0 X σ₀ h U h':=by
 refine⟨λb o e=>?_,λb o e n nx=>?_,p.RC,p.old⟩
 ·obtain⟨o',e'⟩:=p.live b o e;exact⟨o',k b o' (λz=>by rw[hf b z]at e;contradiction) e'⟩
 obtain⟨o',e',z⟩:=p.keep b o e n nx;exact⟨o',k b o' (λz=>by rw[hf b z]at e;contradiction) e',z⟩
structure Lf(B:nX)(kQ:aD)(kU:List aD)(fp:NL)(U:kO)(s:Shared)(ρ':lK)(kP:kO)(s':Shared):Prop where
 st:St B kQ kU ρ' kP s'
 p:mr B.H0 (oh kQ) U s.heap kP s'.heap
 fp:∀b∈fp,oH B kP s'.heap b
structure Ff(kQ:aD)(h:Heap)(fp:NL):Prop where
 f:∀b∈fp,h.get? b=.none
 l:kQ.locals∉fp
 c:∀x c,kQ.cells.lookup x=some c->c∉fp
def Lf.move{fp:NL}{kP:kO}{s':Shared}(l:Lf B kQ kU fp U s ρ' kP s')(F:Ff kQ s.heap fp)(x:CE fp s'.heap h')(zW:∀b∈fp,∃o,h'.get? b=some o/\o.cls≠.type "tuple"/\o.cls≠.type "frame"):
  Lf B kQ kU fp U s ρ' kP {s' with heap:=h',toks:=t}:=
 ⟨l.st.LW F.l F.c l.fp x.1,l.p.B0 F.f x.1,λb hb=>by
  refine lr λGp gk=>?_;obtain⟨o,e,z,y⟩:=zW b hb;obtain⟨a,f,_⟩:=l.fp b hb;refine gk ?_;exact⟨a,f,o,e,z,y⟩⟩
def Lf.step{fp:NL}{kP mQ:kO}{s' tU:Shared}(l:Lf B kQ kU fp U s ρ' kP s')(F:Ff kQ s.heap fp)(p:mr B.H0 (oh kQ) kP s'.heap mQ tU.heap)(S:St B kQ kU PN mQ tU):
  Lf B kQ kU fp U s PN mQ tU/\(∀b∈fp,∀o,s'.heap.get? b=some o->tU.heap.get? b=some o)/\TK s'.heap tU.heap:=by
 have nf:∀b∈fp,¬oh kQ b:=λb hb z=>by
  rcases z with z|⟨_,y,_,z⟩
  ·exact F.l (z▸hb)
  exact F.c y b z hb
 exact⟨⟨S,l.p.uO p,λb hb=>(pN p (l.fp b hb) (nf b hb)).2⟩,λb hb=>(pN p (l.fp b hb) (nf b hb)).1,l.st.Lv p⟩
def DU{unch:kO->Prop}{T:Nat->Heap->Prop}{T':Nat->Value->Heap->Prop}
  (It:J0 B I fp kX unch en T T') (Wx:en=true->EH t=true) (g:Go B C k n) (rV:tV B C k n) (x:Cx B C k n κ kQ (kQ::k7) A) (hf:kQ.frame=some kQ.locals)
  (F:Ff kQ s.heap fp) {kP:kO}{s':Shared} (l:Lf B kQ (kQ::k7) fp U s ρ kP s') (t0:T 0 s'.heap) (hu:unch kP)
  (h:rG unch (λx ρ U K=>zI C B.tab (v4 n κ t) x ρ U (λρ U=>lO C B.tab (pH n κ b) ρ U K E) λ_ _=>False) kX ρ kP Q):
  aq B.mod A (runOwn (.forLoop t (.ref I) b [] kQ) kQ) (SP B kQ (kQ::k7) Q U s) (SX B kQ (kQ::k7) A E U s) s':=by
 refine wpAny_runOwn ?_;refine J (Around.mark_none ..) ?_;refine codeAny_forLoop_any (λm tU=>∃j PN mQ,m=kX.length-j/\j<=kX.length/\Lf B kQ (kQ::k7) fp U s PN mQ tU/\T j tU.heap/\unch mQ/\rG unch (λx ρ U K=>zI C B.tab (v4 n κ t) x ρ U (λρ U=>lO C B.tab (pH n κ b) ρ U K E) λ_ _=>False) (kX.drop j) PN mQ Q) ?_
  kX.length ⟨0,ρ,kP,by simp,by exact aO _,l,t0,hu,by simpa using h⟩
 rintro m k8 ⟨j,nV,σ₁,rfl,hj,l₁,nN,LD,h₁⟩;refine mY ?_;rcases hp:kX[j]? with _|p
 ·refine It.stop x.a.handled l₁.st.gs LD nN hp λh' t k=>?_;have UM:kX.length<=j:=aR.mp hp;rw[jV UM]at h₁;dsimp only[rG]at h₁;refine(?_:aq _ _ (iX [] kQ) _ _ _);dsimp only[iX];exact ag ⟨.next,nV,σ₁,h₁,rfl,l₁.st.LW F.l F.c l₁.fp k,l₁.p.B0 F.f k⟩
 obtain⟨oX,Zy⟩:=aG.mp hp;refine It.next x.a.handled l₁.st.gs LD nN hp λv h2 tt rv t2 e2=>?_;rw[dU oX,Zy]at h₁;dsimp only[rG]at h₁;have l₂:=l₁.move (t:=tt) F e2 (It.zX t2);refine mY (It.go t2 Wx λh3 t3 e3=>?_);have DN:=l₂.move (t:=tt) F e3 (It.zW t3);have Zz:Rv h3 p v:=rv.keep (qG l₂.fp e3.1);refine mY (aw (g.t x DN.st Zz h₁) (λu Iy z9=>?_) λ_ _ z=>z);refine lr λGp gk=>?_;obtain⟨WD,mH,p_,r_,vH⟩:=z9;obtain⟨LH,Tx,LI⟩:=DN.step F vH r_;have Ft:=It.keep t3 Tx LI;refine gk ?_;refine aw (rV x hf r_ p_) (λf WE z9=>?_) λ_ _ z=>BZ (z.up LH.p);refine lr λGp gk=>?_;obtain⟨fl,LX,mL,sd,rf,zY,FF⟩:=z9;obtain⟨IR,Tz,LJ⟩:=LH.step F FF zY;refine gk ?_;clear Gp gk;rcases fl with _|p
 ·change f=.next at rf;clear Gp gk;subst rf;change unch mL/\_ at sd;exact⟨kX.length-(j+1),by exact Nat.sub_lt_sub_left oX (ba _),j+1,LX,mL,rfl,by exact oX,IR,It.keep Ft Tz LJ,sd.1,sd.2⟩
 clear Gp gk;obtain⟨v,rfl,rv⟩:=rf;exact⟨.ret p,LX,mL,sd,⟨v,rfl,rv⟩,zY,IR.p⟩
def DV(a:B.H0.get? b=.none)(f:U b=.none)(x:∃o,h.get? b=some o/\o.cls≠.type "tuple"/\o.cls≠.type "frame"):oH B U h b:=by
 obtain⟨o,e,z,y⟩:=x;exact⟨a,f,o,e,z,y⟩
def PO(h:(sA (n+1) κ it).1=.val):(sA (n+1) κ it).2=lP n κ it:=by
 rcases e:xU κ it with _|⟨_|_,x⟩
 ·exact J (wn ..) (J (e ..) rfl)
 ·rw[wn,e]at h;contradiction
 rw[wn,e]at h;contradiction
def LY(S:St B kQ kU ρ U s)(f:∀b∈fp,s.heap.get? b=.none):Ff kQ s.heap fp:=by
 refine⟨f,λz=>?_,λy c hc z=>?_⟩
 ·obtain⟨_,_,o,e,_⟩:=S.place;rw[f _ z]at e;contradiction
 obtain⟨_,_,_,o,v,e,_⟩:=S.cells y c hc;rw[f _ z]at e;contradiction
theorem LZ(rV:tV B C k n)(x:Cx B C k n κ kQ (kQ::k7) A)(hf:kQ.frame=some kQ.locals)(S:St B kQ (kQ::k7) ρ U s)(hit:v0 (sA n κ it).1 t=true)
  (h:wpS C B.tab (.Op (v4 n κ t) (sA n κ it).1 (sA n κ it).2 (pH n κ b)) ρ U Q E):aq B.mod A (jA (.For t it b [] pos) kQ) (SP B kQ (kQ::k7) Q U s) (SX B kQ (kQ::k7) A E U s) s:=by
 have g:Go B C k n:=uN n;refine J (exec_For ..) ?_;refine aa (aI ?_);refine(?_:aq _ _ (bZ it kQ>>=λv=>dN it kQ v>>=λx=>_) _ _ _);have main:∀(ik:IK),(sA n κ it).1=ik->ik≠.val->mh C B.tab (sA n κ it).2 ρ U (λiv U=>lT U ik iv λkX unch=>
   rG unch (λx ρ U K=>zI C B.tab (v4 n κ t) x ρ U (λρ U=>lO C B.tab (pH n κ b) ρ U K E) λ_ _=>False) kX ρ U Q) (λe U=>E e ρ U)->
   aq B.mod A (bZ it kQ>>=λv=>dN it kQ v>>=λx=>g_ it.pos>>=λ_=>c7 [x] (pyIter x)>>=λw=>runOwn (.forLoop t w b [] kQ) kQ) (SP B kQ (kQ::k7) Q U s) (SX B kQ (kQ::k7) A E U s) s:=by
  intro ik RQ _ h;clear a;subst RQ;obtain⟨src,fold⟩:=g.i (K:=λU kX unch=>rG unch (λx ρ U K=>zI C B.tab (v4 n κ t) x ρ U (λρ U=>lO C B.tab (pH n κ b) ρ U K E) λ_ _=>False) kX ρ U Q) x S h;refine aa (aw src (λv k8 h₁=>?_) λ_ _ z=>yN x.a.frames hf S (λ_ _ q=>q) z);refine J (fold ..) (J (pure_bind ..) ?_);refine aa (aI (aa (ax (aw h₁ (λw me lL=>?_) λ_ _ z=>z.elim))));refine lr λGp gk=>?_;obtain⟨σ₁,I,fp,kX,unch,T,T',rfl,It,t0,hh,hu,G,p,fr⟩:=lL;refine gk ?_;exact DU It (AC hit) g rV x hf (LY S λb hb=>(fr b hb).1) ⟨S.up p G,p.own,λb hb=>DV (S.own.fresh (fr b hb).1) (fr b hb).2 (It.zW t0 b hb)⟩ t0 hu hh
 clear hit;induction RQ:(sA n κ it).1 with
 |range=>rw[RQ]at h;dsimp only[wpS]at h;exact main _ RQ (by intro z;contradiction) h
 |enum=>rw[RQ]at h;dsimp only[wpS]at h;exact main _ RQ (by intro z;contradiction) h
 |val=>
  rw[RQ]at h;dsimp only[wpS]at h;clear main;induction n with
  |zero=>exact pJ h
  |succ m=>
   rw[PO RQ]at h;have fold:=tJ (kQ:=kQ) (yI h);refine LM x.a.frames hf S (λ_ _ q=>q) ((uN m).x x.less S h) λv k8 iv σ₁ q r lq lm=>?_;refine J (fold ..) (J (pure_bind ..) ?_);refine aa (aI (aa (ax ?_)));rcases v8.ex q with⟨a,rfl,ha,q⟩|q
   ·obtain rfl:=r.mW;refine lr λGp gk=>?_;refine lq.gs.t7 ha λkvs q18 dl _ _=>?_;obtain⟨o,es,ep,d1,d2,d3,d4,d5,d6⟩:=q18;have dl':kvs=[]:=by
     clear d5 d6;rcases kvs with _|⟨y,r⟩
     ·rfl
     exact absurd dl.length (by simp)
    clear dl;subst dl';have hD:k8.heap.DictAt B.K a [] ep:=⟨o,es,d1,d2,d3,d4,d5,d6⟩;refine gk ?_;refine wpAny_pyIter_dict (knd:=B.K) (x.g.toGood0.ne lq.gs ha λ_ z=>by contradiction) hD ?_;have hI:=aP k8.heap (o:={cls:=.type "dict_keyiterator",data:=.fields #[.ref a,.int 0 0,.int (([]:List (Str×Value)).length) 0,.int ep 0]}) rfl;refine lq.gs.keepsK (t:=k8.toks) (lG k8.heap {cls:=.type "dict_keyiterator",data:=.fields #[.ref a,.int 0 0,.int (([]:List (Str×Value)).length) 0,.int ep 0]}) λpI lV=>?_;have mi:=lq.up (s':={k8 with heap:=k8.heap.push {cls:=.type "dict_keyiterator",data:=.fields #[.ref a,.int 0 0,.int (([]:List (Str×Value)).length) 0,.int ep 0]}}) lV pI;refine wpAny_runOwn ?_;refine J (Around.mark_none ..) ?_;refine codeAny_forLoop_any (λm tU=>tU={k8 with heap:=k8.heap.push {cls:=.type "dict_keyiterator",data:=.fields #[.ref a,.int 0 0,.int (([]:List (Str×Value)).length) 0,.int ep 0]}}) ?_ 0 rfl;rintro m me rfl;refine mY ?_;have RL:(k8.heap.push {cls:=.type "dict_keyiterator",data:=.fields #[.ref a,.int 0 0,.int (([]:List (Str×Value)).length) 0,.int ep 0]}).IsKeyIter k8.heap.objs.size a 0 ([]:List (Str×Value)).length ep:=⟨_,hI,rfl,rfl⟩;refine wpAny_pyNext_dict_end (knd:=B.K) (kvs:=[]) (i:=0) x.a.handled RL ⟨o,es,lG _ _ _ _ d1,d2,d3,d4,d5,d6⟩ rfl λh' eb=>?_;refine(?_:aq _ _ (iX [] kQ) _ _ _);dsimp only[iX];have fz:∀b∈[k8.heap.objs.size],s.heap.get? b=.none:=λb hb=>by
     simp only[aB]at hb;subst hb;exact lm.none _ (ly _)
    have F:=LY S fz;have k:∀b o,b∉[k8.heap.objs.size]->(k8.heap.push {cls:=.type "dict_keyiterator",data:=.fields #[.ref a,.int 0 0,.int (([]:List (Str×Value)).length) 0,.int ep 0]}).get? b=some o->h'.get? b=some o:=λb o nb e=>eb b o (by simpa using nb) e;exact ag ⟨.next,ρ,σ₁,q,rfl,mi.LW (t:=k8.toks) F.l F.c (λb hb=>by
     simp only[aB]at hb;subst hb;exact⟨lq.own.fresh (ly _),lq.own.free (ly _),_,hI,nT (by decide),nT (by decide)⟩) k,(lm.own.uO lV.own).B0 F.f k⟩
   refine mY (aw (DI lq.gs r q) (λw me lL=>?_) λ_ _ z=>z);refine lr λGp gk=>?_;obtain⟨I,fp,kX,unch,T,T',rfl,It,t0,hh,hu,G,p,fr⟩:=lL;have fr':∀b∈fp,s.heap.get? b=.none:=λb hb=>lm.none b (fr b hb);refine gk ?_;exact DU It (λz=>by contradiction) g rV x hf (LY S fr') ⟨lq.up p G,lm.own.uO p.own,λb hb=>DV (S.own.fresh (fr' b hb)) (lq.own.free (fr b hb)) (It.zW t0 b hb)⟩ t0 hu hh
end
section
open PySem PySem.W PySem.Calls PyProof.Rows PySem.SeqAt PySem.MeetsSeq PySem.W.FB PySem.W.KBy
variable {B:nX}{kU k7:List aD}{U σ₀ σ₁:kO}{s s₀ k8:Shared}{A:bm}{kQ:aD}{ρ ρ' nV:lK}{κ:nP}{k n:Nat}
noncomputable def se(sl:List (Str×Value))(p:Str×Value):List (Str×Value):=if(sl.lookup p.1).isNone then sl++[p]else sl
def FI{α β:Type}[BEq α]{x:α}:∀{l r:List (α×β)},(l++r).lookup x=(l.lookup x).or (r.lookup x):=by
 intro z9
 induction z9 with
 |nil=>
  intro r;simp
 |cons y9 l ih=>
  intro r;obtain⟨y,b⟩:=y9;refine J (cV ..) (J (aQ ..) (J (aQ ..) ?_))
  split
  ·rfl
  exact ih
def DW{x:Str}:∀(l sl:List (Str×Value)),(l.foldl se sl).lookup x=(sl.lookup x).or (l.lookup x):=by
 intro z9
 induction z9 with
 |nil=>
  intro sl;simp
 |cons p r ih=>
  intro sl;refine J (jh ..) (J (ih ..) (J (aQ ..) ?_));unfold se
  split
  ·rename_i h;refine J (FI ..) (J (aQ ..) (J (List.lookup_nil ..) ?_))
   induction hx:x==p.1 with
   |true=>
    have:=eq_of_beq hx;clear hx;subst this;rw[dL]at h;refine J (h ..) ?_;rfl
   |false=>rcases sl.lookup x with _|_<;>rfl
  rename_i h
  induction hx:x==p.1 with
  |true=>
   have:=eq_of_beq hx;clear hx;subst this;rcases hq:sl.lookup p.1 with _|v
   ·rw[hq]at h;exact absurd rfl h
   rfl
  |false=>rfl
def FJ(f:Str×Value->List (Str×Value)->fZ (ForInStep (List (Str×Value))))(hf:∀p sl,f p sl=pure (.yield (se sl p))):∀(l sl:List (Str×Value)),(forIn l sl f:fZ _)=pure (l.foldl se sl):=by
 intro z9
 induction z9 with
 |nil=>
  intro sl;exact rfl
 |cons p r ih=>
  intro sl;refine J (fu ..) (J (hf ..) (J (pure_bind ..) ?_));exact ih _
theorem uu:∀{ps:List Str}{vs:List Value},ps.length=vs.length->(∀(i:Nat) x v,ps[i]? =some x->vs[i]? =some v->f x=some (x,v))->ps.filterMap f=ps.zip vs
 |[],[],_,_=>rfl
 |p::ps,v::vs,hl,h=>by
  refine J (fF ..) (J (h 0 p v rfl rfl ..) ?_);refine(?_:(p,v)::_=(p,v)::ps.zip vs);exact J (uu (by simpa using hl) λi x w a b=>h (i+1) x w (by simpa using a) (by simpa using b) ..) rfl
 |[],_::_,hl,_=>by contradiction
 |_::_,[],hl,_=>by contradiction
theorem sf:∀{ps:List Str}{vs:List Value},ps.Nodup->∀{i:Nat}{x:Str}{v:Value},ps[i]? =some x->vs[i]? =some v->(ps.zip vs).lookup x=some v
 |[],_,_,_,_,_,h,_=>by simp at h
 |_::_,[],_,_,_,_,_,h=>by simp at h
 |p::ps,w::vs,nd,0,x,v,h,h'=>by
  simp at h h';subst h;subst h';refine(?_:((p,w)::ps.zip vs).lookup p=_);simp
 |p::ps,w::vs,nd,i+1,x,v,h,h'=>by
  have hn:=fq.mp nd;have h:ps[i]? =some x:=by simpa using h
  have sP:x≠p:=λe=>hn.1 (e▸bt h);refine(?_:((p,w)::ps.zip vs).lookup x=_);refine J (aQ ..) (J (beq_false_of_ne sP ..) ?_);exact sf hn.2 h (by simpa using h')
def L4{ps:List Str}{vs:List Value}(nd:ps.Nodup)(h:ps[i]? =some x)(h':vs.length<=i):(ps.zip vs).lookup x=.none:=by
 refine ri (List.lookup_eq_none_iff ..) ?_;rintro⟨y,w⟩ hm;obtain⟨j,hj⟩:=cP hm;rw[List.getElem?_zip_eq_some]at hj;simp only[bne_iff_ne,ne_eq];have hjl:=(aG.mp hj.2).1;intro e;have e:x=y:=by simpa using e
 clear hm;subst e;obtain⟨li,ei⟩:=aG.mp h;obtain⟨lj,ej⟩:=aG.mp hj.1;have:=(List.getElem_inj nd).mp (ei.trans ej.symm);exact nn 0x1010100b0b52120211003 rfl h' hjl this
structure xC(fd:dB)(ps:List Str):Prop where
 po:fd.params.posonlyargs=[]
 ar:fd.params.args.map (·.arg)=ps
 ko:fd.params.kwonlyargs=[]
 va:fd.params.vararg=.none
 kw:fd.params.kwarg=.none
def uP{vals ds:List Value}(P:xC fd ps)(nd:ps.Nodup)(h1:vals.length<=ps.length)(h2:ds.length<=ps.length)(h3:ps.length<=vals.length+ds.length){m:fZ (Option (Array Value))}:
  ∃k,bindArgs fd ⟨vals,[]⟩=seqItems? fd.defaults>>=k/\∀r:Option (Array Value),(r.getD #[]).toList=ds->k r=pure (ps.zip (vals++ds.drop (ds.length-(ps.length-vals.length)))):=by
 refine⟨_,rfl,λr hr=>?_⟩;refine lr λGp gk=>?_;obtain⟨po,ar,ko,va,kw⟩:=P;have hd:ds.drop (ds.length-ps.length)=ds:=by refine J (eQ h2 ..) ?_;rfl
 have hgt:decide (vals.length>ps.length)=false:=by simpa using h1
 have WT:List.filter (λn=>(kC n (ps.zip vals)).isNone) (List.take (ps.length-ds.length) ps)=[]:=by
  refine ri (List.filter_eq_nil_iff ..) ?_;intro x hx;obtain⟨i,hi⟩:=cP hx;rw[ed]at hi
  split at hi
  ·rename_i oX;have hv:i<vals.length:=by exact tD 0x101010131024a243121a003 rfl h3 oX (aA h2)
   refine J (sf nd hi (aT hv) ..) ?_;simp
  contradiction
 have WU:∀f:Str×Value->List (Str×Value)->fZ (ForInStep (List (Str×Value))),(∀p sl,f p sl=pure (.yield (se sl p)))->(forIn ((ps.drop (ps.length-ds.length)).zip ds) (ps.zip vals) f:fZ _)=pure (((ps.drop (ps.length-ds.length)).zip ds).foldl se (ps.zip vals)):=λf hf=>FJ f hf _ _;refine gk ?_;simp only[po,ar,ko,va,kw,hr,hd,hgt,WT,gI,bc,aJ,Option.isNone_none,gr,aY,if_false,List.isEmpty_nil,gq,List.forIn_nil,pure_bind];rw[WU _ (λp sl=>by
  unfold se;obtain⟨x,v⟩:=p;dsimp only
  split<;>rfl)]
 simp only[pure_bind,List.isEmpty_nil,gq,aY,if_false]
 congr 1
 refine uu (by simp;exact xm 0x110010100110051a22435a2403a2210a23 rfl (aA h1) (aA (j_.mpr h3)) (aA (cy ..))) λi x v hx hv=>?_;refine J (DW ..) ?_
 by_cases hi:i<vals.length
 ·rw[List.getElem?_append_left hi]at hv;refine J (sf nd hx hv ..) ?_;rfl
 refine J (L4 nd hx (by exact cF hi) ..) ?_;rw[cI (by exact cF hi),c_]at hv;have oX:=(aG.mp hx).1;have e1:(ps.drop (ps.length-ds.length))[i-(ps.length-ds.length)]? =some x:=by
  exact J (c_ ..) (J (show ps.length-ds.length+(i-(ps.length-ds.length))=i from by exact Nat.add_sub_cancel' (ah (kx.mpr h3) (cF hi))) hx)
 have e2:ds[i-(ps.length-ds.length)]? =some v:=by
  exact J (show i-(ps.length-ds.length)=ds.length-(ps.length-vals.length)+(i-vals.length)from by exact YI 0x100110010100110011010087a02268a2357a2465a2431a2210a25 rfl (aA (ah (kx.mpr h3) (cF hi))) (aA h2) (aA h1) (aA (j_.mpr h3)) (aA (cF hi))) hv
 refine J (sf (nd.sublist (eE _ _)) e1 e2 ..) ?_;rfl
variable {C:CT}
noncomputable abbrev xD:Obj:={cls:=.type "cell",data:=.cell .none}
def yP:∀(names:List (Str×NameKind)) (h:Heap) (acc:List (Str×hZ)) (x:Str) (c:hZ),(x,c)∈fC h.objs.size names acc->(x,c)∈acc\/((pushCells h names).get? c=some xD/\h.objs.size<=c):=by
 intro z9
 induction z9 with
 |nil=>
  intro _ _ _ _ hm;exact .inl hm
 |cons y9 r ih=>
  intro h acc x c hm;obtain⟨y,kd⟩:=y9;dsimp only[fC]at hm;dsimp only[pushCells]
  split at hm
  ·rename_i hk;refine J (if_pos hk ..) ?_;have sL:(x,c)∈fC (h.push xD).objs.size r ((y,h.objs.size)::acc):=J (cf ..) hm;clear hm;rcases ih (h.push xD) _ x c sL with z|⟨z,z'⟩
   ·clear sL;rcases aU.mp z with z|z
    ·cases z
     exact .inr ⟨ij _ _ _ _ (aP h rfl),aF _⟩
    exact .inl z
   rw[cf]at z';exact .inr ⟨z,mZ 0x1010011b0a01 rfl z'⟩
  rename_i hk;refine J (if_neg hk ..) ?_;exact ih h acc x c hm
def I0:∀(names:List (Str×NameKind)) (n:Nat) (acc:List (Str×hZ)) (x:Str) (c:hZ),(x,c)∈acc->(x,c)∈fC n names acc:=by
 intro z9
 induction z9 with
 |nil=>
  intro _ _ _ _ h;exact h
 |cons y9 r ih=>
  intro n acc x c h;obtain⟨y,kd⟩:=y9;dsimp only[fC]
  split
  ·exact ih _ _ x c (ay _ h)
  exact ih _ _ x c h
def I1:∀(names:List (Str×NameKind)) (n:Nat) (acc:List (Str×hZ)) (x:Str),(x,gV)∈names->∃c,(x,c)∈fC n names acc:=by
 intro z9
 induction z9 with
 |nil=>
  intro _ _ _ h;exact(bq h).elim
 |cons y9 r ih=>
  intro n acc x h;obtain⟨y,kd⟩:=y9;dsimp only[fC];rcases aU.mp h with h|h
  ·cases h
   refine J (if_pos (by decide) ..) ?_;exact⟨n,I0 r _ _ _ _ aj⟩
  split
  ·exact ih _ _ x h
  exact ih _ _ x h
def lookup_mem{α:Type}:∀{l:List (Str×α)}{x:Str}{c:α},(x,c)∈l->∃c',l.lookup x=some c':=by
 intro z9
 induction z9 with
 |nil=>intro x c h;contradiction
 |cons y9 r ih=>
  obtain⟨y,d⟩:=y9;intro x c h;refine J (aQ ..) ?_
  induction hx:x==y with
  |true=>exact⟨d,rfl⟩
  |false=>
   rcases aU.mp h with h|h
   ·(injection h with h;subst h);simp at hx
   exact ih h
noncomputable abbrev nO(fd:dB)(f L:Nat):aD:={scope:=fd.scope,locals:=L,globals:=cL,cells:=fC (L+1) fd.scope.names [],qual:=fd.qualname++".<locals>.",func:=some f,code:=fd.code,frame:=some L,builtins:=hO}
structure L5(fd:dB):Prop where
 sc:ux fd.scope=true
 free:∀(x:Str),(x,cq)∉fd.scope.names
 glob:fd.globals=cL
 clo:fd.closure=[]
 SI:fd.builtins=hO
 co:fd.scope.isCoroutine=false
 gen:fd.scope.isGenerator=false
noncomputable def yQ(h:Heap)(fd:dB):Heap:=pushCells (h.push {cls:=.type "frame",data:=.dict #[]}) fd.scope.names
def B3{h:Heap}{fd:dB}:∀b o,h.get? b=some o->(yQ h fd).get? b=some o:=λb o e=>ij _ _ _ _ (lG _ _ _ _ e)
def WV{fd:dB}{f:Nat}(G:Gs B kU U s)(F:L5 fd):St B (nO fd f s.heap.objs.size) (nO fd f s.heap.objs.size::kU) (ci fd.scope.names.length .none) U {s with heap:=yQ s.heap fd}:=by
 refine G.keepsK (t:=s.toks) (B3 (h:=s.heap) (fd:=fd)) λG' p=>?_;have EL:=F.sc;dsimp only[ux]at EL;simp only[aE,beq_iff_eq,aC,bu]at EL;obtain⟨⟨hk,Ww⟩,X'⟩:=EL;have hL:(yQ s.heap fd).get? s.heap.objs.size=some {cls:=.type "frame",data:=.dict #[]}:=ij _ _ _ _ (aP _ rfl);have hz:(s.heap.push {cls:=.type "frame",data:=.dict #[]}).objs.size=s.heap.objs.size+1:=cf ..;have G4:∀x c,(x,c)∈fC (s.heap.objs.size+1) fd.scope.names []->(yQ s.heap fd).get? c=some xD/\s.heap.objs.size+1<=c:=λx c hm=>by
  rcases yP fd.scope.names (s.heap.push {cls:=.type "frame",data:=.dict #[]}) [] x c (J (hz ..) hm)with z|⟨z,z'⟩
  ·exact(bq z).elim
  exact⟨z,by rw[hz]at z';exact z'⟩
 have ok:=cellsFrom_ok fd.scope.names (s.heap.push {cls:=.type "frame",data:=.dict #[]}) (s.heap.objs.size+1) [] ⟨λ_ _ hm=>(nomatch hm),List.Pairwise.nil⟩ (J (hz ..) (aF _));rw[hz]at ok;have rep:∀i,lK.get (ci fd.scope.names.length .none) i=.none:=λi=>by
  dsimp only[lK.get];refine J (List.getElem?_replicate ..) ?_
  split<;>rfl
 refine⟨G'.own,⟨hk,rfl,rfl,tj Ww,λx kd hx=>X' _ hx⟩,⟨by simp,⟨λ_=>.none,?_,?_⟩,?_,λi x kd hx _=>rep i⟩,⟨G.own.fresh (ly _),G.own.free (ly _),_,hL,.inl rfl,_,_,rfl⟩,?_,?_,?_,G'.gens,G'.os⟩
 ·exact xw (λb o e=>ij _ _ b o e) (Heap.Ns.new s.heap (.type "frame"))
 ·intro i x hx v hv;rw[rep]at hv;contradiction
 ·intro i x kd hx OS;have RR:kd=.cell:=by
   rcases OS with z|z
   ·exact z
   subst z;exact absurd (bt hx) (F.free x)
  clear OS;subst RR;obtain⟨c,hc⟩:=I1 fd.scope.names (s.heap.objs.size+1) [] x (bt hx);obtain⟨c',JY⟩:=lookup_mem hc;refine⟨⟨c',.none,JY,_,(G4 x c' (mem_of_lookup JY)).1,rfl⟩,λv hv=>?_⟩;rw[rep]at hv;contradiction
 ·intro x c hc;obtain⟨e,JU⟩:=G4 x c (mem_of_lookup hc);have hn:s.heap.get? c=.none:=be (mZ 0x1010011b0a01 rfl JU);exact⟨G.own.fresh hn,G.own.free hn,kb (cv (ba _) JU),_,_,e,rfl,rfl⟩
 ·intro x y c h1 h2;exact name_of_addr ok.apart (mem_of_lookup h1) (mem_of_lookup h2)
 intro e he;rcases aU.mp he with rfl|he
 ·exact⟨hk,_,_,rfl,G.own.fresh (ly _),G.own.free (ly _),hL,rfl,_,_,rfl⟩
 exact G'.kU e he
set_option backward.match.sparseCases true
def I2{M:Model}{f:Str×Value->PUnit->fZ (ForInStep PUnit)}(hf:∀n v u,f (n,v) u=(do fy kQ n v;pure (.yield ⟨⟩))){v:Value}{l:List (Str×Value)}{P:PUnit->Shared->Prop}{E':Value->Shared->Prop}
  (h:aq M A (fy kQ p v) (λ_ k8=>aq M A (forIn l ⟨⟩ f) P E' k8) E' s):aq M A (forIn ((p,v)::l) ⟨⟩ f) P E' s:=by
 refine J (fu ..) (J (hf ..) ?_);exact aa (aa (aw h (λ_ _ h=>ag h) λ_ _ z=>z))
set_option backward.match.sparseCases false in
theorem I3(f:Str×Value->PUnit->fZ (ForInStep PUnit))(hf:∀n v u,f (n,v) u=(do fy kQ n v;pure (.yield ⟨⟩)))(US:kQ.frame=some kQ.locals)(ρ':lK):
  ∀(ps:List Str) (pvs:List PV) (vs:List Value) (ρ:lK) (s:Shared),St B kQ kU ρ U s->lR s.heap pvs vs->qc kQ.scope.names ps pvs ρ=some ρ'->
   aq B.mod A (forIn (ps.zip vs) ⟨⟩ f) (λ_ s'=>St B kQ kU ρ' U s'/\mr B.H0 (oh kQ) U s.heap U s'.heap) n_ s:=by
 intro ps
 induction ps with
 |nil=>
  intro pvs vs ρ s S r h;clear r;rcases pvs with _|_
  ·obtain rfl:=af h;exact ag ⟨S,.refl ..⟩
  contradiction
 |cons p ps ih=>
  intro pvs vs ρ s S r h;rcases pvs with _|⟨pv,pvs⟩
  ·contradiction
  obtain⟨v,r7,r1,r2⟩:=lR.ni r;refine(?_:aq _ _ (forIn ((p,v)::ps.zip r7) ⟨⟩ f) _ _ _);refine I2 hf ?_;have step:∀i,(aq B.mod A (fy kQ p v) (SR B kQ kU (λnV σ₁=>nV=ρ.set i (some pv)/\σ₁=U) U s) n_ s)->qc kQ.scope.names ps pvs (ρ.set i (some pv))=some ρ'->
    aq B.mod A (fy kQ p v) (λ_ k8=>aq B.mod A (forIn (ps.zip r7) ⟨⟩ f) (λ_ s'=>St B kQ kU ρ' U s'/\mr B.H0 (oh kQ) U s.heap U s'.heap) n_ k8) n_ s:=by
   intro i hs hb;refine aw hs (λu k8 z9=>?_) λ_ _ z=>z;clear hs;obtain⟨nV,σ₁,⟨e1,e2⟩,lq,lm⟩:=z9;subst e1;subst e2;exact aw (ih pvs r7 _ k8 lq (r2.keep (S.Lv lm)) hb) (λ_ me z9=>by obtain⟨a,b⟩:=z9;exact⟨a,lm.uO b⟩) λ_ _ z=>z
  have h:(match ql p kQ.scope.names 0 with
   |some (i,.local)=>qc kQ.scope.names ps pvs (ρ.set i (some pv))
   |some (i,.cell)=>qc kQ.scope.names ps pvs (ρ.set i (some pv))
   |_=>.none)=some ρ':=h
  rcases hi:ql p kQ.scope.names 0 with _|⟨i,kd⟩<;>rw[hi]at h
  ·contradiction
  have hx:=(tF hi).2;rw[j9]at hx;rcases kd with _|_<;>try exact lx h
  ·exact step i (pY S hx (oR S.sS.nodup hx) r1 ⟨rfl,rfl⟩) h
  exact step i (yH US S hx (oR S.sS.nodup hx) r1 ⟨rfl,rfl⟩) h
def L6(G:Gs B kU U s)(F:L5 fd)(r:lR s.heap pvs vs)(hb:qc fd.scope.names ps pvs (ci fd.scope.names.length .none)=some ρ')
  (h:∀s',St B (nO fd f s.heap.objs.size) (nO fd f s.heap.objs.size::kU) ρ' U s'->mr B.H0 Nx U s.heap U s'.heap->Q (nO fd f s.heap.objs.size) s'):
  aq B.mod A (gx fd.scope fd.globals fd.closure (ps.zip vs) (fd.qualname++".<locals>.") (some f) fd.code .none fd.builtins) Q E' s:=by
 refine J (F.glob ..) (J (F.clo ..) (J (F.SI ..) ?_));simp only[gx,ku,aY,if_false];refine aa (wpAny_alloc ?_);refine aa (wpAny_layCells _ (λname kind cells=>by rcases hkc:kind==gV with _|_<;>simp[hkc]) _ _ _ _ ?_);refine J (show ({s with heap:=s.heap.push {cls:=.type "frame",data:=.dict #[]}}:Shared).heap.objs.size=s.heap.objs.size+1 from cf ..) ?_;have S:=WV (f:=f) G F;refine G.keepsK (t:=s.toks) (B3 (h:=s.heap) (fd:=fd)) λG' p=>?_;refine aa (mY (aw (I3 (kQ:=nO fd f s.heap.objs.size) _ (λ_ _ _=>rfl) rfl ρ' ps pvs vs _ {s with heap:=yQ s.heap fd} S (r.keep (TK.of_keeps B3)) hb) (λ_ s' ⟨a,b⟩=>ag (h s' a (p.wq b λc z=>?_))) λ_ _ z=>z));rcases z with z|⟨_,x,_,z⟩
 ·exact J (z ..) (ly _)
 obtain⟨_,_,_,_,_⟩:=S.cells x c z;have hz:(s.heap.push {cls:=.type "frame",data:=.dict #[]}).objs.size=s.heap.objs.size+1:=cf ..;rcases yP fd.scope.names (s.heap.push {cls:=.type "frame",data:=.dict #[]}) [] x c (J (hz ..) (mem_of_lookup z))with y|⟨_,y⟩
 ·exact(bq y).elim
 rw[hz]at y;exact be (dy y)
structure FnAt(B:nX)(K:List (Str×PV)×List (Str×Nat))(n:Nat)(f:Nat)(t:mG):Prop where
 at_:∃o fd body,B.H0.get? f=some o/\o.data=.func fd/\fd.body=.stmts body/\L5 fd/\xC fd t.ps/\fd.scope.names=t.names/\t.body=pH n ⟨fd.scope.names,K.1,K.2⟩ body/\B.H0.CodeRec fd.code fd.qualname/\
  ((fd.defaults=.none/\t.ds=[])\/∃T od vW m,fd.defaults=.ref T/\B.H0.get? T=some od/\od.data=.seq (c9 vW) m/\lR B.H0 t.ds vW)
 nd:t.ps.Nodup
 le:t.ds.length<=t.ps.length
 keep:jC B.pf (.ref f)=true
def G6(g:Good B)(ih:tV B C k n)(c:uH B C k)(T:FnAt B (B.ml,B.m0) n f t)
  (h:UG C B.tab t vs U Q E) (G:Gs B kU U s) (r:lR s.heap vs args) (a1:A.handled=.none) (a2:A.frames=some kU) (a3:A.depth+1+4*k<=900) (a4:A.units+3+60*k+n<=9000):
  gH B.mod A (.call (.ref f) ⟨args,[]⟩) (λr s'=>match r with|.ok (.ret v)=>PR B kU l_ Q U s v s'|.ok _=>False|.error e=>PX B kU .none E U s e s') s:=by
 refine lr λGp gk=>?_;obtain⟨h1,h2,ρ,hb,h⟩:=h;obtain⟨o,fd,body,ho,hd,L7,F,P,hnm,htb,Ot,ZI⟩:=T.at_;have zF:=G.own.base f o ho;have hlen:=r.length;have WW:A.depth<recursionLimit:=by
  refine(?_:A.depth<1000);exact mZ 0x103e83fb013843fb14d1b0aa01 rfl a3
 refine gk ?_;refine codeAny_call_function WW zF hd F.co F.gen L7 (by
  refine lr λGp gk=>?_;obtain⟨c,oc,vs,tq,e1,e2,e3⟩:=Ot;refine gk ?_;exact⟨c,oc,vs,tq,e1,G.own.base _ _ e2,e3⟩) ?_
 have main:∀vW,lR B.H0 t.ds vW->aq B.mod A.in1 (gx fd.scope fd.globals fd.closure (t.ps.zip (args++vW.drop (vW.length-(t.ps.length-args.length)))) (fd.qualname++".<locals>.") (some f) fd.code .none fd.builtins)
   (λkQ me=>me.heap.NoLimit/\gH B.mod A (.func body kQ) (λr s'=>match r with|.ok (.ret v)=>PR B kU l_ Q U s v s'|.ok _=>False|.error e=>PX B kU .none E U s e s') me) (λe s'=>PX B kU .none E U s e s') s:=by
  intro vW rd;have rd':=rd.keep (TK.of_keeps G.own.base);have UT:=rd.length;have rf:lR s.heap (CU t vs) (args++vW.drop (vW.length-(t.ps.length-args.length))):=by
   dsimp only[CU];refine J (UT ..) (J (hlen ..) ?_);exact r.app (rd'.drop _)
  refine L6 G F rf (J (hnm ..) hb) λme mi lV=>⟨g.lim.keeps λb o e=>mi.own.base b o e,codeAny_func ?_⟩;have TH:(A.deeper (nO fd f s.heap.objs.size)).frames=some (nO fd f s.heap.objs.size::kU):=jS a2;have nm:mB ⟨fd.scope.names,B.ml,B.m0⟩ (nO fd f s.heap.objs.size):=λi x kd h=>⟨kd,h,.inl rfl,λ_=>rfl⟩;have ak:Kz k n (nO fd f s.heap.objs.size::kU) (A.deeper (nO fd f s.heap.objs.size)):=by
   refine⟨a1,TH,?_,?_⟩
   ·refine(?_:A.depth+1+4*k<=900);exact mZ 0x103843fb14d1b0aa03843fb14d1b0aa01 rfl a3
   refine(?_:A.units+3+60*k+n<=9000);exact nn 0x1023284fb213c2fd3b0aaa023284fb213c2fd3b0aaa01 rfl a4
  have x:Cx B C k n ⟨fd.scope.names,B.ml,B.m0⟩ (nO fd f s.heap.objs.size) (nO fd f s.heap.objs.size::kU) (A.deeper (nO fd f s.heap.objs.size)):=⟨g,nm,rfl,rfl,ak,c,_,aj,rfl⟩;have fresh:∀b,oh (nO fd f s.heap.objs.size) b->s.heap.get? b=.none:=λb z=>by
   rcases z with z|⟨_,y,_,z⟩
   ·exact J (z ..) (ly _)
   have hz:(s.heap.push {cls:=.type "frame",data:=.dict #[]}).objs.size=s.heap.objs.size+1:=cf ..;rcases yP fd.scope.names (s.heap.push {cls:=.type "frame",data:=.dict #[]}) [] y b (J (hz ..) (mem_of_lookup z))with q|⟨_,q⟩
   ·exact(bq q).elim
   rw[hz]at q;exact be (dy q)
  have tail:∀{ρ' kP s'},St B (nO fd f s.heap.objs.size) (nO fd f s.heap.objs.size::kU) ρ' kP s'->Gs B kU kP s':=λS=>⟨S.own,λe he=>S.kU e (ay _ he),S.gens,S.os⟩;rw[htb]at h;refine aw (ih x rfl mi h) (λfl s' z9=>?_) λe s' hx=>?_;obtain⟨ZJ,ρ',kP,q,TI,S',p'⟩:=z9
  ·have pp:=lV.wq p' fresh;rcases ZJ with _|p
   ·change fl=.next at TI;subst TI;exact⟨.none,kP,q,Rv.none _,tail S',pp⟩
   obtain⟨v,rfl,rv⟩:=TI;exact⟨p,kP,q,rv,tail S',pp⟩
  dsimp only[leaving];refine aa (aw hx (λ_ vG z9=>?_) λ_ _ z=>z.elim);refine lr λGp gk=>?_;obtain⟨xx,ρ',kP,q,S',p',fl⟩:=z9;refine gk ?_;refine to (λb z=>mi.own.fresh z) fl λX h' ch xo xl ZJ=>?_;have pp:=lV.wq p' fresh;have lows:∀b,me.heap.get? b=.none->s.heap.get? b=.none:=lV.none;refine⟨xx,kP,q,(tail S').chg (t:=vG.toks) ch xo,pp.wq ch.WL λb z=>lows b (xl b z),ZJ.low lows⟩
 rcases ZI with⟨e1,e2⟩|⟨Td,od,vW,m,e1,e2,e3,e4⟩
 ·obtain⟨kk,k1,k2⟩:=uP (ds:=[]) P T.nd (nn 0x10101200221002 rfl h1 hlen:args.length<=t.ps.length) (aO _) (by rw[e2]at h2;simpa [hlen]using h2) (m:=pure .none);refine J (k1 ..) (J (e1 ..) ?_);refine aa ?_;refine(?_:aq _ _ (notAStandIn .none>>=λ_=>pure cM) _ _ _);refine aa (ag (ag ?_));refine J (k2 .none rfl ..) ?_;exact ag (main [] (J (e2 ..) .nil))
 have UT:=e4.length;obtain⟨kk,k1,k2⟩:=uP (ds:=vW) P T.nd (nn 0x10101200221002 rfl h1 hlen:args.length<=t.ps.length) (J (UT ..) T.le) (tD 0x11010043a0024213221a003 rfl h2 hlen UT) (m:=pure .none);refine J (k1 ..) (J (e1 ..) ?_);refine aa (gu (G.own.base _ _ e2) e3 ?_);refine J (k2 (some vW.toArray) rfl ..) ?_;exact ag (main vW e4)
def PP(g:Good B)(ih:tV B C k n)(c:uH B C k)(T:FnAt B (B.ml,B.m0) n f t)(hn:n<=57)
  (h:UG C B.tab t vs U Q E) (G:Gs B kU U s) (r:lR s.heap vs args) (a:Kz (k+1) 0 kU A):aq B.mod A (call (.ref f) args) (PR B kU l_ Q U s) (PX B kU .none E U s) s:=by
 have h1:=a.depth;have h2:=a.units;exact g9 (G6 g ih c T h G r a.handled a.frames (mZ 0x103843fb14d1b0aa03843fb1b1a4d0a01 rfl h1) (nn 0x101023284fb023c2fd3b1aaa023284fb0b1b2a3c2fd1aa0392fb002 rfl hn h2))
structure L8(B:nX)(cl f:Nat):Prop where
 makes:makesIn B.pf cl=true
 init:fY B.pf (.ref cl) "__init__"=some (some (.ref f))
 fn:typeIn B.pf (.ref f)=some (.type "function")
 keep:jC B.pf (.ref cl)=true
def wQ(C:Nat)(kY:List Value)(kw:List (Str×Value)):(fK "type.__call__" ⟨.ref C::kY,kw⟩).weight=1:=by kernel_rfl
def yR(C:Nat)(kY:List Value)(kw:List (Str×Value)):(fK "type.__call__" ⟨.ref C::kY,kw⟩).cUnits=1:=by kernel_rfl
theorem L9(g:Good B)(ih:tV B C k n)(c:uH B C k)(X:L8 B cl f)(T:FnAt B (B.ml,B.m0) n f t)(hn:n<=55)
  (h:OJ C B.tab cl t vs U Q E) (G:Gs B kU U s) (r:lR s.heap vs args) (a:Kz (k+1) 0 kU A):aq B.mod A (call (.ref cl) args) (PR B kU l_ Q U s) (PX B kU .none E U s) s:=by
 refine g9 ?_;have h1:=a.depth;have h2:=a.units;have K:=g.KZ G.own;obtain⟨hh,gg,dd,tt,oo⟩:=s;refine make_core (makes_of K X.makes) (f_ K X.init) (λself=>bind_fn K self X.fn) (.inl rfl) ?_;have UU:hh.get? hh.objs.size=.none:=ly _;have Zg:hh.get? (hh.objs.size+1)=.none:=be (sR 0x1b0a000 rfl);have hz:(hh.push iP).objs.size=hh.objs.size+1:=cf ..;refine lr λGp gk=>?_;obtain⟨f1,G1,p1⟩:=G.fresh (t:=tt) (mo:=.dict []) UU (lG hh iP) (aP hh (o:=iP) rfl) ⟨[],0,rfl,rfl,by simp,by simp⟩;obtain⟨f2,G2,p2⟩:=G1.fresh (t:=tt) (mo:=.inst cl hh.objs.size) (a:=hh.objs.size+1) (o:=instObj cl hh.objs.size) (rr (hz ..) (ly _)) (lG (hh.push iP) (instObj cl hh.objs.size)) (by
  have:=aP (hh.push iP) (o:=instObj cl hh.objs.size) rfl;rw[hz]at this;exact this) rfl
 have P:mr B.H0 Nx U hh _ ((hh.push iP).push (instObj cl hh.objs.size)):=p1.app p2;have hP:=h hh.objs.size (hh.objs.size+1) f1 (G.own.free Zg) (sR 0x1000b0b51b0a021 rfl);refine gk ?_;clear Gp gk;refine codeAny_mono (G6 g ih c T hP G2 (.cons (Rv.ref _ _) (r.keep (TK.of_keeps λb o e=>lG _ _ _ _ (lG _ _ _ _ e)))) a.handled ?_ ?_ ?_) λr s' z=>?_
 ·exact a.frames
 ·refine(?_:A.depth+(fK "type.__call__" _).weight+1+4*k<=900);exact J (wQ ..) (mZ 0x103843fb14d1b1b0aaa03843fb1b1a4d0a01 rfl h1)
 ·refine(?_:A.units+(fK "type.__call__" _).cUnits+3+60*k+n<=9000);exact J (yR ..) (nn 0x101023284fb023c2fd3b1b1aaaa023284fb0b1b2a3c2fd1aa0372fb002 rfl hn h2)
 rcases r with e|fl
 ·exact PX.up (s₀:=⟨hh,gg,dd,tt,oo⟩) P z
 induction fl with
 |ret v=>
  refine lr λGp gk=>?_;obtain⟨pv,kP,⟨rfl,q⟩,rv,G',p'⟩:=z;refine gk ?_;clear Gp gk;exact⟨Rv.of_none rv,.ref (hh.objs.size+1),kP,q,Rv.ref _ _,G',P.app p'⟩
 |next=>exact z.elim
 |brk=>exact z.elim
 |cont=>exact z.elim
end
section
open PySem
variable {A:bm}
section
variable {prog:Program}{w:eY}{R:Result->Shared->Prop}{h:Heap}{g:Array GenState}{d:Drawn}{t:Nat}{os:eB}{E:Value->Shared->Prop}
variable {nm q:Str}{C N:hZ}{bs tl:List Value}{z0:Bool}{sn:List Str}{sub:List Value}{ab:Bool}{col:Option Bool}{dd:Option hZ}{k0 k1 k2 k3 k5:Option Value}
structure B4(tl:List Value):Prop where
 exc:tl.contains (.type "Exception")=true
 base:tl.contains (.type "BaseException")=true
 attr:tl.contains (.type "AttributeError")=false
 name:tl.contains (.type "NameError")=false
noncomputable abbrev oL(C T:Nat):Obj:={cls:=.ref C,data:=.fields #[.ref T,.none,.none,.none,.bool false,.none]}
def PQ(X:B4 tl){kY:List Value}(hC:h.get? C=some (excClassObj nm q C N bs tl z0 sn sub ab col dd k0 k1 k2 k3 k5 "Exception.__new__"))(hr:kY.length<=eT)
  (hq:R (.ok (.ret (.ref (h.objs.size+1)))) ⟨(h.push {cls:=.type "tuple",data:=.seq kY.toArray}).push (oL C h.objs.size),g,d,t,os⟩):
  gH (fM prog w) A (.call (.builtin "Exception.__new__") ⟨.ref C::kY,[]⟩) R ⟨h,g,d,t,os⟩:=by
 have F:=jf;have i1:(bP C::tl).contains (.type "Exception")=true:=J (bO ..) (J (X.exc ..) (J (gK ..) rfl));have i2:(bP C::tl).contains (.type "AttributeError")=false:=by refine J (bO ..) (J (X.attr ..) ?_);rfl
 have i3:(bP C::tl).contains (.type "NameError")=false:=by refine J (bO ..) (J (X.name ..) ?_);rfl
 have aao:=F.ends;have aap:=F.noStar;refine codeAny_call_builtin_code (Code.quiet_builtin _ F.quiet) ?_
 ·dsimp only[fB];rw[F.newKind,F.newSplit];try dsimp only
  try rw[F.newRow]
  try dsimp only
  repeat (first|refine cR hC ?_|(refine em hC ?_;rw[i1])|refine wpAny_staticBase_exc hC ?_|refine wpAny_madeBy_exc hC ?_|simp only[bne_self_eq_false,aY,if_false]|wp_step)
  refine codeAny_builtinAt F.entry ?_;unfold Builtin.«BaseException.__new__»;refine wpAt_bind ?_;refine(?_:wpAt _ _ _ (stack>>=_) _ _ _);refine wpAt_bind (wpAt_stack λp below=>wpAt_of_wpAny ?_)
  wp_walk
  refine wpAt_of_wpAny ?_;refine J (F.owner ..) ?_
  repeat (first|with_reducible refine wpAny_madeHere_exc F.canon hC ?_|with_reducible refine cR hC ?_|(with_reducible refine em hC ?_;first|rw[i1]|rw[i2]|rw[i3])|wp_step)
  refine(?_:R _ _);refine J (cf ..) ?_;exact hq
end
end
section
open PySem PySem.W
section
variable {A:bm}{prog:Program}{w:eY}{R:Result->Shared->Prop}{h:Heap}{g:Array GenState}{d:Drawn}{t:Nat}{os:eB}
variable {nm q:Str}{C N:hZ}{bs tl:List Value}{z0:Bool}{sn:List Str}{sub:List Value}{ab:Bool}{col:Option Bool}{dd:Option hZ}{k0 k1 k2 k3 k5:Option Value}
theorem L_(X:B4 tl){kY:List Value}{fI:hZ}(hC:h.get? C=some (excClassObj nm q C N bs tl z0 sn sub ab col dd k0 k1 k2 k3 k5 "Exception.__new__"))(hr:kY.length<=eT)
  (hi:PySem.W.Looks (fM prog w) h (jX (.ref C) "__init__") (some (.ref fI))) (hb:∀self,PySem.W.Looks (fM prog w) h (bindSpecial (.ref fI) self) (.ref fI,[self]))
  (hq:gH (fM prog w) (A.under (.builtin "type.__call__" ⟨.ref C::kY,[]⟩)) (.call (.ref fI) ⟨.ref (h.objs.size+1)::kY,[]⟩) (PySem.W.InitBack (h.objs.size+1) R)
   ⟨(h.push {cls:=.type "tuple",data:=.seq kY.toArray}).push (oL C h.objs.size),g,d,t,os⟩):
  gH (fM prog w) A (.call (.ref C) ⟨kY,[]⟩) R ⟨h,g,d,t,os⟩:=by
 have f1:=tc_lookup;have f2:=tc_bind (.ref C);have hT:(⟨h,g,d,t,os⟩:Shared).TypeIs (.ref C) "type":=⟨_,hC,rfl⟩;refine codeAny_of_tree ?_;refine(?_:aq _ _ (callAny (.ref C) _) _ _ _)
 repeat (any_goals (first|assumption|with_reducible refine cR hC ?_|wp_step))
 refine⟨rfl,?_⟩;refine codeAny_call_builtin_at (Code.quiet_builtin _ (by decide+kernel)) entry_typeCall (wpAny_check_type_call_sub hC ?_)
 repeat (first|with_reducible refine cR hC ?_|with_reducible refine wpAny_madeBy_exc hC ?_|wp_step)
 refine PQ X hC hr ?_;refine(?_:aq _ _ _ _ _ _);have kp:∀b o,h.get? b=some o->((h.push {cls:=.type "tuple",data:=.seq kY.toArray}).push (oL C h.objs.size)).get? b=some o:=λb o e=>cg _ (cg _ e);have hx:((h.push {cls:=.type "tuple",data:=.seq kY.toArray}).push (oL C h.objs.size)).get? (h.objs.size+1)=some (oL C h.objs.size):=by heap_get
 have t1:fo (fM prog w) ((h.push {cls:=.type "tuple",data:=.seq kY.toArray}).push (oL C h.objs.size)) (i_ (.ref (h.objs.size+1))) (.ref C):=(fo.ld hx).andThen .now;have hcC:(bP C::tl).contains (.ref C)=true:=by simp
 have i1:=hi.keeps kp;have b1:=(hb (.ref (h.objs.size+1))).keeps kp;have WX:=kp _ _ hC;have s1:fo (fM prog w) ((h.push {cls:=.type "tuple",data:=.seq kY.toArray}).push (oL C h.objs.size)) (isSubtype (.ref C) (.ref C)) true:=by
  intro A' Q E s k q;obtain⟨hh,g',d',t',o'⟩:=s;refine em (k _ _ WX) ?_;exact J (hcC ..) q
 have inst:fo (fM prog w) ((h.push {cls:=.type "tuple",data:=.seq kY.toArray}).push (oL C h.objs.size)) (jb (.ref (h.objs.size+1)) (.ref C)) true:=t1.andThen s1;have sp:fo (fM prog w) ((h.push {cls:=.type "tuple",data:=.seq kY.toArray}).push (oL C h.objs.size)) (specialOf (.ref (h.objs.size+1)) "__init__") (some (.ref fI)):=t1.andThen i1;refine aa (inst.here ?_);simp only[gq,aY,if_false];refine aa (ax ?_);dsimp only[callSpecial?];refine aa (sp.here ?_);dsimp only;refine ax (aa (b1.here ?_));refine aa (g9 (codeAny_mono hq λr s' z=>?_));rcases r with e|fl
 ·exact z
 induction fl with
 |ret v=>
  obtain⟨rfl,z⟩:=z;exact ag (ag z)
 |next=>exact z.elim
 |brk=>exact z.elim
 |cont=>exact z.elim
end
end
section
open PySem PySem.W PySem.Calls PyProof.Rows PySem.SeqAt PySem.MeetsSeq PySem.W.FB PySem.W.KBy
open Builtin Builtin.ObjectAttr
variable {B:nX}{kU k7:List aD}{U σ₀ σ₁:kO}{s s₀ k8:Shared}{A:bm}{kQ:aD}{ρ ρ' nV:lK}{κ:nP}{k n:Nat}
def pO{l:List Value}(h:tE l=true):(∃c r,l=.ref c::r/\tE r=true)\/l=[.type "Exception",.type "BaseException",.type "object"]:=by
 rcases l with _|⟨v,r⟩
 ·exact ft h
 rcases cA.mp h with h|h
 ·obtain⟨h1,h2⟩:=az.mp h;rcases v with _|_<;>first|exact ft h1|exact .inl ⟨_,_,rfl,h2⟩
 exact .inr (eq_of_beq h)
def FK(self:Value)(n:Nat):∀{l:List Value},l.length<=n->tE l=true->refuseLoop self "__setattr__" l=pure ():=by
 induction n with
 |zero=>
  intro l hn h;rcases pO h with⟨c,r,rfl,_⟩|rfl
  ·exact absurd hn (h_ _)
  exact jw.passes self
 |succ n ih=>
  intro l hn h;rcases pO h with⟨c,r,rfl,h'⟩|rfl
  ·exact J (refuseLoop_ref ..) (ih (eK hn) h')
  exact jw.passes self
def PS(n:Nat):∀{l:List Value},l.length<=n->tE l=true->l.contains (.type "object")=true/\l.isEmpty=false:=by
 induction n with
 |zero=>
  intro l hn h;rcases pO h with⟨c,r,rfl,_⟩|rfl
  ·exact absurd hn (h_ _)
  exact⟨by decide,rfl⟩
 |succ n ih=>
  intro l hn h;rcases pO h with⟨c,r,rfl,h'⟩|rfl
  ·exact⟨J (bO ..) (J (ih (eK hn) h').1 (J (gK ..) rfl)),rfl⟩
  exact⟨by decide,rfl⟩
def DX{K:Frag}{x C:Nat}{ox:Obj}{od:Option Obj}{name:Str}{tk:gN}{v:Value}{R:Result->Shared->Prop}(X:K.In s.heap)(I:InstAt s.heap x ox C od)(hp:excIn K C=true)(ht:fY K (.ref C) name=some .none)
  (h:∀cd,clsIn K C=some cd->cd.hasDict=true->aq B.mod A.in1 (storeInOwnDict (.ref x) (.ref C) (.str name tk) name v false)
   (λfin s'=>match fin with|.done f=>R (.ok f) s'|.again c'=>c'.quiet=true/\gH B.mod A c' R s') (λe s'=>R (.error e) s') s):
  gH B.mod A (.call (.builtin "object.__setattr__") ⟨[.ref x,.str name tk,v],[]⟩) R s:=by
 have SF:=PySem.F.store_object;refine lr λGp gk=>?_;obtain⟨cd,hc,ho⟩:=any_some hp;rw[aE]at ho;obtain⟨e1,e2⟩:=PS _ (aF _) ho.2;have sub:fo B.mod s.heap (jb (.ref x) (.type "object")) true:=I.type.andThen (looks_mroIn X (by dsimp only[mroIn];rw[hc,Option.bind_some,if_neg (by rw[e2];decide),e1]));refine gk ?_;refine iA SF.slot.plain SF.entry (@check_slot B.mod _ _ s "object.__setattr__" "object" "__setattr__" (.ref x) [.str name tk,v] [] _ SF.kind SF.split sub (SF.args (.ref x) (.str name tk) v) ?_);have hm:fo B.mod s.heap (mroOf (.ref C)) cd.mro:=(iC X hc).andThen .now;rw[osa_eq,refuse_eq];refine aa (aa (I.type.here (aa (hm.here ?_))));refine J (FK _ _ (aF _) ho.2) ?_;refine ag (aa (I.type.here (aa ((f_ X ht).here (aa (ag ?_))))));exact h cd hc ho.1
def DY{M:Model}{P:Params}(hP:M.w.params=P){d:Nat}{nm:NL}{tk:gN}{v:Value}{p:PV}{es:List (NL×PV)}{l:List bY}{n:Nat}{Q:Fin->Shared->Prop}{E':Value->Shared->Prop}(hd:s.heap.get? d=some (eZ l n))(r:oy P s.heap es l)(rv:Rv s.heap p v)(hz:es.length<1000)
  (h:∀h' l' n',h'.get? d=some (eZ l' n')->oy P s.heap (xQ nm p es) l'->bR d s.heap h'->Q (.done (.ret .none)) {s with heap:=h',toks:=s.toks+1}):aq M A (storeInDict d (.str (sk nm) tk) (sk nm) v) Q E' s:=by
 dsimp only[storeInDict,newKeyGuard];refine aa (ag (aa ?_));dsimp only[nsSet];refine aa (aa (wpAny_askSetting (ag (aa (f9 (aa (gw hd ?_)))))));dsimp only;have c:(!l.toArray.any (·.key.isStr (sk nm))&&l.toArray.any (·.refKey))=false:=by
  exact rr (gz ..) (rr (gz ..) (J (tg (k:=nm) r).2.2 (J (fX ..) rfl)))
 refine J (aRefKeyMayBeTheName_at ..) (J (c ..) ?_);refine wpAny_updatePart hd ?_;have he:(s.heap.update d (Obj.putName (sk nm) (cC M.w.params (sk nm)) (.str (sk nm) s.toks) v)).get? d=some (eZ (putL (sk nm) (cC M.w.params (sk nm)) (.str (sk nm) s.toks) v l) (putN (sk nm) l n)):=by
  refine rr (jk ..) ?_;exact bp _ hd (by refine J (jk ..) ?_;rfl)
 have hl:(putL (sk nm) (cC M.w.params (sk nm)) (.str (sk nm) s.toks) v l).length<=1000:=by
  have e:=DC (vE (P:=P) (k:=nm) (t:=s.toks) rv r);refine J (hP ..) ?_;have:=xv nm p es;exact nn 0x1010103e83fb101b0a202123e83fb013 rfl hz e this
 refine aa (wpAny_lookBehind he (pastItsLine_dict (J (bG ..) (J (sizeLine_eq ..) (sR 0x101b10000007fba003e83fb001 rfl hl)))) ?_);exact ag (h _ _ _ he (J (hP ..) (vE rv r)) (jp ..))
def Ma{K:Frag}{x C:Nat}{vs:Array Value}{sl:Array (Option Value)}{nm:NL}{p:PV}{v:Value}{Q:Unit->Shared->Prop}{E':Value->Shared->Prop}(X:K.In s.heap)(hp:rC K C (sk nm)=true)(hx:s.heap.get? x=some ⟨.ref C,.none,.fields vs,sl⟩)(rv:Rv s.heap p v)
  (h:∀h' d l' n' tk,s.heap.get? d=.none->d≠x->h'.get? x=some ⟨.ref C,some d,.fields vs,sl⟩->h'.get? d=some (eZ l' n')->oy B.w.params h' [(nm,p)] l'->(∀b o,b≠x->s.heap.get? b=some o->h'.get? b=some o)->Q () {s with heap:=h',toks:=tk}):
  aq B.mod A (setAttr (.ref x) (sk nm) v) Q E' s:=by
 unfold rC at hp;simp only[aE,beq_iff_eq]at hp;obtain⟨⟨p1,p2⟩,p3⟩:=hp;have I:InstAt s.heap x ⟨.ref C,.none,.fields vs,sl⟩ C .none:=⟨hx,rfl,rfl,trivial⟩;refine set_plain X I p1 (DX (s:={s with toks:=s.toks+1}) X I p2 p3 λcd hc hd=>?_);refine aa (ag (aa (aa (gw hx (aa ((iC X hc).at ?_))))));refine J (hd ..) ?_;have Ye:x≠s.heap.objs.size:=ka (iQ hx);have Mb:(s.heap.push {cls:=.type "dict",data:=.dict #[]}).get? x=some ⟨.ref C,.none,.fields vs,sl⟩:=lG _ _ _ _ hx
 show aq _ _ (alloc {cls:=.type "dict",data:=.dict #[]}>>=λd=>update x (λo=>{o with dict:=some d})>>=λ_=>pure (some d)) _ _ _
 refine aa (wpAny_alloc (aa (wpAny_update Mb (ag ?_))));have Mc:((s.heap.push {cls:=.type "dict",data:=.dict #[]}).update x λo=>{o with dict:=some s.heap.objs.size}).get? x=some ⟨.ref C,some s.heap.objs.size,.fields vs,sl⟩:=bp _ Mb rfl;have G7:((s.heap.push {cls:=.type "dict",data:=.dict #[]}).update x λo=>{o with dict:=some s.heap.objs.size}).get? s.heap.objs.size=some (eZ [] 0):=(fD _ _ _ _ Ye.symm).trans (aP _ rfl);have al:∀b o,b≠x->s.heap.get? b=some o->((s.heap.push {cls:=.type "dict",data:=.dict #[]}).update x λo=>{o with dict:=some s.heap.objs.size}).get? b=some o:=λb o nb e=>(fD _ _ _ _ nb).trans (lG _ _ _ _ e);have tk:TK s.heap ((s.heap.push {cls:=.type "dict",data:=.dict #[]}).update x λo=>{o with dict:=some s.heap.objs.size}):=λb kX z9=>by clear Q h I Ye Mb Mc G7;obtain⟨m,z⟩:=z9;exact⟨m,al b _ (λq=>by
  clear al;subst q;have z:s.heap.get? b=some _:=z;rw[hx]at z;cases z) z⟩
 dsimp only;generalize ((s.heap.push {cls:=.type "dict",data:=.dict #[]}).update x λo=>{o with dict:=some s.heap.objs.size})=h2 at Mc G7 al tk ⊢;refine DY (P:=B.w.params) rfl (es:=[]) (l:=[]) (n:=0) (s:={s with heap:=h2,toks:=s.toks+1}) G7 rfl (rv.keep tk) (by simp) λh' l' n' e1 e2 sb=>?_;have ZK:TK h2 h':=λb kX z9=>by obtain⟨m,z⟩:=z9;exact⟨m,(sb.2 b (λq=>by
  subst q;have z:h2.get? _=some _:=z;rw[G7]at z;exact absurd (congrArg Obj.cls (af z)) (nT (by decide)))).trans z⟩
 refine h h' s.heap.objs.size l' n' _ (ly _) Ye.symm ((sb.2 x Ye).trans Mc) e1 (oy.keep ZK e2) λb o nb e=>?_;exact(sb.2 b (λq=>by clear nb;subst q;rw[ly]at e;contradiction)).trans (al b o nb e)
def Md{K:Frag}{x C d:Nat}{vs:Array Value}{sl:Array (Option Value)}{nm:NL}{p:PV}{v:Value}{es:List (NL×PV)}{l:List bY}{m:Nat}{Q:Unit->Shared->Prop}{E':Value->Shared->Prop}(X:K.In s.heap)(hp:rC K C (sk nm)=true)(hx:s.heap.get? x=some ⟨.ref C,some d,.fields vs,sl⟩)
  (hd:s.heap.get? d=some (eZ l m)) (r:oy B.w.params s.heap es l) (hz:es.length<1000) (rv:Rv s.heap p v)
  (h:∀h' l' n' tk,h'.get? d=some (eZ l' n')->oy B.w.params h' (xQ nm p es) l'->bR d s.heap h'->Q () {s with heap:=h',toks:=tk}):
  aq B.mod A (setAttr (.ref x) (sk nm) v) Q E' s:=by
 unfold rC at hp;simp only[aE,beq_iff_eq]at hp;obtain⟨⟨p1,p2⟩,p3⟩:=hp;have I:InstAt s.heap x ⟨.ref C,some d,.fields vs,sl⟩ C (some (eZ l m)):=⟨hx,rfl,rfl,hd⟩;refine set_plain X I p1 (DX (s:={s with toks:=s.toks+1}) X I p2 p3 λcd hc Ot=>?_);refine aa (ag (aa (aa (gw hx (aa ((iC X hc).at ?_))))));refine J (Ot ..) ?_;refine ag (a:=some d) ?_;refine DY (P:=B.w.params) rfl (s:={s with toks:=s.toks+1}) hd r rv hz λh' l' n' e1 e2 sb=>?_;have ZK:TK s.heap h':=λb kX ⟨j,z⟩=>⟨j,(sb.2 b (λq=>by
  clear x vs sl Q hx h I h' n' e1 sb;subst q;have z:s.heap.get? _=some _:=z;rw[hd]at z;exact absurd (congrArg Obj.cls (af z)) (nT (by decide)))).trans z⟩
 exact h h' l' n' _ e1 (oy.keep ZK e2) sb
end
section
open PySem PySem.W PySem.Calls
section
variable {prog:Program}{w:eY}{A:bm}{E:Value->Shared->Prop}{s:Shared}{K:Frag}
def PU(K:Frag):findCls K (.type "Exception") (.type "type") "__init__"=some (.val (.builtin "Exception.__init__")):=by kernel_rfl
def Me(X:K.In s.heap)(h:Q (.builtin "Exception.__init__",[]) {s with toks:=s.toks+1}):aq (fM prog w) A (fA (.type "Exception") "__init__" pl) Q E s:=by
 have hs:Manifest.isStub "Exception"=false:=by decide+kernel
 have ht:i_ (.type "Exception")=pure (.type "type"):=by kernel_rfl
 have WY:jz (.type "Exception")=pure none:=by unfold jz;dsimp only;refine J (hs ..) ?_;rfl
 have L0:fo (fM prog w) s.heap (i_ (.type "Exception")) (.type "type"):=fo.of_pure ht;have LO:fo (fM prog w) s.heap (jz (.type "Exception")) none:=fo.of_pure WY;have hg:fY K (.type "type") "__getattribute__"=some (some (.builtin "type.__getattribute__")):=type_tga;dsimp only[fA,specialOf];refine aa (aa (L0.here ((f_ X hg).here ?_)));dsimp only;refine J (if_pos canon_tga ..) ?_;refine aa (aw (Q:=λv=>Q (v,[])) (E:=E) ?_ (λ_ _ z=>ag z) λ_ _ z=>z);exact cls_open X LO L0 hg (looks_hook X (r:=none) (by rfl)) (by refine(?_:subIn K _ _=_);rfl) (PU K)
  (ag (by refine(?_:aq _ _ (handedOut (.builtin "Exception.__init__")) _ _ _);exact J (handedOut_of (by decide+kernel) ..) (ag h)))
def I4(X:K.In s.heap)(hm:mroIn K C (.type "Exception")=some true)(he:s.heap.get? e=some oe)(hc:oe.cls=.ref C)(hd:oe.data=.fields vs)(h0:vs[0]? =some (.ref t0))
  (h:Q .none {s with heap:=(s.heap.push {cls:=.type "tuple",data:=.seq #[v]}).update e (Obj.mapFields (·.setIfInBounds 0 (.ref s.heap.objs.size)))}):aq (fM prog w) A (call (.builtin "Exception.__init__") [.ref e,v]) Q E s:=by
 have F:=jf;have ty:fo (fM prog w) s.heap (i_ (.ref e)) (.ref C):=hc▸(fo.ld he).andThen .now;have inst:fo (fM prog w) s.heap (jb (.ref e) (.type "Exception")) true:=ty.andThen (looks_mroIn X hm);have Ae:∀{A':bm}{Q':Unit->Shared->Prop}{E':Value->Shared->Prop},Q' () s->aq (fM prog w) A' (fB "Exception.__init__" ⟨[.ref e,v],[]⟩) Q' E' s:=by
  intro A' Q' E' q;simp only[fB,F.initKind,F.initSplit,F.initRow];refine aa (inst.here ?_);simp only[gq,aY,if_false];obtain⟨cd,Ot⟩:∃cd,clsIn K C=some cd:=by
   dsimp only[mroIn]at hm;rcases q:clsIn K C with _|cd
   ·rw[q]at hm;contradiction
   exact⟨cd,rfl⟩
  have lc:fo (fM prog w) s.heap (classData C) cd:=iC X Ot;clear inst ty h X;have ZL:=F.noStar;obtain⟨hh,g,d,t,os⟩:=s
  wp_walk
  refine J (hc ..) ?_;dsimp only;refine aa (lc.here (ag ?_))
  wp_walk
  exact q
 refine g9 (iA F.init.plain F.initEntry (Ae ?_));unfold Builtin.«BaseException.__init__»;dsimp only;refine J (if_neg (by simp) ..) ?_;dsimp only[newTuple,kJ];have H':0<vs.size:=(bM.mp h0).1;have DR:=cg (h:=s.heap) {cls:=.type "tuple",data:=.seq #[v]} he;refine aa (cn (aa (aa (dX DR hd h0 (aa (iu DR hd H' ?_))))) (by size_fits));exact wpAny_letGo (ag h)
end
end
section
open PySem PySem.W PySem.Calls PyProof.Rows PySem.SeqAt PySem.MeetsSeq PySem.W.FB PySem.W.KBy
variable {B:nX}{kU k7:List aD}{U σ₀ σ₁:kO}{s s₀ k8:Shared}{A:bm}{kQ:aD}{ρ ρ' nV:lK}{κ:nP}{k n:Nat}
def AD:uH B sW k:=⟨λh=>h.elim,λh=>h.elim⟩
def UD(x:Cx B sW k 3 κ kQ kU A)(S:St B kQ kU ρ U s)(ha:κ.oW a=some i)(hb:κ.oW b=some j)(ra:ρ.get i=some va)(rb:ρ.get j=some vb):
  aq B.mod A (spliced (eX pos (cN [.Name a p,.Name b q] kQ))) (PR B kU SK (λl kP=>l=[va,vb]/\kP=U) U s) n_ s:=by
 have h:tS sW B.tab (pR 3 κ [.Name a p,.Name b q]) ρ U (λl kP=>l=[va,vb]/\kP=U) JZ:=by
  have e1:lP 2 κ (.Name a p)=.Z i:=by
   refine(?_:(match κ.oW a with|some i=>X.Z i|.none=>match κ.sx a with|some v=>.lit v|.none=>.stuck)=_);exact J (ha ..) rfl
  have e2:lP 1 κ (.Name b q)=.Z j:=by
   refine(?_:(match κ.oW b with|some i=>X.Z i|.none=>match κ.sx b with|some v=>.lit v|.none=>.stuck)=_);exact J (hb ..) rfl
  refine(?_:tS sW B.tab (.cons (lP 2 κ (.Name a p)) (.cons (lP 1 κ (.Name b q)) .nil)) ρ U _ JZ);refine J (e1 ..) (J (e2 ..) ?_);refine(?_:lv (ρ.get i) (λv=>lv (ρ.get j) λw=>[v,w]=[va,vb]/\U=U));refine J (ra ..) ?_;refine(?_:lv (ρ.get j) (λw=>[va,w]=[va,vb]/\U=U));refine J (rb ..) ?_;exact⟨rfl,rfl⟩
 exact UP ((uN 3).xs x S (by rfl) h)
def PW:BF.lookup ("Exception":Str)=some (.type "Exception"):=by kernel_rfl
def WZ(x:Cx B sW k 3 κ kQ kU A)(S:St B kQ kU ρ U s)(hg:κ.mR ("Exception":Str)=true)
  (ha:κ.oW a=some i) (hb:κ.oW b=some j) (ra:ρ.get i=some (.ref e)) (rb:ρ.get j=some W0) (hl:(ap.endLine==p.line)=true) (hm:mroIn B.pf C (.type "Exception")=some true) (he:oH B U s.heap e) (heo:s.heap.get? e=some oe) (hc:oe.cls=.ref C) (hd:oe.data=.fields vs) (h0:vs[0]? =some (.ref t0))
  (h:∀s' T,St B kQ kU ρ U s'->mr B.H0 (λb=>b=e) U s.heap U s'.heap->s'.heap.get? e=some (Obj.mapFields (·.setIfInBounds 0 (.ref T)) oe)->Q .next s'):
  aq B.mod A (jA (.Expr (.Call (.Attribute (.Name "Exception" p1) "__init__" ap) [.Name a p2,.Name b p3] [] p) pos) kQ) Q E' s:=by
 refine wpAny_Expr_any ?_ (by dsimp only[interactive];refine J (S.sS.kind ..) ?_;rfl) rfl;obtain⟨X7,hb2⟩:=oS (kQ:=kQ) (pos:=p) (es:=[.Name a p2,.Name b p3]) rfl;refine J (arm_eval_Call ..) (J (xA (by rfl) ..) ?_);refine aa (mY (yD x.g S x.nm hg PW ?_));refine aa (aI ?_);have Th:jZ (([.Name a p2,.Name b p3]:List am).length+([]:List hU).length) (eX p (cN [.Name a p2,.Name b p3] kQ)) (backToKw p (jI [] kQ))=true:=rfl;dsimp only[methodCall];refine J (Th ..) ?_;refine aa (ax (Me (x.g.KZ S.own) ?_));have hp:fJ true (.Name "Exception" p1) kQ ap p=pure p:=by
  dsimp only[fJ];refine J (hl ..) ?_;rfl
 refine(?_:aq _ _ (fJ true (.Name "Exception" p1) kQ ap p>>=λcp=>fO cp (.builtin "Exception.__init__") [] (eX p (cN [.Name a p2,.Name b p3] kQ)) (backToKw p (jI [] kQ))) _ _ _);refine J (hp ..) ?_;refine aa (ag ?_);refine nD X7 ?_;refine mY (aw (UD x (S.tok _) ha hb ra rb) (λr7 me z9=>?_) λ_ _ z=>z);clear ra;obtain⟨l,σ₂,⟨e1,e2⟩,r,pI,lV⟩:=z9;subst e1;have e2:=e2.symm;subst e2;obtain⟨v1,vs1,r1,ra1⟩:=lR.ni r;clear r;obtain⟨v2,rfl,r2⟩:=ra1.rL;obtain rfl:=r1.mW;refine⟨nj,?_⟩;clear r1;obtain⟨k1,k2⟩:=pN lV he id;refine(?_:aq _ _ (call (.builtin "Exception.__init__") [.ref e,v2]) _ _ _);have B5:=k1 _ heo;have mi:=(S.tok (s.toks+1)).up lV pI;refine I4 (x.g.KZ pI.own) hm B5 hc hd h0 ?_;clear heo k1 k2;refine mi.gs.keepsK (t:=me.toks) (lG me.heap {cls:=.type "tuple",data:=.seq #[v2]}) λIG uI=>?_;have qF:=mi.up (s':={me with heap:=me.heap.push {cls:=.type "tuple",data:=.seq #[v2]}}) uI IG;have FL:=lG me.heap {cls:=.type "tuple",data:=.seq #[v2]} _ _ B5;have self:=bp (Obj.mapFields (·.setIfInBounds 0 (.ref me.heap.objs.size))) FL (Obj.isFreed_of_fields (Obj.data_mapFields hd _));have other:∀b,b≠e->((me.heap.push {cls:=.type "tuple",data:=.seq #[v2]}).update e (Obj.mapFields (·.setIfInBounds 0 (.ref me.heap.objs.size)))).get? b=(me.heap.push {cls:=.type "tuple",data:=.seq #[v2]}).get? b:=λb hb=>c8 _ _ (dW hb);generalize ((me.heap.push {cls:=.type "tuple",data:=.seq #[v2]}).update e (Obj.mapFields (·.setIfInBounds 0 (.ref me.heap.objs.size))))=h4 at self other ⊢;have c:zZ B.H0 (λb=>b=e) (me.heap.push {cls:=.type "tuple",data:=.seq #[v2]}) h4:=⟨λb o hb=>by
  clear Q he h B5 FL;by_cases z:b=e
  ·clear other;subst z;exact⟨_,self⟩
  exact⟨o,(other b z).trans hb⟩,λb o hb nx=>⟨o,(other b nx).trans hb,.inl rfl,λ_=>rfl⟩⟩
 have xo:IU B U (me.heap.push {cls:=.type "tuple",data:=.seq #[v2]}) (λb=>b=e):=λb z=>by
  clear self c;clear Q h B5 other;subst z;exact⟨he.1,he.2,oe,vs,FL,hd,by refine J (hc ..) ?_;intro z;contradiction⟩
 exact h _ _ (qF.chg (t:=me.toks) c xo) (((lV.app uI).wide λ_ z=>z.elim).trans c.WL λ_ z=>.inl z) self
def DZ(ZM:mB κ kQ)(S:St B kQ kU ρ U s)
  (ha:κ.oW a=some i) (hb:κ.oW b=some j) (ra:ρ.get i=some (.ref e)) (rb:ρ.get j=some W0)
  (ZN:∀me v,St B kQ kU ρ U me->mr B.H0 Nx U s.heap U me.heap->Rv me.heap W0 v->aq B.mod A (setAttr (.ref e) nm v) (λ_ s'=>Q .next s') n_ me):
  aq B.mod A (jA (.Assign [.Attribute (.Name a p1) nm tp] (.Name b p2) pos) kQ) Q E' s:=by
 refine J (jQ ..) ?_;refine aa (aI ?_);refine(?_:aq _ _ (bZ (.Name b p2) kQ>>=λv=>cW [.Attribute (.Name a p1) nm tp] (.Name b p2) kQ>>=λsw=>assignStores kQ v sw ((dY [.Attribute (.Name a p1) nm tp] kQ).map (·.2))) _ _ _);refine aa (mY (aw (xz (Q:=λv' kP=>v'=W0/\kP=U) S ZM hb rb ⟨rfl,rfl⟩) (λv k8 z9=>?_) λ_ _ z=>z));refine lr λGp gk=>?_;clear rb;obtain⟨pv,σ₁,⟨e1,e2⟩,r,oK,lm⟩:=z9;subst e1;have e2:=e2.symm;subst e2;have lq:=S.up lm oK;refine gk ?_;refine J (G5 lq.sS ZM rfl ..) (J (pure_bind ..) ?_);refine(?_:aq _ _ (iB (.Attribute (.Name a p1) nm tp) kQ v>>=λ_=>pure Flow.next) _ _ _);refine J (arm_assign_Attribute ..) ?_;refine aa (aa (ax (mY (aw (xz (Q:=λv' kP=>v'=.ref e/\kP=U) lq ZM ha ra ⟨rfl,rfl⟩) (λv' me z9=>?_) λ_ _ z=>z))));refine lr λGp gk=>?_;obtain⟨pv',σ₂,⟨e1,e2⟩,r',pI,lV⟩:=z9;subst e1;have e2:=e2.symm;subst e2;obtain rfl:=Rv.mW r';refine gk ?_;refine aa (aI (aa (ax (mY (aw (ZN me v (lq.up lV pI) (lm.app lV) (Rv.keep (lV.tk lq.own n9) r)) (λ_ s' h=>?_) λ_ _ z=>z)))));exact gL (ag h)
inductive vI(κ:nP)(ia iw ix:Nat)(body:List b_):Prop
 |mk (a w x:Str) (p1 p2 p3 ap p pos q1 q2 qt q r1 r2 rt r:Pos) (h1:κ.oW a=some ia) (h2:κ.oW w=some iw) (h3:κ.oW x=some ix) (h4:κ.mR ("Exception":Str)=true) (h5:(ap.endLine==p.line)=true)
  (h6:body=[.Expr (.Call (.Attribute (.Name "Exception" p1) "__init__" ap) [.Name a p2,.Name w p3] [] p) pos,.Assign [.Attribute (.Name a q1) (sk rY) qt] (.Name w q2) q,.Assign [.Attribute (.Name a r1) (sk vm) rt] (.Name x r2) r]):vI κ ia iw ix body
def Mf(x:Cx B sW k 3 κ kQ kU A)(S:St B kQ kU ρ U s)(I:vI κ ia iw ix body)
  (ra:ρ.get ia=some (.ref e)) (rw':ρ.get iw=some W0) (rx:ρ.get ix=some pa) (hm:mroIn B.pf C (.type "Exception")=some true) (Yg:rC B.pf C (sk rY)=true) (UV:rC B.pf C (sk vm)=true)
  (UW:B.H0.get? e=.none/\U e=.none/\e≠kQ.locals/\∀y c,kQ.cells.lookup y=some c->c≠e) (he:s.heap.get? e=some (oL C t0))
  (h:∀s' d l n T,St B kQ kU ρ U s'->mr B.H0 (λb=>b=e) U s.heap U s'.heap->s.heap.get? d=.none->U d=.none->s'.heap.get? e=some ⟨.ref C,some d,.fields #[.ref T,.none,.none,.none,.bool false,.none],#[]⟩->s'.heap.get? d=some (eZ l n)->
   oy B.w.params s'.heap [(rY,W0),(vm,pa)] l->Q .next s'):aq B.mod A (iX body kQ) Q E' s:=by
 refine lr λGp gk=>?_;obtain⟨a,w,xx,p1,p2,p3,ap,p,pos,q1,q2,qt,q,r1,r2,rt,r,i1,i2,i3,i4,i5,rfl⟩:=I;obtain⟨e1,e2,e3,e4⟩:=UW;refine gk ?_;have lo:∀{s':Shared}{o:Obj},s'.heap.get? e=some o->o.cls=.ref C->oH B U s'.heap e:=λho hc=>⟨e1,e2,_,ho,J (hc ..) ((λz=>by contradiction)),J (hc ..) ((λz=>by contradiction))⟩;refine(?_:aq _ _ (_>>=_) _ _ _);refine aa (WZ x S i4 i1 i2 ra rw' i5 hm (lo he rfl) he rfl rfl rfl λk8 T lq qH h₁=>?_);dsimp only;change k8.heap.get? e=some ⟨.ref C,.none,.fields #[.ref T,.none,.none,.none,.bool false,.none],#[]⟩at h₁;refine(?_:aq _ _ (_>>=_) _ _ _);refine aa (DZ x.nm lq i1 i2 ra rw' λme v mi lV rv=>?_);clear he e1 e2;obtain⟨k1,k2⟩:=pN lV (lo h₁ rfl) id;have lL:=k1 _ h₁;refine Ma (x.g.KZ mi.own) Yg lL rv λh' d l' n' tk d1 d2 d3 d4 d5 al=>?_;dsimp only;have lz:∀b∈[e],oH B U me.heap b:=λb hb=>by simp only[aB]at hb;clear ra h e3 e4 qH h₁ k1 k2 d2 d3 al;subst hb;exact lo lL rfl
 have nl:kQ.locals∉[e]:=by simpa using λz=>e3 z.symm
 have nc:∀y c,kQ.cells.lookup y=some c->c∉[e]:=λy c hc=>by simpa using e4 y c hc
 have al':∀b o,b∉[e]->me.heap.get? b=some o->h'.get? b=some o:=λb o nb ho=>al b o (by simpa using nb) ho;have qF:=mi.LW (t:=tk) nl nc lz al';have d6:B.H0.get? d=.none:=mi.own.fresh d1;have d7:U d=.none:=mi.own.free d1;have dl:d≠kQ.locals:=λz=>by
  refine lr λGp gk=>?_;obtain⟨_,_,o,ho,_⟩:=mi.place;refine gk ?_;rw[←z,d1]at ho;contradiction
 have dc:∀y c,kQ.cells.lookup y=some c->c≠d:=λy c hc z=>by
  refine lr λGp gk=>?_;obtain⟨_,_,_,o,v,ho,_⟩:=mi.cells y c hc;refine gk ?_;rw[z,d1]at ho;contradiction
 have yS:mr B.H0 (λb=>b=e) U s.heap U h':=by
  refine(qH.trans lV λ_ z=>z.elim).trans (σ₁:=U) (h₁:=me.heap) (Y:=λb=>b=e) ?_ λ_ z=>.inl z;refine⟨λb o ho=>?_,λb o ho _ nx=>⟨o,al b o nx ho,.inl rfl,λ_=>rfl⟩,λ_ z=>.inl z,λ_ z=>z⟩;clear ra h e3 e4 lo qH h₁ k1 k2 lL d2 lz nl nc al';by_cases z:b=e
  ·clear al;subst z;exact⟨_,d3⟩
  exact⟨o,al b o z ho⟩
 have UU:s.heap.get? d=.none:=(qH.trans lV λ_ z=>z.elim).none _ d1;refine(?_:aq _ _ (_>>=_) _ _ _);refine aa (DZ x.nm qF i1 i3 ra rx λIy v' r_ vH rv'=>?_);have ld:oH B U h' d:=⟨d6,d7,_,d4,nT (by decide),nT (by decide)⟩;clear d1 d6;obtain⟨k3,k4⟩:=pN (h₁:=h') vH (lo (s':={me with heap:=h',toks:=tk}) d3 rfl) id;obtain⟨k5,k6⟩:=pN (h₁:=h') vH ld id;have tk4:TK h' Iy.heap:=vH.tk qF.own n9;refine Md (x.g.KZ r_.own) UV (k3 _ d3) (k5 _ d4) (oy.keep tk4 d5) (by simp) rv' λh5 l5 n5 tk5 f1 f2 sb=>?_;refine(?_:aq _ _ (pure Flow.next) _ _ _);have Yh:∀b o,b∉[d]->Iy.heap.get? b=some o->h5.get? b=some o:=λb o nb ho=>(sb.2 b (by simpa using nb)).trans ho;have zY:=r_.LW (t:=tk5) (fp:=[d]) (by simpa using dl.symm) (λy c hc=>by simpa using dc y c hc) (λb hb=>by simp only[aB]at hb;clear n' d2 d3 d4 d7 dl dc UU ld k5 n5 f1 sb Yh;subst hb;exact k6) Yh;have Mg:mr B.H0 (λb=>b=e) U s.heap U h5:=(yS.trans vH λ_ z=>z.elim).B0 (fp:=[d]) (λb hb=>by simp only[aB]at hb;clear n' d2 d3 d4 d7 dl dc ld k5 k6 n5 f1 sb Yh;subst hb;exact UU) Yh;have he5:h5.get? e=some ⟨.ref C,some d,.fields #[.ref T,.none,.none,.none,.bool false,.none],#[]⟩:=(sb.2 e d2.symm).trans (k3 _ d3);exact ag (h _ d l5 n5 T zY Mg UU d7 he5 f1 f2)
inductive TJ(C:Nat)(oc:Option Obj):Prop
 |mk (nm q N bs tl z0 sn sub ab col dd k0 k1 k2 k3 k5:_) (h:oc=some (excClassObj nm q C N bs tl z0 sn sub ab col dd k0 k1 k2 k3 k5 "Exception.__new__")) (t:B4 tl):TJ C oc
inductive B6(B:nX)(f:Nat):Prop
 |mk (o:Obj) (fd:dB) (body:List b_) (ps:List Str) (ia iw ix T:Nat) (od:Obj) (vW:List Value) (m:_) (h1:B.H0.get? f=some o) (h2:o.data=.func fd) (h3:fd.body=.stmts body) (h4:L5 fd) (h5:xC fd ps) (h6:ps.Nodup) (h7:ps.length=3) (h8:B.H0.CodeRec fd.code fd.qualname) (h9:vI ⟨fd.scope.names,B.ml,B.m0⟩ ia iw ix body)
  (ha:∀v1 v2 v3,∃ρ,qc fd.scope.names ps [v1,v2,v3] (ci fd.scope.names.length .none)=some ρ/\ρ.get ia=some v1/\ρ.get iw=some v2/\ρ.get ix=some v3)
  (hb:fd.defaults=.ref T) (hc:B.H0.get? T=some od) (hd:od.data=.seq (c9 vW) m) (he:vW.length<=3):B6 B f
structure A7(B:nX)(C f:Nat):Prop where
 cls:TJ C (B.H0.get? C)
 init:fY B.pf (.ref C) "__init__"=some (some (.ref f))
 fn:typeIn B.pf (.ref f)=some (.type "function")
 mro:mroIn B.pf C (.type "Exception")=some true
 w:rC B.pf C (sk rY)=true
 a:rC B.pf C (sk vm)=true
 row:B6 B f
inductive PY(h:Heap)(C e:Nat):Prop
 |mk (oe:Obj) (vs:_) (h1:h.get? e=some oe) (h2:oe.cls=.ref C) (h3:oe.data=.fields vs) (h4:vs[1]? =some .none):PY h C e
def Mh(g:Good B)(X:A7 B C f)(G:Gs B kU U s)(rv:Rv s.heap pa va)(a:Kz (k+1) 0 kU A):
  aq B.mod A (call (.ref C) [.str (sk m) t,va]) (λr s'=>∃e,r=.ref e/\Gs B kU U s'/\mr B.H0 Nx U s.heap U s'.heap/\CG B s.heap U s'.heap .none ⟨C,m,pa⟩ r/\PY s'.heap C e) n_ s:=by
 obtain⟨nm,q,N,bs,tl,z0,sn,sub,ab,col,dd,k0,k1,k2,k3,k5,hC,hT⟩:=X.cls;obtain⟨o,fd,body,ps,ia,iw,ix,T,od,vW,mm,ho,hdt,L7,F,P,nd,pl,Ot,I,W1,hdf,hT1,hT2,UT⟩:=X.row;have K:=g.KZ G.own;have h1:=a.depth;have h2:=a.units;refine g9 ?_;obtain⟨hh,gg,dr,tt,oo⟩:=s;refine L_ hT (G.own.base _ _ hC) (by refine J (show eT=16777216 from by decide) ?_;simp) (f_ K X.init) (λself=>bind_fn K self X.fn) ?_;have UU:hh.get? hh.objs.size=.none:=ly _;have UW:hh.get? (hh.objs.size+1)=.none:=be (sR 0x1b0a000 rfl);have kp:∀b o,hh.get? b=some o->((hh.push {cls:=.type "tuple",data:=.seq [ea (sk m) t,va].toArray}).push (oL C hh.objs.size)).get? b=some o:=λb o e=>lG _ _ _ _ (lG _ _ _ _ e);have Yi:((hh.push {cls:=.type "tuple",data:=.seq [ea (sk m) t,va].toArray}).push (oL C hh.objs.size)).get? (hh.objs.size+1)=some (oL C hh.objs.size):=by
  have:=aP (hh.push {cls:=.type "tuple",data:=.seq [ea (sk m) t,va].toArray}) (o:=oL C hh.objs.size) rfl;rw[show (hh.push {cls:=.type "tuple",data:=.seq [ea (sk m) t,va].toArray}).objs.size=hh.objs.size+1 from cf ..]at this;exact this
 refine G.keepsK (t:=tt) kp λG1 p1=>?_;generalize ((hh.push {cls:=.type "tuple",data:=.seq [ea (sk m) t,va].toArray}).push (oL C hh.objs.size))=Mi at kp Yi G1 p1 ⊢;generalize Yj:(A.under (.builtin "type.__call__" ⟨.ref C::[.str (sk m) t,va],[]⟩))=A';have a1:A'.handled=.none:=by subst Yj;exact a.handled
 have a2:A'.frames=some kU:=by clear a1;subst Yj;exact a.frames
 have a3:A'.depth+1+4*k<=900:=by
  clear a1 a2;subst Yj;refine(?_:A.depth+(fK "type.__call__" _).weight+1+4*k<=900);exact J (wQ ..) (mZ 0x103843fb14d1b1b0aaa03843fb1b1a4d0a01 rfl h1)
 have a4:A'.units+3+60*k+3<=9000:=by
  clear a1 a2 a3;subst Yj;refine(?_:A.units+(fK "type.__call__" _).cUnits+3+60*k+3<=9000);exact J (yR ..) (mZ 0x1023284fb3b13c2fd3b1b0aaaa023284fb0b1b1a3c2fd0aa01 rfl h2)
 refine codeAny_call_function (by refine(?_:A'.depth<1000);exact mZ 0x103e83fb013843fb14d1b0aa01 rfl a3) (G1.own.base f o ho) hdt F.co F.gen L7 (by
  obtain⟨c,oc,vs,tq,e1,e2,e3⟩:=Ot;exact⟨c,oc,vs,tq,e1,G1.own.base _ _ e2,e3⟩) ?_
 obtain⟨kk,b1,b2⟩:=uP (ds:=vW) (vals:=[.ref (hh.objs.size+1),.str (sk m) t,va]) P nd (J (pl ..) (aF _)) (J (pl ..) UT) (by refine J (pl ..) ?_;simp) (m:=pure .none);refine J (b1 ..) (J (hdf ..) ?_);refine aa (gu (G1.own.base _ _ hT1) hT2 ?_);refine J (b2 (some vW.toArray) rfl ..) ?_;refine ag ?_;obtain⟨ρ,r0,r1,r2,r3⟩:=W1 (.ref (hh.objs.size+1)) (.str m) pa;have W2:[bP (hh.objs.size+1),.str (sk m) t,va]++vW.drop (vW.length-(ps.length - [bP (hh.objs.size+1),.str (sk m) t,va].length))=[bP (hh.objs.size+1),.str (sk m) t,va]:=by
  refine J (pl ..) ?_;simp
 refine J (W2 ..) ?_;have W3:lR Mi [.ref (hh.objs.size+1),.str m,pa] [bP (hh.objs.size+1),.str (sk m) t,va]:=.cons (Rv.ref _ _) (.cons (Rv.VR _ _ _) (.one (Rv.keep (TK.of_keeps kp) rv)));refine L6 G1 F (ρ':=ρ) (pvs:=[.ref (hh.objs.size+1),.str m,pa]) W3 r0 λme mi lV=>⟨g.lim.keeps λb o e=>mi.own.base b o e,codeAny_func ?_⟩;have nm:mB ⟨fd.scope.names,B.ml,B.m0⟩ (nO fd f Mi.objs.size):=λi x kd h=>⟨kd,h,.inl rfl,λ_=>rfl⟩;have TH:(A'.deeper (nO fd f Mi.objs.size)).frames=some (nO fd f Mi.objs.size::kU):=jS a2;have ak:Kz k 3 (nO fd f Mi.objs.size::kU) (A'.deeper (nO fd f Mi.objs.size)):=⟨a1,TH,by refine(?_:A'.depth+1+4*k<=900);exact mZ 0x103843fb14d1b0aa03843fb14d1b0aa01 rfl a3,by refine(?_:A'.units+3+60*k+3<=9000);exact mZ 0x1023284fb3b13c2fd3b0aaa023284fb3b13c2fd3b0aaa01 rfl a4⟩;have x:Cx B sW k 3 ⟨fd.scope.names,B.ml,B.m0⟩ (nO fd f Mi.objs.size) (nO fd f Mi.objs.size::kU) (A'.deeper (nO fd f Mi.objs.size)):=⟨g,nm,rfl,rfl,ak,AD,_,aj,rfl⟩;have P12:=p1.app lV;have le:oH B U Mi (hh.objs.size+1):=⟨G.own.fresh UW,G.own.free UW,_,Yi,(λz=>by contradiction),(λz=>by contradiction)⟩;obtain⟨ke,le2⟩:=pN (h₁:=Mi) lV le id;have G8:=ke _ Yi;refine aw (Q:=λfl s'=>fl=.next/\∃e,bP (hh.objs.size+1)=.ref e/\Gs B kU U s'/\mr B.H0 Nx U hh U s'.heap/\CG B hh U s'.heap .none ⟨C,m,pa⟩ (.ref (hh.objs.size+1))/\PY s'.heap C e) (E:=n_) ?_ (λfl s' ⟨e1,e,e2,h⟩=>?_) λ_ _ z=>z.elim
 ·refine Mf x mi I r1 r2 r3 X.mro X.w X.a ⟨le.1,le.f',ka (iQ Yi),λy c hc z=>?_⟩ G8 λs' d l n T S' P' d1 d2 f1 f2 f3=>?_
  ·obtain⟨_,_,_,o,v,ho,Zk,_⟩:=mi.cells y c hc;rw[z,G8]at ho;clear v f_1;obtain rfl:=af ho;contradiction
  refine⟨rfl,_,rfl,⟨S'.own,λe he=>S'.kU e (ay _ he),S'.gens,S'.os⟩,P12.wq P' (λb z=>J (z ..) UW),?_,_,_,f1,rfl,rfl,rfl⟩;exact⟨hh.objs.size+1,d,_,_,_,rfl,⟨UW,le.f',P12.none _ d1,d2⟩,f1,rfl,rfl,rfl,⟨f2,l,n,rfl,f3,(by refine(?_:[rY,vm].Nodup);decide),by simp⟩,.inl rfl⟩
 subst e1;exact⟨rfl,e,e2,h⟩
variable {C:CT}{Q:Fl->lK->kO->Prop}{E:QR}
def wr(B:nX):Prop:=∀x a,B.m0.lookup x=some a->B.ml.lookup x=some (.ref a)/\∃f,A7 B a f
def I5(X:A7 B a f)(base:∀b o,B.H0.get? b=some o->s.heap.get? b=some o)(hh:A.handled=.none)(he:s.heap.get? e=some oe)(hc:oe.cls=.ref a)(hd:oe.data=.fields vs)(h1:vs[1]? =some .none)(h:E' (.ref e) s)
  (hm:∀{Q':Value->Shared->Prop}{ZO:Value->Shared->Prop},Q' (.ref e) s->aq B.mod A m Q' ZO s):aq B.mod A (iN kQ (some m) .none) P E' s:=by
 obtain⟨nm,q,N,bs,tl,z0,sn,sub,ab,col,dd,k0,k1,k2,k3,k5,hC,hT⟩:=X.cls;have hC:=base _ _ hC;clear base;obtain⟨hp,g,d,tk,os⟩:=s;dsimp only at hC he;have i1:(bP a::tl).contains (.type "BaseException")=true:=J (bO ..) (J (hT.base ..) (J (gK ..) rfl));have f1:=tc_sub;have f2:=tc_notTuple;unfold iN;dsimp only;refine aa (hm ?_);refine aa (ag ?_);dsimp only[excFromValue,raisedInstance,isExcClass,isType,jb]
 repeat (any_goals (first|assumption|(with_reducible refine cR he ?_;rw[hc])|with_reducible refine cR hC ?_|(with_reducible refine em hC ?_;rw[i1])|wp_step))
 rw[hd];refine ag ?_;refine J (h1 ..) ?_;refine ag ?_;refine J (if_neg (by decide) ..) ?_;exact ag (wpAny_raiseNew_none hh h)
def FM(g:Go B C k n)(EX:wr B)(hk:0<k)(x:Cx B C k n κ kQ (kQ::k7) A)(hf:kQ.frame=some kQ.locals)(S:St B kQ (kQ::k7) ρ U s)(hg:κ.mR c=true)(ha:κ.m0.lookup c=some a)
  (h:wpS C B.tab (.raise a (cs m) (lP n κ e)) ρ U Q E):aq B.mod A (jA (.Raise (some (.Call (.Name c p) [.Constant (.str m) y1 z,e] [] q)) .none pos) kQ) (SP B kQ (kQ::k7) Q U s) (SX B kQ (kQ::k7) A E U s) s:=by
 change mh C B.tab (lP n κ e) ρ U (Kg a (cs m) ρ E) (JW E ρ)at h;have E_:=xB h;obtain⟨e1,f,X⟩:=EX c a (rr (x.ex ..) ha);have ZP:κ.sx c=some (.ref a):=by
  dsimp only[nP.sx];exact J (if_pos hg ..) (J (x.gl ..) e1)
 refine J (arm_exec_Raise ..) ?_;refine aa (aI ?_);obtain⟨k,rfl⟩:∃j,k=j+1:=⟨k-1,mZ 0x101001b0a1211b0a21 rfl (aA (sR 0x1001b000b11 rfl hk))⟩;refine(?_:aq _ _ (iN kQ (some (bZ (.Call (.Name c p) [.Constant (.str m) y1 z,e] [] q) kQ>>=λv=>g_ pos>>=λ_=>pure v)) .none) _ _ _);have W4:aq B.mod A (bZ (.Call (.Name c p) [.Constant (.str m) y1 z,e] [] q) kQ) (λr s'=>∃v kP,E ⟨a,cs m,v⟩ ρ kP/\Gs B (kQ::k7) kP s'/\mr B.H0 Nx U s.heap kP s'.heap/\CG B s.heap kP s'.heap .none ⟨a,cs m,v⟩ r/\∃e,r=.ref e/\PY s'.heap a e) (PX B (kQ::k7) .none (λe U=>E e ρ U) U s) s:=by
  refine(?_:aq _ _ (bZ (.Name c p) kQ>>=λv=>fO q v [] (eX q (cN [.Constant (.str m) y1 z,e] kQ)) []) _ _ s);refine aa (mY (aw (BS (Q:=λv' kP=>v'=.ref a/\kP=U) x.g S x.nm x.gl ZP ⟨rfl,rfl⟩) (λv k8 z9=>?_) λ_ _ z=>z));obtain⟨pv,σ₁,⟨q1,q2⟩,r,oK,lm⟩:=z9;subst q1;have q2:=q2.symm;subst q2;obtain rfl:=Rv.mW r;have lq:=S.up lm oK;have hs2:noStar [.Constant (.str m) y1 z,e]=true:=by dsimp only[noStar];refine J (ce ..) (J (ce ..) (J (E_ ..) ?_));rfl
  refine nD (oS hs2).1 ?_;refine J (nA (by rfl) ..) (J (nA E_ ..) ?_);refine(?_:aq _ _ (bZ (.Constant (.str m) y1 z) kQ>>=λv=>_) _ _ _);refine aa (f9 ?_);refine aa (ag (aa (ax ?_)));refine(?_:aq _ _ (bZ e kQ>>=λv=>_) _ _ _);refine GV (lq.tok _) lm (g.x x (lq.tok _) h) λb me Lk σ₂ lL oz mi lV qS=>?_;refine aa (ag (aa (ax (ag (ag (ag ⟨⟨.machine,.inr rfl,?_⟩,?_⟩))))))
  ·obtain⟨nm,qq,N,bs,tl,z0,sn,sub,ab,col,dd,k0,k1,k2,k3,k5,hC,hT⟩:=X.cls;have hC:=mi.own.base _ _ hC;intro A' Q' E' s' kk qk;obtain⟨hh,gg,d',tk,os⟩:=s';exact wpAny_keeperOf_exc (kk _ _ hC) qk
  refine mY (aw (Mh (t:=k8.toks) (m:=cs m) x.g X mi.gs oz (x.a.mono (aF _) (aO _))) (λr s' z9=>?_) λ_ _ z=>z);obtain⟨e,he,G',p',fl,br⟩:=z9;exact⟨Lk,σ₂,lL,G',lV.app p',fl.low lV.none,e,he,br⟩
 have e0:∀m:fZ Value,iN kQ (some m) .none=m>>=λv=>iN kQ (some (pure v)) .none:=λm=>by
  dsimp only[iN];simp only[pure_bind]
 refine J (e0 ..) ?_;refine aa (aa (aw W4 (λr s' z9=>?_) λ_ _ z=>yN x.a.frames hf S (λ_ _ q=>q) z));refine lr λGp gk=>?_;obtain⟨v,kP,hE,G',p',fl,e',he,br⟩:=z9;refine gk ?_;clear Gp gk;refine aa (aI (ag ?_));subst he;obtain⟨oe,vs,b1,b2,b3,b4⟩:=br;refine I5 X (λb o e=>G'.own.base b o e) x.a.handled b1 b2 b3 b4 ?_ λq=>ag q;exact yN x.a.frames hf S (E':=λe U=>E e ρ U) (λ_ _ q=>q) ⟨_,kP,hE,G',p',fl⟩
def D0(rV:tV B C k n)(x:Cx B C k n κ kQ (kQ::k7) A)(hf:kQ.frame=some kQ.locals)(S:St B kQ (kQ::k7) ρ U s)
  (h:lO C B.tab (pH n κ b) ρ U Q ZQ)
  (hh:∀v s',XP B kQ (kQ::k7) ZQ U s v s'->aq B.mod A (setFlight v .none) (λ_ vG=>aq B.mod A (handleBy v kQ [CF]) (SP B kQ (kQ::k7) Q U s) (SX B kQ (kQ::k7) A E U s) vG) (SX B kQ (kQ::k7) A E U s) s'):
  aq B.mod A (jA (.Try b [CF] [] [] pos) kQ) (SP B kQ (kQ::k7) Q U s) (SX B kQ (kQ::k7) A E U s) s:=by
 refine wpAny_Try_except ?_;refine aw (rV x hf S h) (λf k8 z=>?_) λv k8 z=>?_
 ·rcases f with _|_|_|v
  ·refine(?_:aq _ _ (iX [] kQ) _ _ _);dsimp only[iX];exact ag z
  ·exact z
  ·exact z
  exact z
 exact aw z (λ_ me q=>hh v me q) λ_ _ z=>z.elim
def Mj(rV:tV B C k n)(x:Cx B C k n κ kQ (kQ::k7) A)(hf:kQ.frame=some kQ.locals)(S:St B kQ (kQ::k7) ρ U s)
  (h:wpS C B.tab (.try (pH n κ b) .none) ρ U Q E):aq B.mod A (jA (.Try b [CF] [] [] pos) kQ) (SP B kQ (kQ::k7) Q U s) (SX B kQ (kQ::k7) A E U s) s:=by
 dsimp only[wpS]at h;refine D0 rV x hf S h λv s' z9=>by obtain⟨_,_,_,q,_,_,_⟩:=z9;exact q.elim
end
section
open PySem PySem.W PySem.Calls PyProof.Rows PySem.SeqAt PySem.MeetsSeq PySem.W.FB PySem.W.KBy
open Builtin Builtin.ObjectAttr
variable {B:nX}{kU k7:List aD}{U σ₀ σ₁:kO}{s s₀ k8:Shared}{A:bm}{kQ:aD}{ρ ρ' nV:lK}{κ:nP}{k n:Nat}
def PZ{K:Frag}{x C d f:Nat}{ox:Obj}{nm:NL}{v:Value}{expr:Bool}{vs:Array Value}{l:List bY}{m:Nat}{Q:Value->Shared->Prop}{E':Value->Shared->Prop}(X:K.In s.heap)(T:A7 B C f)(base:∀b o,B.H0.get? b=some o->s.heap.get? b=some o)(hp:wa K C (sk nm)=true)
  (hx:s.heap.get? x=some ox) (hc:ox.cls=.ref C) (hd:ox.dict=some d) (hv:ox.data=.fields vs) (hdd:s.heap.get? d=some (eZ l m)) (hl:lookIn (sk nm) (eZ l m)=some (some v)) (hh:handedIn v=true)
  (h:Q v {s with toks:=s.toks+1}):aq B.mod A (getAttr (.ref x) (sk nm) expr) Q E' s:=by
 dsimp only[wa]at hp;simp only[aE,beq_iff_eq]at hp;obtain⟨⟨⟨p1,p2⟩,p3⟩,p4⟩:=hp;have I:InstAt s.heap x ox C (some (eZ l m)):=⟨hx,hc,by dsimp only[notCls];exact J (hv ..) rfl,J (hd ..) hdd⟩;obtain⟨nm',q,N,bs,tl,z0,sn,sub,ab,col,dd,k0,k1,k2,k3,k5,hC,hT⟩:=T.cls;have hC:=base _ _ hC;clear base;obtain⟨hp,g,dr,tk,os⟩:=s;dsimp only at hC hx hdd h X I;have L0:=I.type (M:=B.mod);have L1:=f_ (M:=B.mod) X p1;have L2:=f_ (M:=B.mod) X p2;have L3:=looks_find (M:=B.mod) X I (findObj_own p3 p4 (attr:=.none) rfl hl);dsimp only[getAttr,getAttrBy];refine aa (f9 (ax (aa (L0.at (aa (L1.at ?_))))));refine(?_:aq _ _ (getAttrByItsOwn _ _ _ _ _ _) _ _ _);dsimp only[getAttrByItsOwn,hookBefore];refine aa (L2.at (aa ?_));have hx0:(expr&&onTheHeap (Value.builtin "BaseException.__getattribute__"))=false:=by rcases expr with _|_<;>rfl
 have f3:=F.attrBase_Exception.ga.bind (.ref x);dsimp only[callGetattribute];refine J (hx0 ..) ?_;refine wpAny_attempt (ax ?_);dsimp only[boundAndCalled];refine J (if_neg (by decide) ..) (J (f3 ..) ?_);refine aa (ag ?_);have hcB:(bP C::tl).contains (.type "BaseException")=true:=J (bO ..) (J (hT.base ..) (J (gK ..) rfl));have f4:=F.args_bexc_ga (.ref x) (.str (sk nm) tk);have hk:builtinKind "BaseException.__getattribute__"=some .slot:=by decide+kernel
 have hs:splitId "BaseException.__getattribute__"=some ("BaseException","__getattribute__"):=by decide+kernel
 refine g9 (iA F.attrBase_Exception.ga.plain F.entry_bexc_ga ?_);have Ae:∀{A':bm}{Q':Unit->Shared->Prop}{ZO:Value->Shared->Prop},Q' () ⟨hp,g,dr,tk+1,os⟩->aq B.mod A' (fB "BaseException.__getattribute__" ⟨[.ref x,.str (sk nm) tk],[]⟩) Q' ZO ⟨hp,g,dr,tk+1,os⟩:=λhq=>by
  dsimp only[fB];rw[hk,hs];try dsimp only
  refine aa ?_;dsimp only[jb]
  repeat (first|(with_reducible refine cR hx ?_;rw[hc])|(with_reducible refine em hC ?_;rw[hcB])|wp_step)
  exact hq
 refine Ae ?_;refine aa (ag (aa (ag (aa (L0.at (aa (L3.at ?_)))))));refine ag ?_;refine(?_:aq _ _ (handedOut v) _ _ _);exact J (handedOut_of hh ..) (ag h)
end
section
open PySem PySem.W PySem.Calls PyProof.Rows PySem.SeqAt PySem.MeetsSeq PySem.W.FB PySem.W.KBy
variable {B:nX}{kU k7:List aD}{U σ₀ σ₁:kO}{s s₀ k8:Shared}{A:bm}{kQ:aD}{ρ ρ' nV:lK}{κ:nP}{k n:Nat}{C:CT}{Q:Fl->lK->kO->Prop}{E:QR}
def yT(name:Str)(c:Value)(d:Option Nat)(es:Array bY)(m:Nat)(sl:Array (Option Value)):∃u0 m',Obj.dropName name ⟨c,d,.dict es m,sl⟩=⟨c,d,.dict u0 m',sl⟩:=by
 refine J (Obj.dropName_eq ..) ?_;unfold Obj.dropNameByArray;dsimp only
 split<;>exact⟨_,_,rfl⟩
def I6{M:Model}{m:Str->Option Value}{name:Str}{Q:Bool->Shared->Prop}{E:Value->Shared->Prop}(hn:s.heap.Ns a m)(ho:s.heap.get? a=some o)
  (h:∀h' v u0 m',h'.Ns a (λx=>if x=name then v else m x)->bR a s.heap h'->h'.get? a=some {o with data:=.dict u0 m'}->Q (m name).isSome {s with heap:=h'}):aq M A (nsDel a name) Q E s:=by
 refine lr λGp gk=>?_;obtain⟨o',es,ep,zF,hd,hk,hm⟩:=id hn;rw[ho]at zF;obtain rfl:=af zF;refine gk ?_;intro Γ p X6;have Fg:es.any (·.refKey)=false:=by
  rw[kE];intro e he;obtain⟨n,t,h⟩:=hk e he;simp[j7,h]
 have W5:nsHas name o=pure (es.any (·.key.isStr name)):=by
  rw[nsHas_eq];dsimp only[nsHasByArray];rw[hd];dsimp only;rcases(es.any λx=>x.key.isStr name)with _|_<;>simp[Fg]
 have key:∀P:Bool->Pos->Shared->Prop,fZ.wp M Γ (nsDel a name) P (λe x s'=>E e s') p s=(if es.any (·.key.isStr name)then((s.heap.get? a).isSome=true/\P true p {s with heap:=s.heap.update a (Obj.dropName name)})else P false p s):=by
  intro P;simp only[nsDel,j5];rw[fZ.wp_loadPart_of M Γ _ p s (o:=o) _ ho];rw[W5];simp only[j4];rcases(es.any λx=>x.key.isStr name)with _|_<;>simp[j5,j4,km]
 have BV:=PySem.wpAny_nsDel_keeps (M:=M) (A:=A) (E:=E) (name:=name) (Q:=λb s'=>b=(m name).isSome/\s'={s with heap:=s'.heap}/\∃v,s'.heap.Ns a (λx=>if x=name then v else m x)/\bR a s.heap s'.heap) hn (λh' v q1 q2=>⟨rfl,rfl,v,q1,q2⟩) Γ p X6;have BV:fZ.wp M Γ (nsDel a name) (λb _ s'=>b=(m name).isSome/\s'={s with heap:=s'.heap}/\∃v,s'.heap.Ns a (λx=>if x=name then v else m x)/\bR a s.heap s'.heap) (λe x s'=>E e s') p s:=BV;refine(?_:fZ.wp M Γ (nsDel a name) (λb _ s'=>Q b s') (λe x s'=>E e s') p s);rw[key]at BV ⊢
 split at BV
 ·rename_i hh;rw[if_pos hh];refine lr λGp gk=>?_;clear zF W5;obtain⟨h0,h1,h2,v,h3,h4⟩:=BV;refine gk ?_;refine⟨h0,?_⟩;rw[h1];refine lr λGp gk=>?_;obtain⟨c,d,dt,sl⟩:=o;dsimp only at hd;subst hd;obtain⟨u0,m',e⟩:=yT name c d es ep sl;refine gk ?_;exact h _ v u0 m' h3 h4 (by rw[bp _ ho (by rw[e];rfl),e])
 rename_i hh;rw[if_neg hh];refine lr λGp gk=>?_;obtain⟨h1,h2,v,h3,h4⟩:=BV;refine gk ?_;rw[h1];refine h _ v es ep h3 h4 ?_;rw[ho,←hd]
def FN(S:St B kQ kU ρ U s)(hx:kQ.scope.names[i]? =some (x,.local))(hv:ρ.get i=some p){Q:Bool->Shared->Prop}{E:Value->Shared->Prop}
  (q:∀s',St B kQ kU (ρ.set i .none) U s'->mr B.H0 (oh kQ) U s.heap U s'.heap->Q true s'):aq B.mod A (nsDel kQ.locals x) Q E s:=by
 refine lr λGp gk=>?_;obtain⟨m,hn,hm⟩:=S.Z.ns;obtain⟨Tm,Tn,o,ho,hc,es,ep,hd⟩:=S.place;refine gk ?_;have oX:i<ρ.length:=J (S.Z.len ..) ((aG.mp hx).1);refine I6 hn ho λh' v u0 m' Zq sb he=>?_;clear es ep hd;obtain⟨y,hy,_⟩:=hm i x hx p hv;refine J (hy ..) ?_;have al:∀b o,b≠kQ.locals->s.heap.get? b=some o->h'.get? b=some o:=λb o hb e=>(sb.2 b hb).trans e;have tk:TK s.heap h':=λb kX z=>by
  have nb:b≠kQ.locals:=λy=>by
   clear u0 m' he;subst y;obtain⟨_,z⟩:=z;have z:s.heap.get? kQ.locals=some _:=z;rw[ho]at z;obtain rfl:=af z;rcases hc with hc|hc
   ·exact absurd hc (nT (by decide))
   exact absurd hc (nT (by decide))
  obtain⟨m,z⟩:=z;exact⟨m,al _ _ nb z⟩
 have P:mr B.H0 (oh kQ) U s.heap U h':=by
  refine⟨λb o e=>?_,λb o e _ nx=>?_,λ_ e=>.inl e,λ_ e=>e⟩
  ·by_cases hb:b=kQ.locals
   ·clear e;subst hb;exact⟨_,he⟩
   exact⟨o,al b o hb e⟩
  exact⟨o,al b o (λz=>nx (.inl z)) e,.inl rfl,λ_=>rfl⟩
 refine q _ ⟨⟨λb o e=>?_,λa mo e=>?_⟩,S.sS,⟨J (gO ..) S.Z.len,?_,?_,?_⟩,⟨Tm,Tn,_,he,hc,u0,m',rfl⟩,λy c JY=>?_,S.apart,λe To=>?_,S.gens,S.os⟩ P
 ·exact al b o (λz=>by subst z;rw[Tm]at e;contradiction) (S.own.base b o e)
 ·obtain⟨a1,o',e',r'⟩:=S.own.obj a mo e;exact⟨a1,o',al a o' (λz=>by clear a1 e';subst z;rw[Tn]at e;contradiction) e',r'.keep tk⟩
 ·refine⟨_,Zq,λj y hy w hw=>?_⟩;rw[lK.get_set oX]at hw;dsimp only
  by_cases hj:j=i
  ·rw[if_pos hj]at hw;contradiction
  rw[if_neg hj]at hw;obtain⟨z,e1,e2⟩:=hm j y hy w hw;exact⟨z,J (if_neg (λe=>hj (uK S.sS hy (e▸hx))) ..) e1,e2.keep tk⟩
 ·intro j y k hy tG;have hj:j≠i:=λe=>by clear hv q oX;subst e;rw[hx]at hy;cases hy;rcases tG with h|h<;>contradiction
  refine lr λGp gk=>?_;obtain⟨⟨c,w,RJ,o1,Wo,Wp⟩,q'⟩:=S.Z.cell j y k hy tG;have GZ:∀c,kQ.cells.lookup y=some c->c≠kQ.locals:=λc h=>(S.cells y c h).d';refine gk ?_;refine⟨⟨c,w,RJ,o1,al _ _ (GZ c RJ) Wo,Wp⟩,λw hw=>?_⟩;rw[lK.get_set oX,if_neg hj]at hw;refine lr λGp gk=>?_;obtain⟨c,z,c1,⟨o2,c2,c3⟩,rr⟩:=q' w hw;refine gk ?_;exact⟨c,z,c1,⟨o2,al _ _ (GZ c c1) c2,c3⟩,rr.keep tk⟩
 ·intro j y k hy tG;have hj:j≠i:=λe=>by clear hv q oX;subst e;rw[hx]at hy;cases hy;rcases tG with h|h<;>contradiction
  refine J (lK.get_set oX ..) (J (if_neg hj ..) ?_);exact S.Z.JX j y k hy tG
 ·refine lr λGp gk=>?_;obtain⟨c1,c2,c3,o',w,c4,c5,c6⟩:=S.cells y c JY;refine gk ?_;exact⟨c1,c2,c3,o',w,al _ _ c3 c4,c5,c6⟩
 refine lr λGp gk=>?_;obtain⟨k,L,o',f1,f2,f3,f4,f5,Lr,n1,f6⟩:=S.kU e To;refine gk ?_
 by_cases hL:L=kQ.locals
 ·clear Lr n1 f6;subst hL;rw[ho]at f4;obtain rfl:=af f4;exact⟨k,_,_,f1,f2,f3,he,f5,u0,m',rfl⟩
 exact⟨k,L,o',f1,f2,f3,al _ _ hL f4,f5,Lr,n1,f6⟩
def name_goes(S:St B kQ kU ρ U s)(hx:kQ.scope.names[i]? =some (x,.local))(hk:kQ.kindOf x=some .local){Q:Unit->Shared->Prop}{E:Value->Shared->Prop}
  (q:∀s',St B kQ kU (ρ.set i .none) U s'->mr B.H0 (oh kQ) U s.heap U s'.heap->Q () s'):aq B.mod A (do gU kQ x .none;unbindBehindTheSuite kQ x pos) Q E s:=by
 have oX:i<ρ.length:=by rw[S.Z.len];exact(aG.mp hx).1
 refine aa (wpAny_bindName (mY (aw (pY (p:=.none) (Q:=λρ' kP=>ρ'=ρ.set i (some .none)/\kP=U) S hx hk (Rv.none _) ⟨rfl,rfl⟩) (λ_ k8 z9=>?_) λ_ _ z=>z)));obtain⟨nV,σ₁,⟨q1,q2⟩,lq,lm⟩:=z9;have q2:=q2.symm;subst q2;subst q1;dsimp only[unbindBehindTheSuite];refine wpAny_onRaise ?_;dsimp only[unbindName];refine aa (fL (aa ?_));dsimp only[deleteName];simp only[hk];rw[if_neg (by rw[S.sS.kind];simp)];refine aa (FN (p:=.none) lq hx (by rw[lK.get_set oX,if_pos rfl]) λs' S' p'=>?_);simp only[gq,aY,if_false];refine ag (fL (q s' ?_ (lm.uO p')));rw[List.set_set]at S';exact S'
variable {σ₂:kO}
def Mk(S:St B kQ (kQ::k7) ρ U s)(hf:kQ.frame=some kQ.locals)(p:mr B.H0 (oh kQ) U s.heap σ₂ lL)(e:s.heap.get? b=some o)(n:U b=.none)(nf:o.cls≠.type "frame")(nc:o.cls≠.type "cell"):
  lL.get? b=some o/\σ₂ b=.none:=by
 obtain⟨o',e',z,_⟩:=p.keep b o e n λq=>by
  rcases q with rfl|⟨_,x,_,hc⟩
  ·obtain⟨_,L,o',a,_,_,d,g,_⟩:=S.kU kQ aj;rw[hf]at a;clear b c es n_1 g_1;obtain rfl:=af a;rw[e]at d;obtain rfl:=af d;exact nf g
  obtain⟨_,_,_,o',v,e',c,_⟩:=S.cells x b hc;rw[e]at e';clear v f;obtain rfl:=af e';exact nc c
 rw[z.eq nf]at e';exact⟨e',p.free e n⟩
def CG.step{lo lL:Heap}{L:Option Nat}(S:St B kQ (kQ::k7) ρ U s)(hf:kQ.frame=some kQ.locals)(p:mr B.H0 (oh kQ) U s.heap σ₂ lL)(f:CG B lo U s.heap L x v):CG B lo σ₂ lL L x v:=by
 refine lr λGp gk=>?_;obtain⟨e,d,oe,vs,od,q1,⟨a2,a3,a5,a6⟩,q2,q3,q4,q5,⟨q6,IV⟩,q7⟩:=f;have tk:=p.tk S.own S.SJ;have oc:od.cls=.type "dict":=by
  obtain⟨l,n,z,_⟩:=IV;exact J (z ..) rfl
 obtain⟨t1,t2⟩:=Mk S hf p q2 a3 (by refine J (q3 ..) ?_;intro z;contradiction) (by refine J (q3 ..) ?_;intro z;contradiction);obtain⟨t3,t4⟩:=Mk S hf p q6 a6 (J (oc ..) (nT (by decide))) (J (oc ..) (nT (by decide)));refine gk ?_;refine⟨e,d,oe,vs,od,q1,⟨a2,t2,a5,t4⟩,t1,q3,q4,q5,⟨t3,IV.keep tk⟩,?_⟩;rcases q7 with q|⟨T,oT,ts,b1,⟨b3,b4,DS⟩,b5,b6,b7⟩
 ·exact .inl q
 obtain⟨t5,t6⟩:=Mk S hf p b5 b4 (J (b6 ..) (nT (by decide))) (J (b6 ..) (nT (by decide)));exact .inr ⟨T,oT,ts,b1,⟨b3,t6,DS⟩,t5,b6,b7⟩
def FO:∀{l:List (Str×NameKind)}{x:Str}{j i:Nat}{k:NameKind},ql x l j=some (i,k)->l.lookup x=some k:=by
 intro z9
 induction z9 with
 |nil=>
  intro _ _ _ _ h;exact nomatch h
 |cons y9 l ih=>
  intro x j i k h;obtain⟨y,k'⟩:=y9;change (if(y==x)=true then some (j,k')else ql x l (j+1))=some (i,k)at h;refine J (aQ ..) ?_
  by_cases q:(y==x)=true
  ·rw[if_pos q]at h;cases h;rw[eq_of_beq q,beq_self_eq_true]
  rw[if_neg q]at h;rw[show (x==y)=false from beq_false_of_ne λz=>q (by rw[z,beq_self_eq_true])];exact ih h
def AE(E:td kQ)(n:mB κ kQ)(hi:κ.oW x=some i)(hl:κ.names.lookup x=some .local):kQ.scope.names[i]? =some (x,.local)/\kQ.kindOf x=some .local:=by
 refine lr λGp gk=>?_;obtain⟨kd,e,_⟩:=K0 hi;have:=FO e;rw[hl]at this;clear right;obtain rfl:=af this;obtain⟨k',e',tG,_⟩:=n _ _ _ (tF e).2;refine gk ?_;rcases tG with rfl|⟨z,_⟩
 ·exact⟨e',oR E.nodup e'⟩
 contradiction
def vJ(B:nX):Prop:=∀x a,B.m0.lookup x=some a->wa B.pf a (sk vm)=true
def CG.lows{lo h:Heap}{L:Option Nat}(f:CG B lo U h L x v):∃e,v=.ref e:=let ⟨e,_,_,_,_,q,_,_,_,_,_,_,_⟩:=f;⟨e,q⟩
set_option tactic.hygienic true in
def P0{lo:Heap}{L:Option Nat}{y1 y2:Nat}{z1 p2 p3 p4 p5:Pos}{Q:Flow->Shared->Prop}{E':Value->Shared->Prop}(g:Good B)(hf:kQ.frame=some kQ.locals)(S:St B kQ (kQ::k7) ρ U s)(nmk:mB κ kQ)(hi:κ.oW x=some i)(hv:ρ.get i=some (.ref e))
  (f:CG B lo U s.heap L ex (.ref e)) {fn:Nat} (X:A7 B ex.cls fn) (hg:wa B.pf ex.cls (sk vm)=true) (hr:∀w,ex.at_≠.raw w)
  (q:∀v s',Rv s'.heap (.tup [.none,ex.at_]) v->St B kQ (kQ::k7) ρ U s'->mr B.H0 Nx U s.heap U s'.heap->Q (.ret v) s'):
  aq B.mod A (iX [.Return (some (.Tuple [.Constant .none y1 z1,.Attribute (.Name x p2) ("at":Str) p3] y2 p4)) p5] kQ) Q E' s:=by
 dsimp only[iX];refine aa ?_;refine J (jP ..) ?_;refine aa (aI ?_);refine(?_:aq _ _ (bZ _ kQ>>=λv=>pure (Flow.ret v)) _ _ _);refine aa ?_;refine J (arm_eval_Tuple ..) ?_;refine aa (aI ?_);refine J (nA (by rfl) ..) (J (nA (by rfl) ..) ?_);refine aa ?_;refine(?_:aq _ _ (bZ (.Constant .none y1 z1) kQ>>=λv=>_) _ _ _);refine aa (ag (aa (ag (aa (ax ?_)))));refine(?_:aq _ _ (bZ (.Attribute (.Name x p2) ("at":Str) p3) kQ>>=λv=>_) _ _ _);refine aa ?_;refine J (arm_eval_Attribute ..) (J (xA rfl ..) ?_);refine aa (mY (aw (xz (Q:=λv' kP=>v'=.ref e/\kP=U) S nmk hi hv ⟨rfl,rfl⟩) (λv k8 z9=>?_) λ_ _ z=>z));refine lr λGp gk=>?_;obtain⟨pv,σ₁,⟨q1,q2⟩,r,oK,lm⟩:=z9;subst q1;have q2:=q2.symm;subst q2;clear q2;obtain rfl:=Rv.mW r;have lq:=S.up lm oK;have ZR:=f.step S hf lm.own;clear f oK;obtain⟨e,d,oe,vs,od,q1,⟨a2,a3,a5,a6⟩,q2,q3,q4,q5,⟨q6,l,m,q7,q8,_⟩,_⟩:=ZR;refine gk ?_
 (clear a2 a3 a6;injection q1 with q1;subst q1)
 refine lr λGp gk=>?_;subst q7;obtain⟨v',e5,rv⟩:=(tg (k:=vm) q8).1 ex.at_ rfl;refine gk ?_;refine aa (aI ?_);refine aa (ax (PZ (expr:=true) (g.KZ lq.own) X lq.own.base hg q2 q3 q4 q5 q6 e5 (rv.handed hr) ?_));refine aa (iy (ag ?_));refine aa (ag (aa (ax (ag (ag (ag ?_))))));refine wpAny_newTuple ?_ (by refine(?_:2<=eT);decide);have P:PR B (kQ::k7) l_ (λp kP=>p=.tup [.none,ex.at_]/\kP=U) U s (.ref k8.heap.objs.size) {k8 with heap:=k8.heap.push {cls:=.type "tuple",data:=.seq [cx,v'].toArray},toks:=k8.toks+1}:=
  PR.up lm (PR.E6 (t:=k8.toks+1) lq.gs (lR.cons (Rv.none _) (lR.one rv)) ⟨rfl,rfl⟩)
 refine lr λGp gk=>?_;clear lm lq;obtain⟨p,kP,⟨z1,z2⟩,r',G',p'⟩:=P;subst z1;subst z2;refine gk ?_;refine ag (ag ?_);exact q _ _ r' (S.up p' G') p'
def Ml(rV:tV B C k n)(EX:wr B)(EG:vJ B){b:List b_}{c y:Str}{a i y1 y2:Nat}{z1 p1 p2 p3 p4 p5 p6 pos:Pos}(x:Cx B C k n κ kQ (kQ::k7) A)(hf:kQ.frame=some kQ.locals)(S:St B kQ (kQ::k7) ρ U s)(hg:κ.mR c=true)(ha:κ.m0.lookup c=some a)
  (hl:κ.names.lookup y=some .local) (hi:κ.oW y=some i) (h:wpS C B.tab (.try (pH n κ b) (some (a,i))) ρ U Q E):
  aq B.mod A (jA (.Try b [.ExceptHandler (some (.Name c p1)) (some y) [.Return (some (.Tuple [.Constant .none y1 z1,.Attribute (.Name y p2) ("at":Str) p3] y2 p4)) p5] p6] [] [] pos) kQ) (SP B kQ (kQ::k7) Q U s) (SX B kQ (kQ::k7) A E U s) s:=by
 dsimp only[wpS]at h;refine D0 rV x hf S h λv s' hx=>?_;refine lr λGp gk=>?_;obtain⟨ex,nV,σ₁,⟨hc,oX,nr,q⟩,lq,lm,fl⟩:=hx;have PI:∀b,s.heap.get? b=.none->B.H0.get? b=.none:=λb z=>S.own.fresh z;obtain⟨e1,fn,X⟩:=EX c a (rr (x.ex ..) ha);have eg:=EG c a (rr (x.ex ..) ha);have ZP:κ.sx c=some (.ref a):=by
  dsimp only[nP.sx];exact J (if_pos hg ..) (J (x.gl ..) e1)
 obtain⟨hx,hk⟩:=AE lq.sS x.nm hi hl;refine gk ?_;refine to PI fl λaay lL XX W6 W7 W8=>?_;have mi:=lq.chg (t:=s'.toks) XX W6;have lV:mr B.H0 (oh kQ) U s.heap σ₁ lL:=lm.trans XX.WL λb z=>.inr (W7 b z);clear Gp gk fl;obtain⟨e,rfl⟩:=W8.lows;refine wpAny_handleBy_cons (codeAny_handlers_test ?_) (by intro q;contradiction);refine mY (aw (BS (Q:=λv' kP=>v'=.ref a/\kP=σ₁) x.g mi x.nm x.gl ZP ⟨rfl,rfl⟩) (λv vG z9=>?_) λ_ _ z=>z);refine lr λGp gk=>?_;obtain⟨pv,lH,⟨q1,q2⟩,r,IG,uI⟩:=z9;subst q1;have q2:=q2.symm;subst q2;obtain rfl:=Rv.mW r;have qF:=mi.up uI IG;have W9:=W8.step mi hf uI.own;have yS:=lV.uO uI.own;clear IG uI r;obtain⟨e',d,oe,vs,od,w1,_,w2,w3,_⟩:=id W9;refine gk ?_
 (clear gk;clear od fr q6 q7;injection w1 with w1;subst w1)
 refine lr λGp gk=>?_;obtain⟨nm,qq,N,bs,tl,z0,sn,sub,ab,col,dd,k0,k1,k2,k3,k5,hC,hT⟩:=X.cls;have hC:=qF.own.base _ _ hC;rw[hc]at w3;obtain⟨W_,ZS,ZT,Lh,ZU⟩:=vG;refine gk ?_;refine wpAny_excMatches_sub_self hC w2 w3 hT.base ?_;refine(?_:gH _ _ _ _ _);refine codeAny_handlers_suite_as ?_;refine to (s:=⟨W_,ZS,ZT,Lh,ZU⟩) PI W9 λaaz p_ W' Xa Xb ZV=>?_;have r_:=qF.chg (t:=Lh) W' Xa;have TL:mr B.H0 (oh kQ) U s.heap σ₁ p_:=yS.trans W'.WL λb z=>.inr (Xb b z);refine mY (aw (pY (p:=.ref e) (Q:=λρ' kP=>ρ'=nV.set i (some (.ref e))/\kP=σ₁) r_ hx hk (Rv.ref _ _) ⟨rfl,rfl⟩) (λ_ WE z9=>?_) λ_ _ z=>z);refine lr λGp gk=>?_;obtain⟨LX,mL,⟨q1,q2⟩,zY,FF⟩:=z9;subst q1;have q2:=q2.symm;subst q2;have ZW:=ZV.step r_ hf FF;have Mg:=TL.uO FF;refine gk ?_;refine P0 x.g hf zY x.nm hi (J (lK.get_set oX ..) (J (if_pos rfl ..) rfl)) ZW (hc▸X) (hc▸eg) nr.ne λv IS TA LK Pz=>?_;refine name_goes LK hx hk λaaA Xc Xd=>?_;rw[List.set_set]at Xc;exact⟨.ret (.tup [.none,ex.at_]),nV.set i .none,σ₁,q,⟨v,rfl,TA.keep (Xd.tk LK.own LK.SJ)⟩,Xc,(Mg.uO Pz.own).uO Xd⟩
noncomputable def putAll:lK->NL->List PV->lK
 |ρ,i::is,v::vs=>putAll (ρ.set i (some v)) is vs
 |ρ,_,_=>ρ
theorem AF:∀(l:List (Str×Nat)) {ps:List PV}{vs:List Value}{ρ:lK}{s:Shared},St B kQ kU ρ U s->(∀p∈l,kQ.scope.names[p.2]? =some (p.1,NameKind.local)/\kQ.kindOf p.1=some .local)->lR s.heap ps vs->
  aq B.mod A (ew (l.map λp=>gU kQ p.1) vs) (λ_ s'=>St B kQ kU (putAll ρ (l.map (·.2)) ps) U s'/\mr B.H0 (oh kQ) U s.heap U s'.heap) n_ s
 |[],ps,vs,ρ,s,S,_,r=>by
  refine(?_:aq _ _ (ew [] vs) _ _ _);dsimp only[ew];exact ag ⟨by clear vs r;rcases ps with _|_<;>exact S,.refl ..⟩
 |(x,i)::l,[],vs,ρ,s,S,_,r=>by
  dsimp only[lR]at r;subst r;exact ag ⟨S,.refl ..⟩
 |(x,i)::l,p::ps,vs,ρ,s,S,hl,r=>by
  obtain⟨v,r7,r1,r2⟩:=lR.ni r;obtain⟨h1,h2⟩:=hl _ aj;refine(?_:aq _ _ (c7 r7 (gU kQ x v)>>=λ_=>ew (l.map λp=>gU kQ p.1) r7) _ _ _);refine aa (ax (wpAny_bindName (aw (pY (Q:=λρ' kP=>ρ'=ρ.set i (some p)/\kP=U) S h1 h2 r1 ⟨rfl,rfl⟩) (λ_ k8 z9=>?_) λ_ _ z=>z)));obtain⟨nV,σ₁,⟨q1,q2⟩,lq,lm⟩:=z9;have q2:=q2.symm;subst q2;subst q1;exact aw (AF l lq (λp hp=>hl p (ay _ hp)) (r2.keep (lm.tk S.own S.SJ))) (λ_ _ z=>⟨z.1,lm.uO z.2⟩) λ_ _ z=>z
theorem lR.rev:∀{ps:List PV}{vs:List Value},lR h ps vs->lR h ps.reverse vs.reverse
 |[],vs,r=>by obtain rfl:=lR.q_ r;exact lR.nil
 |p::ps,vs,r=>by
  obtain⟨v,r7,r1,r2⟩:=lR.ni r;refine J (gh ..) (J (gh ..) ?_);exact r2.rev.app (.one r1)
def P4:∀{is:NL}{vs:List PV}{ρ:lK},vs.length=is.length->putAll ρ is.reverse vs.reverse=Bm ρ is vs:=by
 have app:∀(is js:NL) (vs us:List PV) (ρ:lK),vs.length=is.length->putAll ρ (is++js) (vs++us)=putAll (putAll ρ is vs) js us:=by
  intro is
  induction is with
  |nil=>intro js vs us ρ h;induction vs with
   |nil=>rfl
   |cons=>contradiction
  |cons i is ih=>intro js vs us ρ h;induction vs with
   |nil=>contradiction
   |cons v vs=>exact ih js vs us _ (gj h)
 intro is
 induction is with
 |nil=>intro vs ρ h;induction vs with
  |nil=>rfl
  |cons=>contradiction
 |cons i is ih=>intro vs ρ h;induction vs with
  |nil=>contradiction
  |cons v vs=>
   refine J (gh ..) (J (gh ..) (J (app _ _ _ _ _ (by simpa using gj h) ..) (J (ih (gj h) ..) ?_)));rfl
def Mm{l:List (Str×Nat)}{stores:List (Value->fZ Unit)}(x:Cx B C k n κ kQ (kQ::k7) A)(S:St B kQ (kQ::k7) ρ U s)(hl:∀p∈l,kQ.scope.names[p.2]? =some (p.1,NameKind.local)/\kQ.kindOf p.1=some .local)
  (r:Rv s.heap (.tup vs) v) (hn:vs.length=l.length) {P:Flow->Shared->Prop}{E':Value->Shared->Prop} (h:∀s',St B kQ (kQ::k7) (Bm ρ (l.map (·.2)) vs) U s'->mr B.H0 (oh kQ) U s.heap U s'.heap->P .next s'):
  aq B.mod A (assignStores kQ v (some (l.map (·.1))) stores) P E' s:=by
 unfold assignStores;refine aa (eF ?_);have hu:qW U (.tup vs) (l.map (·.1)).length λl'=>l'=vs/\U=U:=by
  unfold qW;exact xp.mk (by rw[ai,hn];exact Nat.beq_refl _) ⟨rfl,rfl⟩
 refine aa (mY (aw (Ax (Q:=λl kP=>l=vs/\kP=U) S.gs x.a.handled r hu) (λkX k8 z9=>?_) λ_ _ z=>z));refine lr λGp gk=>?_;clear v r hu;obtain⟨ps,σ₁,⟨q1,q2⟩,ri,oK,lm⟩:=z9;have q2:=q2.symm;subst q2;subst q1;have lq:=S.up lm oK;have e:(l.map (·.1)).reverse.map (λn=>gU kQ n)=l.reverse.map λp=>gU kQ p.1:=by
  rw[←dQ,bU];rfl
 refine gk ?_;rw[e];refine aa (mY (aw (AF l.reverse lq (λp hp=>hl p (List.mem_reverse.mp hp)) (lR.rev ri)) (λ_ me ⟨mi,lV⟩=>ag (h me ?_ (lm.own.uO lV))) λ_ _ z=>z));rw[dQ,P4 (by rw[ai];exact hn)]at mi;exact mi
def P5(E:td kQ)(nm:mB κ kQ)(h:OA κ x=some i):kQ.scope.names[i]? =some (x,.local)/\kQ.kindOf x=some .local:=by
 dsimp only[OA]at h
 split at h
 ·rename_i q;exact AE E nm h (beq_iff_eq.mp q)
 contradiction
def Mn(hf:∀e,pt e=false->f e=false)(h:noStar vs=true):¬(vs.any f=true):=by
 dsimp only[noStar]at h;intro z;obtain⟨e,he,UR⟩:=List.any_eq_true.mp z;rw[hf e (by simpa using aC.mp h e he)]at UR;contradiction
def Mo(h:HG e=some q):e=.Name q.1 q.2:=by
 have v:=nY e;dsimp only[HG]at h;generalize mO e=w at h v
 induction v<;>first|exact lx h|exact rr (af h ..) rfl
def Mp:∀{l:List (Str×Pos)},rE HG ts=some l->ts=l.map λq=>.Name q.1 q.2:=by
 induction ts with
 |nil=>intro l h;refine rr (af h ..) ?_;rfl
 |cons e ts ih=>
  intro l h;obtain⟨a,l,h1,h2⟩:=oJ h;refine J (Mo h1 ..) (J (ih h2 ..) ?_);rfl
inductive yU(kQ:aD):List (Str×Pos)->NL->Prop
 |nil:yU kQ [] []
 |cons {q:Str×Pos}{l:List (Str×Pos)}{i:Nat}{is:NL} (h:kQ.scope.names[i]? =some (q.1,NameKind.local)/\kQ.kindOf q.1=some .local) (r:yU kQ l is):yU kQ (q::l) (i::is)
def P6(E:td kQ)(nm:mB κ kQ):∀{is:NL},rE (λq:Str×Pos=>OA κ q.1) l=some is->yU kQ l is:=by
 induction l with
 |nil=>intro is h;exact rr (af h ..) .nil
 |cons q l ih=>
  intro is h;obtain⟨i,is,h1,h2⟩:=oJ h;exact .cons (P5 E nm h1) (ih h2)
def yU.pairs(h:yU kQ l is):∃p:List (Str×Nat),p.map (·.1)=l.map (·.1)/\p.map (·.2)=is/\∀z∈p,kQ.scope.names[z.2]? =some (z.1,NameKind.local)/\kQ.kindOf z.1=some .local:=by
 induction h with
 |nil=>exact⟨[],rfl,rfl,λ_ z=>nomatch z⟩
 | @cons q l i is h r ih=>
  obtain⟨p,e1,e2,e3⟩:=ih;exact⟨(q.1,i)::p,congrArg (q.1:: ·) e1,congrArg (i:: ·) e2,λz hz=>(aU.mp hz).elim (λe=>e▸h) (e3 z)⟩
def P7(h:yU kQ l is)(hl:(l.all λq=>q.2.line==line)=true):(l.map λq=>j6 q.1 q.2).filterMap (yO kQ line)=l.map (·.1):=by
 induction h with
 |nil=>rfl
 | @cons q l i is h r ih=>
  rw[ce,aE]at hl;refine J (aK ..) (J (fF ..) ?_);have e:yO kQ line (.Name q.1 q.2)=some q.1:=by
   refine(?_:(if(kQ.kindOf q.1==some NameKind.local&&q.2.line==line)=true then some q.1 else none)=some q.1);refine J (h.2 ..) (J (hl.1 ..) ?_);rfl
  refine J (e ..) (J (ih hl.2 ..) ?_);rfl
def I7:∀l:List Str,p7 l=true->l.eraseDups=l:=by
 intro z9
 induction z9 with
 |nil=>
  intro _;exact rfl
 |cons a l ih=>
  intro h;dsimp only[p7]at h;rw[aE]at h;rw[List.eraseDups_cons];have e:l.filter (λb=> !b==a)=l:=kM.mpr λb hb=>by
   have:=h.1;rw[bu,List.contains_eq_mem,decide_eq_false_iff_not]at this;rw[bu,beq_eq_false_iff_ne];exact λz=>this (z▸hb)
  rw[e,ih h.2]
def P8(bk:kQ.blockKind=.function)(hz:(!(ts.length==2||ts.length==3))=false)(hv:vs.length=ts.length)(hs:noStar vs=true)(hn:ts.filterMap (yO kQ ((ts.head?.map (·.pos.line)).getD 0))=names)(hl:names.length=ts.length)(hd:names.eraseDups=names)(hf:vs.all (gM 8)=false)(hc:vs.all (iz 8)=false):
  cW [.Tuple ts a b] (.Tuple vs c d) kQ=pure (some names):=by
 unfold cW;dsimp only;rw[if_neg (by rw[hz,bk,hv,bne_self_eq_false];decide),if_neg (Mn (λe he=>by rcases e with _|_<;>first|rfl|contradiction) hs)];generalize hx:List.filterMap _ ts=TM;obtain rfl:TM=names:=hx.symm.trans hn;rw[if_neg (by rw[hl,hd,bne_self_eq_false,hl,bne_self_eq_false];decide),if_neg (by rw[hf];decide),if_neg (by rw[hc];decide)]
def FP(E:td kQ)(nm:mB κ kQ)(h:OE κ t v=some (some is)):∃l:List (Str×Nat),cW [t] v kQ=pure (some (l.map (·.1)))/\l.map (·.2)=is/\∀p∈l,kQ.scope.names[p.2]? =some (p.1,NameKind.local)/\kQ.kindOf p.1=some .local:=by
 have bk:kQ.blockKind=.function:=by
  dsimp only[Env.blockKind];refine J (E.kind ..) ?_;rfl
 dsimp only[OE]at h;cases ht:px t with
 |none=>rw[ht]at h;cases hl:isList t<;>(dsimp only at h;rw[hl]at h;exact nomatch h)
 |some ts=>
  obtain⟨a,b,rfl⟩:=qw ht;rw[ht]at h;cases hv:px v with
  |none=>dsimp only at h;rw[hv]at h;exact nomatch h
  |some vs=>
   obtain⟨c,d,rfl⟩:=qw hv;dsimp only at h;rw[hv]at h;dsimp only at h;clear ht;cases q:(vs.all (gM 8)|| !(ts.length==2||ts.length==3)||ts.any (Ba κ))with
   |true=>rw[q]at h;exact nomatch h
   |false=>
    rw[q]at h;rw[cQ,cQ]at q;refine lS h λl h1 h=>?_;clear hv;refine lS h λis' h2 h=>?_;rcases hc:xV l&&p7 (l.map (·.1))&&vs.length==ts.length&&noStar vs&&!vs.all (iz 8)with _|_
    ·rw[hc]at h;contradiction
    rw[hc]at h;obtain rfl:=af (af h);simp only[aE,beq_iff_eq,bu]at hc;have L:=P6 E nm h2;clear h2;obtain⟨p,e1,e2,e3⟩:=L.pairs;have et:=Mp h1;clear h1;subst et;have hd:((l.map λq=>j6 q.1 q.2).head?.map (·.pos.line)).getD 0=(l.head?.map (·.2.line)).getD 0:=by clear L e1 q h hc;rcases l with _|_<;>rfl
    refine⟨p,?_,e2,e3⟩;refine J (e1 ..) ?_;exact P8 bk q.1.2 hc.1.1.2 hc.1.2 (J (hd ..) (P7 L hc.1.1.1.1)) (J (ai ..) (J (ai ..) rfl)) (I7 _ hc.1.1.1.2) q.1.1 hc.2
theorem I8(g:Go B C k n){t e:am}{is:NL}(x:Cx B C k n κ kQ (kQ::k7) A)(hf:kQ.frame=some kQ.locals)(S:St B kQ (kQ::k7) ρ U s)(hw:OE κ t e=some (some is))
  (h:wpS C B.tab (.CK is (lP n κ e)) ρ U Q E):aq B.mod A (jA (.Assign [t] e pos) kQ) (SP B kQ (kQ::k7) Q U s) (SX B kQ (kQ::k7) A E U s) s:=by
 dsimp only[wpS]at h;obtain⟨l,e1,e2,e3⟩:=FP S.sS x.nm hw;refine J (jQ ..) ?_;refine aa (aI ?_);obtain⟨b,hb,UL⟩:=DT t e pos.line kQ;refine J (hb ..) (J (pure_bind ..) ?_);clear hb;cases b with
 |true=>
  refine lr λGp gk=>?_;clear e1 gk;obtain⟨⟨nm,np,rfl⟩,hc⟩:=UL rfl;exact nomatch hw
 |false=>
  simp only[aY,if_false];refine LM x.a.frames hf S (λ_ _ q=>q) (g.x x S h) λv s' pv kP q r S' p=>?_;rcases pv with _|_<;>try exact q.elim
  obtain⟨hn,q⟩:=xp.ex q;have hn:=dx (az.mp hn).1;refine J (e1 ..) (J (pure_bind ..) ?_);refine Mm x S' e3 r (J (hn ..) (rr (e2 ..) (J (ai ..) rfl))) λme mi lV=>?_;rw[e2]at mi;exact⟨.next,_,kP,q,rfl,mi,p.own.uO lV⟩
def oA{P:Prop}(h:wpS C B.tab .stuck ρ U Q E):P:=a_ h
def Mq(h:Gu c=true):c=.none:=by rcases c with _|_<;>first|(contradiction;done)|(rcases h with _|_;rfl)
def Mr(h:xP κ e=some (a,m,x)):∃c p y z q,e=.Call (.Name c p) [.Constant (.str m) y z,x] [] q/\κ.mR c=true/\κ.m0.lookup c=some a:=by
 refine lr λGp gk=>?_;refine lS h λuz h1 h=>?_;obtain⟨f,as,kw⟩:=uz;refine lS h λc h2 h=>?_;refine lS h λuz h3 h=>?_;obtain⟨e1,e2⟩:=uz;refine lS h λcc h4 h=>?_;refine lS h λs h5 h=>?_;dsimp only at h h2 h3 h4;refine gk ?_;rcases hg:κ.mR c&&kw.isEmpty with _|_
 ·rw[hg]at h;contradiction
 rw[hg]at h;rw[aE,dS]at hg;refine lr λGp gk=>?_;refine vZ h λa' ha q'=>?_;clear h;rcases q' with _|_
 obtain⟨q,e1⟩:=Ag h1;obtain⟨p,e2⟩:=og h2;obtain⟨y,z,e4⟩:=uy h4;refine gk ?_;exact⟨c,p,y,z,q,J (e1 ..) (J (e2 ..) (J (Bg h3 ..) (J (e4 ..) (J (DF h5 ..) (J (hg.2 ..) rfl))))),hg.1,ha⟩
set_option tactic.hygienic true in
def AG(h:wF κ hs=some (a,o)):∃c p nm b p2,hs=[.ExceptHandler (some (.Name c p)) nm b p2]/\κ.mR c=true/\κ.m0.lookup c=some a/\(match nm with|.none=>o=.none|some x=>∃i,o=some i/\Gx κ x b=some i):=by
 rcases hs with _|⟨⟨t,nm,b,p2⟩,_|⟨h2,hs⟩⟩<;>try contradiction
 rcases t with _|t
 ·contradiction
 rcases t with _|_<;>try exact lx h
 rename_i c p;have h:(match κ.mR c with
  |true=>(match κ.m0.lookup c with
   |some a=>(match (generalizing:=false) nm with
    |.none=>some (a,.none)
    |some x=>(Gx κ x b).map λi=>(a,some i))
   |.none=>.none)
  |false=>.none)=some (a,o):=h
 rcases hg:κ.mR c with _|_
 ·rw[hg]at h;contradiction
 rw[hg]at h;dsimp only at h;rcases ha:κ.m0.lookup c with _|a'
 ·rw[ha]at h;contradiction
 rw[ha]at h
 induction nm with
 |none=>rcases h with _|_;exact⟨c,p,.none,b,p2,rfl,hg,ha,rfl⟩
 |some y=>
  refine lr λGp gk=>?_;refine vZ h λi hi q=>?_;clear h;rcases q with _|_
  refine gk ?_;exact⟨c,p,some y,b,p2,rfl,hg,ha,i,rfl,hi⟩
def Ms(h:wF κ hs=some (a,o)):∃CF,hs=[CF]:=by
 refine lr λGp gk=>?_;obtain⟨c,p,nm,b,p2,e,_⟩:=AG h;refine gk ?_;exact⟨_,e⟩
def TN(h:Gx κ x b=some i):∃y1 z1 p2 p3 y2 p4 p5,b=[.Return (some (.Tuple [.Constant .none y1 z1,.Attribute (.Name x p2) ("at":Str) p3] y2 p4)) p5]/\κ.names.lookup x=some .local/\κ.oW x=some i:=by
 rcases b with _|⟨s,_|⟨s2,b⟩⟩
 ·contradiction
 ·refine lr λGp gk=>?_;refine lS h λe h1 h=>?_;refine lS h λes h2 h=>?_;refine lS h λuz h3 h=>?_;obtain⟨e1,e2⟩:=uz;refine lS h λc h4 h=>?_;refine lS h λuz h5 h=>?_;obtain⟨o,at_⟩:=uz;refine lS h λy h6 h=>?_;obtain⟨p5,g1⟩:=J_ h1;obtain⟨y2,p4,g2⟩:=qw h2;obtain⟨y1,z1,g4⟩:=uy h4;obtain⟨p3,g5⟩:=Af h5;obtain⟨p2,g6⟩:=og h6;dsimp only at g4 g5 g6;have hq:(match Gu c&&y==x&&at_==("at":Str)&&κ.names.lookup x==some .local with|true=>κ.oW x|false=>.none)=some i:=h;refine gk ?_;rcases hy:Gu c&&y==x&&at_==("at":Str)&&κ.names.lookup x==some .local with _|_
  ·rw[hy]at hq;contradiction
  rw[hy]at hq;simp only[aE,beq_iff_eq]at hy;refine lr λGp gk=>?_;obtain⟨⟨⟨h7,h8⟩,h9⟩,h10⟩:=hy;refine gk ?_;exact⟨y1,z1,p2,p3,y2,p4,p5,J (g1 ..) (J (g2 ..) (J (Bg h3 ..) (J (g4 ..) (J (g5 ..) (J (g6 ..) (J (Mq h7 ..) (J (h8 ..) (J (h9 ..) rfl)))))))),h10,hq⟩
 contradiction
def P9(h:wF κ hs=some (a,some i)):∃c y y1 y2 z1 p1 p2 p3 p4 p5 p6,hs=[.ExceptHandler (some (.Name c p1)) (some y) [.Return (some (.Tuple [.Constant .none y1 z1,.Attribute (.Name y p2) ("at":Str) p3] y2 p4)) p5] p6]/\κ.mR c=true/\κ.m0.lookup c=some a/\κ.names.lookup y=some .local/\κ.oW y=some i:=by
 refine lr λGp gk=>?_;obtain⟨c,p,nm,b,p2,rfl,hg,ha,q⟩:=AG h;refine gk ?_;clear h gk;rcases nm with _|y
 ·contradiction
 refine lr λGp gk=>?_;obtain⟨i',e,hr⟩:=q;obtain rfl:=af e;obtain⟨y1,z1,q2,q3,y2,q4,q5,rfl,hl,hi⟩:=TN hr;refine gk ?_;exact⟨c,y,y1,y2,z1,p,q2,q3,q4,q5,p2,rfl,hg,ha,hl,hi⟩
set_option tactic.hygienic true in
def TO(EX:wr B)(EG:vJ B)(hk:0<k)(rV:tV B C k n):WS B C k (n+1):=by
 intro κ kQ k7 A st ρ U s Q E x hf S h;have x':=x.less;have g:Go B C k n:=uN n;clear x;rcases st with _|_
 case Assign ts v p=>
  clear rV;rcases ts with _|⟨t,_|⟨t2,ts⟩⟩
  ·exact oA h
  ·have h:wpS C B.tab (match OE κ t v with
    |some o=>(match o with
     |.none=>.asg (v4 n κ t) (lP n κ v)
     |some is=>.CK is (lP n κ v))
    |.none=>.stuck) ρ U Q E:=h
   rcases hw:OE κ t v with _|_|is
   ·rw[hw]at h;exact oA h
   ·rw[hw]at h;clear g;rcases n with _|m
    ·exact a_ h
    exact LV (uN m) (uN (m+1)) x' hf S hw h
   rw[hw]at h;exact I8 g x' hf S hw h
  exact oA h
 case Expr v p=>
  have h:wpS C B.tab (match rX v with|true=>.stuck|false=>.expr (lP n κ v)) ρ U Q E:=h
  induction hc:rX v with
  |true=>rw[hc]at h;exact oA h
  |false=>rw[hc]at h;exact IW g x' hf S hc h
 case Return v p=>
  induction v with
  |some v=>exact LN g x' hf S h
  |none=>exact IX S h
 case If t b e p=>exact PK g rV x' hf S h
 case While t b e p=>
  rcases e with _|⟨_,_⟩
  ·exact FH g rV x' hf S h
  exact oA h
 case For t it b e p=>
  induction e with
  |nil=>
   have h:wpS C B.tab (match v0 (sA n κ it).1 t with|true=>.Op (v4 n κ t) (sA n κ it).1 (sA n κ it).2 (pH n κ b)|false=>.stuck) ρ U Q E:=h
   induction hit:v0 (sA n κ it).1 t with
   |true=>rw[hit]at h;exact LZ rV x' hf S hit h
   |false=>rw[hit]at h;exact oA h
  |cons _ _=>exact oA h
 case Raise ex ca p=>
  induction ca with
  |some _=>exact oA h
  |none=>
   induction ex with
   |none=>exact oA h
   |some e=>
    have hq:wpS C B.tab (match xP κ e with|some (a,m,x)=>.raise a (cs m) (lP n κ x)|.none=>.stuck) ρ U Q E:=h;clear h;rcases hr:xP κ e with _|⟨a,m,ex⟩
    ·rw[hr]at hq;exact oA hq
    rw[hr]at hq;refine lr λGp gk=>?_;obtain⟨c,p1,y1,z,q,rfl,hg,ha⟩:=Mr hr;refine gk ?_;exact FM g EX hk x' hf S hg ha hq
 case Try b hs e fi p=>
  induction e with
  |cons _ _=>exact oA h
  |nil=>
   induction fi with
   |cons _ _=>exact oA h
   |nil=>
    have hq:wpS C B.tab (match wF κ hs with|some (a,o)=>.try (pH n κ b) (o.map λi=>(a,i))|.none=>.stuck) ρ U Q E:=h;clear h;rcases hh:wF κ hs with _|⟨a,o⟩
    ·rw[hh]at hq;exact oA hq
    rw[hh]at hq
    induction o with
    |none=>
     obtain⟨CF,rfl⟩:=Ms hh;exact Mj rV x' hf S hq
    |some i=>
     refine lr λGp gk=>?_;obtain⟨c,y,y1,y2,z1,p1,p2,p3,p4,p5,p6,rfl,hg,ha,hl,hi⟩:=P9 hh;refine gk ?_;exact Ml rV EX EG x' hf S hg ha hl hi hq
 all_goals exact oA h
def Mt:WS B C k 0:=by
 intro κ kQ k7 A st ρ U s Q E x hf S h;exact oA h
def I9:tV B C k 0:=by
 intro κ kQ k7 A st ρ U s Q E x hf S h;dsimp only[pH,lO]at h;exact oA h
def I_(EX:wr B)(EG:vJ B)(hk:0<k)(n:Nat):tV B C k n/\WS B C k n:=by
 induction n with
 |zero=>exact⟨I9,Mt⟩
 |succ n ih=>exact⟨PJ ih.2 ih.1,TO EX EG hk ih.1⟩
structure RS(B:nX)(T:Vy):Prop where
 fns:∀f t,T.fns.lookup f=some t->∃n,n<=57/\FnAt B (B.ml,B.m0) n f t
 cls:∀c t,T.cls.lookup c=some t->∃n f,n<=55/\L8 B c f/\FnAt B (B.ml,B.m0) n f t
set_option tactic.hygienic true in
theorem G9{T:Vy}(g:Good B)(EX:wr B)(EG:vJ B)(H:RS B T):∀k,uH B (qe T B.tab k) (k+1)
 |0=>AD
 |k+1=>by
  have ih:=G9 g EX EG H k;have go:∀n,tV B (qe T B.tab k) (k+1) n/\WS B (qe T B.tab k) (k+1) n:=λn=>I_ EX EG (cB k) n;refine⟨λ{f vs args U s kU A Q E} h G r a=>?_,λ{f vs U Q E} h=>?_⟩
  ·dsimp only[qe]at h
   split at h
   ·rename_i t e;obtain⟨n,hn,F⟩:=H.fns f t e;exact PP g (go n).1 ih F hn h G r a
   split at h
   ·rename_i t e;refine lr λGp gk=>?_;obtain⟨n,fi,hn,X,F⟩:=H.cls f t e;refine gk ?_;exact L9 g (go n).1 ih X F hn h G r a
   exact h.elim
  dsimp only[qe]at h
  split at h
  ·rename_i t e;obtain⟨n,hn,F⟩:=H.fns f t e;exact F.keep
  split at h
  ·rename_i t e;refine lr λGp gk=>?_;obtain⟨n,fi,hn,X,F⟩:=H.cls f t e;refine gk ?_;exact X.keep
  exact h.elim
end
section
open PySem PySem.W PySem.Calls PyProof.Rows PySem.SeqAt PySem.MeetsSeq PySem.W.FB PySem.W.KBy
def Mu(h:UI v t=true):v=.type t:=by
 dsimp only[UI]at h
 induction v with
 |type s=>rw[beq_iff_eq.mp h]
 |_=>contradiction
def Sub(g:mn)(h:Heap):Prop:=∀a o,g a=some o->h.get? a=some o
set_option tactic.hygienic true in
def Mv(G:Sub g h)(e:BG g a=some l):pz h a l.toArray:=by
 change VD (g a)=some l at e;rcases q:g a with _|⟨c,d,dat,sl⟩<;>rw[q]at e
 ·contradiction
 replace q:=G _ _ q;rcases d with _|_<;>rcases dat with _|_<;>try contradiction
 rename_i kX n;have e:(match UI c "tuple"&&sl.isEmpty with
  |true=>some kX.toList
  |false=>.none)=some l:=e
 induction q2:UI c "tuple"&&sl.isEmpty<;>rw[q2]at e<;>rcases e with _|_
 refine lw q2 λq3 q4=>?_;refine⟨n,?_⟩;refine(?_:h.get? a=some _);exact J (q ..) (J (Mu q3 ..) (J (Array.isEmpty_iff.mp q4 ..) (J (fj ..) rfl)))
def AH(H:∀v p,f v=some p->Rv h p v):∀{l:List Value}{ps:List PV},rZ (l.map f)=some ps->lR h ps l:=by
 intro z9
 induction z9 with
 |nil=>
  intro ps e;obtain rfl:=af e;exact lR.nil
 |cons v l ih=>
  intro ps e;rw[aK]at e;rcases q:f v with _|p
  ·rw[q]at e;contradiction
  rw[q]at e;refine vZ e λr hr S4=>?_;clear e;subst S4;exact .cons (H v p q) (ih hr)
set_option tactic.hygienic true in
def G_(G:Sub g h):∀(n:Nat) (v:Value) (p:PV),E2 g n v=some p->Rv h p v:=by
 intro z9
 induction z9 with
 |zero=>
  intro _ _ e;contradiction
 |succ n ih=>
  intro v p e
  induction v<;>first
   |(rcases e with _|_;done)
   |(rcases e with _|_;dsimp only[Rv];first|rfl|exact⟨_,rfl⟩|skip)
   |skip
  ·rename_i s t;exact⟨s.toList,t,J (fj ..) rfl,rfl⟩
  rename_i a;have e:(match BG g a with
   |some kX=>(rZ (kX.map (E2 g n))).map .tup
   |.none=>match xq g a with
    |true=>some (.ref a)
    |false=>.none)=some p:=e
  induction q:BG g a with
  |some kX=>
   rw[q]at e;refine vZ e λps hp S4=>?_;clear e;subst S4;dsimp only[Rv];exact⟨a,kX,rfl,Mv G q,AH (ih) hp⟩
  |none=>
   rw[q]at e;have e:(match xq g a with
    |true=>some (.ref a)
    |false=>.none)=some p:=e
   clear q;induction q2:xq g a<;>rw[q2]at e<;>rcases e with _|_
   exact Eq.refl _
def Mw(h:posB fd=true):xC fd (fd.params.args.map (·.arg)):=by
 refine lw h λh1 h=>?_;refine lw h λh2 h=>?_;refine lw h λh3 h4=>?_;exact⟨dS.mp h1,rfl,dS.mp h2,dL.mp h3,dL.mp h4⟩
set_option tactic.hygienic true in
def Ha(G:Sub g h)(e:EI g cd q=true):h.CodeRec cd q:=by
 rcases cd with _|_<;>try rcases e with _|_
 rename_i c;have e:Rw q (g c)=true:=e;rcases ho:g c with _|⟨k,d,dat,sl⟩<;>rw[ho]at e
 ·contradiction
 replace ho:=G _ _ ho;rcases dat with _|_<;>try contradiction
 rename_i vs;have e:Ru q vs[1]? =true:=e;rcases hv:vs[1]? with _|v<;>rw[hv]at e
 ·contradiction
 rcases v with _|_<;>try contradiction
 rename_i s t;have e:(s==q)=true:=e;rw[eq_of_beq e]at hv;exact⟨c,_,vs,t,rfl,ho,rfl,hv⟩
set_option tactic.hygienic true in
def TP(G:Sub g h)(e:GF g v=some ds):(v=.none/\ds=[])\/∃T od vW m,v=.ref T/\h.get? T=some od/\od.data=.seq (c9 vW) m/\lR h ds vW:=by
 rcases v with _|_<;>try rcases e with _|_
 ·exact .inl ⟨rfl,rfl⟩
 rename_i T;have e:VE g (g T)=some ds:=e;rcases ho:g T with _|⟨k,d,dat,sl⟩<;>rw[ho]at e
 ·contradiction
 replace ho:=G _ _ ho;rcases dat with _|_<;>try contradiction
 rename_i kX m;exact .inr ⟨T,_,kX.toList,m,rfl,ho,J (fj ..) rfl,AH (G_ G 2) e⟩
def D1(h:UJ fd=true)(h':UK fd.scope=true):L5 fd:=by
 dsimp only[UJ]at h;dsimp only[UK]at h';simp only[aE,beq_iff_eq,aC,bu,dS]at h h';obtain⟨⟨h3,h4⟩,h5⟩:=h;obtain⟨⟨⟨h1,h2⟩,h6⟩,h7⟩:=h';exact⟨h1,λx hx=>by have:=h2 _ hx;simp at this,h3,h4,h5,h6,h7⟩
def P_(e:uC g a=some x):∃c d fd sl,g a=some ⟨c,d,.func fd,sl⟩:=by
 change Ku g (g a)=some x at e;rcases ho:g a with _|⟨c,d,dat,sl⟩<;>rw[ho]at e
 ·contradiction
 rcases dat with _|_<;>try contradiction
 exact⟨_,_,_,_,rfl⟩
noncomputable def Mx(K:List (Str×PV)×List (Str×Nat))(x:Part):Option mG:=match UK x.2.2.1&&p7 x.1&&decide (x.2.1.length<=x.1.length)with
 |true=>some ⟨x.1,x.2.1,x.2.2.1.names,pH 55 ⟨x.2.2.1.names,K.1,K.2⟩ x.2.2.2⟩
 |false=>.none
set_option tactic.hygienic true in
def My{B:nX}{g:mn}(G:Sub g B.H0){a:Nat}{t:mG}{x:Part}(e:uC g a=some x)(e':Mx (B.ml,B.m0) x=some t)(k:jC B.pf (.ref a)=true):FnAt B (B.ml,B.m0) 55 a t:=by
 change Ku g (g a)=some x at e;rcases ho:g a with _|⟨c,d,dat,sl⟩<;>rw[ho]at e
 ·contradiction
 replace ho:=G _ _ ho;rcases dat with _|_<;>try contradiction
 rename_i fd;change Rx g fd fd.body (GF g fd.defaults)=some x at e;rcases hb:fd.body with _|_<;>rw[hb]at e<;>try contradiction
 rename_i body;rcases hd:GF g fd.defaults with _|ds<;>rw[hd]at e
 ·contradiction
 have e:(match UJ fd&&(posB fd&&EI g fd.code fd.qualname)with
  |true=>some (fd.params.args.map (·.arg),ds,fd.scope,body)
  |false=>.none)=some x:=e
 induction q:UJ fd&&(posB fd&&EI g fd.code fd.qualname)<;>rw[q]at e<;>rcases e with _|_
 refine lw q λq1 q=>?_;refine lw q λq2 q3=>?_;have e':(match UK fd.scope&&p7 (fd.params.args.map (·.arg))&&decide (ds.length<=(fd.params.args.map (·.arg)).length)with
  |true=>some ⟨fd.params.args.map (·.arg),ds,fd.scope.names,pH 55 ⟨fd.scope.names,B.ml,B.m0⟩ body⟩
  |false=>.none)=some t:=e'
 induction q':UK fd.scope&&p7 (fd.params.args.map (·.arg))&&decide (ds.length<=(fd.params.args.map (·.arg)).length)<;>rw[q']at e'<;>rcases e' with _|_
 refine lw q' λq' q6=>?_;refine lw q' λq4 q5=>?_;exact⟨⟨_,fd,body,ho,rfl,hb,D1 q1 q4,Mw q2,rfl,rfl,Ha G q3,TP G hd⟩,tj q5,of_decide_eq_true q6,k⟩
def yV(h:zB names p i=true):qc names (p::ps) (v::vs) ρ=qc names ps vs (ρ.set i (some v)):=by
 have h:VF i (ql p names 0)=true:=h
 show (match ql p names 0 with
  |some (i,.local)=>qc names ps vs (ρ.set i (some v))
  |some (i,.cell)=>qc names ps vs (ρ.set i (some v))
  |_=>.none)=_
 generalize ql p names 0=o at h;rcases o with _|q
 ·contradiction
 obtain⟨j,k⟩:=q;refine lw h λh1 h2=>?_;clear h;obtain rfl:=eq_of_beq h2;clear h;rcases k with _|_<;>first|rfl|exact ft h1
set_option tactic.hygienic true in
def TQ(G:Sub g h)(e:VH g C=true):TJ C (h.get? C):=by
 have e:VG C (g C)=true:=e;rcases ho:g C with _|o
 ·rw[ho]at e;contradiction
 rw[ho]at e;replace ho:=G _ _ ho;obtain⟨c,dd,dat,sl⟩:=o;rcases dat with _|_<;>try contradiction
 rename_i cd;refine lr λGp gk=>?_;obtain⟨name,bases,mro,ns,qualname,hasDict,slotNames,subclasses,abstract,collection,hasDel⟩:=cd;refine lw e λe1 e=>?_;refine lw e λe2 e=>?_;refine lw e λe3 e4=>?_;refine gk ?_;rcases mro with _|⟨v,tl⟩
 ·contradiction
 refine lr λGp gk=>?_;clear e;refine lw e3 λa1 e3=>?_;clear e;refine lw e3 λa2 e3=>?_;clear e;refine lw e3 λa3 e3=>?_;clear e;refine lw e3 λa4 a5=>?_;obtain rfl:=eq_of_beq a1;have e2:hasDel=false:=(bu _).mp e2;clear e3;subst e2;obtain⟨l⟩:=sl;refine gk ?_;rcases l with _|⟨k0,_|⟨k1,_|⟨k2,_|⟨k3,_|⟨k4,_|⟨k5,_|⟨k6,ks⟩⟩⟩⟩⟩⟩⟩<;>try contradiction
 rw[eq_of_beq (show (k4==some (.builtin "Exception.__new__"))=true from e4),Mu e1]at ho;exact⟨name,qualname,ns,bases,tl,hasDict,slotNames,subclasses,abstract,collection,dd,k0,k1,k2,k3,k5,ho,⟨a2,a3,(bu _).mp a4,(bu _).mp a5⟩⟩
def Mz(h:Kv s=some (a,nm,w)):∃q1 qt q2 q,s=.Assign [.Attribute (.Name a q1) nm qt] (.Name w q2) q:=by
 refine lr λGp gk=>?_;refine lS h λuz h1 h=>?_;obtain⟨ts,v⟩:=uz;refine lS h λt h2 h=>?_;refine lS h λuz h3 h=>?_;obtain⟨o,n⟩:=uz;refine lS h λa' h4 h=>?_;refine vZ h λw' h5 h=>?_;cases h;obtain⟨q,rfl⟩:=CN h1;clear h1 h;obtain rfl:=xn h2;clear h2;clear h;obtain⟨qt,rfl⟩:=Af h3;clear h3;clear h;obtain⟨q1,rfl⟩:=og h4;clear h;obtain⟨q2,rfl⟩:=og h5;refine gk ?_;exact⟨_,_,_,_,rfl⟩
def MA(h:Ry e=some x):∃p,e=.Attribute (.Name x.1 p) x.2.1 x.2.2:=by
 refine lr λGp gk=>?_;refine lS h λf h1 h=>?_;refine vZ h λex h2 h=>?_;obtain⟨p,e2⟩:=og h2;refine gk ?_;refine⟨p,?_⟩;exact J (EN h1 ..) (J (e2 ..) (rr (h ..) rfl))
def MB(h:Rz l=some x):∃p q,l=[.Name x.1 p,.Name x.2 q]:=by
 refine lr λGp gk=>?_;refine lS h λy h1 h=>?_;refine lS h λa h2 h=>?_;refine vZ h λw h3 h=>?_;obtain⟨p,e2⟩:=og h2;obtain⟨q,e3⟩:=og h3;refine gk ?_;refine⟨p,q,?_⟩;exact J (Bg h1 ..) (J (e2 ..) (J (e3 ..) (rr (h ..) rfl)))
def MC(h:RA v=some (ex,Xe,a,w,b)):∃p1 ap p2 p3 p,v=.Call (.Attribute (.Name ex p1) Xe ap) [.Name a p2,.Name w p3] [] p/\b=(ap.endLine==p.line):=by
 refine lr λGp gk=>?_;refine lS h λuz h1 h=>?_;obtain⟨f,as,kw,p⟩:=uz;refine lS h λuz h2 h=>?_;obtain⟨ex',aaB,ap⟩:=uz;refine lS h λuz h3 h=>?_;obtain⟨a',w'⟩:=uz;obtain⟨p1,e2⟩:=MA h2;clear h2;obtain⟨p2,p3,e3⟩:=MB h3;refine gk ?_;clear Gp gk h3;induction kw with
 |nil=>
  rcases h with _|_;refine⟨p1,ap,p2,p3,p,?_,rfl⟩;refine J (EM h1 ..) ?_;dsimp only at e2 e3 ⊢;exact J (e2 ..) (J (e3 ..) rfl)
 |cons _ _=>contradiction
def Qa(h:baseOf s=some (ex,Xe,a,w,b)):∃p1 ap p2 p3 p pos,s=.Expr (.Call (.Attribute (.Name ex p1) Xe ap) [.Name a p2,.Name w p3] [] p) pos/\b=(ap.endLine==p.line):=by
 refine lr λGp gk=>?_;refine lS h λv h1 h=>?_;obtain⟨pos,e1⟩:=EO h1;obtain⟨p1,ap,p2,p3,p,e2,e3⟩:=MC h;refine gk ?_;exact⟨p1,ap,p2,p3,p,pos,J (e1 ..) (J (e2 ..) rfl),e3⟩
def Qb(e:GG κ body=some (ia,iw,ix)):vI κ ia iw ix body:=by
 rcases body with _|⟨s1,_|⟨s2,_|⟨s3,_|⟨s4,body⟩⟩⟩⟩<;>try contradiction
 refine lr λGp gk=>?_;refine lS (show (baseOf s1).bind _=_ from e) λuz h1 e1=>?_;obtain⟨ex,Xe,a,w,b⟩:=uz;clear e;refine lS e1 λuz h2 e2=>?_;obtain⟨a',nw,w'⟩:=uz;clear e1;refine lS e2 λuz h3 e3=>?_;obtain⟨a'',na,x⟩:=uz;clear e2;obtain⟨p1,ap,p2,p3,p,pos,e4,e5⟩:=Qa h1;obtain⟨q1,qt,q2,q,e6⟩:=Mz h2;obtain⟨r1,rt,r2,r,e7⟩:=Mz h3;clear h1 h2 h3;subst e4;subst e5;subst e6;subst e7;dsimp only at e3;refine gk ?_;rcases hc:(ex==("Exception":Str)&&Xe==("__init__":Str)&&a'==a&&a''==a&&w'==w&&nw==sk rY&&na==sk vm&&(ap.endLine==p.line)&&κ.mR ("Exception":Str))with _|_
 ·rw[hc]at e3;contradiction
 rw[hc]at e3;refine lr λGp gk=>?_;refine lS e3 λi1 g1 e3=>?_;refine lS e3 λi2 g2 e3=>?_;refine vZ e3 λi3 g3 e3=>?_;rcases e3 with _|_
 simp only[aE]at hc;obtain⟨⟨⟨⟨⟨⟨⟨⟨b1,b2⟩,b3⟩,b4⟩,b5⟩,b6⟩,b7⟩,b8⟩,b9⟩:=hc;refine gk ?_;refine J (eq_of_beq b1 ..) (J (eq_of_beq b2 ..) (J (eq_of_beq b3 ..) (J (eq_of_beq b4 ..) (J (eq_of_beq b5 ..) (J (eq_of_beq b6 ..) (J (eq_of_beq b7 ..) ?_))))));exact⟨a,w,x,p1,p2,p3,ap,p,pos,q1,q2,qt,q,r1,r2,rt,r,g1,g2,g3,b9,b8,rfl⟩
def I'(o1:zB ns p1 ia=true)(o2:zB ns p2 iw=true)(o3:zB ns p3 ix=true)(d1:ia≠iw)(d2:ia≠ix)(d3:iw≠ix)(l1:ia<ns.length)(l2:iw<ns.length)(l3:ix<ns.length)(v1 v2 v3:PV):
  ∃ρ,qc ns [p1,p2,p3] [v1,v2,v3] (ci ns.length .none)=some ρ/\ρ.get ia=some v1/\ρ.get iw=some v2/\ρ.get ix=some v3:=by
 refine⟨_,by refine J (yV o1 ..) (J (yV o2 ..) (J (yV o3 ..) ?_));rfl,?_,?_,?_⟩
 ·exact J (lK.get_set (by simpa using l3) ..) (J (if_neg d2 ..) (J (lK.get_set (by simpa using l2) ..) (J (if_neg d1 ..) (J (lK.get_set (by simpa using l1) ..) (J (if_pos rfl ..) rfl)))))
 ·exact J (lK.get_set (by simpa using l3) ..) (J (if_neg d3 ..) (J (lK.get_set (by simpa using l2) ..) (J (if_pos rfl ..) rfl)))
 exact J (lK.get_set (by simpa using l3) ..) (J (if_pos rfl ..) rfl)
set_option tactic.hygienic true in
def TR{B:nX}{g:mn}(G:Sub g B.H0){f:Nat}(e:VM g (B.ml,B.m0) (g f)=true):B6 B f:=by
 rcases ho:g f with _|o
 ·rw[ho]at e;contradiction
 rw[ho]at e;replace ho:=G _ _ ho;obtain⟨c,dd,dat,sl⟩:=o;rcases dat with _|_<;>try contradiction
 rename_i fd;have e:VL g (B.ml,B.m0) fd fd.body=true:=e;rcases hb:fd.body with _|_<;>rw[hb]at e<;>try contradiction
 rename_i body;have e:VK g (B.ml,B.m0) fd body (fd.params.args.map (·.arg))=true:=e;rcases hp:fd.params.args.map (·.arg)with _|⟨p1,_|⟨p2,_|⟨p3,_|⟨p4,ps⟩⟩⟩⟩<;>rw[hp]at e<;>try contradiction
 have e:VJ g (B.ml,B.m0) fd body p1 p2 p3 fd.defaults=true:=e;rcases hd:fd.defaults with _|_<;>rw[hd]at e<;>try contradiction
 rename_i T;have e:VI g fd p1 p2 p3 (GG ⟨fd.scope.names,B.ml,B.m0⟩ body) (g T)=true:=e;rcases hi:GG ⟨fd.scope.names,B.ml,B.m0⟩ body with _|i
 ·rw[hi]at e;contradiction
 rw[hi]at e;rcases hT:g T with _|od
 ·rw[hT]at e;contradiction
 rw[hT]at e;replace hT:=G _ _ hT;obtain⟨c',dd',ZX,sl'⟩:=od;rcases ZX with _|_<;>try contradiction
 rename_i vW m;refine lr λGp gk=>?_;obtain⟨ia,iw,ix⟩:=i;refine lw e λc1 e=>?_;refine lw e λc1' e=>?_;refine lw e λc2 e=>?_;refine lw e λc3 e=>?_;refine lw e λc4 e=>?_;refine lw e λo1 e=>?_;refine lw e λo2 e=>?_;refine lw e λo3 e=>?_;refine lw e λd1 e=>?_;refine lw e λd2 e=>?_;refine lw e λd3 e=>?_;refine lw e λl1 e=>?_;refine lw e λl2 e=>?_;refine lw e λl3 c5=>?_;refine gk ?_;refine⟨_,fd,body,[p1,p2,p3],ia,iw,ix,T,_,vW.toList,m,ho,rfl,hb,D1 c1 c1',hp▸Mw c2,tj c3,rfl,Ha G c4,Qb hi,I' o1 o2 o3 (of_decide_eq_true d1) (of_decide_eq_true d2) (of_decide_eq_true d3) (of_decide_eq_true l1) (of_decide_eq_true l2) (of_decide_eq_true l3),hd,hT,J (fj ..) rfl,?_⟩;exact J (Array.length_toList ..) (of_decide_eq_true c5)
def MD{B:nX}{g:mn}(G:Sub g B.H0){C f:Nat}(e:SE g B.pf (B.ml,B.m0) C f=true):A7 B C f/\wa B.pf C (sk vm)=true:=by
 refine lr λGp gk=>?_;refine lw e λe1 e=>?_;refine lw e λe2 e=>?_;refine lw e λe3 e=>?_;refine lw e λe4 e=>?_;refine lw e λe5 e=>?_;refine lw e λe6 e=>?_;refine lw e λe7 e8=>?_;refine gk ?_;exact⟨⟨TQ G e1,eq_of_beq e2,eq_of_beq e3,eq_of_beq e4,e5,e6,TR G e8⟩,e7⟩
def Qc(G:Sub g h):(p9 g as).In h:=λa o e=>by
 refine lr λGp gk=>?_;obtain⟨b,_,hb⟩:=List.mem_filterMap.mp (mem_of_lookup e);refine vZ hb λo' ho q=>?_;clear hb;clear left;cases q;refine gk ?_;exact G _ _ ho
def Qd(e:g a=some o):∀{as:NL},as.contains a=true->(p9 g as).lookup a=some o:=by
 intro z9
 induction z9 with
 |nil=>
  intro h;contradiction
 |cons b as ih=>
  intro h;dsimp only[p9];refine J (fF ..) ?_
  by_cases q:a=b
  ·clear h;subst q;refine J (e ..) ?_;refine(?_:kC a ((a,o)::_)=_);exact J (aQ ..) (J (beq_self_eq_true ..) rfl)
  have h':as.contains a=true:=by simpa [q]using h
  have ih:=ih h';rcases z:g b with _|o'
  ·exact ih
  refine(?_:kC a ((b,o')::_)=_);refine J (aQ ..) (J (beq_false_of_ne q ..) ?_);exact ih
set_option tactic.hygienic true in
def B7(G:Sub g h)(e:Dn g a=some l)(k:l.all xt=true):h.Ns a (vt l):=by
 have e:(match g a with|some ⟨_,_,.dict es _,_⟩=>some es.toList|_=>cM)=some l:=e;rcases ho:g a with _|⟨cc,d2,dat,sl⟩<;>rw[ho]at e
 ·exact lx e
 rcases dat with _|_
 case dict es n=>
  obtain rfl:=af e;refine⟨_,es,n,G _ _ ho,rfl,λe he=>?_,λx=>?_⟩
  ·have:=aC.mp k e (Array.mem_toList_iff.mpr he);obtain⟨_,k,_⟩:=e;rcases k with _|_<;>first|exact ft this|exact⟨_,_,rfl⟩
  dsimp only[nsFind,findBy,vt];exact J (Array.find?_toList ..) rfl
 all_goals exact lx e
structure ME(X:Text):Prop where
 fns:X.H4.fns.map (λp=>(srcOf X p.1 p.2.ds).bind (Mx (X.ml,X.m0)))=X.H4.fns.map λp=>some p.2
 cls:X.H4.cls.map (λp=>((X.Aq.lookup p.1).bind λf=>srcOf X f p.2.ds).bind (Mx (X.ml,X.m0)))=X.H4.cls.map λp=>some p.2
 all:X.ml.map (λp=>X.all.lookup p.1)=X.ml.map λp=>some (some p.2)
 ok:(X.ml.all (λp=> !(p.1==("__debug__":Str)))&&BF.all (λp=> !((X.all.map (·.1)).contains p.1)&&!(p.1==("__debug__":Str)))&&X.H4.fns.all (λp=>X.as.contains p.1)&&X.H4.cls.all (λp=>(X.Aq.lookup p.1).all λf=>X.as.contains f))=true
 m0:X.m0.map (λp=>X.ml.lookup p.1)=X.m0.map λp=>some (.ref p.2)
noncomputable def uv(X:Text)(prog:Program)(w:eY)(g:mn)(h:Heap)(os:eB):nX:=⟨prog,w,h,os,X.ml,X.tab,X.m0,p9 g X.as⟩
def wt{α β:Type}{f g:α->β}:∀{l:List α},l.map f=l.map g->∀a∈l,f a=g a:=by
 intro z9
 induction z9 with
 |nil=>
  intro _ _ h;contradiction
 |cons b l ih=>
  intro e a h;rw[aK,aK]at e;obtain⟨e1,e2⟩:=bw e;clear e;rcases aU.mp h with rfl|h
  ·exact e1
  exact ih e2 a h
set_option tactic.hygienic true in
def On:∀{l:List bY}{r:List (Str×Option PV)},rZ (l.map (GH g))=some r->l.all xt=true/\∀x,(∀o,r.lookup x=some o->∃y,vt l x=some y/\E2 g 6 y=o)/\((r.map (·.1)).contains x=false->vt l x=.none):=by
 intro z9
 induction z9 with
 |nil=>
  intro r e;obtain rfl:=af e;exact⟨rfl,λx=>⟨λo h=>(by contradiction),λ_=>rfl⟩⟩
 |cons e l ih=>
  intro r h;rw[aK]at h;obtain⟨hash,key,val⟩:=e;rcases key with _|_<;>first|(contradiction;done)|skip
  rename_i s t;refine vZ (show (rZ (l.map (GH g))).map ((s,E2 g 6 val):: ·)=some r from h) λr' hr S4=>?_;clear h;subst S4;obtain⟨h1,h2⟩:=ih hr;refine⟨by refine J (ce ..) (J (h1 ..) ?_);rfl,λx=>?_⟩;obtain⟨h3,h4⟩:=h2 x;have fe:vt (⟨hash,.str s t,val⟩::l) x=if(s==x)=true then some val else vt l x:=by
   dsimp only[vt];refine J (dh ..) ?_;refine(?_:(match (s==x)with|true=>some _|false=>_).map _=_);rcases s==x with _|_<;>rfl
  refine J (fe ..) ?_;clear fe;by_cases q:s=x
  ·clear h3 h4;subst q;refine J (beq_self_eq_true ..) (J (if_pos rfl ..) ?_);refine⟨λo ho=>⟨val,rfl,?_⟩,λhc=>?_⟩
   ·rw[aQ,beq_self_eq_true]at ho;exact af ho
   rw[aK,bO,beq_self_eq_true]at hc;contradiction
  refine J (beq_false_of_ne q ..) (J (if_neg (by decide) ..) ?_);refine⟨λo ho=>h3 o ?_,λhc=>h4 ?_⟩
  ·rw[aQ,beq_false_of_ne (dW q)]at ho;exact ho
  rw[aK,bO,cQ]at hc;exact hc.2
set_option tactic.hygienic true in
def Qf{X:Text}{prog:Program}{w:eY}{g:mn}{h:Heap}{os:eB}(G:Sub g h)(e:OM X g=GI X)(R:ME X):Good (uv X prog w g h os)/\wr (uv X prog w g h os)/\vJ (uv X prog w g h os)/\RS (uv X prog w g h os) X.H4:=by
 have e1:((Dn g cL).bind λl=>rZ (l.map (GH g)))=some X.all:=congrArg Prod.fst e;have e2:=congrArg (λx=>x.2.1) e;have e3:=congrArg (λx=>x.2.2.1) e;have e4:SG X g=true:=congrArg (λx=>x.2.2.2) e;refine lr λGp gk=>?_;refine lS e1 λl1 Yk GL=>?_;obtain⟨k1,k2⟩:=On GL;dsimp only[SG]at e4;simp only[aE]at e4;obtain⟨⟨⟨⟨⟨⟨⟨b1,b2⟩,b4⟩,b7⟩,b8⟩,b9⟩,b10⟩,b12⟩:=e4;have ok:=R.ok;simp only[aE,aC,bu]at ok;obtain⟨⟨⟨o1,o2⟩,o3⟩,o4⟩:=ok;have xr:∀x a,X.m0.lookup x=some a->SE g (p9 g X.as) (X.ml,X.m0) a X.BH=true:=λx a hx=>aC.mp b10 _ (mem_of_lookup hx);have kfn:∀a x,uC g a=some x->X.as.contains a=true->jC (p9 g X.as) (.ref a)=true:=λa x hx hc=>by
  obtain⟨c,d,fd,sl,ho⟩:=P_ hx;unfold jC;dsimp only;exact J (Qd ho hc ..) rfl
 refine gk ?_;refine⟨{sys:= ?_,pf:=Qc G,lim:= ?_,JX:=⟨_,B7 G Yk k1,λx v hx=>?_,λx v hx=>?_⟩,SI:= ?_,att:=λC nm hc=>aC.mp b7 _ (bj.mp hc),put:=λC nm hc=>aC.mp b8 _ (bj.mp hc),met:=λC nm f hc=>aC.mp b9 _ (mem_of_lookup hc)},λx a hx=>?_,λx a hx=>?_,⟨λf t hx=>?_,λc t hx=>?_⟩⟩
 ·intro q;obtain⟨o,ho⟩:=jx.mp b1;rw[show (uv X prog w g h os).H0=h from rfl,G _ _ ho]at q;contradiction
 ·split at b2
  ·rename_i l hl;rw[aE]at b2;exact⟨_,B7 G hl b2.1,dL.mp b2.2⟩
  contradiction
 ·refine⟨o1 _ (mem_of_lookup hx),?_⟩;obtain⟨y,hy,hv⟩:=(k2 x).1 _ (wt R.all _ (mem_of_lookup hx));exact⟨y,hy,G_ G 6 y v hv⟩
 ·have:=o2 _ (mem_of_lookup hx);exact⟨(k2 x).2 this.1,this.2⟩
 ·split at b4
  ·rename_i l hl;rw[aE]at b4;exact⟨_,B7 G hl b4.1,λx v hx=>beq_iff_eq.mp (aC.mp b4.2 _ (mem_of_lookup hx))⟩
  contradiction
 ·exact⟨wt R.m0 _ (mem_of_lookup hx),X.BH,(MD (B:=uv X prog w g h os) G (xr x a hx)).1⟩
 ·exact(MD (B:=uv X prog w g h os) G (xr x a hx)).2
 ·refine lS (wt R.fns _ (mem_of_lookup hx)) λx ZY ZZ=>?_;have hp:uC g f=some x:=(wt e2 _ (mem_of_lookup hx)).trans ZY;exact⟨55,by decide,My (B:=uv X prog w g h os) G hp ZZ (kfn _ _ hp (o3 _ (mem_of_lookup hx)))⟩
 have c1:=aC.mp b12 _ (mem_of_lookup hx);have c4:=o4 _ (mem_of_lookup hx);refine lr λGp gk=>?_;refine lS (wt R.cls _ (mem_of_lookup hx)) λx ZY ZZ=>?_;have c2:(X.Aq.lookup c).bind (λf=>uC g f)=some x:=(wt e3 _ (mem_of_lookup hx)).trans ZY;refine lS c2 λf hf hr=>?_;rw[hf]at c1 c4;have c1:Kw (p9 g X.as) c f=true:=c1;have c4:X.as.contains f=true:=c4;dsimp only[Kw]at c1;simp only[aE,beq_iff_eq]at c1;obtain⟨⟨⟨d1,d2⟩,d3⟩,d4⟩:=c1;refine gk ?_;exact⟨55,f,by decide,⟨d1,d2,d3,d4⟩,My (B:=uv X prog w g h os) G hr ZZ (kfn _ _ hr c4)⟩
end
section
open PySem PySem.W PySem.Calls PyProof.Rows
def TS(w:eY)(os:eB):topGo dD pw w 11 ann 12 (S0 w os) (topStub pw)=some (Sa w os,⟨denote dD cT,cT,xa,[jj xa]⟩):=by kernel_rfl
def MF(w:eY)(os:eB):segRun dD pw w 11 ann 1 1 (Sa w os) (blockOf (d_ pw) H5 cT xa [jj xa])=some (.next,Sa w os,cT,xa):=by kernel_rfl
def Qg(w:eY)(os:eB):(toT (Sa w os)).abs=Sa w os:=by kernel_rfl
def Qh:ME tx:=⟨by kernel_rfl,by kernel_rfl,by kernel_rfl,by kernel_rfl,by kernel_rfl⟩
def MG(t:SharedT):Sub (Kx t) t.abs.heap:=λa o e=>by
 unfold Kx at e
 split at e
 ·rename_i q;refine lS e λo' h1 h2=>?_;exact(abs_get (ae q) h1).trans h2
 contradiction
def TT(w:eY)(s:Shared)(q:Pos):topRun dD pw w 11 ann 3 s ⟨doneF .next,cT,q,[jj xa]⟩=some s:=rfl
noncomputable def Ll(w:eY)(s:Shared):Bool:=staticsOk (eA pw.main.body) (gi w.params) s.heap&&j3 pw s.heap&&gensDone s&&laidKept (gi w.params) s.heap
theorem one(w:eY)(os:eB):∃t q,segRunT dD pw w 11 ann 1 5749 (toT (Sa w os)) (piecesOf (d_ pw) H5 cT xa [jj xa])=some (.next,t,cT,q)/\Ll w t.abs=true/\
  openSeen qv uD (eA pw.main.body) (λ_=>true) true t.abs=openGood qv uD/\OM tx (Kx t)=GI tx:=by
 have h:=Y9 w os;rw[←Fast.te10110043849684766642,←Fast.te14364793385576792824,←ju,←Fast.te4187177175401517315]at h;refine lr λGp gk=>?_;refine lS h λuz h1 h2=>?_;obtain⟨f,t,c,q⟩:=uz;refine gk ?_;cases f with
 |next=>
  have h2:=af h2;have e1:=congrArg Prod.fst h2;have e2:=congrArg (λx=>x.2.1) h2;have e3:=congrArg (λx=>x.2.2.1) h2;have e4:=congrArg (λx=>x.2.2.2) h2;dsimp only at e1 e2 e3 e4;clear h2;subst e1;exact⟨t,q,h1,e2,e3,e4⟩
 |ret v=>exact lx h2
 |brk=>exact lx h2
 |cont=>exact lx h2
def Qi(w:eY):((gi w.params).isNs cL&&(Array.mk ([]:List GenState)).size==0,(gi w.params).objs.size,(gi w.params).nsMap cL "__annotations__")=(true,11,ann):=by kernel_rfl
def Yl:Shared->Prop:=λs=>∃g,Sub g s.heap/\OM tx g=GI tx
def MH:opening pw=plainProg pw.main.scope.names:=by kernel_rfl
def MI(s:Shared):fenceModules? pw s=some s:=by kernel_rfl
def TU(w:eY)(os:eB){s:Shared}{q:Pos}(h:segRun dD pw w 11 ann 1 5749 (Sa w os) (piecesOf (d_ pw) H5 cT xa [jj xa])=some (.next,s,cT,q)):topRun dD pw w 11 ann (12+(1+(5749+3))) (S0 w os) (topStub pw)=some s:=by
 refine go_top (TS w os) (piece_block (MF w os) ?_);have k:=piece_app (rest:=[]) h (piece_nil (env:=H5) (TT w s q));rw[aJ]at k;exact k
def Qj{p q:Program}{loose:List Str}{Xt:Shared->Bool}{α:Type}{Yf:Shared->α}{Ya:eY->α}{N:Nat}{g0:Bool}{yW:Params->Heap}{Hb:Array GenState}{TW:Drawn}{TX Xf M:Nat}{an:Option Value}
  (RT:∀w:eY,(fencedOpening dD p w N).map (λs=>(s.heap,s.gens,s.drawn,s.toks))=some (yW w.params,Hb,TW,TX))
  (size:∀w:eY,((yW w.params).isNs cL&&Hb.size==0,(yW w.params).objs.size,(yW w.params).nsMap cL "__annotations__")=(true,Xf,an))
  (run:∀(w:eY) (os:eB),∃s,topRun dD p w Xf an M ⟨yW w.params,Hb,TW,TX,os⟩ (topStub p)=some s/\(staticsOk (eA p.main.body) (yW w.params) s.heap&&j3 p s.heap&&gensDone s&&laidKept (yW w.params) s.heap)=true/\
   openSeen q loose (eA p.main.body) Xt g0 s=openGood q loose/\Yf s=Ya w) (le:M<=N):LeftO p q loose Xt Yf Ya N g0:=λw=>by
 refine lr λGp gk=>?_;refine vZ (RT w) λuz e e'=>?_;obtain⟨h,gs,d,k,os⟩:=uz;clear RT;obtain⟨rfl,rfl,rfl,rfl⟩:h=yW w.params/\gs=Hb/\d=TW/\k=TX:=by simpa using e'
 obtain⟨z1,z2,z3⟩:_/\_/\_:=by simpa only[Prod.mk.injEq]using size w
 obtain⟨s,h1,h2,h3,h4⟩:=run w os;have r:=topRun_mono (N-M) _ _ _ _ h1;rw[show M+(N-M)=N by exact Nat.add_sub_cancel' le]at r;have tf:topFrom dD p w N ⟨yW w.params,gs,d,k,os⟩=some s:=by
  unfold topFrom;dsimp only;refine J (z1 ..) (J (z2 ..) (J (z3 ..) (J (r ..) ?_)));refine(?_:(match staticsOk (eA p.main.body) (yW w.params) s.heap&&j3 p s.heap&&gensDone s&&laidKept (yW w.params) s.heap with|true=>some s|false=>none)=_);exact J (h2 ..) rfl
 refine gk ?_;unfold openEnds;refine J (e ..) ?_;refine(?_:(topFrom dD p w N _).map _=_);refine J (tf ..) ?_;exact congrArg some (Prod.ext h3 h4)
def Ql:LeftO pw qv uD (λ_=>true) Yl (λ_=>True) 12000:=Qj (boot_open MH (by decide) MI) Qi (λw os=>by
 refine lr λGp gk=>?_;obtain⟨t,q,h1,h2,h3,h4⟩:=one w os;have h1:=segRun_of h1;rw[Qg]at h1;refine gk ?_;exact⟨t.abs,TU w os h1,h2,h3,propext ⟨λ_=>trivial,λ_=>⟨Kx t,MG t,h4⟩⟩⟩) (by decide)
noncomputable abbrev LR:OpenRow:=aW.row
def s3:namesResolve aW.row.prog=true:=by rw[Fast.te8377067652309620493];kernel_rfl
def s5:noRoadLSs
 {strict:= !(eA aW.row.prog.main.body).all cThrough.contains,foot:=none,
  bare:=
   List.filter (readsOut aW.row.prog aW.row.prog.main.body)
    [bx "vars",bx "dir",bx "locals"]}
 aW.row.prog.main.body=true:=by rw[jt,ju,bn,Fast.te17691160309236699985,Fast.te13343964577679436407];kernel_rfl
def s6:namesMeet aW.row.prog aW.row.prog.main.body (λ_ n=>attrL n)=true:=by rw[du,Fast.te17868728402115742887];kernel_rfl
def Qm:aW.wellSaid=true:=by
 unfold OpenLaw.wellSaid OpenRow.wellSaid OpenRow.partSaid looksOpen
 repeat' with_reducible refine look_both ?_ ?_
 ·rw[Fast.te11788848310118352699];kernel_rfl
 ·rw[Fast.te9807087744658564304,Fast.te12862048085361865435];kernel_rfl
 ·with_reducible exact s3
 ·rw[cZ,dm,bn,bX,Fast.te14412699480532031325];kernel_rfl
 ·with_reducible exact s5
 ·with_reducible exact s6
 ·kernel_rfl
 ·kernel_rfl
 ·rw[cZ,Fast.te9706382859710513879];kernel_rfl
 ·rw[cZ,bn,bX,dm,S.strDecS_eq,Fast.te2357444279172408678];kernel_rfl
 ·rw[R.mapR_eq,bX];kernel_rfl
 ·rw[cZ,Fast.te4857012375875476094,jK,bn,bX,dm];kernel_rfl
 ·rw[Fast.te13582783067957832011];kernel_rfl
 ·rw[fS];kernel_rfl
 ·rw[fS];kernel_rfl
 ·rw[cZ,fS];kernel_rfl
 ·rw[cZ,Fast.te4579403493507170074,R.anyR_eq,Fast.te4274047373036748609];kernel_rfl
 ·rw[cZ];kernel_rfl
 ·kernel_rfl
 ·rw[bn,bX,dm];kernel_rfl
 ·rw[bn,bX,Fast.te12749700546528644094];kernel_rfl
 ·kernel_rfl
 ·rw[cZ,Fast.te10501279942588096481];kernel_rfl
 ·rw[Fast.te8179353310426384613];kernel_rfl
 ·kernel_rfl
 ·kernel_rfl
 ·rw[jt,jD,jr];kernel_rfl
 ·rw[Fast.te9558739934217749035];kernel_rfl
 ·rw[Fast.te16286561074155671207];kernel_rfl
 ·rw[cZ,bX];kernel_rfl
 ·rw[cZ,jD,jK,bX,fR];kernel_rfl
 ·rw[cZ,jm,jo,fR];kernel_rfl
 ·rw[cZ,jm,jo,fR,Fast.te482687673346738481,bX];kernel_rfl
 ·rw[du,bn,bX,jr];kernel_rfl
 ·rw[bn,bX,dv];kernel_rfl
 ·rw[Fast.te7723801398212525404,bX,dv];kernel_rfl
 ·rw[cZ,dv,jK];kernel_rfl
 ·rw[du,bn,bX,dv];kernel_rfl
 rw[du,bX];kernel_rfl
def MJ:(defOf qv LR.name).isSome=true:=by kernel_rfl
def Qn:(defOf qv LR.name).map (λx=>(x.1.params,x.1.body,x.1.scope))=LR.prog.theDef LR.name:=by kernel_rfl
def TY:(defOf qv LR.name).bind (λx=>kwWritten? x.1.params.kwonlyargs x.1.params.kw_defaults)=(defOf qv LR.name).map (·.2):=by kernel_rfl
def MK:opensWell LR.prog=true:=by kernel_rfl
def Ja:chainsOk qv=true:=by kernel_rfl
def ML:(frees LR.toRowW&&LR.within.isEmpty)=true:=by kernel_rfl
def Qo:LR.prog.bare:=⟨rfl,rfl,rfl,rfl,rfl,by decide+kernel⟩
def D2:LR.toRowW.promised:=⟨[.list []],by decide+kernel,by decide+kernel⟩
def Oo(call:∀d Xg,defOf qv LR.name=some (d,Xg)->WalkX qv uD (λ_ _=>True) Yl (λ_=>True) LR.toRowW d Xg λf vs=>PySem.call f vs):aW.Holds:=by
 refine holds_law Qm λZ0=>?_;obtain⟨⟨d,Xg⟩,hd⟩:=jx.mp MJ;have h1:=Qn;have h2:=TY;rw[hd]at h1 h2;exact holds_openX (q:=qv) (loose:=uD) (Xt:=λ_=>true) (XP:=λ_ _=>True) (Yf:=Yl) (Ya:=λ_=>True) (N:=12000) Ql (λ_ _=>trivial) (λ_ _ _ _ _=>trivial) hd h1.symm h2 (λ_ _=>recFacts_nil rfl) rfl Z0 (by rw[Ja,MK,ML];rfl) Qo D2 (call d Xg hd)
def MM{R:jl}:∀{ds:List WData},WShape.hasItems R ds .int=true->∃xs:List Int,ds=xs.map .int:=by
 intro z9
 induction z9 with
 |nil=>
  intro _;exact⟨[],rfl⟩
 |cons d ds ih=>
  intro h;dsimp only[WShape.hasItems]at h;rw[aE]at h;obtain⟨xs,rfl⟩:=ih h.2;have h1:=h.1;clear h;rcases d with _|_<;>first|exact⟨_::xs,rfl⟩|contradiction
def has_list{R:jl}{d:WData}(h:WShape.has R d (.list .int)=true):∃xs:List Int,d=.list (xs.map .int):=by
 rcases d with _|_<;>try contradiction
 obtain⟨xs,e⟩:=MM ((d9 _).symm.trans h);exact⟨xs,J (e ..) rfl⟩
def TZ{R:jl}{xs:List Int}(q:63<xs.length):im R (.lt (.lit (.int 63)) (.len (.arg 0))) {args:=[.list (xs.map .int)]}=some (.bool true):=
 congrArg (λb=>some (WData.bool b)) (decide_eq_true (aH.mpr (J (ai ..) q)):decide ((63:Int)<(((xs.map WData.int).length:Nat):Int))=true)
def T1{R:jl}{t:WTm}{e:WCtx}(h:im R t e=some (.bool true)):im R (.not t) e=some (.bool false):=by
 dsimp only[im];rw[h];rfl
def and_val{R:jl}{a b:WTm}{e:WCtx}(h:im R a e=some (.bool false)):WTm.holds R (.and a b) e=false:=by
 dsimp only[WTm.holds,im];rw[h]
def T2{R:jl}{xs:List Int}(hp:WTm.holds R (.and (.not (.lt (.lit (.int 63)) (.len (.arg 0)))) (.lit (.bool true))) {args:=[.list (xs.map .int)]}=true):xs.length<=63:=by
 rcases iT 63 xs.length with q|q
 ·exact absurd ((and_val (T1 (TZ q))).symm.trans hp) (by decide)
 exact q
def Jb{P:Params}{h:Heap}:∀{xs:List Int}{vs:List Value},WellAll P h vs (xs.map .int)->lR h (xs.map .int) vs:=by
 intro z9
 induction z9 with
 |nil=>
  intro vs w;cases w;exact lR.nil
 |cons x xs ih=>
  intro vs w;cases w with
  |cons a b=>
   cases a
   exact .cons (Rv.int _ _ _) (ih b)
def Jc{g:mn}{h h':Heap}(G:Sub g h)(k:∀b o,h.get? b=some o->h'.get? b=some o):Sub g h':=λa o e=>k a o (G a o e)
set_option tactic.hygienic true in
def law_of(H:∀(xs:List Int) (U:kO) (p:Nat),xs.length<=63->U p=some (.Aj (xs.map PV.int))->qe sN lF 99 895 [.ref p] U (λv _=>v=.bool true) (λ_ _=>False)):aW.Holds:=by
 refine Oo λd Xg hd=>?_;intro w s₀ k8 mg mb G Y a o pm cd doc dV kV ho hdt Ot hD Z1 hg args vals as L Xh Z2 T3 Ym PI;obtain⟨g,hg1,hg2⟩:Yl s₀:=by refine J (Y ..) ?_;trivial
 have G1:Sub g k8.heap:=Jc hg1 L.keeps;clear ho L Z2 T3;obtain⟨gd,ex,eg,tb⟩:=Qf (prog:=pw) (w:=w) (os:=k8.os) G1 hg2 Qh;generalize hB:uv tx pw w g k8.heap k8.os=B at gd ex eg tb;have ha:a=895:=by
  obtain⟨mg',hn,hv,_⟩:=gd.JX;obtain⟨_,y,hy,hr⟩:=hv (so "law") (.ref 895) (by refine rr (hB ..) ?_;kernel_rfl);have e1:mg (so "law")=some (.ref a):=by refine rr (Z1 ..) (J (defOf_name hd ..) ?_);rfl
  have e2:=Rv.mW hr;clear Z1 hr;subst e2;have n1:=G.T.g;rw[←hB]at hn;obtain⟨o1,Lr,n1',h1,d1,_,f1⟩:=n1;obtain⟨o2,es2,n2',h2,d2,_,f2⟩:=hn;change k8.heap.get? cL=some o2 at h2;rw[h1]at h2;obtain rfl:=af h2;rw[d1]at d2;(injection d2 with d2;subst d2);rw[←f1,f2,hy]at e1;cases e1;rfl
 clear Z1;subst ha;obtain⟨hsh,hp⟩:=pre_splitW Xh;clear Xh;obtain⟨d1,r1,rfl,yX,Qp⟩:=hasAllW_cons (e:=.list .int) (es:=[]) hsh;clear hsh;obtain rfl:=hasAllW_nil Qp;obtain⟨xs,rfl⟩:=has_list yX;have hlen:xs.length<=63:=T2 hp;cases Ym with
 |cons w1 w2=>
 cases w2
 cases w1 with
 |list hl hw=>
 rename_i p vs;have R1:=Jb hw
 let U:kO:=λb=>if b=p then some (.Aj (xs.map PV.int))else .none
 have Wm:U p=some (.Aj (xs.map PV.int)):=if_pos rfl;have Gσ:Gs B [] U k8:=by
  clear gd ex eg tb;subst hB;refine⟨⟨λb o e=>e,λb mo e=>?_⟩,λe he=>(by contradiction),hg,rfl⟩
  by_cases q:b=p
  ·subst q;rw[Wm]at e;obtain rfl:=af e;exact⟨.inr ⟨_,rfl⟩,_,hl,vs,0,rfl,R1⟩
  rw[show U b=.none from if_neg q]at e;contradiction
 have A:Kz 100 0 [] callerA:=⟨rfl,rfl,by decide,by decide⟩;have hB1:B.tab=lF:=by refine rr (hB ..) ?_;rfl
 have hB2:tx.H4=sN:=rfl;have run:=(G9 gd ex eg tb 99).run (f:=895) (vs:=[.ref p]) (args:=[.ref p]) (J (hB1 ..) (H xs U p hlen Wm)) Gσ (.one (Rv.ref _ _)) A;have hm:B.mod=fM LR.toRowW.prog w:=by refine rr (hB ..) ?_;rfl
 rw[hm]at run;refine aw run (λv s' z8=>?_) λe s' z9=>by obtain⟨_,_,q,_,_,_⟩:=z9;exact q.elim
 obtain⟨pv,kP,q,rv,G',p'⟩:=z8;subst q;have hv:v=.bool true:=by dsimp only[l_,Rv]at rv;exact rv
 clear rv;subst hv;refine⟨.inl ⟨.bool true,.bool true,[],rfl,λ_=>rfl,.bool true,?_,λ_=>⟨List.nodup_nil,λ_ h=>by contradiction⟩⟩,.of_keep λb o e=>G'.own.base b o ?_,?_,?_⟩
 ·kernel_rfl
 ·exact rr (hB ..) e
 ·refine J (G'.os ..) (rr (hB ..) ?_);rfl
 exact AllBare.of_eq G'.gens
end
section
open PySem PySem.W PyProof.Rows
@[irreducible] def CL(n:Nat)(f:Nat)(vs:List PV)(U:kO)(Q:QV)(E:nI):Prop:=qe sN lF n f vs U Q E
variable {U kP:kO}{Q:QV}{E:nI}{n f a b c d:Nat}{t:mG}{vs:List PV}{ρ:lK}{nm:NL}{K:PV->Prop}{v:PV}
def ent(h:sN.fns.lookup f=some t)(hl:(cr vs.length t.ps.length&&cr t.ps.length (vs.length+t.ds.length))=true)
  (hb:qc t.names t.ps (CU t vs) (ci t.names.length .none)=some ρ)
  (k:lO (CL n) lF t.body ρ U (λfl _ U=>Q fl.val U) (λe _ U=>E e U)):CL (n+1) f vs U Q E:=by
 obtain⟨h1,h2⟩:=(az ..).mp hl;unfold CL;refine(?_:match sN.fns.lookup f with|some t=>UG (qe sN lF n) lF t vs U Q E|.none=>match sN.cls.lookup f with|some t=>OJ (qe sN lF n) lF f t vs U Q E|.none=>False);refine J (h ..) ?_;have e:CL n=qe sN lF n:=by funext f vs U Q E;unfold CL;rfl
 rw[e]at k;exact⟨ae h1,ae h2,ρ,hb,k⟩
def lg(D:NL)(U kP:kO):Prop:=∀a o,a∉D->U a=some o->kP a=some o
def lg.rfl{D:NL}:lg D U U:=λ_ _ _ h=>h
def lg.put{o:MO}:lg [d] U (U.put d o):=λa x h e=>by
 refine(?_:(if a=d then _ else _)=_);exact J (if_neg λz:a=d=>h (z▸er _) ..) e
def kT:(U.put a o) a=some o:=if_pos rfl
def mN(h:b≠a):(U.put a o) b=U b:=if_neg h
def bT{x:Bool}{A B:Prop}(h:x=true)(k:A):mx x A B:=.yes h k
def bF{x:Bool}{A B:Prop}(h:x=false)(k:B):mx x A B:=.no h k
def dT{p:Prop}[Decidable p]{A B:Prop}(h:p)(k:A):mx (decide p) A B:=bT (decide_eq_true h) k
def dF{p:Prop}[Decidable p]{A B:Prop}(h:¬p)(k:B):mx (decide p) A B:=bF (decide_eq_false h) k
def bC{A B:Prop}(h1:x=true->A)(h2:x=false->B):mx x A B:=by
 rcases x with _|_
 ·exact bF rfl (h2 rfl)
 exact bT rfl (h1 rfl)
def dC[Decidable p]{A B:Prop}(h1:p->A)(h2:¬p->B):mx (decide p) A B:=bC (λh=>h1 (of_decide_eq_true h)) λh=>h2 (of_decide_eq_false h)
def bN{A B:Prop}(h:mx x B A):mx (!x) A B:=by
 rcases x with _|_
 ·exact bT rfl h.f
 exact bF rfl h.t
noncomputable abbrev Xi(data:NL)(a e:Nat):List (NL×PV):=[(ct "data",.bytes data),(ct "at",.int a),(ct "end",.int e)]
structure mK(U:kO)(c d:Nat)(data s:NL):Prop where
 i:U c=some (.inst 167 d)
 e:U d=some (.dict (Xi data (data.length-s.length) data.length))
 m:data.length<=M
 b:∀x∈data,x<256
 s:s<:+data
def Qq(h1:U a=some (.inst C d))(h2:U d=some (.dict es))(h3:es.lookup nm=some v)(h4:NR v)(h5:lF.attrs.contains (C,nm)=true)(k:K v):xX lF U (.ref a) nm K:=by
 unfold xX sV sU oC;dsimp only;refine J (h1 ..) ?_;dsimp only;refine J (h2 ..) ?_;dsimp only;refine J (h3 ..) ?_;exact⟨h4,h5,k⟩
def Xj{K:kO->Prop}(h1:U a=some (.inst C d))(h2:U d=some (.dict es))(h3:cr es.length 900=true)(h5:lF.Kc.contains (C,nm)=true)(k:K (U.put d (.dict (xQ nm v es)))):CR lF U (.ref a) nm v K:=by
 unfold CR sV sU oC;dsimp only;refine J (h1 ..) ?_;dsimp only;refine J (h2 ..) ?_;exact⟨ae h3,h5,k⟩
def Xk{K:Callee->Prop}(h1:U a=some (.inst C d))(h2:U d=some (.dict es))(h3:es.lookup nm=.none)(h5:lF.meths.lookup (C,nm)=some f)(k:K (.fn f (.ref a))):methP lF U (.ref a) nm K:=by
 unfold methP oC;dsimp only;refine J (h1 ..) ?_;dsimp only;refine J (h2 ..) ?_;dsimp only;refine J (h3 ..) (J (h5 ..) ?_);exact⟨rfl,k⟩
section
variable {data s:NL}
def mK.at_(h:mK U c d data s)(k:K (.int (data.length-s.length:Nat))):xX lF U (.ref c) (ct "at") K:=Qq h.i h.e rfl trivial rfl k
def mK.end_(h:mK U c d data s)(k:K (.int data.length)):xX lF U (.ref c) (ct "end") K:=Qq h.i h.e rfl trivial rfl k
def mK.wR(h:mK U c d data s)(k:K (.bytes data)):xX lF U (.ref c) (ct "data") K:=Qq h.i h.e rfl trivial rfl k
def mK.met(h:mK U c d data s){K:Callee->Prop}(h3:(Xi data (data.length-s.length) data.length).lookup nm=.none)(h5:lF.meths.lookup (167,nm)=some f)(k:K (.fn f (.ref c))):methP lF U (.ref c) nm K:=Xk h.i h.e h3 h5 k
def mK.le(h:mK U c d data s):s.length<=data.length:=h.s.length_le
def mK.ne(h:mK U c d data s):c≠d:=λz=>by
 have:=h.i;rw[z,h.e]at this;cases this
def mK.put(h:mK U c d data s){s':NL}(hs:s'<:+data){K:kO->Prop}{i:Int}(hi:i=((data.length-s'.length:Nat):Int))(k:∀kP,mK kP c d data s'->lg [d] U kP->K kP):CR lF U (.ref c) (ct "at") (.int i) K:=by
 subst hi;exact Xj h.i h.e rfl rfl (k _ ⟨(mN h.ne).trans h.i,kT,h.m,h.b,hs⟩ .put)
def Qr(h1:m<=L)(h2:m<=j):¬(((L-m:Nat):Int)+(j:Int)<(L:Int)):=λz=>absurd (aH.mp z) (by exact λw=>Nat.lt_irrefl _ (cv w (ah s2 (bK h2 _))))
def T4{L m j k:Nat}(h1:m<=L)(h2:k=m-j)(h3:0<k):((L-m:Nat):Int)+(j:Int)=((L-k:Nat):Int):=congrArg ff (by exact nin h1 h2 h3)
def FQ(h1:m+1<=L):((L-(m+1):Nat):Int)<(L:Int):=aH.mpr (Nat.sub_lt (cv (cB m) h1) (cB m))
def pos_succ(h1:m+1<=L):((L-(m+1):Nat):Int)+1=((L-m:Nat):Int):=by exact congrArg ff (oV 0x100100110031b0a2213a221b1a0a22 rfl (aA h1) (aA (dy h1)))
noncomputable def hd:NL->Int
 |[]=> -1
 |x::_=>x
def tK(h:mK U c d data s)(k:Q (.bool s.isEmpty) U):CL (n+1) 107 [.ref c] U Q E:=by
 refine ent rfl rfl rfl ?_;refine h.at_ (h.end_ ?_)
 show Q (.bool (decide _)) U
 have:=h.s;clear h;rcases s with _|⟨x,r⟩
 ·exact(congrArg (λb=>Q (.bool b) U) (decide_eq_true (Int.le_refl _))).mpr k
 exact(congrArg (λb=>Q (.bool b) U) (decide_eq_false (iJ.mpr (FQ this.length_le)))).mpr k
def subB{l:NL}{i:Int}(hm:l.length<=M)(h0:0<=i)(h:l[i.toNat]? =some x)(k:K (.int x)):rF U (.bytes l) (.int i) K:=by
 unfold rF p8;dsimp only;exact J (h ..) (⟨h0,hm,k⟩)
def Qs(h:x::r<:+data):data[data.length-(x::r).length]? =some x:=by
 obtain⟨p,rfl⟩:=h;simp
def lg.trans{D:NL}{σ₁ σ₂ lH:kO}(h:lg D σ₁ σ₂)(g:lg D σ₂ lH):lg D σ₁ lH:=λa o n e=>g a o n (h a o n e)
def lg.mono(h:lg [] U kP):lg D U kP:=λa o _ e=>h a o (by simp) e
def lg.new(h:U a=.none):lg [] U (U.put a o):=λb x _ e=>(mN λz=>by rw[z,h]at e;contradiction).trans e
def lg.get(h:lg [] U kP)(e:U a=some o):kP a=some o:=h a o (by simp) e
def mK.get(h:mK U c d data s){x:Nat}{r:NL}(hs:x::r<:+data)(k:K (.int x)):rF U (.bytes data) (.int (data.length-(x::r).length:Nat)) K:=subB h.m (av _) (Qs hs) k
def RU{j:Nat}(h:mK U c d data s)(k:Q (.int (hd (s.drop j))) U):lO (CL n) lF Kn.body [some (.ref c),some (.int j),.none] U (λfl _ U=>Q fl.val U) (λe _ U=>E e U):=by
 refine h.at_ (dT (av _) (h.end_ ?_));have hs:s.drop j<:+data:=(List.drop_suffix j s).trans h.s;have e2:(s.drop j).length=s.length-j:=a9;generalize s.drop j=r at hs e2 k;rcases r with _|⟨x,r⟩
 ·exact dF (Qr h.le (Nat.le_of_sub_eq_zero e2.symm)) k
 have e:=T4 h.le e2 (cB _);refine dT ?_ (h.wR ?_)
 ·exact J (e ..) (FQ hs.length_le)
 exact e▸h.get hs k
def peek1(h:mK U c d data s)(k:Q (.int (hd s.tail)) U):CL (n+1) 115 [.ref c,.int 1] U Q E:=
 ent (ρ:=[_,_,_]) rfl rfl rfl (RU (j:=1) h (J (List.drop_one ..) k))
def rO(h:mK U c d data s)(k:Q (.int (hd s)) U):CL (n+1) 115 [.ref c] U Q E:=
 ent (ρ:=[_,_,_]) rfl rfl rfl (RU (j:=0) h k)
def take(h:mK U c d data s)(k:∀kP,mK kP c d data s.tail->lg [d] U kP->Q (.int (hd s)) kP):CL (n+2) 122 [.ref c] U Q E:=by
 refine ent (ρ:=[_,_]) rfl rfl rfl ?_;refine h.met rfl rfl (rO h ?_);have hs:=h.s;rcases s with _|⟨x,r⟩
 ·exact dF (by decide) (k _ h .rfl)
 exact dT (av x) (h.at_ (h.put ((List.suffix_cons x r).trans hs) (pos_succ hs.length_le) k))
def pg{m i:Nat}:bl m i=min i m:=by
 unfold bl;refine J (if_neg (bD.mpr (av i)) ..) ?_;exact nmn
def sh{α:Type}{l:List α}{i j:Nat}:cut l (min i l.length) (min j l.length)=cut l i j:=by
 unfold cut;apply List.ext_getElem?;intro p;refine J (ed ..) (J (ed ..) (J (c_ ..) (J (c_ ..) ?_)));rcases iU l.length i with h|h
 ·exact J (gE h ..) (J (gR (aM _ _) ..) (J (gR (ah h (aM _ _)) ..) (J (ite_self ..) (J (ite_self ..) rfl))))
 refine J (cO h ..) ?_;rcases iU j l.length with g|g
 ·exact J (cO g ..) rfl
 refine J (gE g ..) ?_
 by_cases z:p<l.length-i
 ·exact J (if_pos z ..) (J (if_pos (cv z (Nat.sub_le_sub_right g _)) ..) rfl)
 have e:l[i+p]? =none:=gR (oV 0x101003a2031a201042 rfl z s2);exact J (e ..) (J (ite_self ..) (J (ite_self ..) rfl))
def mX{l:NL}{i j:Nat}(hm:l.length<=M)(k:Q (.bytes (cut l i j)) U):mS U (.bytes l) (.int i) (.int j) Q:=by
 unfold mS;rw[←sh,←pg,←pg]at k;exact⟨hm,k⟩
def B8{w:Nat}(h:s<:+data):cut data (data.length-s.length) (data.length-s.length+w)=s.take w:=by
 obtain⟨p,rfl⟩:=h;unfold cut;exact J (ac ..) (J (Nat.add_sub_cancel ..) (J (g8 ..) (J (bL ..) rfl)))
def pre_take{w s:NL}:w.isPrefixOf s=(decide (w.length<=s.length)&&(s.take w.length==w)):=by
 refine ri (a0 ..) ?_;simp[List.prefix_iff_eq_take];constructor
 ·intro h;exact⟨by refine J (h ..) ?_;simp;exact mZ 0x101001001 rfl (gD _ _),h.symm⟩
 intro h;exact h.2.symm
def starts{w:NL}(h:mK U c d data s)(hw:w.length<=M)(k:Q (.bool (w.isPrefixOf s)) U):CL (n+1) 129 [.ref c,.bytes w] U Q E:=by
 refine ent (ρ:=[_,_,_]) rfl rfl rfl (h.at_ ⟨hw,h.end_ ?_⟩);rw[pre_take]at k;have hl:=h.le
 by_cases z:w.length<=s.length
 ·refine dT (by exact aN.mpr (oV 0x1010230a0130210a22 rfl (aA hl) z)) (h.wR (h.at_ (h.at_ ⟨hw,mX (j:=data.length-s.length+w.length) h.m ?_⟩)));refine J (B8 h.s ..) ?_;rw[decide_eq_true z]at k;exact k
 rw[decide_eq_false z]at k;refine dF (by exact λw=>z (oV 0x101031030a20210a02 rfl (aN.mp w) s2)) ?_;exact(congrArg (λb=>Q (.bool b) U) (decide_eq_false (by exact λw=>z (oV 0x101031030a20210a02 rfl (aN.mp w) s2)))).mpr k
def skip{w:NL}(h:mK U c d data s)(hw:w.length<=M)(k1:∀r kP,s=w++r->mK kP c d data r->lg [d] U kP->Q (.bool true) kP)(k2:w.isPrefixOf s=false->Q (.bool false) U):CL (n+2) 136 [.ref c,.bytes w] U Q E:=by
 refine ent (ρ:=[_,_,_]) rfl rfl rfl (h.met rfl rfl (starts h hw ?_));rcases z:w.isPrefixOf s with _|_
 ·exact bT rfl (k2 z)
 refine lr λGp gk=>?_;clear k2;obtain⟨r,rfl⟩:=List.isPrefixOf_iff_prefix.mp z;have hr:r<:+data:=(List.suffix_append w r).trans h.s;have:=h.le;rw[ac]at this;refine gk ?_;refine bF rfl (h.at_ ⟨hw,h.put hr ?_ (k1 r · rfl)⟩);refine J (ac ..) ?_;exact congrArg ff (nsa this)
def wY{α:Type}{test:lK->kO->(Bool->kO->Prop)->(nI)->Prop}{body:lK->kO->(Fl->lK->kO->Prop)->(QR)->Prop}{Q:Fl->lK->kO->Prop}{E:QR}
  (ms:α->Nat) (T5:α->lK) (I:α->kO->Prop)
  (step:∀x U (K:lK->kO->Prop),I x U->(∀y kP,ms y<ms x->I y kP->K (T5 y) kP)->test (T5 x) U (λr U=>mx r (body (T5 x) U (λfl ρ U=>match fl with
    |.next=>K ρ U
    |.ret v=>Q (.ret v) ρ U) E) (Q .next (T5 x) U)) λe U=>E e (T5 x) U)
  (x:α) (h:I x U):∃n,xY test body n (T5 x) U Q E:=by
 have main:∀m x U,ms x<=m->I x U->xY test body (m+1) (T5 x) U Q E:=by
  intro m
  induction m with
  |zero=>exact λx U hm h=>step x U _ h λy kP hy _=>absurd hy (iF.mpr (ah hm (aO _)))
  |succ m ih=>exact λx U hm h=>step x U _ h λy kP hy h'=>ih y kP (eL (cv hy hm)) h'
 exact⟨_,main (ms x) x U (aF _) h⟩
def MN{p:Nat->Bool}{w r:NL}(h1:∀x∈w,p x=true)(h2:∀x r',r=x::r'->p x=false):(w++r).takeWhile p=w/\(w++r).dropWhile p=r:=by
 induction w with
 |nil=>induction r with
  |nil=>exact⟨rfl,rfl⟩
  |cons x r=>simp[h2 x r rfl]
 |cons x w ih=>
  have:=ih λy hy=>h1 y (ay _ hy);simp[h1 x aj,this]
def Yn{l:NL}{K:Bool->Prop}(h:x<256)(k:K (l.contains x)):Al U (.int x) (.bytes l) K:=by
 unfold Al;exact⟨av x,aH.mpr h,k⟩
def mK.x(h:mK U c d data s){x:Nat}(hx:x∈s):x<256:=h.b x (h.s.subset hx)
def yY{w:NL}(h:mK U c d data s)(k:∀kP,mK kP c d data (s.dropWhile w.contains)->lg [d] U kP->Q (.bytes (s.takeWhile w.contains)) kP):CL (n+1) 143 [.ref c,.bytes w] U Q E:=by
 refine ent (ρ:=[_,_,_]) rfl rfl rfl (h.at_ (wY (α:=NL) aZ (λ_=>_) (λs' kP=>mK kP c d data s'/\lg [d] U kP/\∃v,s=v++s'/\∀x∈v,w.contains x=true) ?_ s ⟨h,.rfl,[],rfl,by simp⟩));rintro s' kP K ⟨h',x,v,e,hv⟩ hK;subst e;have fin:(∀x r',s'=x::r'->w.contains x=false)->Q (.bytes (cut data (data.length-(v++s').length) (data.length-s'.length))) kP:=λz=>by
  have t:=MN hv z;rw[t.1,t.2]at k;have e:=B8 (w:=v.length) h.s;rw[eD,ac]at e;have:=h.le;rw[ac]at this;rw[show data.length-(v.length+s'.length)+v.length=data.length-s'.length by exact nsa this]at e;refine J (ac ..) (J (e ..) ?_);exact k _ h' x
 refine h'.at_ (h'.end_ ?_);have hs:=h'.s;clear k;rcases s' with _|⟨a,r⟩
 ·exact dF (Int.lt_irrefl _) (bF rfl<|h'.wR (h'.at_ (mX h.m (fin λx r z=>nomatch z))))
 refine dT (FQ hs.length_le) (h'.wR (h'.at_ (h'.get hs (Yn (h'.x aj) ?_))));rcases z:w.contains a with _|_
 ·exact bF rfl (h'.wR (h'.at_ (mX h.m (fin λx r e=>by(injection e with e;subst e);exact z))))
 refine bT rfl (h'.at_ (h'.put ((List.suffix_cons a r).trans hs) (pos_succ hs.length_le) λmQ h2 x2=>hK r mQ (ba _) ⟨h2,x.trans x2,v++[a],by simp,?_⟩));intro y hy;rcases aV.mp hy with q|q
 ·exact hv y q
 exact J (aB.mp q ..) z
def Jd{K:Bool->Prop}(hr:¬(48<=hd r/\hd r<=57))(k:K false):mx (decide ((48:Int)<=hd r)) (K (decide (hd r<=57))) (K false):=
 dC (λz=>J (decide_eq_false λy=>hr ⟨z,y⟩ ..) k) λ_=>k
def number{r:NL}(h:mK U c d data (x::r))(h1:48<=x)(h2:x<=57)(hr:¬(48<=hd r/\hd r<=57))(k:∀kP,mK kP c d data r->lg [d] U kP->Q (.int (0*10+x-48)) kP):CL (n+3) 157 [.ref c] U Q E:=by
 refine ent (ρ:=[_,_,_,_]) rfl rfl rfl (h.at_ ⟨2,h.met rfl rfl (rO h (dT (aN.mpr h1) (dT (aN.mpr h2) ⟨by decide,by decide,h.met rfl rfl (take h λkP h' x'=>?_)⟩)))⟩);refine h'.met rfl rfl (rO h' (Jd (K:=λb=>mx b _ _) hr (bF rfl (h'.at_ ?_))));have hl:=h.s.length_le;have e:=pos_succ hl;have yu:r.length<=data.length:=h'.le;refine bF (beq_eq_false_iff_ne.mpr λz=>?_) (h'.at_ (dF ?_ (k kP h' x')))
 ·rw[List.tail_cons,au]at z;lia
 show¬((20:Int)<_)
 refine J (List.tail_cons ..) (J (au ..) ?_);lia
end
end
section
open PySem PySem.W PyProof.Rows
variable {U kP:kO}{Q:QV}{E:nI}{n f a b c d:Nat}{t:mG}{vs:List PV}{ρ:lK}{nm:NL}{K:PV->Prop}{v:PV}
theorem vK{α:Type}{unch:kO->Prop}{lQ:PV->kO->(QL)->Prop}{f:α->PV}{g:α->PV}{K:QL}(hu:unch U):∀(l:List α) (acc:List PV),
  (∀x∈l,∀K,K [g x] U->lQ (f x) U K)->K (acc++l.map g) U->pT unch lQ (l.map f) acc U K:=by
 intro z9
 induction z9 with
 |nil=>
  intro acc _ k;rw[gI,aJ]at k;exact k
 |cons x l ih=>
  intro acc h k;exact h x aj _ ⟨hu,ih _ (λy hy=>h y (ay _ hy)) (J (ao ..) k)⟩
def zC{α:Type}{lQ:PV->kO->(QL)->Prop}{f g:α->PV}{unch:kO->Prop}{l:List α}(hm:l.length<=M)(hu:unch U)(ht:∀x∈l,∀K,K [g x] U->lQ (f x) U K)(k:∀r,U r=.none->Q (.ref r) (U.put r (.list (l.map g)))):
  (l.map f).length<=M/\pT unch lQ (l.map f) [] U λvs U=>vs.length<=M/\HR Q vs U:=
 ⟨J (ai ..) hm,vK hu l [] ht ⟨J (bc ..) (J (ai ..) hm),k⟩⟩
def qI{lQ:PV->kO->(QL)->Prop}{g:Nat->PV}{l:NL}(hm:l.length<=M)(ht:∀x∈l,∀K,K [g x] U->lQ (.int x) U K)(k:∀r,U r=.none->Q (.ref r) (U.put r (.list (l.map g)))):
  lT U .val (.bytes l) λkX unch=>kX.length<=M/\pT unch lQ kX [] U λvs U=>vs.length<=M/\HR Q vs U:=by
 unfold lT;exact⟨hm,zC hm trivial ht k⟩
def vL{lQ:PV->kO->(QL)->Prop}{g:Nat->PV}{l:NL}(hm:l.length<=M)(ht:∀x∈l,∀K,K [g x] U->lQ (.str [x]) U K)(k:∀r,U r=.none->Q (.ref r) (U.put r (.list (l.map g)))):
  lT U .val (.str l) λkX unch=>kX.length<=M/\pT unch lQ kX [] U λvs U=>vs.length<=M/\HR Q vs U:=by
 unfold lT;exact⟨hm,zC hm trivial ht k⟩
def lst{K:List PV->Prop}(h:U a=some (.list l))(k:K l):l9 U a K:=by
 unfold l9;exact J (h ..) k
def nQ{α β γ:Type}{f:α->β}{g:β->Option γ}{h:α->γ}:∀{l:List α},(∀x∈l,g (f x)=some (h x))->rE g (l.map f)=some (l.map h):=by
 intro z9
 induction z9 with
 |nil=>
  intro _;exact rfl
 |cons x l ih=>
  intro e;refine(?_:(g (f x)).bind _=_);refine J (e x aj ..) ?_;refine(?_:(rE g (l.map f)).bind _=_);refine J (ih λy hy=>e y (ay _ hy) ..) ?_;rfl
theorem yZ:∀{l:List NL},tY [] l=l.flatten
 |[]=>rfl
 |[x]=>(aJ x).symm
 |x::y::r=>by
  refine(?_:x++[]++tY [] (y::r)=_);refine J (yZ ..) (J (aJ ..) ?_);rfl
def ng{K:Callee->Prop}(k:K (.bs nu s)):methP lF U (.str s) (ct "join") K:=by
 unfold methP;exact⟨.inl rfl,k⟩
def tL{K:Callee->Prop}(k:K (.bb nZ s)):methP lF U (.bytes s) (ct "find") K:=by
 unfold methP;exact⟨.inr (.inl rfl),k⟩
def oM{K:Callee->Prop}(k:K (.bb nu s)):methP lF U (.bytes s) (ct "join") K:=by
 unfold methP;exact⟨.inl rfl,k⟩
def FR{K:Callee->Prop}(k:K (.bb qo s)):methP lF U (.bytes s) (ct "strip") K:=by
 unfold methP;exact⟨.inr (.inr (.inl rfl)),k⟩
def D3{K:Callee->Prop}(k:K (.bb pS s)):methP lF U (.bytes s) (ct "rstrip") K:=by
 unfold methP;exact⟨.inr (.inr (.inr rfl)),k⟩
def mf{K:Callee->Prop}(h:U a=some (.list l))(k:K (.la a)):methP lF U (.ref a) (ct "append") K:=by
 unfold methP;dsimp only;exact J (h ..) (⟨rfl,k⟩)
def y4{ts:List NL}(h:U a=some (.list l))(e:Bj l=some ts)(hm:(ts.map aZ).sum+ts.length*s.length<=M)(k:Q (.str (tY s ts)) U):Os U nu s [.ref a] Q:=by
 unfold Os;exact⟨rfl,rfl,lst h (J (e ..) (⟨hm,k⟩))⟩
def MP:∀{l:NL},((l.map λx=>[x]).map aZ).sum=l.length:=by
 intro z9
 induction z9 with
 |nil=>
  exact rfl
 |cons x l ih=>
  rw[aK,aK,jL,ih,au];exact ck 1 _
def wu{l:NL}:(l.map λx=>[x]).flatten=l:=by
 induction l with
 |nil=>rfl
 |cons x l ih=>refine J (aK ..) (J (bh ..) (J (ih ..) ?_));rfl
def join_ones{l:NL}(h:U a=some (.list (l.map λx=>.str [x])))(hm:l.length<=M)(k:Q (.str l) U):Os U nu (ct "") [.ref a] Q:=
 y4 h (nQ λ_ _=>rfl) (J (MP ..) (J (ai ..) hm)) (J (show ct ""=[]from rfl) (J (yZ ..) (J (wu ..) k)))
def vM{s:NL}{lo hi:Nat}(hm:s.length<=M)(k:Q (.int (OI c s lo hi)) U):HQ U nZ s [.bytes [c],.int lo,.int hi] Q:=by
 unfold HQ;exact⟨rfl,hm,av _,av _,k⟩
def tr{ts:List NL}(h:U a=some (.list l))(e:qU l=some ts)(hm:ts.flatten.length<=M)(hl:l.length<=M)(k:Q (.bytes ts.flatten) U):HQ U nu [] [.ref a] Q:=by
 unfold HQ;exact⟨rfl,rfl,rfl,lst h (J (e ..) (⟨hm,hl,k⟩))⟩
def MQ{s cs:NL}(hm:s.length<=M)(hc:cs.length<=M)(k:Q (.bytes (rstrip cs (lstrip cs s))) U):HQ U qo s [.bytes cs] Q:=by
 unfold HQ;exact⟨hm,hc,.inl ⟨rfl,k⟩⟩
def Je{s cs:NL}(hm:s.length<=M)(hc:cs.length<=M)(k:Q (.bytes (rstrip cs s)) U):HQ U pS s [.bytes cs] Q:=by
 unfold HQ;exact⟨hm,hc,.inr ⟨rfl,k⟩⟩
def y5(k:Q (.int (mj x)) U):CL (n+1) 178 [.int x] U Q E:=by
 refine ent (ρ:=[_]) rfl rfl rfl ?_;unfold mj at k
 by_cases h:65<=x/\x<=90
 ·rw[if_pos h]at k;exact dT (aN.mpr h.1) (dT (aN.mpr h.2) k)
 rw[if_neg h]at k;exact dC (λz=>dF (λy=>h ⟨aN.mp z,aN.mp y⟩) k) λ_=>bF rfl k
def FS(h:x<m)(hm:122<m):mj x<m:=by
 unfold mj;split
 ·rename_i h;exact a8 (ib h.2 32) hm
 exact h
def lower{l:NL}(hm:l.length<=M)(hb:∀x∈l,x<256)(k:∀kP,lg [] U kP->Q (.bytes (l.map mj)) kP):CL (n+2) 183 [.bytes l] U Q E:=by
 refine ent (ρ:=[_,_]) rfl rfl rfl (qI hm (g:=λx=>.int (mj x)) (λx hx K k=>bT rfl (y5 k)) λr hr=>lst kT ?_);refine J (show vh (l.map λx=>.int (mj x))=some (l.map mj)from nQ λx hx=>if_pos ⟨av _,aH.mpr (FS (hb x hx) (by decide))⟩) ?_;exact⟨J (ai ..) hm,k _ (.new hr)⟩
def uQ{l:NL}(hm:l.length<=M)(hb:∀x∈l,x<1114112)(k:∀kP,lg [] U kP->Q (.str (l.map mj)) kP):CL (n+2) 188 [.str l] U Q E:=by
 refine ent (ρ:=[_]) rfl rfl rfl (ng (vL hm (g:=λx=>.str [mj x]) (λx hx K k=>bT rfl (y5 ⟨av _,aH.mpr (FS (hb x hx) (by decide)),k⟩)) λr hr=>?_));exact join_ones (l:=l.map mj) (J (bU ..) kT) (J (ai ..) hm) (k _ (.new hr))
def MR:∀{l t:NL},c∉l->(l++c::t).findIdx? (· ==c)=some l.length:=by
 intro z9
 induction z9 with
 |nil=>
  intro t _;refine J (bc ..) (J (fU ..) (J (beq_self_eq_true ..) ?_));rfl
 |cons x l ih=>
  intro t h;refine J (cV ..) (J (fU ..) (J (beq_false_of_ne λz=>h (by rw[z];exact aj) ..) (J (ih λz=>h (ay _ z) ..) ?_)));rfl
def Qt{l:NL}(h:c∉l):l.findIdx? (· ==c)=none:=by
 refine ri (List.findIdx?_eq_none_iff ..) ?_;exact λx hx=>beq_false_of_ne λz=>h (z▸hx)
def y6{s l t:NL}(h:s.drop a=l++c::t)(hc:c∉l)(he:a+l.length<e):OI c s a e=((a+l.length:Nat):Int):=by
 unfold OI;have e1:(s.take e).drop a=l++c::t.take (e-a-l.length-1):=by
  refine J (List.drop_take ..) (J (h ..) (J (List.take_append ..) (J (bS (by exact gX (bI he)) ..) (J (show e-a-l.length=(e-a-l.length-1)+1 by exact(aA (gX (gX he))).symm) ?_))));rfl
 exact J (e1 ..) (J (MR hc ..) rfl)
def MS{s l:NL}(h:(s.take e).drop a=l)(hc:c∉l):OI c s a e= -1:=by
 unfold OI;exact J (h ..) (J (Qt hc ..) rfl)
def y7{s l t:NL}(h:s.drop a=l++x::t):s[a+l.length]? =some x:=by
 refine rr (c_ ..) (J (h ..) (J (cI (aF _) ..) (J (fP ..) ?_)));rfl
def tM{s l t:NL}{e:Nat}(hm:s.length<=M)(h:s.drop a=l++13::10::t)(hl:10∉l)(he:a+l.length+1<e)(k:Q (.tup [.int (a+l.length:Nat),.int (a+l.length+2:Nat)]) U):CL (n+1) 247 [.bytes s,.int a,.int e] U Q E:=by
 refine ent (ρ:=[_,_,_,_]) rfl rfl rfl (tL (vM hm ?_));have h2:s.drop a=(l++[13])++10::t:=by refine J (h ..) (J (ao ..) ?_);rfl
 refine J (y6 h2 (λz=>by rcases aV.mp z with z|z;exact hl z;simp at z) (by rw[ac];exact he) ..) ?_;refine J (ac ..) ?_;refine(?_:mx _ _ _);refine dF (bD.mpr (av _)) (dT (show (a:Int)<_ by simp;exact aH.mpr (gn (aM ..))) (subB hm (by simp;exact aN.mpr (bB (aO _))) (x:=13) ?_ (bT rfl ?_)))
 ·refine rr (y7 h ..) ?_
  congr 1
  simp;exact rfl
 have e1:((a+(l.length+[13].length):Nat):Int)-1=((a+l.length:Nat):Int):=by simp;lia
 have e2:((a+(l.length+[13].length):Nat):Int)+1=((a+l.length+2:Nat):Int):=by simp;exact rfl
 refine(?_:Q (.tup [.int _,.int _]) U);exact J (e1 ..) (J (e2 ..) k)
def Qu{s l:NL}{e:Nat}(hm:s.length<=M)(h:(s.take e).drop a=l)(hl:10∉l)(k:Q (.tup [.int e,.int e]) U):CL (n+1) 247 [.bytes s,.int a,.int e] U Q E:=by
 refine ent (ρ:=[_,_,_,_]) rfl rfl rfl (tL (vM hm ?_));refine J (MS h hl ..) ?_;exact dT (by decide) k
def Jf{K:List PV->(kO->Prop)->Prop}(hm:l.length<=M)(k:K (l.map λc=>.int (c:Nat)) λ_=>True):v8 U (.bytes l) N K:=by
 unfold v8 lT;exact⟨hm,k⟩
def rP{K:List PV->(kO->Prop)->Prop}(h:U a=some (.list l))(hm:l.length<=M)(k:K l λkP=>kP a=some (.list l)):v8 U (.ref a) N K:=by
 unfold v8 lT;dsimp only;exact J (h ..) (lst h ⟨hm,k⟩)
theorem RV{α:Type}{f:α->PV}{unch:kO->Prop}{body:PV->lK->kO->(Fl->lK->kO->Prop)->Prop}{Q:Fl->lK->kO->Prop}(I:List α->lK->kO->Prop)
  (step:∀x r ρ U (K:Fl->lK->kO->Prop),I (x::r) ρ U->(∀ρ' kP,I r ρ' kP->K .next ρ' kP)->(∀v ρ' kP,Q (.ret v) ρ' kP->K (.ret v) ρ' kP)->body (f x) ρ U K)
  (hu:∀l ρ U,I l ρ U->unch U) (fin:∀ρ U,I [] ρ U->Q .next ρ U):∀l ρ U,I l ρ U->rG unch body (l.map f) ρ U Q
 |[],ρ,U,h=>fin ρ U h
 |x::r,ρ,U,h=>step x r ρ U _ h (λρ' kP h'=>⟨hu r ρ' kP h',RV I step hu fin r ρ' kP h'⟩) λ_ _ _ q=>q
noncomputable def wv(l:NL):Bool:=l.all (λx=>decide (33<=x/\x<=126/\x≠58))&&!l.isEmpty
def rQ(h:wv l=true)(hx:x∈l):33<=x/\x<=126/\x≠58:=of_decide_eq_true (aC.mp (az.mp h).1 x hx)
def Hc(h:wv l=true):l≠[]:=λz=>by rw[z]at h;contradiction
def Qv{l:NL}(hm:l.length<=M)(h:wv l=true)(k:Q (.bool true) U):CL (n+1) 254 [.bytes l] U Q E:=by
 refine ent (ρ:=[_,_,_]) rfl rfl rfl (Jf hm (RV (λl' ρ kP=>(∀x∈l',x∈l)/\(∃o,ρ=[some (.bytes l),o,none])/\kP=U) ?_ (λ_ _ _ _=>trivial) ?_ l _ U ⟨λ_ h=>h,⟨_,rfl⟩,rfl⟩))
 ·clear k;rintro x r ρ kP K ⟨h1,⟨o,rfl⟩,rfl⟩ hK _;refine lr λGp gk=>?_;obtain⟨h2,h3,h4⟩:=rQ h (h1 x aj);refine gk ?_;refine dF (bD.mpr (aN.mpr h2)) (dF (bD.mpr (aN.mpr h3)) (bF (beq_false_of_ne λz=>h4 (bJ z)) ?_));exact hK _ _ ⟨λy hy=>h1 y (ay _ hy),⟨_,rfl⟩,rfl⟩
 rintro ρ kP ⟨_,⟨o,rfl⟩,rfl⟩;refine⟨hm,?_⟩;have:=cS.mpr (Hc h);exact(congrArg (λb=>Q (.bool b) kP) (decide_eq_true (aH.mpr this))).mpr k
def MT{s l t:NL}{e:Nat}(hm:s.length<=M)(h:s.drop a=l++58::t)(hl:wv l=true)(he:a+l.length<e)(k:Q (.int (a+l.length:Nat)) U):CL (n+2) 261 [.bytes s,.int a,.int e] U Q E:=by
 refine ent (ρ:=[_,_,_,_,_]) rfl rfl rfl (tL (vM hm ?_));refine J (y6 h (λz=>(rQ hl z).2.2 rfl) he ..) ?_;have hc:cut s a (a+l.length)=l:=by
  unfold cut;exact J (h ..) (J (bL ..) (J (eD ..) rfl))
 refine dT (av _) (mX hm ?_);refine J (hc ..) ?_;refine Qv ?_ hl (bT rfl k);refine rr (hc ..) ?_;unfold cut;refine J (dR ..) (J (a9 ..) ?_);exact oV 0x1010101302300201003 rfl hm (cy _ _) (gD _ _)
def lg.fresh(h:U d=.none)(x:lg [d] U kP):lg [] U kP:=λa o _ e=>x a o (λz=>by rw[aB.mp z,h]at e;contradiction) e
def lg.none(x:lg [] U kP)(h:kP a=.none):U a=.none:=by
 rcases e:U a with _|o
 ·rfl
 rw[x.get e]at h;contradiction
structure Obj(U:kO)(a C d:Nat)(es:List (NL×PV)):Prop where
 i:U a=some (.inst C d)
 e:U d=some (.dict es)
def Obj.ne{C:Nat}{es:List (NL×PV)}(O:Obj U a C d es):a≠d:=λz=>by
 have:=O.i;rw[z,O.e]at this;cases this
def Obj.keep{C:Nat}{es:List (NL×PV)}(O:Obj U a C d es)(x:lg [] U kP):Obj kP a C d es:=⟨x.get O.i,x.get O.e⟩
def Obj.RW{C l:Nat}{es:List (NL×PV)}{v:List PV}(O:Obj U a C d es)(x:lg [l] U kP)(h:U l=some (.list v)):Obj kP a C d es:=
 ⟨x _ _ (λz=>by have:=O.i;rw[aB.mp z,h]at this;cases this) O.i,x _ _ (λz=>by have:=O.e;rw[aB.mp z,h]at this;cases this) O.e⟩
def Obj.get{C:Nat}{es:List (NL×PV)}(O:Obj U a C d es)(h3:es.lookup nm=some v)(h4:NR v)(h5:lF.attrs.contains (C,nm)=true)(k:K v):xX lF U (.ref a) nm K:=Qq O.i O.e h3 h4 h5 k
def Obj.set{C:Nat}{es:List (NL×PV)}{K:kO->Prop}(O:Obj U a C d es)(h3:cr es.length 900=true)(h5:lF.Kc.contains (C,nm)=true)(k:∀kP,Obj kP a C d (xQ nm v es)->lg [d] U kP->K kP):CR lF U (.ref a) nm v K:=
 Xj O.i O.e h3 h5 (k _ ⟨(mN O.ne).trans O.i,kT⟩ .put)
def Jg{ρ:Nat->lK}(h0:sN.fns.lookup f=none)(h:sN.cls.lookup f=some t)(hl:(cr (vs.length+1) t.ps.length&&cr t.ps.length (vs.length+1+t.ds.length))=true)
  (hb:∀a,qc t.names t.ps (CU t (.ref a::vs)) (ci t.names.length .none)=some (ρ a))
  (k:∀a d kP,U a=.none->U d=.none->lg [] U kP->Obj kP a f d []->lO (CL n) lF t.body (ρ a) kP (λfl _ U=>fl.val=.none/\Q (.ref a) U) (λe _ U=>E e U)):CL (n+1) f vs U Q E:=by
 obtain⟨h1,h2⟩:=(az ..).mp hl;unfold CL
 show (match sN.fns.lookup f with
  |some t=>UG (qe sN lF n) lF t vs U Q E
  |.none=>match sN.cls.lookup f with
   |some t=>OJ (qe sN lF n) lF f t vs U Q E
   |.none=>False)
 refine J (h0 ..) (J (h ..) ?_);have e:CL n=qe sN lF n:=by funext f vs U Q E;unfold CL;rfl
 rw[e]at k;intro d a hd ha sP;refine⟨ae h1,ae h2,ρ a,hb a,k a d _ ha hd ?_ ⟨kT,(mN sP).trans kT⟩⟩;exact(lg.new hd).trans (.new ((mN sP.symm).trans ha))
def MU{x y:NL}(k:∀a d kP,lg [] U kP->Obj kP a 236 d [(ct "name",.bytes x),(ct "raw",.bytes y)]->Q (.ref a) kP):CL (n+1) 236 [.bytes x,.bytes y] U Q E:=by
 refine Jg (ρ:=λa=>[some (.ref a),some (.bytes x),some (.bytes y)]) rfl rfl rfl (λ_=>rfl) λa d σ₁ _ hd lh O=>?_;exact O.set rfl rfl λσ₂ oN lA=>oN.set rfl rfl λlH rz lU=>⟨rfl,k a d _ (.fresh hd (lh.mono.trans (lA.trans lU))) rz⟩
structure Row where
 nm:NL
 v:NL
 cs:List NL
noncomputable def mv:NL:=[13,10]
noncomputable def Row.tl(r:Row):NL:=(r.cs.map (· ++mv)).flatten
noncomputable def Row.oct(r:Row):NL:=r.nm++58::(r.v++mv++r.tl)
noncomputable def Row.raw(r:Row):NL:=r.v++(r.cs.map (mv++ ·)).flatten
noncomputable def Row.key(r:Row):NL:=r.nm.map mj
noncomputable def blank(x:Nat):Bool:=x==32||x==9
noncomputable def uR(l:NL):Bool:= !l.contains 10&&(match l with|x::_=>blank x|[]=>false)
noncomputable def Row.ok(r:Row):Bool:=wv r.nm&&!r.v.contains 10&&r.cs.all uR
noncomputable def lJ(rs:List Row):NL:=(rs.map Row.oct).flatten
noncomputable def oa(U:kO):Nat->List Row->List PV->Prop
 |_,[],v=>v=[]
 |a,r::rs,v=>∃f d v',v=.tup [.ref f,.int a,.int (a+r.oct.length:Nat)]::v'/\Obj U f 236 d [(ct "name",.bytes r.nm),(ct "raw",.bytes r.raw)]/\oa U (a+r.oct.length) rs v'
def oa.app{rs2:List Row}{v2:List PV}:∀{Z3:List Row}{a:Nat}{v1:List PV},oa U a Z3 v1->oa U (a+(lJ Z3).length) rs2 v2->oa U a (Z3++rs2) (v1++v2):=by
 intro z9
 induction z9 with
 |nil=>
  intro a v1 h1 h2;subst h1;exact h2
 |cons r rs ih=>
  intro a v1 Xl h2;obtain⟨f,d,v',e,O,h1⟩:=Xl;exact⟨f,d,v'++v2,by refine J (e ..) ?_;rfl,O,ih h1 (by
  have e2:(lJ (r::rs)).length=r.oct.length+(lJ rs).length:=by dsimp only[lJ];rw[aK,bh,ac]
  rw[e2,←cE]at h2;exact h2)⟩
def oa.keep{P:kO->Prop}(x:∀{f d es},Obj U f 236 d es->Obj kP f 236 d es):∀{rs:List Row}{a:Nat}{v:List PV},oa U a rs v->oa kP a rs v:=by
 intro z9
 induction z9 with
 |nil=>
  intro a v h;exact h
 |cons r rs ih=>
  intro a v Xl;obtain⟨f,d,v',e,O,h1⟩:=Xl;exact⟨f,d,v',e,x O,ih h1⟩
def mE{s l t:NL}(h:s.drop a=l++t):s.drop (a+l.length)=t:=by
 exact rr (cU ..) (J (h ..) (J (g8 ..) rfl))
def mu{r:Row}{rs:List Row}:lJ (r::rs)=r.oct++lJ rs:=by
 dsimp only[lJ];exact J (aK ..) (J (bh ..) rfl)
def D4{x:Nat}{K:Bool->Prop}(k:K (blank x)):Al U (.int x) (.tup [.int 32,.int 9]) K:=by
 unfold Al;have e:pc (.int x) [.int 32,.int 9]=some (blank x):=by
  refine(?_:some (_||_)=_);dsimp only[blank];have z:∀y:Nat,((y:Int)==(x:Int))=(x==y):=λy=>by
   refine ri (a0 ..) ?_;simp;lia
  refine J (d9 ..) ?_;exact congrArg some (J (show ((32:Int)==x)=(x==32)from z 32) (J (show ((9:Int)==x)=(x==9)from z 9) rfl))
 dsimp only;exact J (e ..) k
noncomputable def sQ(cs:List NL):NL:=(cs.map (· ++mv)).flatten
def AI{x:NL}{cs:List NL}{t:NL}:sQ (x::cs)++t=x++13::10::(sQ cs++t):=by
 dsimp only[sQ];refine J (aK ..) (J (bh ..) (J (ao ..) (J (ao ..) ?_)));rfl
def D5{x:NL}{cs:List NL}:(sQ (x::cs)).length=x.length+2+(sQ cs).length:=by
 dsimp only[sQ];refine J (aK ..) (J (bh ..) (J (ac ..) (J (ac ..) ?_)));rfl
def B9(cs:List NL):((cs.map (mv++ ·)).flatten).length=(sQ cs).length:=by
 induction cs with
 |nil=>rfl
 |cons x cs ih=>refine J (aK ..) (J (bh ..) (J (ac ..) (J (ih ..) (J (D5 ..) (J (ac ..) (J (ck mv.length ..) ?_))))));rfl
def Qw(cs:List NL){t:NL}:∃u,13::10::(sQ cs++t)=(cs.map (mv++ ·)).flatten++u:=by
 induction cs generalizing t with
 |nil=>exact⟨_,rfl⟩
 |cons x cs ih=>
  obtain⟨u,h⟩:=ih (t:=t);exact⟨u,by refine J (AI ..) (J (aK ..) (J (bh ..) (J (h ..) (rr (ao ..) ?_))));rfl⟩
def pL{s l t:NL}{e:Nat}(h:s.drop a=l++t)(he:e=a+l.length):cut s a e=l:=by
 dsimp only[cut];exact J (h ..) (J (he ..) (J (bL ..) (J (eD ..) rfl)))
def nc{l:NL}{x:Nat}(h:(!l.contains x)=true):x∉l:=λz=>by simp at h;exact h z
def Row.tN(r:Row):r.oct.length=r.nm.length+1+r.v.length+2+(sQ r.cs).length:=by
 dsimp only[Row.oct,Row.tl];refine J (ac ..) (J (au ..) (J (ac ..) (J (ac ..) ?_)));refine(?_:_+(_+2+(sQ r.cs).length+1)=_);exact nn 0x22b11b0aaaa1b22b1aaa0a20 rfl
def Row.split{r:Row}(h:r.ok=true):wv r.nm=true/\10∉r.v/\r.cs.all uR=true:=by
 refine lw h λh1 h2=>?_;refine lw h1 λh3 h4=>?_;exact⟨h3,nc h4,h2⟩
def uR.split{c:NL}(h:uR c=true):10∉c/\∃x u,c=x::u/\blank x=true:=by
 refine lw h λh1 h2=>?_;rcases c with _|⟨x,u⟩
 ·contradiction
 exact⟨nc h1,x,u,rfl,h2⟩
def Jh{rs:List Row}{t:NL}(h:rs.all Row.ok=true):∃x u,lJ rs++13::10::t=x::u/\blank x=false:=by
 rcases rs with _|⟨r,rs⟩
 ·exact⟨13,_,rfl,rfl⟩
 have:=(Row.split (aC.mp h r aj)).1;refine J (mu ..) ?_;dsimp only[Row.oct];rcases e:r.nm with _|⟨x,u⟩
 ·exact absurd e (Hc this)
 refine⟨x,_,rfl,?_⟩;have:=rQ this (e▸aj:x∈r.nm);dsimp only[blank];refine J (beq_false_of_ne (by lia) ..) (J (beq_false_of_ne (by lia) ..) ?_);rfl
def uS{s t:NL}{x:Nat}(hm:s.length<=M)(h:s.drop a=x::t)(k:K (.int x)):rF U (.bytes s) (.int a) K:=
 subB hm (av _) (y7 (l:=[]) h) k
inductive RsI(s t:NL)(a l:Nat)(rs:List Row)(U:kO)(r2:List Row)(p:Nat)(kP:kO):Prop
 |mk (hp:s.drop p=lJ r2++13::10::t) (r1:List Row) (v1:List PV) (e1:rs=r1++r2) (e2:p=a+(lJ r1).length) (hl:kP l=some (.list v1)) (hv:v1.length<=(lJ r1).length) (x:lg [l] U kP) (R:oa kP a r1 v1):RsI s t a l rs U r2 p kP
def y8{s t:NL}{e:Nat}{rs:List Row}(hm:s.length<=M)(hb:∀x∈s,x<256)(h:s.drop a=lJ rs++13::10::t)(ho:rs.all Row.ok=true)(he:a+(lJ rs).length+2<=e)
  (k:∀kP l v,lg [] U kP->kP l=some (.list v)->oa kP a rs v->Q (.tup [.ref l,.int (a+(lJ rs).length+2:Nat)]) kP):CL (n+3) 269 [.bytes s,.int a,.int e] U Q E:=by
 refine ent (ρ:=[_,_,_,_,_,_,_,_,_,_,_,_,_,_]) rfl rfl rfl (dF (bD.mpr (av _)) λl hl=>?_);refine wY (α:=List Row×Nat×Option PV×Option PV×Option PV) (λy=>y.1.length) (λy=>[some (.bytes s),some (.int a),some (.int e),some (.int e),some (.ref l),some (.int y.2.1),y.2.2.1,y.2.2.2.1,y.2.2.2.2,none,none,none,none,none])
  (λy kP=>RsI s t a l rs U y.1 y.2.1 kP) ?_ (rs,a,none,none,none) ⟨h,[],[],rfl,rfl,kT,aF _,.put,rfl⟩
 rintro⟨r2,p,x6,x7,x8⟩ kP K ⟨hp,r1,v1,e1,e2,yu,hv,x,R⟩ hK;dsimp only at hp e1 e2 hK ⊢;have el:(lJ rs).length=(lJ r1).length+(lJ r2).length:=by rw[e1];dsimp only[lJ];rw[aS,fE,ac]
 refine dT (aH.mpr (xm 0x10110023154a1240a3222b10aa03 rfl he e2 el)) ?_;rcases r2 with _|⟨r,r2⟩
 ·refine tM (l:=[]) hm hp (by simp) (by simp;exact xm 0x10110021b3a154a1240a3222b10aa03 rfl he e2 el) (bT (beq_self_eq_true _) ?_);rw[aJ]at e1;clear hv el;subst e1;have:=k kP l v1 (.fresh hl x) yu R;rw[←e2]at this;exact this
 have ho2:(r::r2).all Row.ok=true:=by rw[e1,gP]at ho;exact(az.mp ho).2
 refine lr λGp gk=>?_;refine lw ho2 λok ho3=>?_;obtain⟨ok1,ok2,ok3⟩:=Row.split ok;obtain⟨z,u,hz,bz⟩:=Jh (t:=t) ho3;have lo:=r.tN;rw[mu,ac]at el;have UV:s.drop p=r.nm++58::(r.v++13::10::(sQ r.cs++z::u)):=by
  refine J (hp ..) (J (mu ..) (J (ao ..) (J (hz ..) ?_)));dsimp only[Row.oct,Row.tl];refine J (ao ..) (J (cV ..) (J (ao ..) (J (ao ..) ?_)));rfl
 have Yg:s.drop p=(r.nm++58::r.v)++13::10::(sQ r.cs++z::u):=by refine J (UV ..) (J (ao ..) ?_);rfl
 have ll:(r.nm++58::r.v).length=r.nm.length+1+r.v.length:=J (ac ..) (J (au ..) (mZ 0x11b0aa1b1a0a20 rfl));have Z4:10∉r.nm++58::r.v:=λq=>by
  rcases aV.mp q with q|q
  ·exact absurd (rQ ok1 q).1 (by decide)
  rcases aU.mp q with q|q
  ·contradiction
  exact ok2 q
 refine gk ?_;refine tM hm Yg Z4 (YJ 0x101101001021bac3aa181b7aaac292b81b7aaaa5265a4a1240a3222b10aa05 rfl he e2 el lo ll) (bF (beq_false_of_ne λq=>by have:=bJ q;exact oV 0x100100b0b5303a221b1aa022 rfl ll (bJ q)) (MT hm UV ok1 (oV 0x10003a13a121b1aa021 rfl ll) (dF (bD.mpr (av _)) ?_)));have hq:s.drop (p+(r.nm++58::r.v).length+2)=sQ r.cs++z::u:=by
  refine rr (cU ..) (J (mE Yg ..) ?_);rfl
 refine wY (α:=List NL×Nat) (λy=>y.1.length) (λy=>[some (.bytes s),some (.int a),some (.int e),some (.int e),some (.ref l),some (.int p),some (.int y.2),some (.int (y.2+2:Nat)),some (.int (p+r.nm.length:Nat)),none,none,none,none,none])
  (λy mQ=>mQ=kP/\y.1.all uR=true/\s.drop (y.2+2)=sQ y.1++z::u/\y.2+2+(sQ y.1).length=p+r.oct.length) ?_ (r.cs,p+(r.nm++58::r.v).length) ⟨rfl,ok3,hq,by dsimp only;exact xm 0x11001001005a32b45aaa221b1aa4232b21b1aaaa022 rfl lo ll⟩
 clear Gp gk;rintro⟨cs,q⟩ mQ K2 ⟨rfl,g1,g2,g3⟩ hK2;dsimp only at g1 g2 g3 hK2 ⊢;refine dT (aH.mpr (YI 0x1011001022b7a153a82b7aa265a4a1240a3222b10aa04 rfl he e2 el g3)) ?_;rcases cs with _|⟨c,cs⟩
 ·refine uS hm g2 (D4 (bF bz (mf yu ?_)));have g3:q+2=p+r.oct.length:=g3;have gl:=B9 r.cs;obtain⟨w,hw⟩:=Qw r.cs (t:=z::u);have e3:s.drop (p+r.nm.length+1)=r.raw++w:=by
   refine rr (cU ..) (J (mE UV ..) ?_)
   show r.v++_=_
   refine J (hw ..) (rr (ao ..) ?_);rfl
  have J:r.raw.length=r.v.length+(sQ r.cs).length:=by dsimp only[Row.raw];rw[ac,gl]
  refine mX hm (mX (i:=p+r.nm.length+1) hm ?_);rw[pL UV rfl,pL e3 (by exact J7 0x1010010010110061b15aaa4232a6205a2b4a232b21b1aaaa023 rfl lo g3 J)];refine MU λf d σ₂ lA O=>?_;have MV:=lA.get yu;refine lst MV ⟨by
   have:=congrArg aZ hp;rw[a9,mu,ac,ac,lo]at this;exact(YK 0x1100101100151bcac92b81b7aaaaaa62026a245043a221005 rfl hm e2 hv (aA (bI (eI (xm 0x10000b15432b21b1aaaaaa021 rfl this)))) this),?_⟩
  have lU:lg [l] σ₂ (σ₂.put l (.list (v1++[.tup [.ref f,.int p,.int (q+2:Nat)]]))):=.put;refine hK (r2,q+2,_,_,_) _ (ba _) ⟨?_,r1++[r],_,by rw[e1,ao];rfl,?_,kT,?_,x.trans (lA.mono.trans lU),?_⟩
  ·show s.drop (q+2)=_
   rw[g2,hz];rfl
  ·show q+2=_
   rw[g3,e2];dsimp only[lJ];rw[aS,fE,ac];simp;exact nn 0x21a0a210aa20 rfl
  ·dsimp only[lJ];rw[aS,fE,ac,ac]
   show v1.length+1<=(lJ r1).length+_
   simp;exact xm 0x110021a1b0a052b41b3aaaa221002 rfl hv lo
  refine(R.keep (P:=λ_=>True) λO=>(O.keep lA).RW lU MV).app ⟨f,d,[],?_,O.RW lU MV,rfl⟩;exact rr (e2 ..) (rr (g3 ..) rfl)
 refine lr λGp gk=>?_;refine lw g1 λg4 g5=>?_;clear g1;obtain⟨g6,y,w,rfl,g7⟩:=uR.split g4;rw[AI]at g2;rw[D5]at g3;refine gk ?_;refine uS hm g2 (D4 (bT g7 (tM hm g2 g6 (U8 0x1011001021b82b7aaa153a92b8aa2b7aa265a4a1240a3222b10aa04 rfl he e2 el g3) ?_)));refine hK2 (cs,q+2+(y::w).length) _ (ba _) ⟨rfl,g5,?_,by dsimp only;exact tD 0x10001043a22b12b0aaaa243a22b1aa2b0aa21 rfl g3⟩
 show s.drop (q+2+_+2)=_
 refine rr (cU ..) (J (mE g2 ..) ?_);rfl
noncomputable def jn(v:NL)(cs:List NL):NL:=v++(cs.map (mv++ ·)).flatten
def Qx{x c:NL}{cs:List NL}:jn x (c::cs)=x++13::10::jn c cs:=by
 dsimp only[jn];refine J (aK ..) (J (bh ..) (J (ao ..) ?_));rfl
inductive RoI(s x:NL)(cs:List NL)(r:Nat)(U:kO)(y:NL)(ys:List NL)(p:Nat)(kP:kO):Prop
 |mk (h1:s.drop p=jn y ys) (h2:p+(jn y ys).length=s.length) (v1:List NL) (h3:x::cs=v1++y::ys) (h4:kP r=some (.list (v1.map .bytes))) (h5:v1.length<=p) (x':lg [r] U kP):RoI s x cs r U y ys p kP
def Qy{cs:List NL}(hm:(jn x cs).length<M)(hl:∀l∈x::cs,10∉l)
  (k:∀kP l,lg [] U kP->kP l=some (.list ((x::cs).map .bytes))->Q (.ref l) kP):CL (n+2) 282 [.bytes (jn x cs)] U Q E:=by
 refine ent (ρ:=[_,_,_,_,_,_,_]) rfl rfl rfl λr hr=>?_;generalize hs:jn x cs=s at hm;have sL:=bI hm;refine wY (α:=NL×List NL×Nat×Option PV×Option PV) (λy=>y.2.1.length) (λy=>[some (.bytes s),some (.ref r),some (.int y.2.2.1),y.2.2.2.1,y.2.2.2.2,none,none])
  (λy kP=>RoI s x cs r U y.1 y.2.1 y.2.2.1 kP) ?_ (x,cs,0,none,none)
  ⟨hs.symm,by dsimp only;exact J (hs ..) (J (bV ..) rfl),[],rfl,kT,aF _,.put⟩
 rintro⟨y,ys,p,x3,x4⟩ kP K ⟨h1,h2,v1,h3,h4,h5,x'⟩ hK;dsimp only at h1 h2 h3 h5 hK ⊢;have hy:10∉y:=hl y (J (h3 ..) (bv _ aj));have hv:(v1.map PV.bytes).length<M:=J (ai ..) (tD 0x101010141240032a21013 rfl hm h2 h5);refine bT rfl ⟨sL,?_⟩;rcases ys with _|⟨c,ys⟩
 ·have e:jn y []=y:=aJ y;rw[e]at h1 h2;refine Qu sL (J (i7 ..) h1) hy (mf h4 (mX sL (lst h4 ⟨hv,⟨sL,bT (beq_self_eq_true _) ?_⟩⟩)));refine k _ r (.fresh hr (x'.trans .put)) (kT.trans ?_);refine J (pL (h1.trans (aJ y).symm) h2.symm ..) (J (h3 ..) (J (aS ..) ?_));rfl
 rw[Qx]at h1 h2;rw[ac,au,au]at h2;refine tM sL h1 hy (oV 0x1031b10aa131b1b2aa1a0a21 rfl h2) (mf h4 (mX sL (lst h4 ⟨hv,⟨sL,bF (beq_false_of_ne λq=>by have:=bJ q;exact oV 0x11000b0b5310a231b1b2aa1a0a22 rfl h2 (bJ q)) ?_⟩⟩)));refine hK (c,ys,p+y.length+2,_,_) _ (ba _) ⟨?_,by dsimp only;exact oV 0x100010322b10aaa231b1b2aa1a0a21 rfl h2,v1++[y],by refine J (h3 ..) (J (ao ..) ?_);rfl,kT.trans ?_,?_,x'.trans .put⟩
 ·refine(?_:s.drop (p+_+2)=_);refine rr (cU ..) (J (mE h1 ..) ?_);rfl
 ·refine J (pL h1 rfl ..) (J (aS ..) ?_);rfl
 refine J (ac ..) ?_;refine(?_:v1.length+1<=p+y.length+2);exact id (nn 0x102b21aa1b0a01001 rfl h5)
noncomputable def Row.val(r:Row):NL:=rstrip [32,9] (lstrip [32,9] (r.v++r.cs.flatten))
def Xm:qU (l.map PV.bytes)=some l:=(nQ (f:=PV.bytes) (g:=xW) (h:=id) λ_ _=>rfl).trans (congrArg some (eu l))
def MW(x:NL)(cs:List NL):(x::cs).flatten.length+2*cs.length=(jn x cs).length:=by
 dsimp only[jn];refine J (bh ..) (J (ac ..) (J (ac ..) (J (cE ..) ?_)))
 congr 1
 induction cs with
 |nil=>rfl
 |cons c cs ih=>refine J (aK ..) (J (bh ..) (J (bh ..) (J (ac ..) (J (ac ..) (J (ac ..) (rr (ih ..) (J (au ..) ?_)))))));refine(?_:_=2+_+_);exact nn 0x22d1a02baa1b2a2d10aa20 rfl
def MX{r:Row}(hm:r.raw.length<M)(ho:r.ok=true)(k:∀kP,lg [] U kP->Q (.bytes r.val) kP):CL (n+3) 289 [.bytes r.raw] U Q E:=by
 obtain⟨_,h1,h2⟩:=Row.split ho;have hj:=MW r.v r.cs;rw[show jn r.v r.cs=r.raw from rfl]at hj;refine ent (ρ:=[_,_]) rfl rfl rfl (oM (Qy (x:=r.v) (cs:=r.cs) hm (λl hl=>?_) λkP l x hl=>tr hl Xm ?_ ?_ (FR (MQ ?_ (by decide) (k _ x)))))
 ·rcases aU.mp hl with q|q
  ·exact J (q ..) h1
  exact(uR.split (aC.mp h2 l q)).1
 ·exact oV 0x1010120032d2a21012 rfl hm hj
 ·exact J (ai ..) (J (au ..) (oV 0x101011b3a0032d2a21012 rfl hm hj))
 refine(?_:(r.v++r.cs.flatten).length<=M);rw[bh]at hj;exact oV 0x1010120032d2a21012 rfl hm hj
def D6(O:Obj U a 236 d [(ct "name",.bytes x),(ct "raw",.bytes y)])(hm:x.length<=M)(hb:∀z∈x,z<256)(k:∀kP,lg [] U kP->Q (.str (x.map mj)) kP):CL (n+3) 226 [.ref a] U Q E:=by
 refine ent (ρ:=[_,_]) rfl rfl rfl (ng (O.get rfl trivial rfl (qI hm (g:=λx=>.str [x]) (λz hz K k=>bT rfl ⟨av _,aH.mpr (bW (hb z hz) (by decide)),k⟩) λr hr=>?_)));exact join_ones kT hm (uQ hm (λz hz=>bW (hb z hz) (by decide)) λkP x'=>k kP ((lg.new hr).trans x'))
theorem MY{body:PV->lK->kO->(Fl->lK->kO->Prop)->Prop}{Q:Fl->lK->kO->Prop}(I:List PV->lK->kO->Prop)
  (step:∀x r ρ U (K:Fl->lK->kO->Prop),I (x::r) ρ U->(∀ρ' kP,I r ρ' kP->K .next ρ' kP)->(∀v ρ' kP,Q (.ret v) ρ' kP->K (.ret v) ρ' kP)->body x ρ U K)
  (hu:∀l ρ U,I l ρ U->unch U) (fin:∀ρ U,I [] ρ U->Q .next ρ U):∀l ρ U,I l ρ U->rG unch body l ρ U Q
 |[],ρ,U,h=>fin ρ U h
 |x::r,ρ,U,h=>step x r ρ U _ h (λρ' kP h'=>⟨hu r ρ' kP h',MY I step hu fin r ρ' kP h'⟩) λ_ _ _ q=>q
noncomputable def si(U:kO):List Row->List PV->Prop
 |[],v=>v=[]
 |r::rs,v=>∃f d v',v=.ref f::v'/\Obj U f 236 d [(ct "name",.bytes r.nm),(ct "raw",.bytes r.raw)]/\si U rs v'
def si.keep(x:lg [] U kP):∀{rs:List Row}{v:List PV},si U rs v->si kP rs v:=by
 intro z9
 induction z9 with
 |nil=>
  intro v h;exact h
 |cons r rs ih=>
  intro v Y_;obtain⟨f,d,v',e,O,h1⟩:=Y_;exact⟨f,d,v',e,O.keep x,ih h1⟩
def Obj.met{K:Callee->Prop}(O:Obj U a C d es)(h3:es.lookup nm=.none)(h5:lF.meths.lookup (C,nm)=some f)(k:K (.fn f (.ref a))):methP lF U (.ref a) nm K:=Xk O.i O.e h3 h5 k
noncomputable def T6:PV->PV
 |.tup (a::_)=>a
 |v=>v
theorem oa.MZ:∀{rs:List Row}{a:Nat}{v:List PV},oa U a rs v->si U rs (v.map T6)/\v.length=rs.length
 |[],a,v,h=>by subst h;exact⟨rfl,rfl⟩
 |r::rs,a,v,⟨f,d,v',e,O,h1⟩=>by
  subst e;exact⟨⟨f,d,_,rfl,O,h1.MZ.1⟩,J (au ..) (J (h1.MZ.2 ..) (J (au ..) rfl))⟩
def Ji(h:U a=some (.list l))(hm:l.length<=M)(ht:∀x∈l,∀K,K [g x] U->lQ x U K)(k:∀r,U r=.none->Q (.ref r) (U.put r (.list (l.map g)))):
  lT U .val (.ref a) (v9 lQ Q U):=by
 unfold lT;refine lst h ⟨hm,?_⟩;have:=zC (f:=id) (Q:=Q) (lQ:=lQ) hm (unch:=λkP=>kP a=some (.list l)) h ht k;rw[eu]at this;exact this
theorem oa.tup:∀{rs:List Row}{a:Nat}{v:List PV},oa U a rs v->∀x∈v,∃f p q,x=.tup [.ref f,.int p,.int q]
 |[],a,v,h=>by subst h;intro x hx;contradiction
 |r::rs,a,v,⟨f,d,v',e,O,h1⟩=>by
  subst e;intro x hx;rcases aU.mp hx with z|z
  ·exact⟨f,_,_,z⟩
  exact h1.tup x z
def Jj(e:(cr l.length M&&decide (0<=i))=true)(h:l[i.toNat]? =some v)(k:K v):rF U (.tup l) (.int i) K:=by
 refine lw e λe1 e2=>?_;have e2:=of_decide_eq_true e2;unfold rF;have hi:oD i l.length=some i.toNat:=by
  have oX:=(aG.mp h).1;dsimp only[oD,eM];refine J (if_neg (bD.mpr e2) ..) ?_;exact if_pos (az.mpr ⟨decide_eq_true e2,decide_eq_true (by lia)⟩)
 refine(?_:(_/\lv (oD i l.length) _));refine J (hi ..) ?_;refine⟨ae e1,?_⟩;refine(?_:lv l[i.toNat]? K);exact J (h ..) k
def tu(h:rs.all Row.ok=true):rs.length<=(lJ rs).length:=by
 induction rs with
 |nil=>exact aF _
 |cons r rs ih=>
  refine J (mu ..) (J (ac ..) (J (r.tN ..) (J (au ..) ?_)));have:=ih (az.mp h).2;exact tD 0x10142b31b2aaaaa1b0a01001 rfl this
def D7{s t:NL}(hm:s.length<=M)(hb:∀x∈s,x<256)(h:s.drop a=lJ rs++13::10::t)(ho:rs.all Row.ok=true)(he:a+(lJ rs).length+2<=e)
  (k:∀kP l v,lg [] U kP->kP l=some (.list v)->v.length<=M->si kP rs v->Q (.tup [.ref l,.int (a+(lJ rs).length+2:Nat)]) kP):CL (n+4) 275 [.bytes s,.int a,.int e] U Q E:=by
 refine ent (ρ:=[_,_,_,_,_,_]) rfl rfl rfl (y8 hm hb h ho he λσ₁ l v lh hl R=>?_);have hv:v.length<=M:=by
  refine J (R.MZ.2 ..) ?_;have:=tu ho;have h:=congrArg aZ h;rw[a9,ac,au]at h;exact xm 0x101100101200401b5a3a423201004 rfl hm this h (cy _ _)
 refine Ji (g:=T6) hl hv (λx hx K k=>?_) λr hr=>k _ r (v.map T6) (lh.trans (.new hr)) kT (J (ai ..) hv) (R.MZ.1.keep (.new hr));refine lr λGp gk=>?_;obtain⟨f,p,q,rfl⟩:=R.tup x hx;refine gk ?_;exact bT rfl (Jj rfl rfl k)
noncomputable def nE(w:NL)(rs:List Row):PV:=match rs.find? λr=>r.key==w with
 |some r=>.bytes r.val
 |.none=>.none
inductive FbI(rs:List Row)(w:NL)(a:Nat)(U:kO)(l':List PV)(ρ:lK)(kP:kO):Prop
 |mk (Jk:List Row) (F:si kP Jk l') (h1:∀r∈Jk,r∈rs) (h2:nE w Jk=nE w rs) (x:lg [] U kP) (o:Option PV) (hr:ρ=[some (.ref a),some (.str w),some (.str w),o,none,none]):FbI rs w a U l' ρ kP
def FT(hl:U a=some (.list l))(hm:l.length<=M)(F:si U rs l)(ho:∀r∈rs,r.ok=true/\r.raw.length<M/\r.nm.length<=M)(hw:w.length<=M)(Z5:∀x∈w,x<1114112)(Z6:w.map mj=w)
  (k:∀kP,lg [] U kP->Q (nE w rs) kP):CL (n+4) 296 [.ref a,.str w] U Q E:=by
 refine ent (ρ:=[_,_,_,_,_,_]) rfl rfl rfl (uQ hw Z5 λσ₁ lh=>rP (lh.get hl) hm ?_);refine J (Z6 ..) ?_;refine MY (FbI rs w a U) ?_ (λl' ρ kP h'=>by obtain⟨_,_,_,_,x,_⟩:=h';exact x.get hl) ?_ l _ σ₁ ⟨rs,F.keep lh,λ_ h=>h,rfl,lh,_,rfl⟩
 ·rintro y r ρ σ₂ K ⟨Jk,F',h1,h2,lA,o,rfl⟩ hK hR;rcases Jk with _|⟨q,Jk⟩
  ·contradiction
  refine lr λGp gk=>?_;obtain⟨f,d,v',e,O,F''⟩:=F';rcases e with _|_
  obtain⟨ok,hr,hn⟩:=ho q (h1 q aj);refine gk ?_;refine O.met rfl rfl (D6 O hn (λz hz=>a8 (rQ (Row.split ok).1 hz).2.1 (by decide)) λlH lU=>?_);refine bC (λz=>?_) λz=>hK _ _ ⟨Jk,F''.keep lU,λr hr=>h1 r (ay _ hr),?_,lA.trans lU,_,rfl⟩
  ·refine(O.keep lU).get rfl trivial rfl (MX hr ok λmH nW=>hR _ _ _ ?_);have e:nE w (q::Jk)=.bytes q.val:=by
    dsimp only[nE];exact J (jU (by exact z) ..) rfl
   refine rr (e ..) (J (h2 ..) ?_);exact k _ (lA.trans (lU.trans nW))
  refine rr (h2 ..) ?_;dsimp only[nE];exact J (gJ (by rw[show (q.key==w)=false from z];exact a7) ..) rfl
 rintro ρ σ₂ ⟨Jk,F',h1,h2,lA,o,rfl⟩;clear h1;rcases Jk with _|⟨q,Jk⟩
 ·have:=k _ lA;rw[←h2]at this;exact this
 obtain⟨f,d,v',e,_⟩:=F';contradiction
variable {data s:NL}
def any_ints{x:Nat}:∀{l:NL},pc (.int x) (l.map λy=>.int (y:Nat))=some (l.contains x):=by
 intro z9
 induction z9 with
 |nil=>
  exact rfl
 |cons y l ih=>
  refine(?_:(some ((y:Int)==(x:Int))).bind (λp=>(pc (.int x) (l.map λy=>.int (y:Nat))).bind λq=>some (p||q))=_);refine J (ih ..) ?_;refine(?_:some (_||_)=_);refine J (bO ..) ?_
  congr 2
  refine ri (a0 ..) ?_;simp;lia
def B_{x:Nat}{K:Bool->Prop}(l:NL)(k:K (l.contains x)):Al U (.int x) (.tup (l.map λy=>.int (y:Nat))) K:=by
 unfold Al;refine(?_:lv (pc _ _) K);exact J (any_ints ..) k
noncomputable def zG(p:Nat->Bool):NL->Bool
 |[]=>false
 |x::_=>p x
def D8{test:lK->Rk}{body:SS}{Q:Fl->lK->kO->Prop}{E:QR}(p:Nat->Bool)
  (ht:∀kP s K,mK kP c d data s->lg [d] U kP->K (zG p s) kP->test ρ kP K (JW E ρ))
  (UX:∀kP x s K,mK kP c d data (x::s)->lg [d] U kP->(∀mQ,mK mQ c d data s->lg [d] U mQ->K .next ρ mQ)->body ρ kP K E)
  (h:mK U c d data s) (k:∀kP,mK kP c d data (s.dropWhile p)->lg [d] U kP->Q .next ρ kP):∃n,xY test body n ρ U Q E:=by
 refine wY aZ (λ_=>ρ) (λs' kP=>mK kP c d data s'/\lg [d] U kP/\s'.dropWhile p=s.dropWhile p) (λs' kP K ⟨h',x,e⟩ hK=>ht kP s' _ h' x ?_) s ⟨h,.rfl,rfl⟩;rcases s' with _|⟨y,r⟩
 ·exact bF rfl (k kP (e▸h') x)
 refine bC (λz=>UX kP y r _ h' x λmQ h2 x2=>hK r mQ (ba _) ⟨h2,x2,?_⟩) (λz=>?_)
 ·exact rr (e ..) (J (fV (show p y=true from z) ..) rfl)
 rw[←e,dJ (by rw[show p y=false from z];exact a7)]at k;exact k kP h' x
def M0{p:Nat->Bool}(h:s<:+data):cut data (data.length-s.length) (data.length-(s.dropWhile p).length)=s.takeWhile p:=by
 have e:=B8 (w:=(s.takeWhile p).length) h;have l:(s.takeWhile p).length+(s.dropWhile p).length=s.length:=rr (ac ..) (J (eO ..) rfl);have:=h.length_le;rw[show data.length-s.length+(s.takeWhile p).length=data.length-(s.dropWhile p).length by exact xm 0x1001000001001000101000504a2315a2324a215a3024a30210a25 rfl l s2 s2 (aA (mZ 0x101001001 rfl this)) (aA (oV 0x1010310320210a22 rfl l this))]at e;refine J (e ..) ?_;have t:=eD (l₁:=s.takeWhile p) (l₂:=s.dropWhile p);rw[eO]at t;exact t
def mK.moved{p:Nat->Bool}{w r:NL}(h:mK U c d data s)(e:s.takeWhile p≠[]):(((data.length-(s.dropWhile p).length:Nat):Int)==((data.length-s.length:Nat):Int))=false:=by
 refine beq_false_of_ne λz=>?_;have z:=bJ z;have l:(s.takeWhile p).length+(s.dropWhile p).length=s.length:=rr (ac ..) (J (eO ..) rfl);have:=h.le;have:=cS.mpr e;exact xm 0x10110010100b0b520b1541a2530a2432a21025 rfl z l (aA (ah (Nat.le.intro ((ck ..).trans l)) h.le)) (aA h.le) this
noncomputable def Xn:NL:=[40,41,60,62,64,44,59,58,92,34,47,91,93,63,61]
noncomputable def tok(x:Nat):Bool:=decide (32<x)&&(decide (x<127)&&!Xn.contains x)
def M4(hb:∀x∈s,x<256)(k:Q (.bool (zG tok s)) U):CL (n+1) 453 [.int (hd s)] U Q E:=by
 refine ent (ρ:=[_,_]) rfl rfl rfl ?_;rcases s with _|⟨x,r⟩
 ·exact dF (by decide) (bF rfl k)
 have k:Q (.bool (tok x)) U:=k;unfold tok at k;refine dC (λz=>?_) λz=>?_
 ·rw[decide_eq_true (aH.mp z),d8]at k;refine bC (λy=>?_) λy=>?_
  ·rw[decide_eq_true (aH.mp (of_decide_eq_true y)),d8]at k;refine Yn (hb x aj) ?_;exact k
  rw[decide_eq_false λq=>of_decide_eq_false y (aH.mpr q),fW]at k
  show Q (.bool (decide _)) U
  exact J (show decide (hd (x::r)<127)=false from y) k
 rw[decide_eq_false λq=>z (aH.mpr q),fW]at k;exact bF rfl k
def uT(h:mK U c d data s)(hw:s.takeWhile tok≠[])(k:∀kP,mK kP c d data (s.dropWhile tok)->lg [d] U kP->Q (.bytes (s.takeWhile tok)) kP):CL (n+3) 467 [.ref c] U Q E:=by
 refine ent (ρ:=[_,_,_,_]) rfl rfl rfl (h.at_ (D8 tok (λkP s K h' x k=>h'.met rfl rfl (rO h' (M4 (λ_=>h'.x) k))) (λkP x s K h' x' k=>h'.met rfl rfl (take h' λmQ h2 x2=>k mQ h2 (x'.trans x2))) h λkP h' x=>h'.at_ ?_));refine bF (h.moved (w:=[]) (r:=[]) hw) (h'.wR (h'.at_ (mX h.m ?_)));refine J (M0 h.s ..) ?_;exact k kP h' x
noncomputable def y_:NL:=[9,10,13,32]
def sj{r:NL}(h:mK U c d data s)(e:s.dropWhile y_.contains=r)(hr:∀x u,r=x::u->x≠40)(k:∀kP,mK kP c d data r->lg [d] U kP->Q .none kP):CL (n+3) 460 [.ref c] U Q E:=by
 refine ent (ρ:=[_,_,_,_]) rfl rfl rfl (wY aZ (λ_=>_) (λs' kP=>mK kP c d data s'/\lg [d] U kP/\s'.dropWhile y_.contains=r) (λs' kP K ⟨h',x,e⟩ hK=>h'.met rfl rfl (tK h' ?_)) s ⟨h,.rfl,e⟩);rcases s' with _|⟨y,s'⟩
 ·exact bF rfl (k kP (e▸h') x)
 refine bT rfl (h'.met rfl rfl (rO h' (B_ y_ (bC (λz=>h'.met rfl rfl (take h' λmQ h2 x2=>hK s' mQ (ba _) ⟨h2,x.trans x2,rr (e ..) (J (fV z ..) rfl)⟩)) λz=>h'.met rfl rfl (rO h' ?_)))));rw[dJ (by rw[z];exact a7)]at e;exact bF (beq_false_of_ne λq=>hr y s' e.symm (bJ q)) (k kP (e▸h') x)
def uU{l:NL}(hm:l.length<=M)(hb:∀x∈l,x<256)(k:∀kP,lg [] U kP->Q (.str (l.map mj)) kP):CL (n+3) 486 [.bytes l] U Q E:=by
 refine ent (ρ:=[_,_]) rfl rfl rfl (ng (lower hm hb λσ₁ lh=>qI (g:=λx=>.str [x]) (J (ai ..) hm) (λz hz K k=>bT rfl ⟨av _,?_,k⟩) λr hr=>join_ones kT (J (ai ..) hm) (k _ (lh.trans (.new hr)))));clear K k;obtain⟨y,hy,rfl⟩:=dP.mp hz;exact aH.mpr (FS (bW (hb y hy) (by decide)) (by decide))
def M5(hb:∀x∈s,x<128)(k:Q (.bool (zG tok s)) U):CL (n+2) 474 [.int (hd s)] U Q E:=by
 refine ent (ρ:=[_,_]) rfl rfl rfl (bF (decide_eq_false ?_) (M4 (λx hx=>bW (hb x hx) (by decide)) k));clear k;rcases s with _|⟨x,r⟩
 ·decide
 exact bD.mpr (aN.mpr (eL (hb x aj)))
noncomputable def RX(x:Nat):Bool:=x !=92&&(x !=0&&(x !=10&&(x !=13&&x !=34)))
def FU{x:Nat}(h:RX x=true):x≠92/\x≠0/\x≠10/\x≠13/\x≠34:=by
 unfold RX at h;simpa using h
def Qz{x:Nat}{t:NL}(h:data.drop a=x::t):cut data a (a+1)=[x]:=pL (l:=[x]) h rfl
def M6{x:Nat}{t:NL}(hm:data.length<=M)(h:data.drop a=x::t)(hx:RX x=true)(k:Q (.int (-1)) U):CL (n+1) 368 [.bytes data,.int a] U Q E:=by
 refine lr λGp gk=>?_;obtain⟨_,_,h3,h4,_⟩:=FU hx;refine gk ?_;refine ent (ρ:=[_,_]) rfl rfl rfl (mX (j:=a+1) hm ?_);refine J (Qz h ..) ?_;refine bF ?_ (mX (j:=a+2) hm (bF ?_ k))
 ·exact beq_false_of_ne λz=>h3 (bw z).1
 refine beq_false_of_ne λz=>h4 ?_;have:cut data a (a+2)=x::t.take 1:=by
  unfold cut;refine J (h ..) (J (bL ..) ?_);rfl
 rw[this]at z;exact(bw z).1
def Jl{x:Nat}{t:NL}(hm:data.length<=M)(hb:x<256)(h:data.drop a=x::t)(hx:RX x=true)(k:Q (.tup [.bytes [x],.int (a+1:Nat)]) U):CL (n+2) 375 [.bytes data,.int a,v] U Q E:=by
 refine lr λGp gk=>?_;obtain⟨h1,h2,h3,h4,_⟩:=FU hx;have hl:a<data.length:=by
  have:=congrArg aZ h;rw[a9,au]at this;exact nlt this
 have Yo:((x:Int)==92)=false:=beq_false_of_ne λz=>h1 (bJ z);refine gk ?_;refine ent (ρ:=[_,_,_,_,_,_,_,_]) rfl rfl rfl ⟨hm,dF (iJ.mpr (aH.mpr hl)) (uS hm h (bF Yo (bF rfl (uS hm h (bF Yo (M6 hm h hx (dF (by decide) (uS hm h (B_ [0,10,13] (bF ?_ (mX (j:=a+1) hm ?_)))))))))))⟩
 ·simp[h2,h3,h4]
 exact J (Qz h ..) k
def T7{l:NL}:qU (l.map λx=>.bytes [x])=some (l.map λx=>[x]):=nQ λ_ _=>rfl
inductive CaI(data t w:NL)(a r:Nat)(U:kO)(y:NL)(p:Nat)(kP:kO):Prop
 |mk (h1:data.drop p=y++34::t) (x:lg [r] U kP) (v1:NL) (e1:w=v1++y) (e2:p=a+1+v1.length) (h2:kP r=some (.list (v1.map λx=>.bytes [x]))):CaI data t w a r U y p kP
def Jm{w t:NL}(hm:data.length<=M)(hb:∀x∈w,x<256)(h:data.drop (a+1)=w++34::t)(hw:w.all RX=true)(k:∀kP,lg [] U kP->Q (.tup [.bytes w,.int (a+1+w.length+1:Nat)]) kP):CL (n+3) 382 [.bytes data,.int a,.bytes [34],.bytes []] U Q E:=by
 have hl:a+1+w.length<data.length:=by
  have:=congrArg aZ h;rw[a9,ac,au]at this;exact tD 0x10010411b3aa141b3a0a21b2a1a022 rfl this (aA (bI (eI (nn 0x10000b11b2a1a021 rfl this))))
 refine ent (ρ:=[_,_,_,_,_,_,_,_,_,_]) rfl rfl rfl λr hr=>wY (α:=NL×Nat×Option PV) (λy=>y.1.length) (λy=>[some (.bytes data),some (.int a),some (.bytes [34]),some (.bytes []),some (.ref r),some (.int y.2.1),y.2.2,none,none,none])
  (λy kP=>CaI data t w a r U y.1 y.2.1 kP) ?_ (w,a+1,none) ⟨h,.put,[],rfl,rfl,kT⟩
 rintro⟨y,p,o⟩ kP K ⟨h1,x',v1,e1,e2,h2⟩ hK;dsimp only at h1 e1 e2 hK ⊢;have hlen:w.length=v1.length+y.length:=J (e1 ..) (J (ac ..) rfl);refine mX (j:=p+1) hm ?_;rcases y with _|⟨z,y⟩
 ·refine J (Qz h1 ..) ?_;refine bF rfl (oM (tr h2 T7 ?_ ?_ ?_))
  ·exact J (wu ..) (xm 0x10110014054a32031b2aa11003 rfl hm hl hlen)
  ·exact J (ai ..) (xm 0x10110014054a32031b2aa11003 rfl hm hl hlen)
  refine J (wu ..) ?_;rw[aJ]at e1;clear h2 hlen;subst e1;have:=k kP (.fresh hr x');rw[←e2]at this;exact this
 have hz:RX z=true:=aC.mp hw z (J (e1 ..) (bv _ aj));have bz:z<256:=hb z (J (e1 ..) (bv _ aj));refine J (Qz h1 ..) ?_;refine bT (by refine J (beq_false_of_ne λq=>(FU hz).2.2.2.2 (bw q).1 ..) ?_;rfl) ⟨hm,?_⟩;rw[au]at hlen;refine dT (aH.mpr (xm 0x1011002311b5a4a1241b0aa32211b0aa13 rfl hl e2 hlen)) (uS hm h1 (Yn bz (bF rfl (Jl hm bz h1 hz (mf h2 (lst h2 ⟨J (ai ..) (xm 0x1011001411b5a4a32031b2aa11003 rfl hm hl hlen),?_⟩))))));refine hK (y,p+1,_) _ (ba _) ⟨?_,x'.trans .put,v1++[z],by refine J (e1 ..) (J (ao ..) ?_);rfl,by refine J (ac ..) ?_;refine(?_:p+1=_+(_+1));exact id (nn 0x1000101b2a1b1aa1b0a221b1aa021 rfl e2),kT.trans (by refine J (aS ..) ?_;rfl)⟩;exact mE (l:=[z]) h1
def Ca(h:mK U c d data (34::(w++[34])))(hw:w.all RX=true)(k:∀kP,mK kP c d data []->lg [d] U kP->Q (.bytes w) kP):CL (n+4) 481 [.ref c] U Q E:=by
 refine ent (ρ:=[_,_,_,_,_,_,_]) rfl rfl rfl (h.met rfl rfl (rO h (bT rfl (h.wR (h.at_ (Jm (t:=[]) h.m (λx hx=>h.x (ay _ (dI _ hx))) ?_ hw λσ₁ lh=>?_))))))
 ·obtain⟨p,e⟩:=h.s;refine rr (e ..) (J (ac ..) (J (Nat.add_sub_cancel ..) (rr (cU ..) (J (g8 ..) ?_))));rfl
 have h₁:mK σ₁ c d data (34::(w++[34])):=⟨lh.get h.i,lh.get h.e,h.m,h.b,h.s⟩;refine h₁.put (List.nil_suffix) ?_ λσ₂ lL lA=>k σ₂ lL (lh.mono.trans lA);have:=h.le;rw[au,ac,au,bA]at this ⊢;exact congrArg ff (oV 0x1010000000000101031b21b1aaa201b1b0ba2aa1a20b3a000301b1b0ba2aa1a004 rfl s2 (cy _ _) s2 (aA (mZ 0x1011b1b0ba0aa011b1b0ba0aa01 rfl this)))
def Cb(h:mK U c d data s)(h0:s.head? ≠some 34)(hb:∀x∈data,x<128)(hw:s.takeWhile tok≠[])(k:∀kP,mK kP c d data (s.dropWhile tok)->lg [d] U kP->Q (.bytes (s.takeWhile tok)) kP):CL (n+4) 481 [.ref c] U Q E:=by
 refine ent (ρ:=[_,_,_,_,_,_,_]) rfl rfl rfl (h.met rfl rfl (rO h (bF ?_ (h.at_ (D8 (s:=s) tok (λkP s K h' x k=>h'.met rfl rfl (rO h' ?_)) (λkP x s K h' x' k=>h'.met rfl rfl (take h' λmQ h2 x2=>k mQ h2 (x'.trans x2))) h λkP h' x=>h'.at_ (bF (h.moved (w:=[]) (r:=[]) hw) (h'.wR (h'.at_ (mX h.m ?_)))))))))
 ·clear h hw k;rcases s with _|⟨x,r⟩
  ·rfl
  exact beq_false_of_ne λz=>h0 (congrArg some (bJ z))
 ·exact M5 (λx hx=>hb x (h'.s.subset hx)) k
 refine J (M0 h.s ..) ?_;exact k kP h' x
def oO{K:Bool->Prop}(e:pc x l=some r)(k:K r):Al U x (.tup l) K:=by
 unfold Al;refine(?_:lv (pc _ _) K);exact J (e ..) k
def Cc(k:Q .none U):CL (n+1) 318 [.str (ct "utf-8")] U Q E:=
 ent (ρ:=[_,_,_]) rfl rfl rfl (oO (r:=true) rfl (bF rfl k))
def QA{t:NL}(hm:data.length<=M)(hx:x<128)(h:data.drop a=x::t)(k:Q (.tup [.int x,.int 1]) U):CL (n+2) 339 [.str (ct "utf-8"),.bytes data,.int a] U Q E:=
 ent (ρ:=[_,_,_,_,_,_]) rfl rfl rfl (bT rfl (ent (ρ:=[_,_,_,_,_,_,_,_,_,_,_]) rfl rfl rfl (uS hm h (dT (aH.mpr hx) k))))
def FV{K:Callee->Prop}(k:K (.bs nZ s)):methP lF U (.str s) (ct "find") K:=by
 unfold methP;exact⟨.inr (.inl rfl),k⟩
def M7(hc:s.contains c=false)(hm:s.length<=M)(k:Q (.int (-1)) U):Os U nZ s [.str [c]] Q:=by
 unfold Os;exact⟨rfl,rfl,hc,hm,k⟩
inductive StI(data:NL)(r:Nat)(U:kO)(y:NL)(p:Nat)(kP:kO):Prop
 |mk (h1:data.drop p=y) (x:lg [r] U kP) (v1:NL) (e1:data=v1++y) (e2:p=v1.length) (h2:kP r=some (.list (v1.map λx=>.str [x]))):StI data r U y p kP
def D9(hm:data.length<M)(hb:∀x∈data,x<128)(k:∀kP,lg [] U kP->Q (.str data) kP):CL (n+3) 353 [.str (ct "utf-8"),.bytes data] U Q E:=by
 have sL:=bI hm;refine ent (ρ:=[_,_,_,_,_,_,_,_,_,_,_]) rfl rfl rfl (Cc λr hr=>wY (α:=NL×Nat×Option PV×Option PV) (λy=>y.1.length) (λy=>[some (.str (ct "utf-8")),some (.bytes data),some (.ref r),some (.int y.2.1),y.2.2.1,y.2.2.2,none,none,none,none,none])
  (λy kP=>StI data r U y.1 y.2.1 kP) ?_ (data,0,none,none) ⟨rfl,.put,[],rfl,rfl,kT⟩)
 rintro⟨y,p,o,o2⟩ kP K ⟨h1,x',v1,e1,e2,h2⟩ hK;dsimp only at h1 e1 e2 hK ⊢;have hlen:data.length=v1.length+y.length:=rr (ac ..) (rr (e1 ..) rfl);refine⟨sL,?_⟩;rcases y with _|⟨z,y⟩
 ·rw[aJ]at e1;clear hlen;subst e1;exact dF (bD.mpr (aN.mpr (db e2.symm))) (ng (join_ones h2 sL (k kP (.fresh hr x'))))
 rw[au]at hlen;have hz:z<128:=hb z (J (e1 ..) (bv _ aj));refine dT (aH.mpr (oV 0x11002011b3a1a221022 rfl e2 hlen)) (QA sL hz h1 (dF (bD.mpr (av _)) (mf h2 ⟨av _,aH.mpr (bW hz (by decide)),lst h2 ⟨J (ai ..) (oV 0x11001211b3a2a021012 rfl hm hlen),?_⟩⟩)));exact hK (y,p+1,_,_) _ (ba _) ⟨mE (l:=[z]) h1,x'.trans .put,v1++[z],by refine J (e1 ..) (J (ao ..) ?_);rfl,by refine J (ac ..) (J (e2 ..) ?_);rfl,kT.trans (by refine J (aS ..) ?_;rfl)⟩
def Cd(hm:data.length<M)(hb:∀x∈data,x<128)(k:∀kP,lg [] U kP->Q (.str data) kP):CL (n+4) 360 [.bytes data] U Q E:=
 ent (ρ:=[_,_,_,_,_,_]) rfl rfl rfl (D9 hm hb k)
def part_of{s:NL}(hc:s.contains 42=false)(hm:s.length<=M)(k:Q .none U):CL (n+1) 507 [.str s] U Q E:=
 ent (ρ:=[_,_,_,_,_,_]) rfl rfl rfl (FV (M7 hc hm (dT (by decide) k)))
def D_(k:∀r,U r=.none->Q (.ref r) (U.put r (.dict []))):t7 [] Q [] U:=⟨rfl,by decide,.nil,k⟩
def in_dict{K:Bool->Prop}(h:U a=some (.dict es))(k:K (es.lookup s).isSome):Al U (.str s) (.ref a) K:=by
 unfold Al CP;dsimp only;exact J (h ..) k
def Jn{K:kO->Prop}(h:U a=some (.dict es))(hl:cr es.length 900=true)(k:K (U.put a (.dict (xQ s v es)))):zH U (.ref a) (.str s) v K:=by
 unfold zH oC;dsimp only[sV];exact J (h ..) (⟨ae hl,k⟩)
def AJ{K:List PV->(kO->Prop)->Prop}(h:U a=some (.dict []))(k:N):v8 U (.ref a) N K:=by
 unfold v8;dsimp only;exact J (h ..) k
noncomputable def pairs(o:Option (NL×NL)):List PV:=match o with
 |some p=>[.tup [.str p.1,.bytes p.2]]
 |.none=>[]
noncomputable def M8(o:Option (NL×NL)):List (NL×PV):=match o with
 |some p=>[(p.1,.str p.2)]
 |.none=>[]
def Jo{o:Option (NL×NL)}(hl:U l=some (.list (pairs o)))(ho:∀p,o=some p->p.1.contains 42=false/\p.1.length<=M/\p.2.length<M/\∀x∈p.2,x<128)
  (k:∀kP r,lg [] U kP->kP r=some (.dict (M8 o))->Q (.ref r) kP):CL (n+5) 538 [.ref l] U Q E:=by
 refine ent (ρ:=[_,_,_,_,_,_,_,_,_,_,_,_]) rfl rfl rfl (D_ λr hr=>D_ λr2 xE=>?_);have x1:=lg.new (o:=.dict []) hr;have x2:=lg.new (o:=.dict []) xE;have yX:((U.put r (.dict [])).put r2 (.dict [])) r=some (.dict []):=x2.get kT;have J1:=x2.get (x1.get hl);clear hl;rcases o with _|p
 ·exact rP J1 (aO _) (AJ kT (k _ r (x1.trans x2) yX))
 refine lr λGp gk=>?_;obtain⟨h1,h2,h3,h4⟩:=ho p rfl;refine gk ?_;refine rP J1 (ae rfl) (part_of h1 h2 (bT rfl (in_dict yX (bT rfl (Cd h3 h4 λlH lU=>Jn (lU.get yX) rfl ⟨?_,AJ ?_ (k _ r ?_ kT)⟩)))))
 ·exact(mN λz=>by have:=lU.get J1;rw[z,lU.get yX]at this;rcases this with _|_).trans (lU.get J1)
 ·exact(mN λz=>by have:=kT (U:=U) (a:=r) (o:=.dict []);rw[z]at xE;rw[xE]at this;contradiction).trans (lU.get kT)
 exact lg.fresh hr ((x1.trans (x2.trans lU)).mono.trans .put)
noncomputable def Ov(l:NL):Bool:=l.all tok&&!l.isEmpty
def Hd(h:Ov l=true):l≠[]:=λz=>by rw[z]at h;contradiction
def ww(h:Ov l=true)(hx:x∈l):tok x=true:=aC.mp (az.mp h).1 x hx
def FW(h:tok x=true):32<x/\x<127/\Xn.contains x=false:=by
 refine lw h λh1 h2=>?_;refine lw h2 λh3 h4=>?_;exact⟨of_decide_eq_true h1,of_decide_eq_true h3,by simpa using h4⟩
noncomputable def HH(x:Nat):Bool:= !y_.contains x&&x !=40
def wx(h:tok x=true):HH x=true:=by
 obtain⟨h1,h2,h3⟩:=FW h;unfold HH;have:y_.contains x=false:=by simp[y_];exact⟨λe=>absurd (e▸h1) (by decide),λe=>absurd (e▸h1) (by decide),λe=>absurd (e▸h1) (by decide),λe=>absurd (e▸h1) (by decide)⟩
 have:x≠40:=λz=>by rw[z]at h3;contradiction
 simp_all
def qJ(h:mK U c d data (x::r))(hx:HH x=true)(k:∀kP,mK kP c d data (x::r)->lg [d] U kP->Q .none kP):CL (n+3) 460 [.ref c] U Q E:=by
 refine lw hx λh1 h2=>?_;refine sj h (dJ λz=>by rw[z]at h1;contradiction) (λy u e z=>?_) k;rw[←(bw e).1]at z;rw[z]at h2;contradiction
def Ea(h:mK U c d data [])(k:∀kP,mK kP c d data []->lg [d] U kP->Q .none kP):CL (n+3) 460 [.ref c] U Q E:=
 sj h rfl (λ_ _ e=>nomatch e) k
def Eb{l t:NL}(h:mK U c d data (l++t))(hl:Ov l=true)(k:∀kP,mK kP c d data (l++t)->lg [d] U kP->Q .none kP):CL (n+3) 460 [.ref c] U Q E:=by
 rcases l with _|⟨x,l⟩
 ·contradiction
 exact qJ h (wx (ww hl aj)) k
def xF(hl:Ov l=true){t:NL}(ht:∀x r,t=x::r->tok x=false):(l++t).takeWhile tok=l/\(l++t).dropWhile tok=t:=MN (λ_ hx=>ww hl hx) ht
inductive Jp where
 |none
 |plain (nm w:NL)
 |quoted (nm w:NL)
noncomputable def Jp.oct:Jp->NL
 |.none=>[]
 |.plain nm w=>59::32::(nm++61::w)
 |.quoted nm w=>59::32::(nm++61::34::(w++[34]))
noncomputable def Jp.ok:Jp->Bool
 |.none=>true
 |.plain nm w=>Ov nm&&Ov w
 |.quoted nm w=>Ov nm&&w.all RX
noncomputable def Jp.pr:Jp->Option (NL×NL)
 |.none=>.none
 |.plain nm w=>some (nm.map mj,w)
 |.quoted nm w=>some (nm.map mj,w)
def lg.at(x:lg [d] U kP)(h:a≠d)(e:U a=some o):kP a=some o:=x a o (λz=>h (aB.mp z)) e
def mK.keep(h:mK U c d data s)(x:lg [] U kP):mK kP c d data s:=⟨x.get h.i,x.get h.e,h.m,h.b,h.s⟩
def mK.len(h:mK U c d data s):s.length<=M:=ah h.s.length_le h.m
def xG{t:NL}(h:tok x=false):∀y r,x::t=y::r->tok y=false:=λy r e=>(bw e).1▸h
def He:∀y r,([]:NL)=y::r->tok y=false:=λ_ _ e=>nomatch e
def Ec(h:mK U c d data [])(k:∀kP l,lg [d] U kP->kP l=some (.list [])->Q (.ref l) kP):CL (n+5) 493 [.ref c] U Q E:=
 ent (ρ:=[_,_,_,_,_,_,_,_,_,_]) rfl rfl rfl λr hr=>Ea (h.keep (.new hr)) λσ₁ h₁ lh=>⟨1,h₁.met rfl rfl (tK h₁ (bF rfl (k σ₁ r ((lg.new hr).mono.trans lh) (lh.at (λz=>by rw[z,h.e]at hr;contradiction) kT))))⟩
def wS{nm V w:NL}(h:mK U c d data (59::32::(nm++61::V)))(hn:Ov nm=true)(hV0:∃y u,V=y::u/\HH y=true)
  (hV:∀{U:kO}{Q:QV}{E:nI},mK U c d data V->(∀kP,mK kP c d data []->lg [d] U kP->Q (.bytes w) kP)->CL (n+4) 481 [.ref c] U Q E)
  (k:∀kP l,lg [d] U kP->kP l=some (.list [.tup [.str (nm.map mj),.bytes w]])->Q (.ref l) kP):CL (n+5) 493 [.ref c] U Q E:=by
 refine ent (ρ:=[_,_,_,_,_,_,_,_,_,_]) rfl rfl rfl λr hr=>?_;have hd:r≠d:=λz=>by rw[z,h.e]at hr;contradiction
 have el:(32::(nm++61::V)).dropWhile y_.contains=nm++61::V:=by
  clear h k;rcases nm with _|⟨x,l⟩
  ·contradiction
  have:=wx (ww hn aj);refine(fV (by rfl)).trans (dJ λz=>?_);have:=(az.mp this).1;rw[z]at this;contradiction
 have e2:∃x l,nm=x::l/\tok x=true:=by
  clear h k el;rcases nm with _|⟨x,l⟩
  ·contradiction
  exact⟨x,l,rfl,ww hn aj⟩
 refine lr λGp gk=>?_;obtain⟨x,l,hx,tx⟩:=e2;obtain⟨t1,t2,t3⟩:=FW tx;obtain⟨y,u,rfl,sy⟩:=hV0;obtain⟨e3,e4⟩:=xF hn (xG (t:=y::u) (x:=61) rfl);refine gk ?_;refine qJ (h.keep (.new hr)) rfl λσ₁ h₁ lh=>⟨2,h₁.met rfl rfl (tK h₁ (bT rfl (h₁.met rfl rfl (take h₁ λσ₂ lL lA=>bF rfl ?_))))⟩;refine sj lL el (λy' u' e z=>?_) λlH nG lU=>nG.met rfl rfl (tK nG ?_)
 ·rw[hx]at e;rw[←(bw e).1]at z;rw[z]at t3;contradiction
 refine bT (by refine J (hx ..) ?_;rfl) (nG.met rfl rfl (rO nG (bT ?_ (uT nG (J (e3 ..) (Hd hn)) λmH p_ nW=>?_))))
 ·refine J (hx ..) ?_;refine(?_:(!((x:Int)==59))=true);refine J (beq_false_of_ne λz:(x:Int)=59=>by rw[bJ z]at t3;contradiction ..) ?_;rfl
 rw[e4]at p_;refine J (e3 ..) ?_;refine uU (ah (by rw[ac];exact aM _ _) nG.len) (λx hx=>nG.x (dI _ hx)) λmL oY=>?_;refine qJ (p_.keep oY) rfl λrh yL sq=>yL.met rfl rfl (take yL λHf M9 wy=>bF rfl (qJ M9 sy λM_ QB FX=>?_));have xx:=(lg.new (o:=.list []) hr).mono.trans (lh.trans (lA.trans (lU.trans (nW.trans (oY.mono.trans (sq.trans (wy.trans FX)))))));have hl:M_ r=some (.list []):=(lh.trans (lA.trans (lU.trans (nW.trans (oY.mono.trans (sq.trans (wy.trans FX))))))).at hd kT;refine mf hl (hV QB λEd Jq Ce=>lst (Ce.at hd hl) ⟨by decide,?_⟩);have ha:lg [r] Ed (Ed.put r (.list [.tup [.str (nm.map mj),.bytes w]])):=.put;have Xo:mK (Ed.put r (.list [.tup [.str (nm.map mj),.bytes w]])) c d data []:=⟨ha.at (λz=>by have:=Jq.i;rw[z,Ce.at hd hl]at this;rcases this with _|_) Jq.i,ha.at hd.symm Jq.e,Jq.m,Jq.b,Jq.s⟩;refine Ea Xo λNa Xp FY=>Xp.met rfl rfl (tK Xp (bF rfl (k Na r ?_ (FY.at hd kT))));refine lg.trans (σ₂:=Ed.put r _) (λb o hb e=>?_) FY
 by_cases z:b=r
 ·rw[z,hr]at e;contradiction
 exact ha.at z ((xx.trans Ce) b o hb e)
def AK(hm:data.length<=M)(hb:∀x∈data,x<256)(k:∀c d kP,U d=.none->lg [] U kP->mK kP c d data data->Q (.ref c) kP):CL (n+1) 167 [.bytes data] U Q E:=by
 refine Jg (ρ:=λa=>[some (.ref a),some (.bytes data),some (.int 0),some (.int (-1)),none,none]) rfl rfl rfl (λ_=>rfl) λa d σ₁ _ hd lh O=>?_;exact O.set rfl rfl λσ₂ oN lA=>oN.set rfl rfl λlH rz lU=>dT (by decide) ⟨hm,rz.set rfl rfl λmH Ee nW=>⟨rfl,k a d mH hd (.fresh hd (lh.mono.trans (lA.trans (lU.trans nW)))) ⟨Ee.i,J (fP ..) Ee.e,hm,hb,List.suffix_refl _⟩⟩⟩
noncomputable abbrev Xq(top sub:NL)(p:Nat):List (NL×PV):=[(ct "top",.str top),(ct "sub",.str sub),(ct "params",.ref p)]
def ob(U:kO)(a:Nat)(top sub:NL)(ps:List (NL×PV)):Prop:=∃d p,Obj U a 435 d (Xq top sub p)/\U p=some (.dict ps)
def ob.keep{top sub:NL}{ps:List (NL×PV)}(h:ob U a top sub ps)(x:lg [] U kP):ob kP a top sub ps:=by
 obtain⟨d,p,O,e⟩:=h;exact⟨d,p,O.keep x,x.get e⟩
def Hg{top sub:NL}{p:Nat}{ps:List (NL×PV)}(hp:U p=some (.dict ps))(k:∀a kP,lg [] U kP->ob kP a top sub ps->Q (.ref a) kP):CL (n+1) 435 [.str top,.str sub,.ref p] U Q E:=by
 refine Jg (ρ:=λa=>[some (.ref a),some (.str top),some (.str sub),some (.ref p)]) rfl rfl rfl (λ_=>rfl) λa d σ₁ _ hd lh O=>?_;exact O.set rfl rfl λσ₂ oN lA=>oN.set rfl rfl λlH rz lU=>rz.set rfl rfl λmH Ee nW=>
  have x:=lg.fresh hd (lh.mono.trans (lA.trans (lU.trans nW)))
  ⟨rfl,k a mH x ⟨d,p,Ee,x.get hp⟩⟩
def FZ(k:∀a kP,lg [] U kP->ob kP a (ct "text") (ct "plain") [(ct "charset",.str (ct "us-ascii"))]->Q (.ref a) kP):CL (n+2) 446 [] U Q E:=
 ent (ρ:=[_]) rfl rfl rfl ⟨rfl,by decide,by simp,λr hr=>Hg kT λa kP x h=>k a kP ((lg.new hr).trans x) h⟩
structure J2 where
 top:NL
 sub:NL
 par:Jp
noncomputable def J2.oct(c:J2):NL:=c.top++47::(c.sub++c.par.oct)
noncomputable def J2.ok(c:J2):Bool:=Ov c.top&&(Ov c.sub&&(c.par.ok&&(c.oct.all (λx=>decide (x<128))&&(match c.par.pr with
 |some p=> !p.1.contains 42
 |.none=>true))))
def QC{p:Jp}:∀x r,p.oct=x::r->tok x=false:=by
 rcases p with _|⟨nm,w⟩|⟨nm,w⟩
 ·exact He
 ·exact xG rfl
 exact xG rfl
def Nb{p:Jp}(h:mK U c d data p.oct)(ho:p.ok=true)(hb:∀x∈data,x<128)(k:∀kP l,lg [d] U kP->kP l=some (.list (pairs p.pr))->Q (.ref l) kP):CL (n+5) 493 [.ref c] U Q E:=by
 rcases p with _|⟨nm,w⟩|⟨nm,w⟩
 ·exact Ec h k
 ·refine lw ho λh1 h2=>?_;clear ho;obtain⟨e1,e2⟩:=xF h2 He;rw[aJ]at e1 e2;refine wS (V:=w) h h1 ?_ (λh k=>?_) k
  ·clear h k e1 e2;rcases w with _|⟨y,u⟩
   ·contradiction
   exact⟨y,u,rfl,wx (ww h2 aj)⟩
  refine Cb h (λz=>?_) hb (J (e1 ..) (Hd h2)) (J (e1 ..) (J (e2 ..) k));clear e1 e2 h k;rcases w with _|⟨y,u⟩
  ·contradiction
  have:=(FW (ww h2 aj)).2.2;rw[af z]at this;contradiction
 refine lw ho λh1 h2=>?_;exact wS (V:=34::(w++[34])) h h1 ⟨_,_,rfl,rfl⟩ (λh k=>Ca h h2 k) k
def Ef{c:J2}(hc:c.ok=true)(hm:c.oct.length<M)(k:∀a kP,lg [] U kP->ob kP a (c.top.map mj) (c.sub.map mj) (M8 c.par.pr)->Q (.ref a) kP):CL (n+6) 545 [.bytes c.oct] U Q E:=by
 refine lr λGp gk=>?_;refine lw hc λh1 hc=>?_;refine lw hc λh2 hc=>?_;refine lw hc λh3 hc=>?_;refine lw hc λh4 h5=>?_;have hb:∀x∈c.oct,x<128:=λx hx=>of_decide_eq_true (aC.mp h4 x hx);obtain⟨t1,t2⟩:=xF h1 (xG (x:=47) (t:=c.sub++c.par.oct) rfl);obtain⟨s1,s2⟩:=xF h2 (QC (p:=c.par));refine gk ?_;refine ent (ρ:=[_,_,_,_,_,_,_,_,_,_,_,_]) rfl rfl rfl (AK (bI hm) (λx hx=>bW (hb x hx) (by decide)) λr d σ₁ hd lh h₁=>Eb h₁ h1 λσ₂ lL lA=>uT lL (J (t1 ..) (Hd h1)) λlH nG lU=>?_);rw[t2]at nG;refine J (t1 ..) ?_;refine uU (ah (by rw[ac];exact aM _ _) lL.len) (λx hx=>lL.x (dI _ hx)) λmH nW=>qJ (nG.keep nW) rfl λmL sd oY=>sd.met rfl rfl (skip sd (by decide) (λr' rh e yL sq=>bF rfl ?_) λz=>by contradiction);rcases List.append_cancel_left (as:=[47]) e with _|_
 refine Eb yL h2 λHf M9 wy=>uT M9 (J (s1 ..) (Hd h2)) λM_ QB FX=>?_;rw[s2]at QB;refine J (s1 ..) ?_;refine uU (ah (by rw[ac];exact aM _ _) M9.len) (λx hx=>M9.x (dI _ hx)) λEd Ce=>Nb (QB.keep Ce) h3 hb λNa l FY hl=>Jo hl (λp hp=>?_) λRY r QD hr=>Hg hr λa kP x hk=>k a kP (.fresh hd ?_) hk
 ·rw[hp]at h5;have hlen:c.oct.length=c.top.length+1+c.sub.length+c.par.oct.length:=by
   unfold J2.oct;exact J (ac ..) (J (au ..) (J (ac ..) (nn 0x211b0aaa1b21aa0a20 rfl)))
  have main:∀(q w:NL),p=(q.map mj,w)->q.length+w.length<c.par.oct.length->(∀x∈w,x∈c.par.oct)->p.1.contains 42=false/\p.1.length<=M/\p.2.length<M/\∀x∈p.2,x<128:=by
   rintro q w rfl hl hw;refine⟨by simpa using h5,?_,?_,λx hx=>hb x ?_⟩
   ·refine(?_:(q.map mj).length<=M);exact J (ai ..) (J7 0x110010150465a1431b2aaa021013 rfl hm hlen hl)
   ·refine(?_:w.length<M);exact J7 0x110010161465a1431b2aaa021013 rfl hm hlen hl
   exact bv _ (ay _ (bv _ (hw x hx)))
  rcases e:c.par with _|⟨nm,w⟩|⟨nm,w⟩
  ·rw[e]at hp;contradiction
  ·rw[e]at hp main;refine main nm w (af hp).symm (by simp[Jp.oct];exact mZ 0x1b1b1b1a0aaa10a10 rfl) λx hx=>?_;simp[Jp.oct,hx]
  rw[e]at hp main;refine main nm w (af hp).symm (by simp[Jp.oct];exact mZ 0x1b1b1b1b1b1aaa0aaa10a10 rfl) λx hx=>?_;simp[Jp.oct,hx]
 exact lh.mono.trans (lA.trans (lU.trans (nW.mono.trans (oY.trans (sq.trans (wy.trans (FX.trans (Ce.mono.trans (FY.trans (QD.mono.trans x.mono))))))))))
def Jr{c:J2}(hc:c.ok=true)(hm:c.oct.length<M)(k:∀a kP,lg [] U kP->ob kP a (c.top.map mj) (c.sub.map mj) (M8 c.par.pr)->Q (.ref a) kP):CL (n+7) 552 [.bytes c.oct] U Q E:=
 ent (ρ:=[_,_,_,_]) rfl rfl rfl (bF rfl (Ef hc hm k))
def F0(k:∀a kP,lg [] U kP->ob kP a (ct "text") (ct "plain") [(ct "charset",.str (ct "us-ascii"))]->Q (.ref a) kP):CL (n+3) 552 [.none] U Q E:=
 ent (ρ:=[_,_,_,_]) rfl rfl rfl (bT rfl (FZ k))
noncomputable def Yp:NL:=ct "content-transfer-encoding"
noncomputable def oP(rs:List Row):Bool:=rs.all λr=>r.ok&&r.key !=Yp
def T8(h:oP rs=true):nE Yp rs=.none:=by
 dsimp only[nE];rw[List.find?_eq_none.mpr λr hr=>?_];have:=(az.mp (aC.mp h r hr)).2
 simpa using this
structure Eg(U:kO)(a:Nat)(rs:List Row):Prop where
 l:∃v,U a=some (.list v)/\v.length<=M/\si U rs v
 o:∀r∈rs,r.ok=true/\r.raw.length<M/\r.nm.length<=M
def Eg.keep(F:Eg U a rs)(x:lg [] U kP):Eg kP a rs:=by
 obtain⟨v,h1,h2,h3⟩:=F.l;exact⟨⟨v,x.get h1,h2,h3.keep x⟩,F.o⟩
def Eg.body(F:Eg U a rs)(hw:w.length<=M)(Z5:∀x∈w,x<1114112)(Z6:w.map mj=w)(k:∀kP,lg [] U kP->Q (nE w rs) kP):CL (n+4) 296 [.ref a,.str w] U Q E:=by
 refine lr λGp gk=>?_;obtain⟨v,h1,h2,h3⟩:=F.l;refine gk ?_;exact FT h1 h2 h3 F.o hw Z5 Z6 k
def T9:Yp.all (λx=>decide (x<1114112))=true:=rfl
def Eh(F:Eg U a rs)(h:oP rs=true)(k:∀kP,lg [] U kP->Q (.str (ct "7bit")) kP):CL (n+5) 586 [.ref a] U Q E:=by
 refine ent (ρ:=[_,_,_,_,_,_,_,_,_]) rfl rfl rfl (F.body (w:=Yp) (by decide) (λx hx=>of_decide_eq_true (aC.mp T9 x hx)) rfl λσ₁ lh=>?_);refine J (T8 h ..) ?_;exact bT rfl (k σ₁ lh)
noncomputable abbrev AL(b bo e fl kd kl:Nat)(nt:PV):List (NL×PV):=[(ct "begin",.int b),(ct "body",.int bo),(ct "end",.int e),(ct "fields",.ref fl),(ct "kind",.ref kd),(ct "encoding",.str (ct "7bit")),(ct "kids",.ref kl),(ct "inner",nt)]
def QE(F:Eg U a rs)(h:oP rs=true)(k:∀p d kl kP,U p=.none->U d=.none->U kl=.none->lg [] U kP->Obj kP p 577 d (AL b bo e a kd kl .none)->kP kl=some (.list [])->Q (.ref p) kP):CL (n+6) 577 [.int b,.int bo,.int e,.ref a,.ref kd] U Q E:=by
 refine Jg (ρ:=λp=>[some (.ref p),some (.int b),some (.int bo),some (.int e),some (.ref a),some (.ref kd),none]) rfl rfl rfl (λ_=>rfl) λp d σ₁ hp hd lh xf=>?_;refine xf.set rfl rfl λσ₂ oN lA=>oN.set rfl rfl λlH rz lU=>rz.set rfl rfl λmH Ee nW=>Ee.set rfl rfl λmL Cf oY=>Cf.set rfl rfl λrh Ei sq=>?_;have y:=lg.fresh hd (lh.mono.trans (lA.trans (lU.trans (nW.trans (oY.trans sq)))));refine Eh (F.keep y) h λHf wy=>(Ei.keep wy).set rfl rfl λM_ Xr FX r hr=>?_;have Ce:=lg.new (o:=.list []) hr;refine(Xr.keep Ce).set rfl rfl λNa Z7 FY=>Z7.set rfl rfl λRY Z8 QD=>⟨rfl,k p d r RY hp hd ((lg.fresh hd (y.mono.trans (wy.mono.trans FX))).none hr) (.fresh hd (y.mono.trans (wy.mono.trans (FX.trans (Ce.mono.trans (FY.trans QD)))))) Z8 ?_⟩;exact(FY.trans QD).at (λz=>by rw[z,Xr.e]at hr;contradiction) kT
noncomputable def pA(l:NL):NL×NL:=if l.getLast?=some 13 then(l.dropLast,[13,10])else(l,[10])
noncomputable def qK:NL->NL->List (NL×NL)
 |acc,[]=>if acc=[]then[]else[(acc,[])]
 |acc,x::r=>if x=10 then pA acc::qK [] r else qK (acc++[x]) r
noncomputable def sM(w:NL):List (NL×NL):=qK [] w
def QF:∀{l acc:NL},10∉l->qK acc (l++10::r)=pA (acc++l)::sM r:=by
 intro z9
 induction z9 with
 |nil=>
  intro acc _;refine J (aJ ..) ?_;refine(?_:(if 10=10 then _ else _)=_);refine J (if_pos rfl ..) ?_;rfl
 |cons x l ih=>
  intro acc h;refine(?_:(if x=10 then _ else _)=_);refine J (if_neg λz=>h (by rw[z];exact aj) ..) ?_;refine(ih λz=>h (ay _ z)).trans ?_;refine J (ao ..) ?_;rfl
def QG:∀{l acc:NL},10∉l->qK acc l=if acc++l=[]then[]else[(acc++l,[])]:=by
 intro z9
 induction z9 with
 |nil=>
  intro acc _;refine J (aJ ..) ?_;rfl
 |cons x l ih=>
  intro acc h;refine(?_:(if x=10 then _ else _)=_);refine J (if_neg λz=>h (by rw[z];exact aj) ..) (J (ih λz=>h (ay _ z) ..) (J (ao ..) ?_));rfl
def Nc(h:10∉l):sM (l++10::r)=pA l::sM r:=QF h
def T_(h:10∉l)(h0:l≠[]):sM l=[(l,[])]:=(QG h).trans (if_neg h0)
def QH(w:NL):10∉w\/∃l r,w=l++10::r/\10∉l:=by
 induction w with
 |nil=>exact .inl (by simp)
 |cons x w ih=>
  by_cases h:x=10
  ·exact .inr ⟨[],w,by refine J (h ..) ?_;rfl,by simp⟩
  rcases ih with ih|⟨l,r,e,hl⟩
  ·exact .inl λz=>by rcases aU.mp z with z|z;exact h z.symm;exact ih z
  exact .inr ⟨x::l,r,by refine J (e ..) ?_;rfl,λz=>by rcases aU.mp z with z|z;exact h z.symm;exact hl z⟩
noncomputable def tw:Nat->List (NL×NL)->List PV
 |_,[]=>[]
 |a,p::L=>.tup [.int a,.int (a+p.1.length:Nat),.int (a+p.1.length+p.2.length:Nat)]::tw (a+p.1.length+p.2.length) L
def Ej:(pA l).1.length+(pA l).2.length=l.length+1:=by
 dsimp only[pA]
 split
 ·rename_i h;have:l≠[]:=λz=>by rw[z]at h;contradiction
  have:=cS.mpr this;refine(?_:l.dropLast.length+2=_);exact J (List.length_dropLast ..) (mZ 0x1000101b1a2b0a211b0a21 rfl (aA (sR 0x1001b000b11 rfl this)))
 rfl
def QI:∀{w acc:NL},(qK acc w).length<=acc.length+w.length:=by
 intro z9
 induction z9 with
 |nil=>
  intro acc;dsimp only[qK]
  split
  ·exact aO _
  rename_i h;exact cS.mpr h
 |cons x w ih=>
  intro acc;dsimp only[qK]
  split
  ·have:=ih (acc:=[]);rw[bA]at this;exact J (au ..) (J (au ..) (nn 0x101b1a2a1b0a010ba001 rfl this))
  have:=ih (acc:=acc++[x]);rw[ac,bi]at this;exact J (au ..) (nn 0x101b2a1a0021b1aa001 rfl this)
def Xu(h:min x y=z)(k:K (.int z)):YQ .min (.int x) (.int y) K:=by
 subst h;exact k
inductive LsI(data w t:NL)(a e r:Nat)(U:kO)(y:NL)(p:Nat)(kP:kO):Prop
 |mk (h1:data.drop p=y++t) (h2:p+y.length=e) (x:lg [r] U kP) (v1:List PV) (h3:tw a (sM w)=v1++tw p (sM y)) (h4:v1.length<=p) (h5:kP r=some (.list v1)):LsI data w t a e r U y p kP
def F4{w t:NL}(hm:data.length<M)(h:data.drop a=w++t)(he:e=a+w.length)(G8:e<=data.length)
  (k:∀kP l,U l=.none->lg [] U kP->kP l=some (.list (tw a (sM w)))->Q (.ref l) kP):CL (n+1) 206 [.bytes data,.int a,.int e] U Q E:=by
 have sL:=bI hm;refine ent (ρ:=[_,_,_,_,_,_,_,_,_,_,_]) rfl rfl rfl (dF (bD.mpr (av _)) ⟨sL,Xu (fH (aN.mpr G8)) λr hr=>?_⟩);refine wY (α:=NL×Nat×Option PV×Option PV) (λy=>y.1.length) (λy=>[some (.bytes data),some (.int a),some (.int e),some (.int e),some (.ref r),some (.int y.2.1),y.2.2.1,y.2.2.2,none,none,none])
  (λy kP=>LsI data w t a e r U y.1 y.2.1 kP) ?_ (w,a,none,none) ⟨h,he.symm,.put,[],rfl,aO _,kT⟩
 rintro⟨y,p,o,o2⟩ kP K ⟨h1,h2,x',v1,h3,h4,h5⟩ hK;dsimp only at h1 h2 h3 h4 hK ⊢;rcases y with _|⟨y0,y⟩
 ·refine dF (bD.mpr (aN.mpr (by rw[bA]at h2;exact mZ 0x10001010b0a21 rfl h2))) (k kP r hr (.fresh hr x') (h5.trans ?_));refine J (h3 ..) ?_;refine(?_:some (MO.list v1)=some (MO.list (v1++[])));rw[aJ]
 generalize hy:y0::y=w' at h1 h2 h3 hK;have hw':w'≠[]:=λz=>by rw[z]at hy;contradiction
 have Z9:=cS.mpr hw';have hv:v1.length<M:=xm 0x10101010131254a24300201014 rfl hm G8 h4 h2;refine dT (aH.mpr (nn 0x101020110b1210a22 rfl h2 Z9)) (tL (vM sL ?_));rcases QH w' with q|⟨l,u,q,hl⟩
 ·rw[MS (l:=w') (by rw[List.drop_take,h1,show e-p=w'.length by exact oV 0x1010001000010132203a203a20210a23 rfl h2 s2 (aA (nn 0x10200210a21 rfl h2)),eD]) q];refine dT (by decide) (mf h5 (lst h5 ⟨hv,k _ r hr (.fresh hr (x'.trans .put)) (kT.trans ?_)⟩));refine J (h3 ..) (J (T_ q hw' ..) ?_);refine(?_:some (MO.list (v1++[PV.tup [.int p,.int e,.int e]]))=some (MO.list (v1++[PV.tup [.int p,.int (p+w'.length:Nat),.int (p+w'.length+0:Nat)]])));rw[Nat.add_zero,h2]
 have hq:data.drop p=l++10::(u++t):=by refine J (h1 ..) (J (q ..) (J (ao ..) ?_));rfl
 have hlen:w'.length=l.length+1+u.length:=J (q ..) (J (ac ..) (J (au ..) (mZ 0x11b0aa1b1a0a20 rfl)));refine J (y6 hq hl (by exact tD 0x1100230a141b3aa12210a22 rfl h2 hlen) ..) ?_;have hd:data.drop (p+l.length+1)=u++t:=by refine rr (cU ..) (J (mE hq ..) ?_);rfl
 have huy:u.length<w'.length:=nn 0x10002121b1aa021 rfl hlen;rw[q,Nc hl]at h3;have cl:=Ej (l:=l);have fin:∀x:Int,x=((p+(pA l).1.length:Nat):Int)->K [some (PV.bytes data),some (PV.int a),some (PV.int e),some (PV.int e),some (PV.ref r),some (PV.int (p+l.length+1:Nat)),some (PV.int (p+l.length:Nat)),some (PV.int x),none,none,none] (kP.put r (.list (v1++[.tup [.int p,.int x,.int (p+l.length+1:Nat)]]))):=by
  rintro x rfl;refine hK (u,p+l.length+1,_,_) _ huy ⟨hd,?_,x'.trans .put,_,?_,?_,kT⟩
  ·refine(?_:p+l.length+1+u.length=e);exact tD 0x1001001100241b30aaa241b3aa12210a22 rfl h2 hlen
  ·refine J (h3 ..) (J (ao ..) ?_);refine(?_:_=v1++(PV.tup [.int p,.int (p+(pA l).1.length:Nat),.int (p+l.length+1:Nat)]::tw (p+l.length+1) (sM u)));refine J (show p+l.length+1=p+(pA l).1.length+(pA l).2.length by exact oV 0x10100103aa1b23aa21b2a10a21 rfl cl) ?_;rfl
  refine J (ac ..) ?_;refine(?_:v1.length+1<=p+l.length+1);exact id (nn 0x101b21aa1b0a01001 rfl h4)
 refine dF (bD.mpr (av _)) ?_;clear h3 q hd cl;rcases cJ l with rfl|⟨l',z,rfl⟩
 ·exact dF (Int.lt_irrefl _) (bF rfl (mf h5 (lst h5 ⟨hv,fin ((p+([]:NL).length:Nat):Int) rfl⟩)))
 rw[cK]at hq fin hl hlen ⊢;have e2:(((p+(l'++[z]).length:Nat):Int)-1).toNat=p+l'.length:=by refine J (ac ..) (J (bi ..) ?_);lia
 have hz:data[(((p+(l'++[z]).length:Nat):Int)-1).toNat]? =some z:=by
  refine J (e2 ..) ?_;rw[ao]at hq;exact y7 hq
 have e0:(0:Int)<=((p+(l'++[z]).length:Nat):Int)-1:=by refine J (ac ..) (J (bi ..) ?_);exact Int.sub_nonneg_of_le (aN.mpr (bB (aO _)))
 refine dT (aH.mpr (J (ac ..) (J (bi ..) (mZ 0x1b1a0a010 rfl)))) (subB sL e0 hz ?_);have gl:(l'++[z]).getLast?=some z:=by refine J (gY ..) ?_;rfl
 refine bC (λq=>mf h5 (lst h5 ⟨hv,fin _ ?_⟩)) λq=>mf h5 (lst h5 ⟨hv,fin _ ?_⟩)
 ·have q:=bJ (eq_of_beq q:(z:Int)=13);clear hl hq hlen fin e2 hz e0;subst q;unfold pA;refine J (if_pos gl ..) (J (dK ..) (J (ac ..) (J (bi ..) ?_)));refine(?_:((p+(l'.length+1):Nat):Int)-1=((p+l'.length:Nat):Int));lia
 unfold pA;exact J (if_neg λy=>(by rw[gl]at y;have:=af y;clear hl hq hlen fin e2 hz e0 gl y;subst this;contradiction) ..) rfl
def Ek{α:Type}{l:List α}{i:Nat}:cut l i l.length=l.drop i:=by
 dsimp only[cut];exact bS (J (a9 ..) (aF _))
def Rh{l:NL}{j:Nat}(hm:l.length<=M)(k:Q (.bytes (l.take j)) U):mS U (.bytes l) .none (.int j) Q:=by
 unfold mS;refine⟨hm,?_⟩;refine J (show v7 l.length (j:Int)=min j l.length from pg) ?_;have:=sh (l:=l) (i:=0) (j:=j);rw[j8]at this;exact J (this ..) k
def JV{l:NL}{i:Nat}(hm:l.length<=M)(k:Q (.bytes (l.drop i)) U):mS U (.bytes l) (.int i) .none Q:=by
 unfold mS;refine⟨hm,?_⟩;refine J (show v7 l.length (i:Int)=min i l.length from pg) ?_;have e:=(sh (l:=l) (i:=i) (j:=l.length)).trans Ek;rw[kc]at e;exact J (e ..) k
noncomputable def way(m c:NL):NL:=if c.take (m.length+2)=45::45::m then(if rstrip [32,9] (c.drop (m.length+2))=[]then ct "next" else if rstrip [32,9] (c.drop (m.length+2))=[45,45]then ct "last" else ct "")else ct ""
def Js{α:Type}[BEq α][LawfulBEq α]{x y:α}{A B:Prop}(h:x=y)(k:A):mx (x==y) A B:=bT (J (h ..) (beq_self_eq_true y)) k
def F5{α:Type}[BEq α][LawfulBEq α]{x y:α}{A B:Prop}(h:x≠y)(k:B):mx (x==y) A B:=bF (beq_false_of_ne h) k
def Cg{l m:NL}(hm:l.length<=M)(hb:m.length+2<=M)(k:Q (.str (way m l)) U):CL (n+1) 593 [.bytes l,.bytes m] U Q E:=by
 refine ent (ρ:=[_,_,_,_,_,_]) rfl rfl rfl ⟨by refine(?_:2+m.length<=M);exact mZ 0x10102ba012b0a01 rfl hb,⟨hb,Rh (j:=m.length+2) hm ?_⟩⟩;dsimp only[way]at k
 by_cases h:l.take (m.length+2)=45::45::m
 ·rw[if_pos h]at k;refine bN (Js h ⟨hb,JV (i:=m.length+2) hm (D3 (Je (J (a9 ..) (nn 0x10101200201002 rfl hm (cy _ _))) (by decide) ?_))⟩)
  by_cases h2:rstrip [32,9] (l.drop (m.length+2))=[]
  ·rw[if_pos h2]at k;exact Js h2 k
  rw[if_neg h2]at k;refine F5 h2 ?_
  by_cases h3:rstrip [32,9] (l.drop (m.length+2))=[45,45]
  ·rw[if_pos h3]at k;exact Js h3 k
  rw[if_neg h3]at k;exact F5 h3 k
 rw[if_neg h]at k;exact bN (F5 h k)
noncomputable def rn(L:List (NL×NL)):NL:=(L.map λp=>p.1++p.2).flatten
def Jt{l:NL}:(pA l).1++(pA l).2=l++[10]:=by
 dsimp only[pA]
 split
 ·rename_i h;rcases cJ l with rfl|⟨l',z,rfl⟩
  ·contradiction
  rw[cK]at h ⊢;rw[gY]at h;obtain rfl:=af h;refine(?_:(l'++[13]).dropLast++_=_);refine J (dK ..) (J (ao ..) ?_);rfl
 rfl
def zc:∀{w acc:NL},rn (qK acc w)=acc++w:=by
 intro z9
 induction z9 with
 |nil=>
  intro acc;dsimp only[qK]
  split
  ·rename_i h;refine J (h ..) ?_;rfl
  refine(?_:rn [(acc,[])]=_);dsimp only[rn];simp
 |cons x w ih=>
  intro acc;dsimp only[qK]
  split
  ·rename_i h;refine(?_:(pA acc).1++(pA acc).2++rn (qK [] w)=_);refine J (ih ..) (J (Jt ..) (J (h ..) (J (ao ..) ?_)));rfl
  refine J (ih ..) (J (ao ..) ?_);rfl
def Ju:∀{L:List (NL×NL)}{a:Nat},(tw a L).length=L.length:=by
 intro z9
 induction z9 with
 |nil=>
  intro _;exact rfl
 |cons p L ih=>
  intro a;refine(?_:(tw _ L).length+1=_);refine J (ih ..) ?_;rfl
noncomputable def bgI:Option Nat->Int
 |some b=>b
 |.none=> -1
noncomputable def UY(o:Option Nat)(f:Nat->Int):List PV:=match o with
 |some b=>[.tup [.int b,.int (f b)]]
 |.none=>[]
noncomputable def AM(m:NL)(e:Nat):Nat->Option Nat->Nat->List (NL×NL)->List PV
 |_,bg,_,[]=>UY bg λ_=>e
 |a,bg,bf,p::L=>if way m p.1=ct "" then AM m e (a+p.1.length+p.2.length) bg (a+p.1.length) L
  else(UY bg λb=>max (b:Int) bf)++(if way m p.1=ct "last" then[]else AM m e (a+p.1.length+p.2.length) (some (a+p.1.length+p.2.length)) (a+p.1.length) L)
inductive PsI(data m w t:NL)(a e r:Nat)(σ₁:kO)(kX:List PV)(ρ:lK)(kP:kO):Prop
 |mk (L:List (NL×NL)) (p:Nat) (bg:Option Nat) (bf:Nat) (v1:List PV) (x7 x8 x9 Z_:Option PV) (h1:kX=tw p L) (h2:data.drop p=rn L++t) (h3:kP r=some (.list v1)) (h4:v1++AM m e p bg bf L=AM m e a .none a (sM w)) (h5:v1.length+L.length<=(sM w).length) (x:lg [r] σ₁ kP)
  (hr:ρ=[some (.bytes data),some (.int a),some (.int e),some (.bytes m),some (.ref r),some (.int (bgI bg)),some (.int (bf:Nat)),x7,x8,x9,Z_,none,none,none]):PsI data m w t a e r σ₁ kX ρ kP
theorem F6{m w t:NL}{e:Nat}(hm:data.length<M)(hb:m.length+2<=M)(h:data.drop a=w++t)(he:e=a+w.length)(G8:e<=data.length)
  (k:∀kP l,U l=.none->lg [] U kP->kP l=some (.list (AM m e a .none a (sM w)))->Q (.ref l) kP):CL (n+2) 600 [.bytes data,.int a,.int e,.bytes m] U Q E:=by
 have sL:=bI hm;have hw:(sM w).length<=data.length:=by
  have:=QI (w:=w) (acc:=[]);rw[bA]at this;refine(?_:(qK [] w).length<=_);exact tD 0x100101034020ba4030021a023 rfl he G8 this
 refine ent (ρ:=[_,_,_,_,_,_,_,_,_,_,_,_,_,_]) rfl rfl rfl λr hr=>F4 hm h he G8 λσ₁ l hl lh RZ=>rP RZ (J (Ju ..) (nn 0x10101200201012 rfl hm hw)) ?_;have hlr:l≠r:=λz=>by rw[z,kT]at hl;contradiction
 refine MY (PsI data m w t a e r σ₁) ?_ (λkX ρ kP h=>by obtain⟨_,_,_,_,_,_,_,_,_,_,_,_,_,_,x,_⟩:=h;exact x.at hlr RZ) ?_ _ _ σ₁
  ⟨sM w,a,.none,a,[],_,_,_,_,rfl,h.trans (congrArg (· ++t) (zc (acc:=[])).symm),lh.get kT,rfl,J (bA ..) (J (bV ..) (aF _)),.rfl,rfl⟩
 ·rintro y kX ρ kP K ⟨L,p,bg,bf,v1,x7,x8,x9,Z_,h1,h2,h3,h4,h5,x',rfl⟩ hK hR;rcases L with _|⟨q,L⟩
  ·contradiction
  rcases h1 with _|_;have Z':data.drop p=q.1++(q.2++(rn L++t)):=by
   refine J (h2 ..) ?_;refine(?_:(q.1++q.2++rn L)++t=_);simp
  have hq:q.1.length<=M:=by
   have:=congrArg aZ Z';rw[a9,ac]at this;exact tD 0x11001013002043a221013 rfl hm this (cy _ _)
  rw[au]at h5;refine mX sL ?_;refine J (pL Z' rfl ..) ?_;refine Cg hq hb ?_;have go:∀Yq v2 σ₂,σ₂ r=some (.list v2)->lg [r] σ₁ σ₂->v2.length<=v1.length+1->v2++AM m e (p+q.1.length+q.2.length) Yq (p+q.1.length) L=AM m e a .none a (sM w)->
    K .next [some (.bytes data),some (.int a),some (.int e),some (.bytes m),some (.ref r),some (.int (bgI Yq)),some (.int (p+q.1.length:Nat)),some (.int p),some (.int (p+q.1.length:Nat)),some (.int (p+q.1.length+q.2.length:Nat)),some (.str (way m q.1)),none,none,none] σ₂:=by
   intro Yq v2 σ₂ g1 g2 g3 g4;refine hK _ _ ⟨L,_,Yq,_,v2,_,_,_,_,rfl,?_,g1,g4,oV 0x1010213a01b0a3021b1a0a02 rfl h5 g3,g2,rfl⟩;refine J (cE ..) (rr (ac ..) ?_);exact mE (Z'.trans (ao _ _ _).symm)
  have e1:AM m e p bg bf (q::L)=if way m q.1=ct "" then AM m e (p+q.1.length+q.2.length) bg (p+q.1.length) L
   else(UY bg λb=>max (b:Int) bf)++(if way m q.1=ct "last" then[]else AM m e (p+q.1.length+q.2.length) (some (p+q.1.length+q.2.length)) (p+q.1.length) L):=rfl
  rw[e1]at h4
  by_cases Yr:way m q.1=ct ""
  ·rw[if_pos Yr]at h4;exact bN (Js Yr (go bg v1 kP h3 x' (gp _) h4))
  rw[if_neg Yr]at h4;refine bN (F5 Yr ?_)
  by_cases R0:way m q.1=ct "last"
  ·rw[if_pos R0,aJ]at h4;rcases bg with _|b
   ·exact dF (by decide) (Js R0 (hR _ _ _ (k kP r hr (.fresh hr (lg.put.trans (lh.mono.trans x'))) (h3.trans (by refine rr (h4 ..) ?_;refine(?_:_=some (MO.list (v1++[])));exact J (aJ ..) rfl)))))
   exact dT (av b) (mf h3 (lst h3 ⟨tD 0x10101013121b4a3a00201013 rfl hm hw h5,Js R0 (hR _ _ _ (k _ r hr (.fresh hr (lg.put.trans (lh.mono.trans (x'.trans .put)))) (kT.trans (by refine rr (h4 ..) ?_;rfl))))⟩))
  rw[if_neg R0,←ao]at h4;rcases bg with _|b
  ·exact dF (by decide) (F5 R0 (go (some _) v1 kP h3 x' (gp _) (by refine rr (h4 ..) ?_;refine(?_:v1++_=(v1++[])++_);exact J (aJ ..) rfl)))
  exact dT (av b) (mf h3 (lst h3 ⟨tD 0x10101013121b4a3a00201013 rfl hm hw h5,F5 R0 (go (some _) _ _ kT (x'.trans .put) (J (ac ..) (aF _)) h4)⟩))
 rintro ρ kP ⟨L,p,bg,bf,v1,x7,x8,x9,Z_,h1,h2,h3,h4,h5,x',rfl⟩
 induction L with
 |cons q L=>contradiction
 |nil=>
  have xx:=lg.fresh hr (lg.put.trans (lh.mono.trans x'))
  induction bg with
  |none=>
   refine dF (by decide) (k kP r hr xx (h3.trans ?_));refine rr (h4 ..) ?_;refine(?_:_=some (MO.list (v1++[])));exact J (aJ ..) rfl
  |some b=>
   rw[bA]at h5;exact dT (av b) (mf h3 (lst h3 ⟨oV 0x10101013120b3a00201013 rfl hm hw h5,k _ r hr (.fresh hr (lg.put.trans (lh.mono.trans (x'.trans .put)))) (kT.trans (by refine rr (h4 ..) ?_;rfl))⟩))
def Nf{K:Callee->Prop}(h:U a=some (.dict es))(k:K (.dg a)):methP lF U (.ref a) (ct "get") K:=by
 unfold methP;dsimp only;exact J (h ..) (⟨rfl,k⟩)
def dct{K:List (NL×PV)->Prop}(h:U a=some (.dict es))(k:K es):oC U a K:=by
 unfold oC;exact J (h ..) k
noncomputable def Ch(m:NL):Bool:=m.all (λx=>decide (x<128))&&(decide (m.length<=100)&&!m.isEmpty)
def Jv{bo e kd kl fl:Nat}{top sub m:NL}{w t:NL}(O:Obj U p 577 d (AL b bo e fl kd kl nt))(hk:ob U kd top sub [(ct "boundary",.str m)])
  (ho:Ch m=true) (hm:data.length<M) (h:data.drop bo=w++t) (he:e=bo+w.length) (G8:e<=data.length) (h0:AM m e bo .none bo (sM w)≠[])
  (k:∀kP l,lg [] U kP->kP l=some (.list (AM m e bo .none bo (sM w)))->Q (.ref l) kP):CL (n+3) 605 [.bytes data,.ref p] U Q E:=by
 refine lr λGp gk=>?_;obtain⟨dk,dd,OK,hd⟩:=hk;refine lw ho λm1 m2=>?_;refine lw m2 λm3 m4=>?_;have m1:∀x∈m,x<128:=λx hx=>of_decide_eq_true (aC.mp m1 x hx);have m3:m.length<=100:=of_decide_eq_true m3;have mM:m.length<=M:=ah m3 (by decide);refine gk ?_;have m4:m≠[]:=λz=>by rw[z]at m4;contradiction
 have hi:(ff m.length==ff m.length)=true:=beq_self_eq_true _;refine ent (ρ:=[_,_,_,_,_,_,_,_]) rfl rfl rfl (O.get rfl trivial rfl (OK.get rfl trivial rfl (Nf hd (dct hd ?_))));refine vL (l:=m) mM (g:=λx=>.int x) (λx hx K k=>dT (aH.mpr (bW (m1 x hx) (by decide))) (bT rfl k)) λr hr=>lst kT ?_;refine J (show vh (m.map λx=>.int (x:Nat))=some (m.map id)from nQ λx hx=>if_pos ⟨av _,aH.mpr (bW (m1 x hx) (by decide))⟩) (J (eu ..) ?_);have x1:=lg.new (o:=.list (m.map λx=>.int (x:Nat))) hr;refine⟨J (ai ..) mM,λr2 xE=>bN (F5 m4 ⟨mM,⟨mM,bT hi ?_⟩⟩)⟩;have x2:=x1.trans (lg.new (o:=.list []) xE);refine(O.keep x2).get rfl trivial rfl ((O.keep x2).get rfl trivial rfl (F6 hm (ah (ib m3 2) (by decide)) h he G8 λlH l hl lU R2 r4 R3=>?_));have x4:=lg.new (o:=.list []) R3;refine lst (x4.get R2) (lst kT ⟨.inr rfl,?_⟩);refine J (show (AM m e bo .none bo (sM w)).isEmpty=false from by rw[List.isEmpty_eq_false_iff];exact h0) ?_;exact bT rfl (k _ l (x2.trans (lU.trans x4)) (x4.get R2))
def AN{bo e kd kl fl:Nat}{top sub:NL}{ps:List (NL×PV)}(O:Obj U p 577 d (AL b bo e fl kd kl nt))(hk:ob U kd top sub ps)(k:Q (.bool (top==ct "message"&&sub==ct "rfc822")) U):CL (n+2) 612 [.ref p] U Q E:=by
 refine lr λGp gk=>?_;obtain⟨dk,dd,OK,hd⟩:=hk;refine gk ?_;refine ent (ρ:=[_,_]) rfl rfl rfl (O.get rfl trivial rfl (OK.met rfl rfl (ent (ρ:=[_]) rfl rfl rfl (OK.get rfl trivial rfl (bC (λz=>?_) λz=>?_)))))
 ·rw[show (top==ct "message")=true from z,d8]at k;refine OK.get rfl trivial rfl (bC (λy=>O.get rfl trivial rfl (oO (r:=true) rfl ?_)) λy=>?_)
  ·rw[show (sub==ct "rfc822")=true from y]at k;exact k
  rw[show (sub==ct "rfc822")=false from y]at k;refine(?_:Q (.bool (sub==ct "rfc822")) U);exact J (show (sub==ct "rfc822")=false from y) k
 rw[show (top==ct "message")=false from z,fW]at k;refine(?_:mx (top==ct "message") _ _);refine bF z ?_;refine(?_:Q (.bool (top==ct "message")) U);exact J (show (top==ct "message")=false from z) k
def Ng{top sub:NL}{ps:List (NL×PV)}(hk:ob U kd top sub ps)(k:Q (.bool (top==ct "multipart")) U):CL (n+1) 418 [.ref kd] U Q E:=by
 refine lr λGp gk=>?_;obtain⟨dk,dd,OK,hd⟩:=hk;refine gk ?_;exact ent (ρ:=[_]) rfl rfl rfl (OK.get rfl trivial rfl k)
noncomputable def Ci:NL:=ct "content-type"
set_option genCtorIdx true in
inductive Nd where
 |nil
 |cons (kR:List Row) (body:NL) (kW kS kY:Nd)
noncomputable def lk(kR:List Row):NL:=lJ kR++mv
noncomputable def lC(m:NL):Nd->NL
 |.nil=>[]
 |.cons kR body _ _ kY=>45::45::(m++(mv++(lk kR++(body++(mv++lC m kY)))))
noncomputable def oI(m:NL):Nat->Nd->List PV
 |_,.nil=>[]
 |a,.cons kR body _ _ kY=>.tup [.int (a+(m.length+4):Nat),.int (a+(m.length+4)+(lk kR).length+body.length:Nat)]::oI m (a+(m.length+4)+(lk kR).length+body.length+2) kY
inductive NodeOk(kR:List Row)(body:NL)(kW kS:Nd):Prop where
 |Nh (h:nE Ci kR=.none) (hk:kW=.nil) (hi:kS=.nil)
 |leaf (c:J2) (h:nE Ci kR=.bytes c.oct) (ok:c.ok=true) (n1:(c.top.map mj==ct "multipart")=false) (n2:(c.top.map mj==ct "message"&&c.sub.map mj==ct "rfc822")=false) (hk:kW=.nil) (hi:kS=.nil)
 |zd (c:J2) (m lead u:NL) (h:nE Ci kR=.bytes c.oct) (ok:c.ok=true) (n1:(c.top.map mj==ct "multipart")=true) (n2:(c.sub.map mj==ct "digest")=false) (n3:M8 c.par.pr=[(ct "boundary",.str m)]) (om:Ch m=true) (hk:kW≠.nil) (hi:kS=.nil)
   (hb:body=lead++(lC m kW++u)) (hp:∀a,AM m (a+body.length) a .none a (sM body)=oI m (a+lead.length) kW)
 |around (c:J2) (r:List Row) (b:NL) (k i:Nd) (h:nE Ci kR=.bytes c.oct) (ok:c.ok=true) (n1:(c.top.map mj==ct "multipart")=false) (n2:(c.top.map mj==ct "message"&&c.sub.map mj==ct "rfc822")=true) (hk:kW=.nil) (hi:kS=.cons r b k i .nil) (hb:body=lk r++b)
noncomputable def Nd.Ok:Nd->Prop
 |.nil=>True
 |.cons kR body kW kS kY=>oP kR=true/\NodeOk kR body kW kS/\kW.Ok/\kS.Ok/\kY.Ok
noncomputable def Nd.dep:Nd->Nat
 |.nil=>0
 |.cons _ _ kW kS kY=>max (1+max kW.dep kS.dep) kY.dep
noncomputable def vN:PV->List PV
 |.none=>[]
 |v=>[v]
inductive PX1(τ:kO)(data:NL)(kR:List Row)(body:NL)(P1 P2 P3:List PV->Prop)(l:List PV):Prop where
 |mk (p d:Nat) (l':List PV) (b fl kd kl:Nat) (kv:List PV) (nt:PV) (t:NL) (e:l=.ref p::l') (O:Obj τ p 577 d (AL b (b+(lk kR).length) (b+(lk kR).length+body.length) fl kd kl nt)) (nr:NR nt)
   (hd:data.drop b=lk kR++(body++t)) (hk:τ kl=some (.list kv)) (k1:P1 kv) (k2:P2 (vN nt)) (k3:P3 l')
noncomputable def qQ(τ:kO)(data:NL):Nd->List PV->Prop
 |.nil,l=>l=[]
 |.cons kR body kW kS kY,l=>PX1 τ data kR body (qQ τ data kW) (qQ τ data kS) (qQ τ data kY) l
theorem qQ.keep(x:lg [] τ UZ):∀{F:Nd}{l:List PV},qQ τ data F l->qQ UZ data F l
 |.nil,l,h=>h
 |.cons kR body kW kS kY,l,h=>by
  rcases h with⟨p,d,l',b,fl,kd,kl,kv,nt,t,e,O,nr,hd,hk,k1,k2,k3⟩
  ·exact⟨p,d,l',b,fl,kd,kl,kv,nt,t,e,O.keep x,nr,hd,x.get hk,qQ.keep x k1,qQ.keep x k2,qQ.keep x k3⟩
noncomputable def fr(U kP:kO):kO:=λa=>match U a with
 |.none=>kP a
 |some _=>.none
def Cj(h:U a=.none)(e:kP a=some o):fr U kP a=some o:=by
 unfold fr;exact J (h ..) e
def R4(h:fr U kP a=some o):U a=.none/\kP a=some o:=by
 unfold fr at h;rcases e:U a with _|_
 ·rw[e]at h;exact⟨rfl,h⟩
 rw[e]at h;contradiction
def Ck(x:lg [] U σ₁)(y:∀a o,σ₁ a=.none->σ₂ a=some o->lH a=some o):lg [] (fr σ₁ σ₂) (fr U lH):=λa o _ e=>by
 obtain⟨h1,h2⟩:=R4 e;exact Cj (x.none h1) (y a o h1 h2)
def RP(data:NL)(kR:List Row)(body:NL)(kW kS:Nd):Prop:=∀{U:kO}{Q:QV}{E:nI}{b e dp n:Nat}{t:NL},data.drop b=lk kR++(body++t)->e=b+(lk kR).length+body.length->e<=data.length->dp+(1+max kW.dep kS.dep)<=20->1+max kW.dep kS.dep<=n->
 (∀kP p,lg [] U kP->qQ (fr U kP) data (.cons kR body kW kS .nil) [.ref p]->Q (.ref p) kP)->CL (n+9) 617 [.bytes data,.int b,.int e,.int dp,.bool false] U Q E
noncomputable def Xv(data:NL):Nd->Prop
 |.nil=>True
 |.cons kR body kW kS kY=>RP data kR body kW kS/\Xv data kY
def qQ.app(h:qQ τ data (.cons kR body kW kS .nil) [.ref p])(g:qQ τ data kY l):qQ τ data (.cons kR body kW kS kY) (.ref p::l):=by
 rcases h with⟨p',d,l',b,fl,kd,kl,kv,nt,t,e,O,nr,hd,hk,k1,k2,k3⟩
 ·obtain⟨e1,e2⟩:=bw e;have e1:p=p':=by clear d fl kd e O;rcases e1 with _|_;rfl
  clear e;subst e1;exact⟨p,d,l,b,fl,kd,kl,kv,nt,t,rfl,O,nr,hd,hk,k1,k2,g⟩
theorem Jw{unch:kO->Prop}{lQ:PV->kO->(QL)->Prop}{m:NL}{dp:Nat}{σ₀:kO}(hu:∀kP,lg [] σ₀ kP->unch kP)
  (ht:∀(b e:Nat) (U:kO) (K:QL),CL (n+9) 617 [.bytes data,.int b,.int e,.int dp,.bool false] U (λv U=>K [v] U) Rj->lQ (.tup [.int (b:Nat),.int (e:Nat)]) U K):
  ∀(F:Nd) (a:Nat) (acc:List PV) (U:kO) (K:QL) (t:NL),Xv data F->lg [] σ₀ U->data.drop a=lC m F++t->dp+F.dep<=20->F.dep<=n->
   (∀kP l,lg [] U kP->qQ (fr σ₀ kP) data F l->K (acc++l) kP)->pT unch lQ (oI m a F) acc U K:=by
 intro z9
 induction z9 with
 |nil=>
  intro a acc U K t _ x _ _ _ k;have:=k U [] .rfl rfl;rw[aJ]at this;exact this
 |cons kR body kW kS kY ih1 ih2 ih=>
  intro a acc U K t q96 x hd h1 h2 k;obtain⟨r1,r2⟩:=q96;have yX:data.drop (a+(m.length+4))=lk kR++(body++(13::10::(lC m kY++t))):=by
   have:data.drop a=(45::45::(m++mv))++(lk kR++(body++(13::10::(lC m kY++t)))):=by
    refine J (hd ..) ?_;refine(?_:45::45::(m++(mv++(lk kR++(body++(mv++lC m kY)))))++t=_);generalize lC m kY=kt;simp[mv]
   have:=mE this;rw[au,au,ac]at this;exact this
  have hd2:data.drop (a+(m.length+4)+(lk kR).length+body.length+2)=lC m kY++t:=by
   refine rr (cU ..) (J (mE (mE yX) ..) ?_);rfl
  have hlen:a+(m.length+4)+(lk kR).length+body.length<=data.length:=by
   have:=congrArg aZ yX;rw[a9,ac,ac,au]at this;exact xm 0x100105214aa0540a21b3a2a1a022 rfl this (aA (bI (eI (oV 0x10000b11b3a2a1a021 rfl this))))
  have d1:1+max kW.dep kS.dep<=Nd.dep (.cons kR body kW kS kY):=di _ _;have d2:kY.dep<=Nd.dep (.cons kR body kW kS kY):=cG _ _;refine(?_:lQ _ U (Y1 unch (pT unch lQ _) acc K));refine ht _ _ U _ (r1 yX rfl hlen (by exact ah (bK d1 _) h1) (by exact ah d1 h2) λσ₁ p lh P=>⟨hu _ (x.trans lh),?_⟩);refine ih _ _ σ₁ K t r2 (x.trans lh) hd2 (by exact ah (bK d2 _) h1) (by exact ah d2 h2) λσ₂ l lA P2=>?_;refine J (ao ..) ?_;exact k σ₂ _ (lh.trans lA) ((P.keep (Ck x λa o _ e=>lA.get e)).app P2)
def Jx{K:Bool->kO->Prop}(h7:ρ.get 7=some v)(h4:ρ.get 4=some (.bool false))(hv:v=.none\/∃x,v=.bytes x)(k:K false U):rU (CL n) lF (.and (.cmp .is (.Z 7) (.lit .none)) (.val (.Z 4))) ρ U K E:=by
 refine(?_:lv (ρ.get 7) _);refine J (h7 ..) ?_;clear h7;rcases hv with rfl|⟨x,rfl⟩
 ·refine bT rfl ?_;refine(?_:lv (ρ.get 4) _);exact J (h4 ..) k
 exact bF rfl k
def ob.Jy{top sub:NL}{ps:List (NL×PV)}{K:Callee->Prop}(h:ob U a top sub ps)(k:K (.fn 418 (.ref a))):methP lF U (.ref a) (ct "is_multi") K:=by
 obtain⟨d,p,O,_⟩:=h;exact O.met rfl rfl k
def ob.sub{top sub:NL}{ps:List (NL×PV)}(h:ob U a top sub ps)(k:K (.str sub)):xX lF U (.ref a) (ct "sub") K:=by
 obtain⟨d,p,O,_⟩:=h;exact O.get rfl trivial rfl k
inductive KdC(top sub:NL)(ps:List (NL×PV))(body:NL)(kW kS:Nd):Prop
 |leaf (c1:(top==ct "multipart")=false) (c2:(top==ct "message"&&sub==ct "rfc822")=false) (hk:kW=.nil) (hi:kS=.nil)
 |around (c1:(top==ct "multipart")=false) (c2:(top==ct "message"&&sub==ct "rfc822")=true) (hk:kW=.nil) (r:List Row) (b:NL) (k i:Nd) (hi:kS=.cons r b k i .nil) (hb:body=lk r++b)
 |zd (c1:(top==ct "multipart")=true) (c2:(sub==ct "digest")=false) (hi:kS=.nil) (hk:kW≠.nil) (m lead u:NL) (e:ps=[(ct "boundary",.str m)]) (om:Ch m=true) (hb:body=lead++(lC m kW++u)) (hp:∀a,AM m (a+body.length) a .none a (sM body)=oI m (a+lead.length) kW)
inductive Kd(kR:List Row)(body:NL)(kW kS:Nd):Prop where
 |mk (top sub:NL) (ps:List (NL×PV)) (hv:nE Ci kR=.none\/∃x,nE Ci kR=.bytes x)
   (rd:∀{U:kO}{Q:QV}{E:nI}{n:Nat},(∀a kP,lg [] U kP->ob kP a top sub ps->Q (.ref a) kP)->CL (n+7) 552 [nE Ci kR] U Q E)
   (h:KdC top sub ps body kW kS)
def Jz{x cs:NL}:(rstrip cs (lstrip cs x)).length<=x.length:=by
 dsimp only[rstrip,lstrip];refine J (cz ..) ?_;refine ah (kg _).length_le ?_;refine J (cz ..) ?_;exact(kg _).length_le
def Ni(h:nE w kR=.bytes x):x.length<=(lJ kR).length:=by
 dsimp only[nE]at h
 induction kR with
 |nil=>contradiction
 |cons r rs ih=>
  refine J (mu ..) (J (ac ..) ?_);rcases z:r.key==w with _|_
  ·rw[gJ (by rw[z];exact a7)]at h;exact ah (ih h) (dj _ _)
  rw[jU (p:=λr:Row=>r.key==w) z]at h
  (clear ih;injection h with h;subst h)
  refine ah (ah Jz ?_) (aM _ _);have h1:=MW r.v r.cs;have h2:=r.tN;have h3:=B9 r.cs;dsimp only[jn]at h1;simp only[bh,ac,h3]at h1 ⊢;exact xm 0x10010042a032a52d42aa232b21b1aaaa022 rfl h2 h1
def NodeOk.kd(h:NodeOk kR body kW kS)(hm:(lJ kR).length<M):Kd kR body kW kS:=by
 have rdc:∀(c:J2),nE Ci kR=.bytes c.oct->c.ok=true->∀{U:kO}{Q:QV}{E:nI}{n:Nat},(∀a kP,lg [] U kP->ob kP a (c.top.map mj) (c.sub.map mj) (M8 c.par.pr)->Q (.ref a) kP)->CL (n+7) 552 [nE Ci kR] U Q E:=λc e ok {_ _ _ _} k=>by
  exact J (e ..) (Jr ok (a8 (Ni e) hm) k)
 rcases h with⟨h,hk,hi⟩|⟨c,h,ok,n1,n2,hk,hi⟩|⟨c,m,lead,u,h,ok,n1,n2,n3,om,hk,hi,hb,hp⟩|⟨c,r,b,k,i,h,ok,n1,n2,hk,hi,hb⟩
 ·exact⟨_,_,_,.inl h,λ{_ _ _ n} k=>J (h ..) (F0 (n:=n+4) k),.leaf rfl rfl hk hi⟩
 ·exact⟨_,_,_,.inr ⟨_,h⟩,rdc c h ok,.leaf n1 n2 hk hi⟩
 ·exact⟨_,_,_,.inr ⟨_,h⟩,rdc c h ok,.zd n1 n2 hi hk m lead u n3 om hb hp⟩
 exact⟨_,_,_,.inr ⟨_,h⟩,rdc c h ok,.around n1 n2 hk r b k i hi hb⟩
def Nj(h:kW≠.nil):oI m a kW≠[]:=by
 rcases kW with _|_
 ·exact absurd rfl h
 exact λz=>nomatch z
theorem El:∀(kW:Nd) (a:Nat),(oI m a kW).length<=(lC m kW).length
 |.nil,_=>aF _
 |.cons kR body k i kY,a=>by
  refine(?_:(oI m _ kY).length+1<=(45::45::(m++(mv++(lk kR++(body++(mv++lC m kY)))))).length);have:=El kY (m:=m) (a+(m.length+4)+(lk kR).length+body.length+2);simp only[au,ac];exact xm 0x101b1b13a5a4a3a2aaa1b0a01001 rfl this
theorem qQ.len:∀{F:Nd}{l:List PV}{a:Nat},qQ τ data F l->l.length=(oI m a F).length
 |.nil,l,a,h=>by subst h;rfl
 |.cons kR body kW kS kY,l,a,h=>by
  rcases h with⟨p,d,l',b,fl,kd,kl,kv,nt,t,e,O,nr,hd,hk,k1,k2,k3⟩
  ·refine J (e ..) (J (au ..) (J (qQ.len (m:=m) (a:=a+(m.length+4)+(lk kR).length+body.length+2) k3 ..) ?_));rfl
def rR(h:U a=some (.list l))(hm:l.length<=M)(k:pT (λkP=>kP a=some (.list l)) lQ l [] U (Gz Q)):lT U .val (.ref a) (v9 lQ Q U):=by
 unfold lT;exact lst h ⟨hm,⟨hm,k⟩⟩
def Hh{rs:List Row}{t:NL}(h:data.drop a=lJ rs++t)(hm:data.length<M)(ho:oP rs=true):∀r∈rs,r.ok=true/\r.raw.length<M/\r.nm.length<=M:=λr hr=>by
 refine⟨(az.mp (aC.mp ho r hr)).1,?_⟩;have h1:r.oct.length<=(lJ rs).length:=by
  dsimp only[lJ];exact(List.sublist_flatten_of_mem (kL hr)).length_le
 have h2:=congrArg aZ h;rw[a9,ac]at h2;have h3:=r.tN;have h4:=B9 r.cs;have h5:r.raw.length=r.v.length+(sQ r.cs).length:=by dsimp only[Row.raw];rw[ac,h4]
 exact⟨U8 0x10110100101019104087a9282b71b6aaaa2253a423201016 rfl hm h1 h2 h3 h5 (cy ..),YI 0x101101001016004082b71b6aaaa2253a423201015 rfl hm h1 h2 h3 (cy ..)⟩
def QJ{kW kS:Nd}(hr:oP kR=true)(hn:NodeOk kR body kW kS)(hk:Xv data kW)(hi:Xv data kS)(hm:data.length<M)(hb:∀x∈data,x<256):RP data kR body kW kS:=by
 intro U Q E b e dp n t hd he G8 h1 h2 k;obtain⟨n,rfl⟩:∃n',n=n'+1:=⟨n-1,mZ 0x10010001b1a0201b1a21b1a002 rfl s2 (aA (mZ 0x1011b0101ba01 rfl h2))⟩;have sL:=bI hm;have U0:kR.all Row.ok=true:=aC.mpr λr h=>(az.mp (aC.mp hr r h)).1;have hlen:(lk kR).length=(lJ kR).length+2:=ac;have yX:data.drop b=lJ kR++13::10::(body++t):=by refine J (hd ..) ?_;dsimp only[lk];refine J (ao ..) ?_;rfl
 have hd2:data.drop (b+(lk kR).length)=body++t:=mE hd;have Po:(lJ kR).length<M:=by
  have:=congrArg aZ yX;rw[a9,ac]at this;exact J7 0x110011001612b6a42020543aa221014 rfl hm he G8 hlen
 obtain⟨top,sub,ps,hv,rd,hc⟩:=hn.kd Po;have hbo:((b+(lJ kR).length+2:Nat):Int)=((b+(lk kR).length:Nat):Int):=congrArg ff (nn 0x1010002a2b12aa22b1a021 rfl hlen);refine ent (ρ:=[_,_,_,_,_,_,_,_,_,_,_,_,_,_,_,_,_,_,_,_]) rfl rfl rfl (D7 sL hb yX U0 (tD 0x1010002b41aa02b4a22321aa022 rfl he hlen) λσ₁ l v lh hl hv1 F=>?_);have F:Eg σ₁ l kR:=⟨⟨v,hl,hv1,F⟩,Hh yX hm hr⟩;refine J (hbo ..) ?_;refine F.body (w:=Ci) (by decide) (λx hx=>of_decide_eq_true (aC.mp (show Ci.all (λx=>decide (x<1114112))=true from rfl) x hx)) rfl λσ₂ lA=>?_;refine(?_:rU _ _ _ _ _ _ _);refine Jx rfl rfl hv (bF rfl (rd λkd lH lU RR=>QE ((F.keep lA).keep lU) hr λp d kl mH hp hd4 Xw nW O Ti=>dT (by lia:(dp:Int)<20) ((RR.keep nW).Jy (Ng (RR.keep nW) ?_))));have R5:=lh.trans (lA.trans (lU.trans nW));have fin:∀{mL:kO}{Ua:Nat}{kv:List PV}{nt:PV},(∀a o,U a=.none->mH a=some o->a≠d->mL a=some o)->Obj mL p 577 d (AL b (b+(lk kR).length) e l kd Ua nt)->NR nt->U Ua=.none->mL Ua=some (.list kv)->qQ (fr U mL) data kW kv->qQ (fr U mL) data kS (vN nt)->qQ (fr U mL) data (.cons kR body kW kS .nil) [.ref p]:=by
  intro mL Ua kv nt _ O nr f1 aaa k1 k2;have Tt:=lh.none (lA.none (lU.none hp));have Zj:=lh.none (lA.none (lU.none hd4));exact⟨p,d,[],b,l,kd,Ua,kv,nt,t,rfl,⟨Cj Tt O.i,Cj Zj (rr (he ..) O.e)⟩,nr,hd,Cj f1 aaa,k1,k2,rfl⟩
 clear hn rd;rcases hc with⟨c1,c2,rfl,rfl⟩|⟨c1,c2,rfl,r,bb,kk,ii,rfl,UX⟩|⟨c1,c2,rfl,c3,m,lead,u,rfl,om,UX,hps⟩
 ·refine J (c1 ..) ?_;refine bF rfl (dT (by lia:(dp:Int)<20) (AN O (RR.keep nW) ?_));refine J (c2 ..) ?_;exact bF rfl (k mH p R5 (fin (λ_ _ _ e _=>e) O trivial (lh.none (lA.none (lU.none Xw))) Ti rfl rfl))
 ·refine J (c1 ..) ?_;refine bF rfl (dT (by lia:(dp:Int)<20) (AN O (RR.keep nW) ?_));refine J (c2 ..) ?_;have hdi:data.drop (b+(lk kR).length)=lk r++(bb++t):=J (hd2 ..) (J (UX ..) (J (ao ..) rfl));have hdp:Nd.dep (.cons r bb kk ii .nil)=1+max kk.dep ii.dep:=eH _;rw[hdp]at h1 h2;rw[UX,ac]at he;refine bT rfl (hi.1 (dp:=dp+1) (n:=n) hdi (tD 0x1000104321aaa0243a21aa021 rfl he) G8 (nn 0x1010142fb21ba1b0aa0121ba0142fb11ba0a02 rfl h1 (cG _ _)) (nn 0x1010121ba0021ba01b1a01ba02 rfl h2 (cG _ _)) λmL q oY P=>(O.keep oY).set rfl rfl λrh Ei sq=>k rh p ?_ ?_)
  ·exact .fresh (lh.none (lA.none (lU.none hd4))) (R5.mono.trans (oY.mono.trans sq))
  refine fin (λa o f e ne=>sq.at ne (oY.get e)) Ei trivial (lh.none (lA.none (lU.none Xw))) (sq.at (λz=>?_) (oY.get Ti)) rfl (P.keep ?_)
  ·rw[z,O.e]at Ti;cases Ti
  exact Ck R5 λa o f e=>sq.at (λz=>by rw[z,O.e]at f;contradiction) e
 refine J (c1 ..) ?_;refine bT rfl ((RR.keep nW).sub ?_);have hdk:data.drop (b+(lk kR).length)=lead++(lC m kW++(u++t)):=by refine J (hd2 ..) (J (UX ..) ?_);simp only[ao]
 have Ub:=hps (b+(lk kR).length);rw[←he]at Ub;have hz:Nd.dep .nil=0:=rfl;rw[hz]at h1 h2;have J1:(oI m (b+(lk kR).length+lead.length) kW).length<=M:=by
  have h3:=El (m:=m) kW (b+(lk kR).length+lead.length);have h4:=congrArg aZ hdk;simp only[a9,ac]at h4;exact YH 0x1011001012004076a3a5a423201014 rfl hm h3 h4 (cy _ _)
 refine Jv O (RR.keep nW) om hm hd2 he G8 (J (Ub ..) (Nj c3)) λmL l5 oY hl5=>?_;rw[Ub]at hl5;refine rR hl5 J1 (Jw (λkP x=>x.get hl5) (λb' e' U K h=>bT rfl (c2.symm▸h:CL (n+9) 617 [.bytes data,.int b',.int e',.int (dp+1:Nat),.bool (sub==ct "digest")] U (λv U=>K [v] U) Rj)) kW _ [] mL _ _ hk .rfl (mE hdk) (nn 0x1010142fb21b0aa0120142fb11ba0a02 rfl h1 (di _ _)) (nn 0x10101200201b1a01ba02 rfl h2 (di _ _)) λrh kv sq P=>⟨?_,λr hr=>?_⟩)
 ·exact J (bc ..) (J (qQ.len (m:=m) (a:=b+(lk kR).length+lead.length) P ..) J1)
 have x46:=oY.trans (sq.trans (lg.new (o:=.list kv) hr));refine(O.keep x46).set rfl rfl λHf aab wy=>k Hf p (.fresh (lh.none (lA.none (lU.none hd4))) (R5.mono.trans (x46.mono.trans wy))) ?_;refine fin (λa o f e ne=>wy.at ne (x46.get e)) aab trivial (R5.none (oY.none (sq.none hr))) (wy.at (λz=>?_) kT) (P.keep ?_) rfl
 ·rw[z,sq.get (oY.get O.e)]at hr;contradiction
 exact Ck (R5.trans oY) λa o f e=>wy.at (λz=>by rw[z,oY.get O.e]at f;contradiction) ((lg.new hr).get e)
theorem Ys(hm:data.length<M)(hb:∀x∈data,x<256):∀{F:Nd},F.Ok->Xv data F
 |.nil,_=>trivial
 |.cons kR body kW kS kY,h=>⟨QJ h.1 h.2.1 (Ys hm hb h.2.2.1) (Ys hm hb h.2.2.2.1) hm hb,Ys hm hb h.2.2.2.2⟩
def Cm(ho:Nd.Ok (.cons kR body kW kS .nil))(hd:data=lk kR++body)(hm:data.length<M)(hb:∀x∈data,x<256)(h2:1+max kW.dep kS.dep<=20)(hn:1+max kW.dep kS.dep<=n)
  (k:∀kP p,lg [] U kP->qQ (fr U kP) data (.cons kR body kW kS .nil) [.ref p]->Q (.ref p) kP):CL (n+10) 624 [.bytes data] U Q E:=
 have r:RP data kR body kW kS:=(Ys hm hb ho).1
 ent (ρ:=[_,_,_]) rfl rfl rfl ⟨bI hm,r (b:=0) (e:=data.length) (dp:=0) (t:=[]) (J (aJ ..) hd) (J (hd ..) (J (ac ..) (J (bV ..) rfl))) (aF _) (sR 0x10142fb01ba0ba0142fb01ba01 rfl h2) hn λkP p x P=>k kP p x P⟩
noncomputable def qL:Nd->Bool->Nd
 |.nil,_=>.nil
 |.cons kR body kW kS _,w=>match kW with
  |.cons .. =>kW
  |.nil=>match w with
   |true=>.cons kR body .nil kS .nil
   |false=>qL kS true
noncomputable def qM:Nd->Nat->Nd
 |.nil,_=>.nil
 |.cons kR body kW kS _,0=>.cons kR body kW kS .nil
 |.cons _ _ _ _ kY,j+1=>qM kY j
noncomputable def u7:Nd->Bool->NL->Nd
 |F,_,[]=>F
 |F,w,0::_=>.nil
 |F,w,(j+1)::ns=>match qM (qL F w) j with
  |.nil=>.nil
  |.cons kR body kW kS kY=>u7 (.cons kR body kW kS kY) false ns
def qQ.nth:∀{F:Nd}{l:List PV}{j:Nat},qQ U data F l->(l[j]? =none/\qM F j=.nil)\/∃q kR body kW kS,l[j]? =some (.ref q)/\qM F j=.cons kR body kW kS .nil/\qQ U data (qM F j) [.ref q]:=by
 intro z9
 induction z9 with
 |nil=>
  intro l j h;subst h;exact .inl ⟨rfl,rfl⟩
 |cons kR body kW kS kY ih1 ih2 ih=>
  intro l j h;rcases h with⟨p,d,l',b,fl,kd,kl,kv,nt,t,e,O,nr,hd,hk,k1,k2,k3⟩
  ·subst e;rcases j with _|j
   ·exact .inr ⟨p,kR,body,kW,kS,rfl,rfl,p,d,[],b,fl,kd,kl,kv,nt,t,rfl,O,nr,hd,hk,k1,k2,rfl⟩
   have:=ih (l:=l') (j:=j) k3;exact this
def tO(h:qQ U data .nil (vN v)):v=.none:=by
 change vN v=[]at h;rcases v with _|_<;>first|rfl|contradiction
def qN(h:qQ U data (.cons kR body kW kS kY) (vN v)):∃q,v=.ref q/\vN v=[.ref q]:=by
 rcases h with⟨p,d,l',b,fl,kd,kl,kv,nt,t,e,O,nr,hd,hk,k1,k2,k3⟩
 ·clear k3;rcases v with _|_<;>rcases e with _|_
  exact⟨p,rfl,rfl⟩
def ne_nil{l:List PV}{A B:Prop}(ha:U a=some (.list l))(hb:U b=some (.list []))(h1:l≠[]->A)(h2:l=[]->B):OG U (.ref a) (.ref b) λr=>mx (!r) A B:=by
 refine lst ha (lst hb ⟨.inr rfl,?_⟩);clear ha;rcases l with _|⟨x,l⟩
 ·exact bF rfl (h2 rfl)
 exact bT rfl (h1 λz=>nomatch z)
noncomputable def Nd.num:Nd->Nat
 |.nil=>0
 |.cons _ _ kW kS kY=>kW.num+kS.num+kY.num+1
theorem qQ.le:∀{F:Nd}{l:List PV},qQ U data F l->l.length<=F.num
 |.nil,l,h=>by subst h;exact aF _
 |.cons kR body kW kS kY,l,h=>by
  rcases h with⟨p,d,l',b,fl,kd,kl,kv,nt,t,e,O,nr,hd,hk,k1,k2,k3⟩
  ·subst e;exact bB (ah (qQ.le k3) (dj _ _))
def nk{F:Nd}{p:Nat}(w:Bool)(P:qQ U data F [.ref p])(rec:∀{q:Nat}{kR:List Row}{body:NL}{kW kS kY:Nd},Nd.num (.cons kR body kW kS kY)<=M->w=false->qL F w=qL (.cons kR body kW kS kY) true->qQ U data (.cons kR body kW kS kY) [.ref q]->∀σ₁,lg [] U σ₁->CL n 631 [.ref q,.bool true] σ₁ Q E)
  (k:∀kP l v,lg [] U kP->kP l=some (.list v)->v.length<=M->qQ kP data (qL F w) v->Q (.ref l) kP) (hm:F.num<=M):CL (n+1) 631 [.ref p,.bool w] U Q E:=by
 rcases F with _|⟨kR,body,kW,kS,kY⟩
 ·contradiction
 rcases P with⟨p,d,l',b,fl,kd,kl,kv,nt,t,e,O,nr,hd,hk,k1,k2,k3⟩
 ·clear k3;rcases e with _|_
  refine ent (ρ:=[_,_,_]) rfl rfl rfl (O.get rfl trivial rfl λr hr=>?_);have x1:=lg.new (o:=.list []) hr
  induction kW with
  |cons r1 b1 kk1 i1 aaq=>
   refine ne_nil (x1.get hk) kT (λ_=>(O.keep x1).get rfl trivial rfl (k _ kl kv x1 (x1.get hk) (ah k1.le (ah (ah (aM _ _) (aM _ _)) (dy hm))) (k1.keep x1))) λz=>?_
   induction k1 with
   |mk p d l' b fl kd kl kv nt t e O nr hd hk k1 k2 k3=>rw[z]at e;contradiction
  |nil=>
   have k1':kv=[]:=k1;clear k1;subst k1';refine ne_nil (x1.get hk) kT (λz=>absurd rfl z) λ_=>?_
   induction w with
   |true=>
    refine bT rfl λr2 xE=>?_;have x2:=x1.trans (lg.new (o:=.list [.ref p]) xE);exact k _ r2 [.ref p] x2 kT (ae rfl) (qQ.keep x2 ⟨p,d,[],b,fl,kd,kl,[],nt,t,rfl,O,nr,hd,hk,rfl,k2,rfl⟩)
   |false=>
    refine bF rfl ((O.keep x1).get rfl nr rfl ?_);clear nr;rcases kS with _|⟨r2,b2,JA,i2,Xx⟩
    ·have:=tO k2;clear O k2;subst this;refine bT rfl λr2 xE=>?_;have x2:=x1.trans (lg.new (o:=.list []) xE);exact k _ r2 [] x2 kT (aO _) rfl
    obtain⟨q,rfl,e2⟩:=qN k2;rw[e2]at k2;exact bF rfl ((O.keep x1).get rfl trivial rfl (rec (ah (ah (dj _ _) (aM _ _)) (dy hm)) rfl rfl k2 _ x1))
def z_(P:qQ U data F [.ref p])(hm:F.num<=M)(k:∀kP l v,lg [] U kP->kP l=some (.list v)->v.length<=M->qQ kP data (qL F w) v->Q (.ref l) kP):CL (n+2) 631 [.ref p,.bool w] U Q E:=
 nk w P (λhm hw e P1 σ₁ x1=>nk true (P1.keep x1) (λ_ h=>nomatch h) (λkP l v x hl hv P=>k kP l v (x1.trans x) hl hv (e▸P)) hm) k hm
theorem Hi:∀{F:Nd}{j:Nat},(qM F j).num<=F.num
 |.nil,_=>aF _
 |.cons kR body kW kS kY,0=>by refine(?_:kW.num+kS.num+0+1<=kW.num+kS.num+kY.num+1);exact nn 0x1b210aaa1b0b10aaa00 rfl
 |.cons kR body kW kS kY,j+1=>ah (Hi (F:=kY)) (by refine(?_:_<=kW.num+kS.num+kY.num+1);exact nn 0x1b021aaa000 rfl)
theorem Em:∀{F:Nd}{w:Bool},(qL F w).num<=F.num
 |.nil,_=>aF _
 |.cons kR body (.cons r1 b1 k1 i1 t1) kS kY,w=>by refine(?_:Nd.num (.cons r1 b1 k1 i1 t1)<=Nd.num (.cons r1 b1 k1 i1 t1)+kS.num+kY.num+1);exact nn 0x1b210aaa000 rfl
 |.cons kR body .nil kS kY,true=>by refine(?_:0+kS.num+0+1<=0+kS.num+kY.num+1);exact mZ 0x1b100baaa1b0b00baaa00 rfl
 |.cons kR body .nil kS kY,false=>ah (Em (F:=kS)) (by refine(?_:_<=0+kS.num+kY.num+1);exact mZ 0x1b100baaa000 rfl)
def mw{l:List PV}{i:Int}{j:Nat}(h:U a=some (.list l))(hm:l.length<=M)(hi:i=j)(e:l[j]? =some v)(k:K v):rF U (.ref a) (.int i) K:=by
 subst hi;unfold rF;refine lst h ⟨hm,?_⟩;have oX:=(aG.mp e).1;rw[show oD (j:Int) l.length=some j from by
  unfold oD eM;rw[if_neg (bD.mpr (av j))];exact if_pos (az.mpr ⟨decide_eq_true (av j),decide_eq_true (aH.mpr oX)⟩)]
 refine(?_:lv l[j]? K);rw[e];exact k
def Hj{K:List PV->(kO->Prop)->Prop}(hm:l.length<=M)(k:K l λ_=>True):v8 U (.tup l) N K:=by
 unfold v8 lT;exact⟨hm,k⟩
def Xy(U:kO)(data:NL)(G:Nd)(v:PV):Prop:=match G with
 |.nil=>v=.none
 |.cons .. =>∃q,v=.ref q/\qQ U data G [.ref q]
inductive PaI(data:NL)(F:Nd)(ns:NL)(p:Nat)(U:kO)(ms:NL)(ρ:lK)(kP:kO):Prop
 |mk (G:Nd) (q:Nat) (w:Bool) (x4 x5:Option PV) (h0:G≠.nil) (e:u7 G w ms=u7 F true ns) (P:qQ kP data G [.ref q]) (hm:G.num<=M) (x:lg [] U kP) (hr:ρ=[some (.ref p),some (.tup (ns.map λx=>.int (x:Nat))),some (.ref q),some (.bool w),x4,x5,none,none]):PaI data F ns p U ms ρ kP
def QK{F:Nd}{p:Nat}{ns:NL}(P:qQ U data F [.ref p])(hF:F≠.nil)(hm:F.num<=M)(hl:ns.length<=M)(k:∀kP v,lg [] U kP->Xy kP data (u7 F true ns) v->Q v kP):CL (n+3) 638 [.ref p,.tup (ns.map λx=>.int (x:Nat))] U Q E:=by
 refine ent (ρ:=[_,_,_,_,_,_,_,_]) rfl rfl rfl (Hj (J (ai ..) hl) ?_);refine RV (α:=Nat) (PaI data F ns p U) ?_ (λ_ _ _ _=>trivial) ?_ ns _ U ⟨F,p,true,_,_,hF,rfl,P,hm,.rfl,rfl⟩
 ·rintro m ms ρ σ₁ K ⟨G,q,w,x4,x5,hG,e,P1,R6,x1,rfl⟩ hK hR;refine z_ P1 R6 λσ₂ l v x2 J1 hv P2=>?_;have out:u7 F true ns=.nil->Q .none σ₂:=λz=>k σ₂ _ (x1.trans x2) (by refine J (z ..) ?_;rfl);rcases m with _|j
  ·exact dF (by decide) (bT rfl (hR _ _ _ (out e.symm)))
  refine dT (aN.mpr (bB (aO j))) (lst J1 ⟨hv,?_⟩);rcases P2.nth (j:=j)with⟨e1,e2⟩|⟨q',kR,body,kW,kS,e1,e2,P3⟩
  ·refine bN (dF (λz=>?_) (hR _ _ _ (out ?_)))
   ·have:=aR.mp e1;have:=aN.mp z;lia
   refine rr (e ..) ?_
   show (match qM (qL G w) j with
    |.nil=>Nd.nil
    |.cons kR body kW kS kY=>u7 (.cons kR body kW kS kY) false ms)=.nil
   exact J (e2 ..) rfl
  have hj:=(aG.mp e1).1;refine bN (dT (aN.mpr hj) (mw J1 hv (j:=j) (by lia) e1 (hK _ _ ⟨qM (qL G w) j,q',false,_,_,?_,?_,P3,ah Hi (ah Em R6),x1.trans x2,rfl⟩)))
  ·exact J (e2 ..) (λz=>nomatch z)
  refine rr (e ..) ?_
  show _=(match qM (qL G w) j with
   |.nil=>Nd.nil
   |.cons kR body kW kS kY=>u7 (.cons kR body kW kS kY) false ms)
  exact J (e2 ..) rfl
 rintro ρ σ₁ ⟨G,q,w,x4,x5,hG,e,P1,R6,x1,rfl⟩;refine k σ₁ _ x1 ?_;refine rr (e ..) ?_
 show Xy σ₁ data (u7 G w []) _
 clear e R6;rcases G with _|⟨kR,body,kW,kS,kY⟩
 ·exact absurd rfl hG
 exact⟨q,rfl,P1⟩
theorem xH{α:Type}{unch:kO->Prop}{lQ:PV->kO->(QL)->Prop}{f:α->PV}{g:α->List PV}(hu:∀kP,lg [] σ₀ kP->unch kP):∀(l:List α) (acc:List PV) (U:kO) (K:QL),
  (∀x∈l,∀U K,lg [] σ₀ U->(∀kP,lg [] U kP->K (g x) kP)->lQ (f x) U K)->lg [] σ₀ U->(∀kP,lg [] U kP->K (acc++l.flatMap g) kP)->pT unch lQ (l.map f) acc U K:=by
 intro z9
 induction z9 with
 |nil=>
  intro acc U K _ x k;have:=k U .rfl;rw[List.flatMap_nil,aJ]at this;exact this
 |cons y l ih=>
  intro acc U K h x k;exact h y aj U _ x λσ₁ lh=>⟨hu _ (x.trans lh),ih _ σ₁ K (λz hz=>h z (ay _ hz)) (x.trans lh) λσ₂ lA=>by
   exact J (ao ..) (k σ₂ (lh.trans lA))⟩
def ze{α β:Type}{g:α->β}:∀{l:List α},l.flatMap (λx=>[g x])=l.map g:=by
 intro z9
 induction z9 with
 |nil=>
  exact rfl
 |cons x l ih=>
  refine J (List.flatMap_cons ..) (J (ih ..) ?_);rfl
def zf{α:Type}{lQ:PV->kO->(QL)->Prop}{f g:α->PV}{l:List α}(hm:l.length<=M)(ht:∀x∈l,∀σ₁ K,lg [] U σ₁->(∀kP,lg [] σ₁ kP->K [g x] kP)->lQ (f x) σ₁ K)(k:∀kP r,lg [] U kP->kP r=some (.list (l.map g))->Q (.ref r) kP):lT U .val (.tup (l.map f)) (v9 lQ Q U):=by
 unfold lT;refine⟨J (ai ..) hm,J (ai ..) hm,xH (σ₀:=U) (λ_ _=>trivial) l [] U _ ht .rfl λσ₁ lh=>?_⟩;refine J (bc ..) (J (ze ..) ?_);exact⟨J (ai ..) hm,λr hr=>k _ r (lh.trans (.new hr)) kT⟩
def En:∀{l:List NL},pc (.str x) (l.map .str)=some (l.contains x):=by
 intro z9
 induction z9 with
 |nil=>
  exact rfl
 |cons y l ih=>
  refine(?_:(some (y==x)).bind (λp=>(pc (.str x) (l.map .str)).bind λq=>some (p||q))=_);refine J (ih ..) ?_;refine(?_:some (_||_)=_);refine J (bO ..) ?_
  congr 2
  refine ri (a0 ..) ?_;simp;exact eq_comm
def HI{K:Bool->Prop}(h:U a=some (.list l))(e:pc x l=some r)(k:K r):Al U x (.ref a) K:=by
 unfold Al CP;dsimp only;refine J (h ..) ?_;dsimp only;exact J (e ..) k
noncomputable def qP(ns:List NL)(inot:Bool)(rs:List Row):List Row:=rs.filter λr=>(ns.map (·.map mj)).contains r.key !=inot
theorem Nk(hu:∀kP,lg [] σ₀ kP->unch kP)
  (ht:∀(f d p q:Nat) (r:Row) (U:kO) (K:QL),lg [] σ₀ U->Obj U f 236 d [(ct "name",.bytes r.nm),(ct "raw",.bytes r.raw)]->r.ok=true->r.nm.length<=M->data.drop p=r.oct++(data.drop q)->q=p+r.oct.length->
   (∀kP,lg [] U kP->K (if((ns.map (·.map mj)).contains r.key !=inot)=true then[.bytes r.oct]else[]) kP)->lQ (.tup [.ref f,.int (p:Nat),.int (q:Nat)]) U K):
  ∀(rs:List Row) (a:Nat) (v acc:List PV) (U:kO) (K:QL) (t:NL),oa U a rs v->lg [] σ₀ U->data.drop a=lJ rs++t->(∀r∈rs,r.ok=true/\r.nm.length<=M)->
   (∀kP,lg [] U kP->K (acc++(qP ns inot rs).map λr=>.bytes r.oct) kP)->pT unch lQ v acc U K:=by
 intro z9
 induction z9 with
 |nil=>
  intro a v acc U K t R x hd ho k;subst R;have:=k U .rfl;rw[show qP ns inot []=[]from rfl,gI,aJ]at this;exact this
 |cons r rs ih=>
  intro a v acc U K t q97 x hd ho k;obtain⟨f,d,v',e,O,R⟩:=q97;subst e;have yX:data.drop a=r.oct++(lJ rs++t):=J (hd ..) (J (mu ..) (J (ao ..) rfl));have hd2:=mE yX;obtain⟨o1,o2⟩:=ho r aj;refine(?_:lQ _ U (Y1 unch (pT unch lQ v') acc K));refine ht f d a _ r U _ x O o1 o2 (J (hd2 ..) yX) rfl λσ₁ lh=>⟨hu _ (x.trans lh),?_⟩;refine ih _ v' _ σ₁ K t (R.keep (P:=λ_=>True) λO=>O.keep lh) (x.trans lh) hd2 (λr hr=>ho r (ay _ hr)) λσ₂ lA=>?_;have:=k σ₂ (lh.trans lA);dsimp only[qP]at this ⊢;rw[i8]at this
  split at this
  ·rename_i z;exact J (if_pos z ..) (J (ao ..) this)
  rename_i z;exact J (if_neg z ..) (J (aJ ..) this)
def oa.last:∀{rs:List Row}{a:Nat}{v:List PV},oa U a rs v->(rs=[]/\v=[])\/∃v' f p,v=v'++[.tup [.ref f,.int (p:Nat),.int (a+(lJ rs).length:Nat)]]:=by
 intro z9
 induction z9 with
 |nil=>
  intro a v h;exact .inl ⟨rfl,h⟩
 |cons r rs ih=>
  intro a v Xl;obtain⟨f,d,v',e,O,R⟩:=Xl;subst e;rcases ih R with⟨e1,e2⟩|⟨w,f',p,e1⟩
  ·clear R;subst e1;subst e2;refine .inr ⟨[],f,a,?_⟩;rw[mu,ac];rfl
  refine .inr ⟨.tup [.ref f,.int a,.int (a+r.oct.length:Nat)]::w,f',p,?_⟩;rw[e1,mu,ac,←cE];rfl
def vO(h:U a=some (.list (l++[v])))(hm:(l++[v]).length<=M)(k:K v):rF U (.ref a) (.int (-1)) K:=by
 unfold rF;refine lst h ⟨hm,?_⟩;have hi:oD (-1) (l++[v]).length=some l.length:=by
  dsimp only[oD,eM];refine J (ac ..) (J (bi ..) ?_);simp;exact YL _
 refine J (hi ..) ?_;refine(?_:lv (l++[v])[l.length]? K);refine J (cI (aF _) ..) (J (fP ..) ?_);exact k
def Cn(h:Jk.Sublist rs):(lJ Jk).length<=(lJ rs).length:=by
 induction h with
 |slnil=>exact aF _
 |cons r _ ih=>rw[mu,ac];exact nn 0x1012a001001 rfl ih
 |cons_cons r _ ih=>rw[mu,mu,ac,ac];exact nn 0x1012a02a01001 rfl ih
def Nl{l:List Row}:qU (l.map λr=>PV.bytes r.oct)=some (l.map Row.oct):=nQ λ_ _=>rfl
def namesOk(ns:List NL):Prop:=ns.length<=M/\∀x∈ns,x.length<=M/\∀y∈x,y<1114112
def uw{body:NL}{kW kS kY:Nd}{ns:List NL}(P:qQ U data (.cons kR body kW kS kY) [.ref p])(hr:oP kR=true)(hm:data.length<M)(hb:∀x∈data,x<256)(hn:namesOk ns)
  (k:∀kP,lg [] U kP->Q (.bytes (lJ (qP ns inot kR)++mv)) kP):CL (n+4) 750 [.bytes data,.ref p,.tup (ns.map .str),.bool inot] U Q E:=by
 have sL:=bI hm;rcases P with⟨p',d,l',b,fl,kd,kl,kv,nt,t,e,O,nr,hd,hk,k1,k2,k3⟩
 ·clear k3;rcases e with _|_
  have U0:kR.all Row.ok=true:=aC.mpr λr h=>(az.mp (aC.mp hr r h)).1;have yX:data.drop b=lJ kR++13::10::(body++t):=by rw[hd];dsimp only[lk];rw[ao];rfl
  have hd2:=mE yX;have hlen:(lk kR).length=(lJ kR).length+2:=ac;have Po:(lJ kR).length+2<M:=by
   have:=congrArg aZ yX;rw[a9,ac,au,au]at this;exact tD 0x11001012b3a10201b1b4aa3a221013 rfl hm this (cy _ _)
  refine ent (ρ:=[_,_,_,_,_,_,_,_,_]) rfl rfl rfl (zf (α:=NL) (f:=PV.str) (g:=λx=>PV.str (x.map mj)) hn.1 (λx hx σ₁ K lh k=>bT rfl (uQ (hn.2 x hx).1 (hn.2 x hx).2 λkP x'=>k kP x')) λσ₁ r lh Xz=>?_);refine(O.keep lh).get rfl trivial rfl ((O.keep lh).get rfl trivial rfl (y8 sL hb yX U0 (nn 0x10002a2b12aa02b1a021 rfl hlen) λσ₂ l v lA hl R=>Jj rfl rfl ?_));have hv:v.length<=M:=by
   rw[R.MZ.2];have:=tu U0;exact nn 0x101012002012b0a12 rfl Po this
  have x12:=lh.trans lA;have fin:∀lH r3 (y:Int),lg [] σ₂ lH->lH r3=some (.list ((qP ns inot kR).map λr=>.bytes r.oct))->y=((b+(lJ kR).length:Nat):Int)->
    HQ lH nu [] [.ref r3] (λv U=>xX lF U (.ref p) (ct "body") λu=>mS U (.bytes data) (.int y) u λw U=>OH U v w Q):=by
   rintro lH r3 y lU h3 rfl;have hf:((qP ns inot kR).map Row.oct).flatten.length<=(lJ kR).length:=Cn cm;have hl3:(qP ns inot kR).length<=kR.length:=cm.length_le;have:=tu U0;refine tr h3 Nl (nn 0x101012002012b0a12 rfl Po hf) (by rw[ai];exact oV 0x10101012003032012b0a13 rfl Po hl3 this) (((O.keep x12).keep lU).get rfl trivial rfl (mX sL ?_));rw[pL (l:=mv) hd2 (by rw[hlen];rfl)];refine⟨?_,k lH (x12.trans lU)⟩;refine(?_:_+2<=M);exact nn 0x101012b2a002012b0a12 rfl Po hf
  refine rR hl hv (Nk (σ₀:=σ₂) (data:=data) (ns:=ns) (inot:=inot) (λkP x=>x.get hl) (λf d p q r U K x O ok on hd hq k=>?_) kR b v [] σ₂ _ _ R .rfl yX (λr RI=>?_) λlH lU=>⟨?_,λr3 Ow r4 R3=>?_⟩)
  ·refine O.met rfl rfl (D6 O on (λz hz=>a8 (rQ (Row.split ok).1 hz).2.1 (by decide)) λmH nW=>HI (nW.get (x.get (lA.get Xz))) (r:=(ns.map (·.map mj)).contains (r.nm.map mj)) ?_ ?_)
   ·rw[←En,bU];rfl
   have:=k mH nW;refine bC (λz=>bT rfl (mX sL ?_)) λz=>bF rfl ?_
   ·rw[pL hd hq];rw[if_pos (show ((ns.map (·.map mj)).contains r.key !=inot)=true from z)]at this;exact this
   rw[if_neg (by rw[show ((ns.map (·.map mj)).contains r.key !=inot)=false from z];exact a7)]at this;exact this
  ·have:=Hh yX hm hr r RI;exact⟨this.1,this.2.2⟩
  ·rw[bc,ai];have:=tu U0;exact ah cm.length_le (nn 0x101012002012b0a12 rfl Po this)
  rw[bc]at R3 ⊢;have XA:=lU.trans ((lg.new Ow).trans (.new (o:=.list []) R3));have h3':(((lH.put r3 (.list ((qP ns inot kR).map λr=>.bytes r.oct))).put r4 (.list [])) r3)=some (.list ((qP ns inot kR).map λr=>.bytes r.oct)):=(lg.new (o:=.list []) R3).get kT;refine ne_nil (XA.get hl) kT (λz=>?_) λz=>?_
  ·rcases R.last with⟨_,e2⟩|⟨v',f,q,e2⟩
   ·exact absurd e2 z
   refine vO (by rw[←e2];exact XA.get hl) (by rw[←e2];exact hv) (Jj rfl rfl (oM (fin _ r3 _ XA h3' rfl)))
  rcases R.last with⟨e1,e2⟩|⟨v',f,q,e2⟩
  ·exact((O.keep x12).keep XA).get rfl trivial rfl (oM (fin _ r3 _ XA h3' (by rw[e1];rfl)))
  rw[z]at e2;exact absurd (congrArg aZ e2) (by simp)
end
section
open PySem PySem.W PyProof.Rows
variable {U:kO}{kP:kO}{Q:QV}{E:nI}{n:Nat}{f:Nat}{a:Nat}{b:Nat}{c:Nat}{d:Nat}{t:mG}{vs:List PV}{ρ:lK}{nm:NL}{K:PV->Prop}{v:PV}{data:NL}
set_option genCtorIdx true in
inductive Wd where|no|qp|header|text|fields|xg
noncomputable def Wd.s:Wd->NL
 |.no=>ct ""
 |.qp=>ct "MIME"
 |.header=>ct "HEADER"
 |.text=>ct "TEXT"
 |.fields=>ct "HEADER.FIELDS"
 |.xg=>ct "HEADER.FIELDS.NOT"
noncomputable abbrev aac(ln:NL)(w:Wd)(ns:List NL):List (NL×PV):=[(ct "path",.tup (ln.map λx=>.int (x:Nat))),(ct "word",.str w.s),(ct "names",.tup (ns.map .str)),(ct "partial",.none)]
def ph(U:kO)(a:Nat)(ln:NL)(w:Wd)(ns:List NL):Prop:=∃d,Obj U a 666 d (aac ln w ns)
def ph.keep(h:ph U a ln w ns)(x:lg [] U kP):ph kP a ln w ns:=by
 obtain⟨d,O⟩:=h;exact⟨d,O.keep x⟩
def Hk(hd:U d=.none)(lh:lg [] U σ₁)(O:Obj σ₁ a 666 d [])(k:∀kP,lg [] U kP->ph kP a ln w ns->Q (.ref a) kP):
  lO (CL n) lF tc.body [some (.ref a),some (.tup (ln.map λx=>.int (x:Nat))),some (.str w.s),some (.tup (ns.map .str)),some .none,.none] σ₁ (λfl _ U=>fl.val=.none/\Q (.ref a) U) (λe _ U=>E e U):=
 O.set rfl rfl λσ₂ oN lA=>oN.set rfl rfl λlH rz lU=>rz.set rfl rfl λmH Ee nW=>Ee.set rfl rfl λmL Cf oY=>⟨rfl,k mL (.fresh hd (lh.mono.trans (lA.trans (lU.trans (nW.trans oY))))) ⟨d,Cf⟩⟩
def Hl(k:∀a kP,lg [] U kP->ph kP a ln w []->Q (.ref a) kP):CL (n+1) 666 [.tup (ln.map λx=>.int (x:Nat)),.str w.s] U Q E:=
 Jg (ρ:=λa=>[some (.ref a),some (.tup (ln.map λx=>.int (x:Nat))),some (.str w.s),some (.tup []),some .none,.none]) rfl rfl rfl (λ_=>rfl) λa d σ₁ _ hd lh O=>Hk (ns:=[]) hd lh O (k a)
def QM(k:∀a kP,lg [] U kP->ph kP a ln w ns->Q (.ref a) kP):CL (n+1) 666 [.tup (ln.map λx=>.int (x:Nat)),.str w.s,.tup (ns.map .str),.none] U Q E:=
 Jg (ρ:=λa=>[some (.ref a),some (.tup (ln.map λx=>.int (x:Nat))),some (.str w.s),some (.tup (ns.map .str)),some .none,.none]) rfl rfl rfl (λ_=>rfl) λa d σ₁ _ hd lh O=>Hk hd lh O (k a)
noncomputable def XB(kR:List Row)(body:NL)(ns:List NL):Wd->NL
 |.header=>lk kR
 |.text=>body
 |.fields=>lJ (qP ns false kR)++mv
 |.xg=>lJ (qP ns true kR)++mv
 |_=>lk kR++body
def wT(P:qQ U data (.cons kR body kW kS kY) [.ref p])(S:ph U z ln w ns)(hr:oP kR=true)(hm:data.length<M)(hb:∀x∈data,x<256)(hn:namesOk ns)
  (k:∀kP,lg [] U kP->Q (.bytes (XB kR body ns w)) kP):CL (n+5) 757 [.bytes data,.ref p,.ref z] U Q E:=by
 have sL:=bI hm;have P':=P;rcases P with⟨p',d,l',b,fl,kd,kl,kv,nt,t,e,O,nr,hd,hk,k1,k2,k3⟩
 ·clear k3;rcases e with _|_
  obtain⟨dz,S⟩:=S;have hd2:=mE hd;have h1:=pL hd rfl;have h2:=pL hd2 rfl;have h3:cut data b (b+(lk kR).length+body.length)=lk kR++body:=by
   rw[←ao]at hd;exact pL hd (by rw[ac,cE])
  refine ent (ρ:=[_,_,_,_,_]) rfl rfl rfl (S.get rfl trivial rfl ?_)
  induction w with
  |header=>exact bT rfl (O.get rfl trivial rfl (O.get rfl trivial rfl (mX sL (h1.symm▸k U .rfl))))
  |text=>exact bF rfl (S.get rfl trivial rfl (bT rfl (O.get rfl trivial rfl (O.get rfl trivial rfl (mX sL (h2.symm▸k U .rfl))))))
  |fields=>exact bF rfl (S.get rfl trivial rfl (bF rfl (S.get rfl trivial rfl (oO (r:=true) rfl (bT rfl (S.get rfl trivial rfl (S.get rfl trivial rfl (uw (inot:=false) P' hr hm hb hn k))))))))
  |xg=>exact bF rfl (S.get rfl trivial rfl (bF rfl (S.get rfl trivial rfl (oO (r:=true) rfl (bT rfl (S.get rfl trivial rfl (S.get rfl trivial rfl (uw (inot:=true) P' hr hm hb hn k))))))))
  |no=>exact bF rfl (S.get rfl trivial rfl (bF rfl (S.get rfl trivial rfl (oO (r:=false) rfl (bF rfl (O.get rfl trivial rfl (O.get rfl trivial rfl (mX sL (h3.symm▸k U .rfl)))))))))
  |qp=>exact bF rfl (S.get rfl trivial rfl (bF rfl (S.get rfl trivial rfl (oO (r:=false) rfl (bF rfl (O.get rfl trivial rfl (O.get rfl trivial rfl (mX sL (h3.symm▸k U .rfl)))))))))
noncomputable def xh(w:Wd)(ns:List NL):Nd->PV
 |.nil=>.none
 |.cons r2 b2 _ _ _=>.bytes (XB r2 b2 ns w)
noncomputable def JB(w:Wd)(ns:List NL):Nd->PV
 |.nil=>.none
 |.cons kR body _ kS _=>match w with
  |.no=>.bytes body
  |.qp=>.bytes (lk kR)
  |.header=>xh .header ns kS
  |.text=>xh .text ns kS
  |.fields=>xh .fields ns kS
  |.xg=>xh .xg ns kS
noncomputable def sr(F:Nd)(ln:NL)(w:Wd)(ns:List NL):PV:=match ln with
 |[]=>xh w ns F
 |_::_=>JB w ns (u7 F true ln)
def eq_nil{K:Bool->Prop}(k:K l.isEmpty):OG U (.tup l) (.tup []) K:=by
 refine(?_:lv (vg 8 (.tup l) (.tup [])) K);rcases l with _|_<;>exact k
theorem Nn:∀{F:Nd}{j:Nat},F.Ok->(qM F j).Ok
 |.nil,_,h=>h
 |.cons kR body kW kS kY,0,h=>⟨h.1,h.2.1,h.2.2.1,h.2.2.2.1,trivial⟩
 |.cons kR body kW kS kY,j+1,h=>Nn (F:=kY) h.2.2.2.2
theorem Hm:∀{F:Nd}{w:Bool},F.Ok->(qL F w).Ok
 |.nil,_,h=>h
 |.cons kR body (.cons r1 b1 k1 i1 t1) kS kY,w,h=>h.2.2.1
 |.cons kR body .nil kS kY,true,h=>⟨h.1,h.2.1,trivial,h.2.2.2.1,trivial⟩
 |.cons kR body .nil kS kY,false,h=>Hm (F:=kS) h.2.2.2.1
theorem No:∀{ns:NL}{F:Nd}{w:Bool},F.Ok->(u7 F w ns).Ok
 |[],F,w,h=>h
 |0::ns,F,w,h=>trivial
 |(j+1)::ns,F,w,h=>by
  have h1:=Nn (j:=j) (Hm (w:=w) h)
  show Nd.Ok (match qM (qL F w) j with
   |.nil=>.nil
   |.cons kR body kW kS kY=>u7 (.cons kR body kW kS kY) false ns)
  rcases e:qM (qL F w) j with _|⟨kR,body,kW,kS,kY⟩
  ·trivial
  rw[e]at h1;exact No (ns:=ns) h1
def vP{p z q dq b fl kd kl:Nat}{body:NL}{ns:List NL}(OP:Obj U q 577 dq (AL b (b+(lk kR).length) (b+(lk kR).length+body.length) fl kd kl nt))(nr:NR nt)(k2:qQ U data kS (vN nt))(S:ph U z ln w ns)(hi:kS.Ok)(hm:data.length<M)(hb:∀x∈data,x<256)(hn:namesOk ns)
  (k:∀kP,lg [] U kP->Q (xh w ns kS) kP):mh (CL (n+5)) lF (.ite (.cmp .is (.attr (.Z 4) (ct "inner")) (.lit .none)) (.lit .none) (.call (.lit (.ref 757)) (.cons (.Z 0) (.cons (.attr (.Z 4) (ct "inner")) (.cons (.Z 2) .nil))))) [some (.bytes data),some (.ref p),some (.ref z),some (.ref 638),some (.ref q),none] U Q E:=by
 clear nr;rcases kS with _|⟨r2,b2,JA,i2,Xx⟩
 ·have:=tO k2;clear k2;subst this;exact OP.get rfl trivial rfl (bT rfl (k U .rfl))
 obtain⟨q2,rfl,e2⟩:=qN k2;rw[e2]at k2;exact OP.get rfl trivial rfl (bF rfl (OP.get rfl trivial rfl (wT k2 S hi.1 hm hb hn k)))
def Co(P:qQ U data F [.ref p])(S:ph U z ln w ns)(hF:F.Ok)(Yt:F≠.nil)(vQ:F.num<=M)(hl:ln.length<=M)(hm:data.length<M)(hb:∀x∈data,x<256)(hn:namesOk ns)
  (k:∀kP,lg [] U kP->Q (sr F ln w ns) kP):CL (n+6) 764 [.bytes data,.ref p,.ref z,.ref 638] U Q E:=by
 have sL:=bI hm;have S':=S;obtain⟨dz,O⟩:=S;rcases ln with _|⟨j,js⟩
 ·clear vQ;rcases F with _|⟨kR,body,kW,kS,kY⟩
  ·exact absurd rfl Yt
  exact ent (ρ:=[_,_,_,_,_,_]) rfl rfl rfl (O.get rfl trivial rfl (bT rfl (wT P S' hF.1 hm hb hn k)))
 refine ent (ρ:=[_,_,_,_,_,_]) rfl rfl rfl (O.get rfl trivial rfl (bF rfl (O.get rfl trivial rfl (QK (ns:=j::js) P Yt vQ hl λσ₁ v lh Yu=>?_))));have XC:=No (ns:=j::js) (w:=true) hF;have hk:∀kP,lg [] σ₁ kP->Q (JB w ns (u7 F true (j::js))) kP:=λkP x=>k kP (lh.trans x);have O1:=O.keep lh;have S1:=S'.keep lh;clear k O S' P;generalize u7 F true (j::js)=G at Yu XC hk;rcases G with _|⟨kR,body,kW,kS,kY⟩
 ·change v=.none at Yu;subst Yu;exact bT rfl (hk σ₁ .rfl)
 obtain⟨q,rfl,P1⟩:=Yu;rcases P1 with⟨p',d,l',b,fl,kd,kl,kv,nt,t,e,OP,nr,hd,GL,k1,k2,k3⟩
 ·have e:q=p':=by clear d fl kd OP k3;rcases e with _|_;rfl
  subst e;have h1:=pL hd rfl;have h2:=pL (mE hd) rfl;rcases w with _|_|_|_|_|_
  ·exact bF rfl (O1.get rfl trivial rfl (bT rfl (OP.get rfl trivial rfl (OP.get rfl trivial rfl (mX sL (h2.symm▸hk σ₁ .rfl))))))
  ·exact bF rfl (O1.get rfl trivial rfl (bF rfl (O1.get rfl trivial rfl (bT rfl (OP.get rfl trivial rfl (OP.get rfl trivial rfl (mX sL (h1.symm▸hk σ₁ .rfl))))))))
  ·exact bF rfl (O1.get rfl trivial rfl (bF rfl (O1.get rfl trivial rfl (bF rfl (vP OP nr k2 S1 XC.2.2.2.1 hm hb hn hk)))))
  ·exact bF rfl (O1.get rfl trivial rfl (bF rfl (O1.get rfl trivial rfl (bF rfl (vP OP nr k2 S1 XC.2.2.2.1 hm hb hn hk)))))
  ·exact bF rfl (O1.get rfl trivial rfl (bF rfl (O1.get rfl trivial rfl (bF rfl (vP OP nr k2 S1 XC.2.2.2.1 hm hb hn hk)))))
  exact bF rfl (O1.get rfl trivial rfl (bF rfl (O1.get rfl trivial rfl (bF rfl (vP OP nr k2 S1 XC.2.2.2.1 hm hb hn hk)))))
def QN(hv:v=.none\/∃x,v=.bytes x)(k:Q v U):CL (n+1) 771 [v,.none] U Q E:=by
 refine ent (ρ:=[_,_]) rfl rfl rfl ?_;rcases hv with rfl|⟨x,rfl⟩
 ·exact bT rfl (bT rfl k)
 exact bF rfl (bT rfl k)
def Eo:xh w ns F=.none\/∃x,xh w ns F=.bytes x:=by
 rcases F with _|_
 ·exact .inl rfl
 exact .inr ⟨_,rfl⟩
def zg:sr F ln w ns=.none\/∃x,sr F ln w ns=.bytes x:=by
 rcases ln with _|⟨j,js⟩
 ·exact Eo
 refine(?_:JB w ns (u7 F true (j::js))=.none\/∃x,JB w ns (u7 F true (j::js))=.bytes x);rcases u7 F true (j::js)with _|⟨kR,body,kW,kS,kY⟩
 ·exact .inl rfl
 rcases w with _|_<;>first|exact .inr ⟨_,rfl⟩|exact Eo
def zh(P:qQ U data F [.ref p])(S:ph U z ln w ns)(hF:F.Ok)(Yt:F≠.nil)(vQ:F.num<=M)(hl:ln.length<=M)(hm:data.length<M)(hb:∀x∈data,x<256)(hn:namesOk ns)
  (k:∀kP,lg [] U kP->Q (sr F ln w ns) kP):CL (n+7) 778 [.bytes data,.ref p,.ref z] U Q E:=by
 refine ent (ρ:=[_,_,_,_,_,_]) rfl rfl rfl (Co P S hF Yt vQ hl hm hb hn λσ₁ lh=>?_);obtain⟨d,O⟩:=S.keep lh;exact O.get rfl trivial rfl (QN zg (k σ₁ lh))
end
section
open PySem PySem.W PyProof.Rows
variable {U kP:kO}{Q:QV}{E:nI}{n f a b c d:Nat}{t:mG}{vs:List PV}{ρ:lK}{nm:NL}{K:PV->Prop}{v:PV}{data s:NL}
def rS{K:List PV->(kO->Prop)->Prop}(h:m<=M)(k:K ((cH m).map λi=>.int (i:Nat)) λ_=>True):lT U .range (.int m) K:=by
 unfold lT;exact⟨av m,aH.mpr (a8 h (by decide)),k⟩
def Uc{l:NL}{i x:Nat}(hm:l.length<=M)(e:l[i]? =some x)(k:K (.str [x])):rF U (.str l) (.int i) K:=by
 have oX:=(aG.mp e).1;unfold rF;refine⟨hm,?_⟩;rw[show oD (i:Int) l.length=some i from by
  dsimp only[oD,eM];rw[if_neg (bD.mpr (av i))];exact if_pos (az.mpr ⟨decide_eq_true (av i),decide_eq_true (aH.mpr oX)⟩)]
 refine(?_:lv l[i]? _);rw[e];exact k
def Ep(hm:s.length<=M)(hb:∀x∈s,x<128)(k:∀kP,lg [] U kP->Q (.bytes s) kP):CL (n+1) 198 [.str s] U Q E:=by
 refine ent (ρ:=[_,_,_,_,_,_,_]) rfl rfl rfl ⟨hm,rS hm (RV (α:=Nat) (λl ρ kP=>(∀i∈l,i<s.length)/\(∃o,ρ=[some (.str s),o,none,none,none,none,none])/\kP=U) ?_ (λ_ _ _ _=>trivial) ?_ _ _ U ⟨λi h=>List.mem_range.mp h,⟨_,rfl⟩,rfl⟩)⟩
 ·clear k;rintro i r ρ kP K ⟨h1,⟨o,rfl⟩,rfl⟩ hK _;have hi:=h1 i aj;refine Uc hm (aT hi) (dF (bD.mpr (aN.mpr (eL (hb _ (gB hi))))) (hK _ _ ⟨λj hj=>h1 j (ay _ hj),⟨_,rfl⟩,rfl⟩))
 rintro ρ kP ⟨_,⟨o,rfl⟩,rfl⟩;refine vL hm (g:=λx=>.int x) (λx hx K k=>bT rfl k) λr hr=>lst kT ?_;refine J (show vh (s.map λx=>.int (x:Nat))=some (s.map id)from nQ λx hx=>if_pos ⟨av _,aH.mpr (bW (hb x hx) (by decide))⟩) (J (eu ..) ?_);exact⟨J (ai ..) hm,k _ (.new hr)⟩
noncomputable def Np(x:Nat):Nat:=if 97<=x/\x<=122 then x-32 else x
def F7:zE [x] [y]=decide (x<y):=by
 refine(?_:(if x=y then false else decide (x<y))=_)
 split
 ·rename_i h;subst h;exact(decide_eq_false (Nat.lt_irrefl _)).symm
 rfl
def zi(hm:s.length<=M)(hb:∀x∈s,x<128)(k:∀kP,lg [] U kP->Q (.str (s.map Np)) kP):CL (n+1) 193 [.str s] U Q E:=by
 refine ent (ρ:=[_]) rfl rfl rfl (ng (vL hm (g:=λx=>.str [Np x]) (λx hx K k=>bT rfl ?_) λr hr=>?_))
 ·have e1:(!zE [x] [97])=decide (97<=x):=by rw[F7,a0];simp
  have e2:(!zE [122] [x])=decide (x<=122):=by rw[F7,a0];simp
  have k:X2 K (.str [Np x]) U:=k;dsimp only[Np]at k;refine bC (λz=>bC (λy=>?_) λy=>?_) λz=>?_
  ·have z:=of_decide_eq_true (e1▸z:decide (97<=x)=true);have y:=of_decide_eq_true (e2▸y:decide (x<=122)=true);rw[if_pos ⟨z,y⟩]at k;have hx:=hb x hx;refine⟨by lia,by lia,?_⟩;refine J (show ((x:Int)-32).toNat=x-32 by exact Int.toNat_sub _ 32) ?_;exact k
  ·have y:=of_decide_eq_false (e2▸y:decide (x<=122)=false);rw[if_neg λq=>y q.2]at k;exact k
  have z:=of_decide_eq_false (e1▸z:decide (97<=x)=false);rw[if_neg λq=>z q.1]at k;exact bF rfl k
 exact join_ones (l:=s.map Np) (J (bU ..) kT) (J (ai ..) hm) (k _ (.new hr))
def need(h:mK U c d data s)(hw:w.length<=M)(k1:∀r kP,s=w++r->mK kP c d data r->lg [d] U kP->Q .none kP)(k2:w.isPrefixOf s=false->∀m,E ⟨83,m,.int (data.length-s.length:Nat)⟩ U):CL (n+3) 677 [.ref c,.bytes w] U Q E:=
 ent (ρ:=[_,_,_]) rfl rfl rfl (h.met rfl rfl (skip h hw (λr kP e h' x=>bF rfl (k1 r kP e h' x)) λz=>bT rfl (h.at_ (k2 z _))))
def AO(k:Q (.bool (decide (48<=hd s/\hd s<=57))) U):CL (n+1) 691 [.int (hd s)] U Q E:=by
 refine ent (ρ:=[_]) rfl rfl rfl (dC (λz=>?_) λz=>?_)
 ·rw[show decide (48<=hd s/\hd s<=57)=decide (hd s<=57)from by refine ri (a0 ..) ?_;simp[z]]at k;exact k
 rw[decide_eq_false λq=>z q.1]at k;exact k
def Er(j:Nat):Prop:=1<=j/\j<=9
def wU(h:mK U c d data ((48+j)::r))(hj:Er j)(hr:¬(48<=hd r/\hd r<=57))(k:∀kP,mK kP c d data r->lg [d] U kP->Q (.int j) kP):CL (n+4) 684 [.ref c,.int 1] U Q E:=by
 obtain⟨j1,j2⟩:=hj;refine ent (ρ:=[_,_,_,_,_,_,_]) rfl rfl rfl (h.at_ (h.met rfl rfl (number h (sR 0x302fba302fb00 rfl) (sR 0x10392fb0302fba09b001 rfl j2) hr λσ₁ h₁ lh=>?_)));have hv:(0*10+((48+j:Nat):Int)-48)=j:=by lia
 refine J (hv ..) ?_;have e:=pos_succ h.s.length_le;have e2:(((data.length-r.length:Nat):Int)==((data.length-((48+j)::r).length:Nat):Int)+1)=true:=beq_iff_eq.mpr e.symm;refine bT rfl (h₁.at_ (bT e2 (bF (by refine J (e2 ..) ?_;rfl) (dT (by lia) (bF ?_ (k σ₁ h₁ lh))))));exact congrArg Bool.not (decide_eq_true (aN.mpr (ah j2 (by decide)):(j:Int)<=4294967295))
noncomputable def k_(ns:NL):NL:=(ns.map λj=>[48+j,46]).flatten
def Hn{ns t:NL}(hn:∀j∈ns,Er j)(ht:¬(48<=hd t/\hd t<=57)):decide (48<=hd (k_ ns++t)/\hd (k_ ns++t)<=57)= !ns.isEmpty:=by
 rcases ns with _|⟨j,ns⟩
 ·exact decide_eq_false ht
 obtain⟨h1,h2⟩:=hn j aj;exact decide_eq_true (show (48:Int)<=((48+j:Nat):Int)/\((48+j:Nat):Int)<=57 from⟨aN.mpr (aM 48 j),aN.mpr (bK h2 48)⟩)
inductive TpI(data t:NL)(c d r:Nat)(js:NL)(U:kO)(ms:NL)(kP:kO):Prop
 |mk (h:mK kP c d data (46::(k_ ms++t))) (v1:NL) (e1:js=v1++ms) (e2:kP r=some (.list (v1.map λx=>.int (x:Nat)))) (x:∀a o,U a=some o->a≠d->kP a=some o):TpI data t c d r js U ms kP
def JC{ns t:NL}(h:mK U c d data (k_ ns++t))(hn:∀j∈ns,Er j)(ht:¬(48<=hd t/\hd t<=57))(k:∀kP,mK kP c d data (if ns=[]then t else 46::t)->lg [d] U kP->Q (.tup (ns.map λx=>.int (x:Nat))) kP):CL (n+5) 698 [.ref c] U Q E:=by
 refine ent (ρ:=[_,_,_,_,_]) rfl rfl rfl λr hr=>?_;have x0:=lg.new (o:=.list []) hr;have h0:=h.keep x0;have T3:r≠d:=λz=>by rw[z,h.e]at hr;contradiction
 have hrc:c≠r:=λz=>by rw[←z,h.i]at hr;contradiction
 refine h0.met rfl rfl (rO h0 (AO ?_));refine J (Hn hn ht ..) ?_;rcases ns with _|⟨j,ns⟩
 ·exact bF rfl (lst kT ⟨aO _,k _ h0 x0.mono⟩)
 have nf:∀{u:NL},¬(48<=hd (46::u)/\hd (46::u)<=57):=λz=>absurd (show (48:Int)<=46 from z.1) (by decide);have ap:∀{σ₁:kO}{s':NL}{v:PV}{l:List PV},mK σ₁ c d data s'->σ₁ r=some (.list l)->mK (σ₁.put r (.list (l++[v]))) c d data s':=λh1 h2=>⟨(mN hrc).trans h1.i,(mN T3.symm).trans h1.e,h1.m,h1.b,h1.s⟩;have Yv:(k_ (j::ns)++t).length<=M:=h.len;refine bT rfl (mf kT (wU (r:=46::(k_ ns++t)) h0 (hn j aj) nf λσ₁ h₁ lh=>?_));have Yk:=lh.at T3 (kT (U:=U) (a:=r) (o:=.list []));refine lst Yk ⟨by decide,?_⟩;refine wY (α:=NL) aZ (λ_=>_) (TpI data t c d r (j::ns) U) ?_ ns ⟨ap h₁ Yk,[j],rfl,kT,λa o e ne=>(mN λz=>by rw[z,hr]at e;contradiction).trans (lh.at ne (x0.get e))⟩;rintro ms kP K ⟨h2,v1,e1,e2,x2⟩ hK;refine h2.met rfl rfl (starts h2 (by decide) (bT rfl (h2.met rfl rfl (peek1 h2 (AO ?_)))));refine(?_:mx _ _ _);refine J (show (46::(k_ ms++t)).tail=k_ ms++t from rfl) (J (Hn (λi hi=>hn i (by rw[e1];exact bv _ hi)) ht ..) ?_);have hv:v1.length+ms.length=ns.length+1:=by refine rr (ac ..) (rr (e1 ..) ?_);rfl
 have RM:(j::ns).length<=(k_ (j::ns)++t).length:=by
  refine J (ac ..) ?_;have:∀l:NL,l.length<=(k_ l).length:=λl=>by
   induction l with
   |nil=>exact aF _
   |cons a l ih=>refine(?_:l.length+1<=(k_ l).length+1+1);exact mZ 0x101b1b1aa1b0a01001 rfl ih
  exact ah (this _) (aM _ _)
 rw[au]at RM;rcases ms with _|⟨i,ms⟩
 ·rw[aJ]at e1;refine bF rfl (lst e2 ⟨by refine J (ai ..) ?_;rw[bA]at hv;exact oV 0x1010101301b2a0b3a201b2a01003 rfl Yv RM hv,?_⟩);rw[←e1]at*;exact k kP h2 λa o ne e=>x2 a o e λz=>ne (z▸er _)
 have hi:=hn i (J (e1 ..) (bv _ aj));refine bT rfl (h2.met rfl rfl (take h2 λlH nG lU=>mf (lU.at T3 e2) (wU (r:=46::(k_ ms++t)) nG hi nf λmH p_ nW=>?_)));have hl4:=nW.at T3 (lU.at T3 e2);refine lst hl4 ⟨by refine J (ai ..) ?_;rw[au]at hv;exact tD 0x1010101311b2a1b4a3a201b2a01003 rfl Yv RM hv,hK ms _ (ba _) ⟨ap p_ hl4,v1++[i],by refine J (e1 ..) (J (ao ..) ?_);rfl,kT.trans (by refine J (aS ..) ?_;rfl),λa o e ne=>?_⟩⟩;exact(mN λz=>by rw[z,hr]at e;contradiction).trans (nW.at ne (lU.at ne (x2 a o e ne)))
noncomputable def lets:NL:=[65,66,67,68,69,70,71,72,73,74,75,76,77,78,79,80,81,82,83,84,85,86,87,88,89,90,97,98,99,100,101,102,103,104,105,106,107,108,109,110,111,112,113,114,115,116,117,118,119,120,121,122,46]
structure qO(w:Wd)(t u r:NL):Prop where
 e:t=u++r
 l:u.all lets.contains=true
 z:∀x y,r=x::y->lets.contains x=false
 u:u.map Np=w.s
def qO.span{w:Wd}{t u r:NL}(W:qO w t u r):t.takeWhile lets.contains=u/\t.dropWhile lets.contains=r:=by
 refine J (W.e ..) ?_;exact MN (λx hx=>aC.mp W.l x hx) W.z
def Ho{x:Nat}(h:lets.contains x=true):x<128/\x≠93/\¬(48<=x/\x<=57):=by
 have:lets.all (λx=>decide (x<128/\x≠93/\¬(48<=x/\x<=57)))=true:=rfl;exact of_decide_eq_true (aC.mp this x (bj.mp h))
def qO.ne{w:Wd}{t u r:NL}(W:qO w t u r)(hw:w≠.no):u≠[]:=λz=>by
 have:=W.u;rw[z]at this;clear t r W;rcases w with _|_<;>first|exact hw rfl|contradiction
def qO.hd{w:Wd}{t u r:NL}(W:qO w t u r)(hw:w≠.no):([93]:NL).isPrefixOf t=false/\¬(48<=hd t/\hd t<=57):=by
 have h:=W.ne hw;have:=W.l;have e:=W.e;clear W;rcases u with _|⟨x,u⟩
 ·exact absurd rfl h
 obtain⟨h1,h2,h3⟩:=Ho (az.mp this).1;refine J (e ..) ?_;refine⟨?_,λz=>h3 ⟨aN.mp z.1,aN.mp z.2⟩⟩;refine(?_:(93==x&&_)=false);refine J (beq_false_of_ne λz=>h2 z.symm ..) ?_;rfl
def Es{w:Wd}{ns:NL}{ρ:lK}{k0:PV}{E:nI}(hw:w≠.no)(h1:ρ.get 1=some (.tup (ns.map λx=>.int (x:Nat))))(h2:ρ.get 2=some k0)(h3:ρ.get 3=some (.str w.s))
  (k1:w≠.qp\/ns≠[]->Q (.str w.s) U) (k2:w=.qp->ns=[]->∀m,E ⟨83,m,k0⟩ U):
  lO (CL n) lF (.cons (.ite (.or (.cmp .qb (.Z 3) (.lit (.tup [(.str (ct "HEADER")),(.str (ct "TEXT")),(.str (ct "MIME")),(.str (ct "HEADER.FIELDS")),(.str (ct "HEADER.FIELDS.NOT"))]))) (.and (.cmp .eq (.Z 3) (.lit (.str (ct "MIME")))) (.cmp .eq (.Z 1) (.tup .nil)))) (.cons (.raise 83 (ct "no word of a section") (.Z 2)) .nil) .nil) (.cons (.ret (.Z 3)) .nil)) ρ U (λfl _ U=>Q fl.val U) (λe _ U=>E e U):=by
 have r1:∀{K:PV->Prop}{v:PV},some v=ρ.get 3->K v->lv (ρ.get 3) K:=λe k=>rr (e ..) k;have r2:∀{K:PV->Prop}{v:PV},some v=ρ.get 1->K v->lv (ρ.get 1) K:=λe k=>rr (e ..) k;have r3:∀{K:PV->Prop}{v:PV},some v=ρ.get 2->K v->lv (ρ.get 2) K:=λe k=>rr (e ..) k;refine(?_:lv (ρ.get 3) _);refine r1 h3.symm (oO (r:=true) (by clear E h3 k1 k2;rcases w with _|_<;>first|exact absurd rfl hw|rfl) (bF rfl ?_));refine(?_:lv (ρ.get 3) _);refine r1 h3.symm ?_;have ret:Q (.str w.s) U->lv (ρ.get 3) (atK (Vx ρ (Bl (lO (CL n) lF .nil) (λfl _ U=>Q fl.val U) (λe _ U=>E e U))) U):=λq=>r1 h3.symm q;clear hw h3;by_cases hm:w=.qp
 ·subst hm;refine bT rfl ?_;refine(?_:lv (ρ.get 1) _);refine r2 h1.symm ?_;clear h1;rcases ns with _|⟨j,ns⟩
  ·exact bT rfl (r3 h2.symm (k2 rfl rfl _))
  exact bF rfl (ret (k1 (.inr λz=>nomatch z)))
 have:(w.s==ct "MIME")=false:=by clear E k1 k2 ret;rcases w with _|_<;>first|exact absurd rfl hm|rfl
 exact bF this (bF rfl (ret (k1 (.inl hm))))
def JD{w:Wd}{ns t u r:NL}(h:mK U c d data (if ns=[]then t else 46::t))(W:qO w t u r)(hw:w≠.no)
  (k1:w≠.qp\/ns≠[]->∀kP,mK kP c d data r->lg [d] U kP->Q (.str w.s) kP) (k2:w=.qp->ns=[]->∀m kP,lg [d] U kP->E ⟨83,m,.int (data.length-t.length:Nat)⟩ kP):CL (n+4) 703 [.ref c,.tup (ns.map λx=>.int (x:Nat))] U Q E:=by
 obtain⟨w1,w2⟩:=W.span;obtain⟨w3,_⟩:=W.hd hw;have QO:u.length<=M:=ah (show u.length<=t.length by rw[W.e,ac];exact aM _ _) (by
  by_cases z:ns=[]
  ·rw[if_pos z]at h;exact h.len
  rw[if_neg z]at h;exact ah (gp _) h.len)
 have Yw:∀x∈u,x<128:=λx hx=>(Ho (aC.mp W.l x hx)).1;rcases ns with _|⟨j,ns⟩
 ·have h:mK U c d data t:=h;refine ent (ρ:=[_,_,_,_,_,_,_,_,_]) rfl rfl rfl (h.met rfl rfl (starts h (by decide) (bF w3 (bF rfl (h.at_ (ng (h.met rfl rfl (yY (w:=lets) h λσ₁ h₁ lh=>?_))))))));rw[w2]at h₁;rw[w1];refine qI (g:=λx=>.str [x]) QO (λx hx K k=>bT rfl ⟨av _,aH.mpr (bW (Yw x hx) (by decide)),k⟩) λq hq=>join_ones kT QO (zi QO Yw λσ₂ lA=>?_);rw[W.u];have x:=(lg.new (o:=.list (u.map λx=>.str [x])) hq).trans lA
  show lO _ _ _ _ _ _ _
  exact Es (ns:=[]) hw (by rfl) (by rfl) (by rfl) (λz=>k1 z σ₂ (h₁.keep x) (lh.trans x.mono)) λz1 z2 m=>k2 z1 z2 m σ₂ (lh.trans x.mono)
 have h:mK U c d data (46::t):=h;refine ent (ρ:=[_,_,_,_,_,_,_,_,_]) rfl rfl rfl (h.met rfl rfl (starts h (by decide) (bF rfl (bT rfl (need h (by decide) (λt' σ₀ e CF aad=>?_) λz=>by contradiction)))));obtain rfl:t=t':=(bw e).2;refine CF.at_ (ng (CF.met rfl rfl (yY (w:=lets) CF λσ₁ h₁ lh=>?_)));rw[w2]at h₁;rw[w1];refine qI (g:=λx=>.str [x]) QO (λx hx K k=>bT rfl ⟨av _,aH.mpr (bW (Yw x hx) (by decide)),k⟩) λq hq=>join_ones kT QO (zi QO Yw λσ₂ lA=>?_);rw[W.u];have x:=(lg.new (o:=.list (u.map λx=>.str [x])) hq).trans lA
 show lO _ _ _ _ _ _ _
 exact Es (ns:=j::ns) hw (by rfl) (by rfl) (by rfl) (λz=>k1 z σ₂ (h₁.keep x) (aad.trans (lh.trans x.mono))) λz1 z2 m=>nomatch z2
set_option genCtorIdx true in
inductive Pl where|blank|Ox|begin|atom|behind|quoted|escape|close|fin
set_option genCtorIdx true in
inductive Res where
 |ok (ns:List NL)
 |err (n:Nat)
noncomputable def QP:NL:=[40,41,123,37,42,34,92,93,32]
noncomputable def atC(x:Nat):Bool:=decide (32<x)&&(decide (x<127)&&!QP.contains x)
noncomputable def xi(ns:List NL)(x:Nat):List NL:=ns.dropLast++[ns.getLastD []++[x]]
def zj:xi (ns++[w]) x=ns++[w++[x]]:=by
 unfold xi;refine J (dK ..) (J (jG ..) (J (gY ..) ?_));rfl
noncomputable def sm:NL->Pl->List NL->Res
 |[],st,ns=>(match st with
  |.fin=>.ok ns
  |_=>.err 0)
 |x::r,st,ns=>(match st with
  |.blank=>if x=32 then sm r .Ox ns else .err (r.length+1)
  |.Ox=>if x=40 then sm r .begin ns else .err (r.length+1)
  |.begin=>if x=34 then sm r .quoted (ns++[[]])else if atC x=true then sm r .atom (ns++[[x]])else .err (r.length+1)
  |.atom=>if x=32 then sm r .begin ns else if x=41 then sm r .close ns else if atC x=true then sm r .atom (xi ns x)else .err (r.length+1)
  |.behind=>if x=32 then sm r .begin ns else if x=41 then sm r .close ns else .err (r.length+1)
  |.quoted=>if x=34 then sm r .behind ns else if x=92 then sm r .escape ns else if 32<=x/\x<127 then sm r .quoted (xi ns x)else .err r.length
  |.escape=>if x=34\/x=92 then sm r .quoted (xi ns x)else .err r.length
  |.close=>if x=93 then sm r .fin ns else .err (r.length+1)
  |.fin=>.err (r.length+1))
def Yx(d:Nat)(U kP:kO):Prop:=∀a o,U a=some o->a≠d->kP a=some o
def Yx.exc(h:Yx d U kP):lg [d] U kP:=λa o n e=>h a o e λz=>n (z▸er _)
def lg.kep(x:lg [d] U kP):Yx d U kP:=λa o e n=>x.at n e
def wz(h:mK U c d data s)(hc:c≠q)(hd:d≠q):mK (U.put q o) c d data s:=⟨(mN hc).trans h.i,(mN hd).trans h.e,h.m,h.b,h.s⟩
structure wA(U kP:kO)(c d q:Nat)(l:List PV):Prop where
 hc:c≠q
 hd:d≠q
 hq:U q=.none
 hl:kP q=some (.list l)
 hk:Yx d U kP
def wA.new(h:mK U c d data s)(hq:U q=.none):wA U (U.put q (.list l)) c d q l:=
 ⟨λz=>(by rw[←z,h.i]at hq;contradiction),λz=>(by rw[←z,h.e]at hq;contradiction),hq,kT,λa o e _=>(lg.new hq).get e⟩
def wA.go(O:wA U σ₁ c d q l)(x:lg [d] σ₁ σ₂):wA U σ₂ c d q l:=
 ⟨O.hc,O.hd,O.hq,x.at O.hd.symm O.hl,λa o e n=>x.at n (O.hk a o e n)⟩
def wA.put(O:wA U σ₁ c d q l):wA U (σ₁.put q (.list l')) c d q l':=
 ⟨O.hc,O.hd,O.hq,kT,λa o e n=>(mN λz=>by rw[z,O.hq]at e;contradiction).trans (O.hk a o e n)⟩
inductive TqI(data s:NL)(c d q:Nat)(U:kO)(y w:NL)(kP:kO):Prop
 |mk (h:mK kP c d data y) (O:wA U kP c d q (w.map λx=>.str [x])) (hl:w.length+y.length<=s.length) (e:∀ns vU,sm s .quoted (ns++[vU])=sm y .quoted (ns++[vU++w])):TqI data s c d q U y w kP
def Et(h:mK U c d data s)(k1:∀w r kP,mK kP c d data r->lg [d] U kP->r.length<=s.length->(∀ns vU,sm s .quoted (ns++[vU])=sm r .behind (ns++[vU++w]))->Q (.str w) kP)
  (k2:∀m e kP,e<=data.length->(∀ns vU,sm s .quoted (ns++[vU])=.err e)->E ⟨83,m,.int (data.length-e:Nat)⟩ kP):CL (n+4) 717 [.ref c] U Q E:=by
 refine ent (ρ:=[_,_,_,_,_,_,_]) rfl rfl rfl λq hq=>wY (α:=NL×NL×Option PV) (λy=>y.1.length) (λy=>[some (.ref c),some (.ref q),y.2.2,none,none,none,none])
  (λy kP=>TqI data s c d q U y.1 y.2.1 kP) ?_ (s,[],none)
  ⟨h.keep (.new hq),.new h hq,db (bV _),λns vU=>J (aJ ..) rfl⟩
 rintro⟨s',w,o⟩ σ₁ K ⟨h₁,O,hl,e⟩ hK;dsimp only at h₁ O hl e hK ⊢;have hM:=h.m;have AP:=h.le;refine bT rfl (h₁.met rfl rfl (take h₁ λσ₂ lL lA=>?_));clear h₁;rcases s' with _|⟨x,r⟩
 ·exact bF rfl (bF rfl (dF (by decide) (bT rfl (lL.at_ (k2 _ 0 σ₂ (aO _) λns vU=>e ns vU)))))
 change mK σ₂ c d data r at lL;have oN:=O.go lA;rw[au]at hl;have s34:sm (x::r) .quoted=λns=>if x=34 then sm r .behind ns else if x=92 then sm r .escape ns else if 32<=x/\x<127 then sm r .quoted (xi ns x)else .err r.length:=rfl
 rw[s34]at e
 by_cases Yy:x=34
 ·clear hK;subst Yy;exact bT rfl (ng (join_ones oN.hl (tD 0x10101013021b4a3a00201003 rfl hM AP hl) (k1 w r σ₂ lL oN.hk.exc (nn 0x1021021b1a0a01 rfl hl) λns vU=>(e ns vU).trans (if_pos rfl))))
 have n34:((x:Int)==34)=false:=beq_false_of_ne λz=>Yy (bJ z);refine bF n34 ?_;have app:∀(lH:kO) (y:Nat) (r':NL),mK lH c d data r'->wA U lH c d q (w.map λx=>.str [x])->r'.length<(x::r).length->w.length+1+r'.length<=s.length->(∀ns vU,sm s .quoted (ns++[vU])=if 32<=y/\y<127 then sm r' .quoted (xi (ns++[vU++w]) y)else .err r'.length)->
   lO (CL (n+3)) lF (.cons (.ite (.not (.qj .le .lt (.lit (.int 32)) (.Z 2) (.lit (.int 127)))) (.cons (.raise 83 (ct "a quoted name without its end, or an odd sign in it") (.attr (.Z 0) (ct "at"))) .nil) .nil) (.cons (.expr (.py (.Z 1) (ct "append") (.cons (.b1 .chr (.Z 2)) .nil))) .nil))
    [some (.ref c),some (.ref q),some (.int y),none,none,none,none] lH (λfl ρ U=>match fl with|.next=>K ρ U|.ret v=>Q v U) (λe _ U=>E e U):=by
  intro lH y r' nG rz hr hlen e3;have bad:∀m,¬(32<=y/\y<127)->E ⟨83,m,.int (data.length-r'.length:Nat)⟩ lH:=λm z=>k2 m r'.length lH nG.le λns vU=>(e3 ns vU).trans (if_neg z);refine dC (λz1=>?_) λz1=>bT rfl (nG.at_ (bad _ λz=>z1 (aN.mpr z.1)));refine bN (dC (λz2=>?_) λz2=>nG.at_ (bad _ λz=>z2 (aH.mpr z.2)));have y1:=aN.mp z1;have y2:=aH.mp z2;refine mf rz.hl ⟨av _,aH.mpr (bW y2 (by decide)),lst rz.hl ⟨J (ai ..) (tD 0x10101013121b4a3a00201003 rfl hM AP hl),?_⟩⟩;refine hK (r',w++[y],_) _ hr ⟨wz nG rz.hc rz.hd,?_,?_,λns vU=>?_⟩
  ·have:=rz.put (l':=(w.map λx=>PV.str [x])++[.str [y]]);refine J (aS ..) ?_;exact this
  ·exact J (ac ..) hlen
  exact J (e3 ..) (J (if_pos ⟨y1,y2⟩ ..) (J (zj ..) (J (ao ..) rfl)))
 clear hK n34;by_cases x92:x=92
 ·clear Yy;subst x92;refine bT rfl (lL.met rfl rfl (take lL λlH nG lU=>?_));have rz:=oN.go lU;clear lL s34;rcases r with _|⟨y,r⟩
  ·exact oO (r:=false) rfl (bT rfl (nG.at_ (k2 _ 0 lH (aO _) λns vU=>e ns vU)))
  change mK lH c d data r at nG;rw[au]at hl;have e4:∀ns vU,sm s .quoted (ns++[vU])=if y=34\/y=92 then sm r .quoted (xi (ns++[vU++w]) y)else .err r.length:=λns vU=>e ns vU
  refine B_ [34,92] (bC (λz=>nG.at_ (k2 _ r.length lH nG.le λns vU=>(e4 ns vU).trans (if_neg λy'=>?_))) λz=>?_)
  ·clear e app e4;rcases y' with rfl|rfl<;>contradiction
  have yy:y=34\/y=92:=by
   simp at z;lia
  refine(?_:lO _ _ _ _ _ _ _);refine app lH y r nG rz (J (au ..) (J (au ..) (sR 0x1b1b0aa010 rfl))) (nn 0x10211b0aa021b1b1aa0a01 rfl hl) λns vU=>?_;exact J (e4 ..) (J (if_pos yy ..) (J (if_pos (by clear e app e4 z;rcases yy with rfl|rfl<;>decide) ..) rfl))
 have Yo:((x:Int)==92)=false:=beq_false_of_ne λz=>x92 (bJ z);refine bF Yo ?_;refine(?_:lO _ _ _ _ _ _ _);exact app σ₂ x r lL oN (ba _) (nn 0x10211b0aa021b1a0a01 rfl hl) λns vU=>by refine J (e ..) ?_;show (if _ then _ else if _ then _ else _)=_;exact J (if_neg Yy ..) (J (if_neg x92 ..) rfl)
def QQ(hb:∀x∈s,x<256)(k:Q (.bool (zG atC s)) U):CL (n+1) 710 [.int (hd s)] U Q E:=by
 refine ent (ρ:=[_,_]) rfl rfl rfl ?_;rcases s with _|⟨x,r⟩
 ·exact dF (by decide) (bF rfl k)
 have k:Q (.bool (atC x)) U:=k;unfold atC at k;refine dC (λz=>?_) λz=>?_
 ·rw[decide_eq_true (aH.mp z),d8]at k;refine bC (λy=>?_) λy=>?_
  ·rw[decide_eq_true (aH.mp (of_decide_eq_true y)),d8]at k;refine Yn (hb x aj) ?_;exact k
  rw[decide_eq_false λq=>of_decide_eq_false y (aH.mpr q),fW]at k
  show Q (.bool (decide _)) U
  exact J (show decide (hd (x::r)<127)=false from y) k
 rw[decide_eq_false λq=>z (aH.mpr q),fW]at k;exact bF rfl k
def Ud(h:zG atC r=false):sm r .atom ns=sm r .behind ns:=by
 rcases r with _|⟨x,r⟩
 ·rfl
 have hx:¬atC x=true:=J (show atC x=false from h) a7;refine(?_:(if x=32 then sm r .begin ns else if x=41 then sm r .close ns else if atC x=true then sm r .atom (xi ns x)else Res.err (r.length+1))=_);refine J (if_neg hx ..) ?_;rfl
inductive TnI(data s:NL)(c d q:Nat)(U:kO)(y w:NL)(kP:kO):Prop
 |mk (h:mK kP c d data y) (O:wA U kP c d q (w.map λx=>.str [x])) (hl:w.length+y.length=s.length) (e0:w=[]->y=s) (e1:w≠[]->∀ns,sm s .begin ns=sm y .atom (ns++[w])):TnI data s c d q U y w kP
def AQ(h:mK U c d data s)(k1:∀w r kP,mK kP c d data r->lg [d] U kP->r.length<s.length->(∀ns,sm s .begin ns=sm r .behind (ns++[w]))->Q (.str w) kP)
  (k2:∀m e kP,e<=data.length->(∀ns,sm s .begin ns=.err e)->E ⟨83,m,.int (data.length-e:Nat)⟩ kP):CL (n+5) 724 [.ref c] U Q E:=by
 have hM:=h.m;refine ent (ρ:=[_,_,_,_,_,_,_]) rfl rfl rfl (h.met rfl rfl (rO h ?_));have atoms:(∀r,s≠34::r)->lO (CL (n+4)) lF (.cons (.asg (.name 1) (.list .nil)) (.cons (.wY (.val (.call (.lit (.ref 710)) (.cons (.py (.Z 0) (ct "peek") .nil) .nil))) (.cons (.expr (.py (.Z 1) (ct "append") (.cons (.b1 .chr (.py (.Z 0) (ct "take") .nil)) .nil))) .nil)) (.cons (.ite (.cmp .eq (.Z 1) (.list .nil)) (.cons (.raise 83 (ct "a name is missing") (.attr (.Z 0) (ct "at"))) .nil) .nil) (.cons (.ret (.py (.lit (.str (ct ""))) (ct "join") (.cons (.Z 1) .nil))) .nil)))) [some (.ref c),none,none,none,none,none,none] U (λfl _ U=>Q fl.val U) (λe _ U=>E e U):=by
  intro U1 q hq;refine wY (α:=NL×NL) (λy=>y.1.length) (λ_=>_)
   (λy kP=>TnI data s c d q U y.1 y.2 kP) ?_ (s,[]) ⟨h.keep (.new hq),.new h hq,bV _,λ_=>rfl,λz=>absurd rfl z⟩
  rintro⟨s',w⟩ σ₁ K ⟨h₁,O,hl,e0,e1⟩ hK;dsimp only at h₁ O hl e0 e1 hK ⊢;have AP:=h.le;refine h₁.met rfl rfl (rO h₁ (QQ (λ_=>h₁.x) (bC (λz=>?_) λz=>?_)))
  ·rcases s' with _|⟨x,r⟩
   ·contradiction
   have z:atC x=true:=z;rw[au]at hl;refine mf O.hl (h₁.met rfl rfl (take h₁ λσ₂ lL lA=>?_));have oN:=O.go lA;have lL:mK σ₂ c d data r:=lL;have hx:x<256:=h₁.x aj;refine⟨av x,aH.mpr (bW hx (by decide)),lst oN.hl ⟨by rw[ai];exact tD 0x10101013121b4a3a20201003 rfl hM AP hl,?_⟩⟩;refine hK (r,w++[x]) _ (ba _) ⟨wz lL oN.hc oN.hd,?_,?_,λy=>absurd y (by simp),λ_ ns=>?_⟩
   ·have:=oN.put (l':=(w.map λx=>PV.str [x])++[.str [x]]);rw[aS];exact this
   ·rw[ac];show w.length+1+r.length=_;exact id (nn 0x100010211b0aa221b1a0a21 rfl hl)
   clear h₁ hK hx;by_cases hw:w=[]
   ·rw[←e0 hw,hw]
    show (if x=34 then _ else if atC x=true then _ else _)=_
    rw[if_neg λy=>U1 r (by rw[←e0 hw,y]),if_pos z];rfl
   rw[e1 hw]
   show (if x=32 then _ else if x=41 then _ else if atC x=true then _ else _)=_
   rw[if_neg λy=>(by clear e0 e1;subst y;contradiction),if_neg λy=>(by clear e0 e1;subst y;contradiction),if_pos z,zj]
  refine λq2 Aa=>lst ((lg.new Aa).get O.hl) (lst kT ⟨.inr rfl,?_⟩);have lL:=h₁.keep (.new (o:=.list []) Aa);have O2:=O.go (lg.new (o:=.list []) Aa).mono;clear K h₁ O hK;by_cases hw:w=[]
  ·clear hl e1 O2;subst hw;have e0:=e0 rfl;refine bT rfl (lL.at_ (k2 _ s'.length _ lL.le λns=>?_));rw[←e0];clear lL;rcases s' with _|⟨x,r⟩
   ·rfl
   show (if x=34 then _ else if atC x=true then _ else Res.err (r.length+1))=_
   rw[if_neg λy=>U1 r (by rw[←e0,y]),if_neg (by rw[show atC x=false from z];exact a7)];rfl
  have Ym:=cS.mpr hw;refine bF (by clear hl e0 e1 O2 Ym;(rcases w with _|_;(exact absurd rfl hw);(rfl))) (ng (join_ones O2.hl (tD 0x101010120040432a21003 rfl hM hl AP) (k1 w s' _ lL O2.hk.exc (nn 0x101021100b1210a22 rfl hl Ym) λns=>(e1 hw ns).trans (Ud z))))
 by_cases U1:∃r,s=34::r
 ·clear atoms;obtain⟨r,rfl⟩:=U1;refine bT rfl (h.met rfl rfl (take h λσ₁ h₁ lh=>?_));have h₁:mK σ₁ c d data r:=h₁;refine Et h₁ (λw r' σ₂ lL lA JU e=>k1 w r' σ₂ lL (lh.trans lA) (gn JU) λns=>?_) λm e σ₂ he e2=>k2 m e σ₂ he λns=>?_
  ·exact e ns []
  exact e2 ns []
 refine bF ?_ ?_
 ·clear h k1 k2 atoms;rcases s with _|⟨x,r⟩
  ·rfl
  exact beq_false_of_ne λz=>U1 ⟨r,by rw[bJ z]⟩
 show lO _ _ _ _ _ _ _
 exact atoms λr z=>U1 ⟨r,z⟩
def AR{l:List NL}(h:U a=some (.list (l.map .str)))(hl:l.length<=M)(k:Q (.tup (l.map .str)) U):Sp U .tuple (.ref a) Q:=lst h ⟨J (ai ..) hl,k⟩
def Nq(h:([x]:NL).isPrefixOf (y::r)=false):y≠x:=λz=>by
 rw[z]at h;simp at h
inductive TsI(data s0 r2:NL)(c d q:Nat)(U:kO)(y:NL)(ws:List NL)(kP:kO):Prop
 |mk (h:mK kP c d data y) (O:wA U kP c d q (ws.map .str)) (hl:ws.length+y.length<=r2.length) (e:sm s0 .blank []=sm y .behind ws):TsI data s0 r2 c d q U y ws kP
def F8(h:mK U c d data s)(k1:∀ws r kP,mK kP c d data r->lg [d] U kP->ws.length<=s.length->sm s .blank []=sm r .close ws->Q (.tup (ws.map .str)) kP)
  (k2:∀m e kP,e<=data.length->sm s .blank []=.err e->E ⟨83,m,.int (data.length-e:Nat)⟩ kP):CL (n+6) 731 [.ref c] U Q E:=by
 have hM:=h.m;have AP:=h.le;refine ent (ρ:=[_,_,_,_,_]) rfl rfl rfl (need h (by decide) (λr σ₁ e h₁ lh=>need h₁ (by decide) (λr2 σ₂ e2 lL lA=>AQ lL (λw r3 lH nG lU hl3 e3 q hq=>?_) λm e4 lH he4 e5=>?_) λz m=>?_) λz m=>?_)
 ·clear h h₁;subst e;subst e2;have x13:=lh.trans (lA.trans lU);have XD:U q=.none:=by
   rcases z:U q with _|o
   ·rfl
   by_cases y:q=d
   ·rw[y,nG.e]at hq;contradiction
   rw[x13.at y z]at hq;contradiction
  have rz:wA U (lH.put q (.list [.str w])) c d q [.str w]:=⟨λz=>(by rw[←z,nG.i]at hq;contradiction),λz=>(by rw[←z,nG.e]at hq;contradiction),XD,kT,λa o e ne=>(lg.new hq).get (x13.kep a o e ne)⟩;have Ue:r2.length+2=([32]++([40]++r2)).length:=by simp
  refine wY (α:=NL×List NL) (λy=>y.1.length) (λ_=>_)
   (λy kP=>TsI data ([32]++([40]++r2)) r2 c d q U y.1 y.2 kP) ?_ (r3,[w]) ⟨nG.keep (.new hq),rz,by refine(?_:1+r3.length<=_);exact mZ 0x10101ba01011 rfl hl3,?_⟩
  ·rintro⟨s',ws⟩ mH K ⟨p_,O,hl,e⟩ hK;dsimp only at p_ O hl e hK ⊢;refine p_.met rfl rfl (skip p_ (by decide) (λr5 mL e5 sd oY=>bT rfl ?_) λz=>bF rfl (need p_ (by decide) (λr5 mL e5 sd oY=>?_) λz2 m=>?_))
   ·clear p_;subst e5;have Cf:=O.go oY;change sm ([32]++([40]++r2)) .blank []=sm r5 .begin ws at e;rw[ac,bi]at hl;refine mf Cf.hl (AQ sd (λw' r6 rh yL sq hl6 e6=>?_) λm e6 rh he6 e7=>k2 m e6 rh he6 (e.trans (e7 ws)));have Ei:=Cf.go sq;refine lst Ei.hl ⟨J (ai ..) (xm 0x10101010141351ba4a022b3a20201004 rfl hM AP Ue hl),hK (r6,ws++[w']) _ (by refine J (ac ..) ?_;refine(?_:r6.length<1+r5.length);exact mZ 0x1011ba011011 rfl hl6) ⟨wz yL Ei.hc Ei.hd,?_,?_,e.trans (e6 ws)⟩⟩
    ·have:=Ei.put (l':=(ws.map PV.str)++[.str w']);refine J (aS ..) ?_;exact this
    refine J (ac ..) ?_;refine(?_:ws.length+1+r6.length<=_);exact id (oV 0x1010231b0aa0131211ba0a02 rfl hl hl6)
   ·clear K p_ hK z;subst e5;have Cf:=O.go oY;exact AR Cf.hl (xm 0x10101010140354a022b3a20201004 rfl hM AP Ue hl) (k1 ws r5 mL sd Cf.hk.exc (oV 0x1010120032a012b0a22 rfl Ue hl) e)
   refine k2 m s'.length mH p_.le (e.trans ?_);clear K p_ hl e hK;rcases s' with _|⟨x,r5⟩
   ·rfl
   exact(if_neg (Nq z)).trans (if_neg (Nq z2))
  exact e3 []
 ·clear h k1 AP h₁;subst e;subst e2;exact k2 m e4 lH he4 (e5 [])
 ·clear h k1 AP;subst e;refine k2 m r.length σ₁ h₁.le ?_;refine(?_:sm r .Ox []=_);clear k2;clear h₁;rcases r with _|⟨x,r⟩
  ·rfl
  exact if_neg (Nq z)
 refine k2 m s.length U h.le ?_;clear h k1 k2 AP;rcases s with _|⟨x,r⟩
 ·rfl
 exact if_neg (Nq z)
def Cp(h:mK U c d data s)(Uf:60∉s)(k:Q .none U):CL (n+3) 738 [.ref c] U Q E:=
 ent (ρ:=[_,_,_,_,_]) rfl rfl rfl (h.met rfl rfl (skip h (by decide) (λr kP e _ _=>absurd (J (e ..) aj) Uf) λ_=>bT rfl k))
def Hp(h:mK U c d sec s)(Uf:60∉sec)(k1:s=[93]->∀a kP,lg [d] U kP->ph kP a ns w ws->Q (.ref a) kP)(k2:∀m e kP,e<=sec.length->sm s .close ws=.err e->E ⟨83,m,.int (sec.length-e:Nat)⟩ kP):
  lO (CL (n+4)) lF (.cons (.expr (.call (.lit (.ref 677)) (.cons (.Z 2) (.cons (.lit (.bytes [93])) .nil)))) (.cons (.asg (.name 6) (.call (.lit (.ref 738)) (.cons (.Z 2) .nil))) (.cons (.ite (.not (.val (.py (.Z 2) (ct "is_done") .nil))) (.cons (.raise 83 (ct "something stands behind the section") (.attr (.Z 2) (ct "at"))) .nil) .nil) (.cons (.ret (.call (.lit (.ref 666)) (.cons (.Z 3) (.cons (.Z 4) (.cons (.Z 5) (.cons (.Z 6) .nil)))))) .nil))))
   ([some v,o,some (.ref c),some (.tup (ns.map λx=>.int (x:Nat))),some (.str w.s),some (.tup (ws.map .str)),none,none,none,none,none,none,none,none,none,none,none,none,none,none]) U (λfl _ U=>Q fl.val U) (λe _ U=>E e U):=by
 refine need h (by decide) (λr σ₁ e h₁ lh=>Cp h₁ (λz=>Uf (h₁.s.subset z)) (h₁.met rfl rfl (tK h₁ ?_))) λz m=>k2 m s.length U h.le ?_
 ·clear h;subst e;rcases r with _|⟨x,r⟩
  ·exact bF rfl (QM λa σ₂ lA S=>k1 rfl a σ₂ (lh.trans lA.mono) S)
  exact bT rfl (h₁.at_ (k2 _ _ σ₁ h₁.le rfl))
 clear ns w h k1 k2;rcases s with _|⟨x,r⟩
 ·rfl
 exact if_neg (Nq z)
inductive RlI(s:NL)(tl:List (Option PV))(U:kO)(l:NL)(ρ:lK)(kP:kO):Prop
 |mk (j:Nat) (e:l=kA j (s.length-j)) (hj:j<=s.length) (h:∀y∈s.take j,y<=126) (o:Option PV) (hr:ρ=some (.str s)::o::tl) (hs:kP=U):RlI s tl U l ρ kP
def Hq{Q:Fl->lK->kO->Prop}{E:QR}(hm:s.length<=M)(hb:∀x∈s,x<1114112)(h1:(∀x∈s,x<=126)->∀o,Q .next (some (.str s)::o::tl) U)
  (h2:∀i x,s[i]? =some x->126<x->(∀y∈s.take i,y<=126)->∀m ρ,E ⟨83,m,.int i⟩ ρ U):
  rG (λ_=>True) (Ke (zI (CL n) lF (.name 1)) (lO (CL n) lF (.cons (.ite (.cmp .gt (.b1 .ord (.sub (.Z 0) (.Z 1))) (.lit (.int 126))) (.cons (.raise 83 (ct "a sign beyond ASCII") (.Z 1)) .nil) .nil) .nil)) E) ((cH s.length).map λi=>.int (i:Nat)) (some (.str s)::none::tl) U Q:=by
 refine RV (α:=Nat) (RlI s tl U) ?_ (λ_ _ _ _=>trivial) ?_ _ _ U ⟨0,kz,aO _,λy hy=>(nomatch hy),_,rfl,rfl⟩
 ·clear h1;rintro i r ρ kP K ⟨j,e,hj,r9,o,rfl,rfl⟩ hK _;have oX:j<s.length:=by
   rcases iT j s.length with q|q
   ·exact q
   rw[eQ q]at e;contradiction
  rw[show s.length-j=(s.length-(j+1))+1 by exact oV 0x100000100001010001b3a1201b2a3a2021a21b2a3a0021a004 rfl s2 s2 (aA (mZ 0x101001001 rfl hj)) (aA (mZ 0x1011b0a01011 rfl oX)),eR]at e;obtain⟨rfl,rfl⟩:=bw e;have hg:=aT oX;refine Uc hm hg (dC (λz=>h2 i _ hg (aH.mp z) r9 _ _) λz=>hK _ _ ⟨i+1,rfl,oX,λy hy=>?_,_,rfl,rfl⟩);rw[List.take_add_one,hg]at hy;rcases aV.mp hy with q|q
  ·exact r9 y q
  rw[Option.toList_some,aB]at q;refine J (q ..) ?_;exact cF λq=>z (aH.mpr q)
 clear E h2;rintro ρ kP ⟨j,e,hj,r9,o,rfl,rfl⟩;have:s.length-j=0:=by
  rcases z:s.length-j with _|m
  ·rfl
  rw[z,eR]at e;contradiction
 rw[bS (by exact nn 0x101021020a100b022 rfl this s2)]at r9;exact h1 r9 o
def Nr{i x:Nat}(hm:s.length<=M)(hb:∀x∈s,x<1114112)(hi:s[i]? =some x)(hx:126<x)(r9:∀y∈s.take i,y<=126)(k:∀m,E ⟨83,m,.int i⟩ U):CL (n+8) 745 [.str s] U Q E:=by
 refine ent (ρ:=[_,_,_,_,_,_,_,_,_,_,_,_,_,_,_,_,_,_,_,_]) rfl rfl rfl ⟨hm,rS hm (Hq hm hb (λh=>absurd (h x (bt hi)) (iH.mpr hx)) λi' x' hi' hx' XE m ρ=>?_)⟩;have:i'=i:=by
  have l1:=(aG.mp hi).1;have l2:=(aG.mp hi').1;rcases Nat.lt_trichotomy i' i with q|q|q
  ·exact absurd (r9 x' (bt (i:=i') (J (ed ..) (J (if_pos q ..) hi')))) (iH.mpr hx')
  ·exact q
  exact absurd (XE x (bt (i:=i) (J (ed ..) (J (if_pos q ..) hi)))) (iH.mpr hx)
 clear hi r9;subst this;exact k m
def AS{ns u r:NL}{w:Wd}(hm:s.length<=M)(hs:s=91::(k_ ns++(u++r)))(r9:∀x∈s,x<=126)(hn:∀j∈ns,Er j)(W:qO w (u++r) u r)(hw:w≠.no)
  (k1:w≠.qp\/ns≠[]->∀c d kP o,U d=.none->lg [] U kP->mK kP c d s r->lO (CL (n+7)) lF (.cons (.asg (.name 5) (.ite (.cmp .isin (.Z 4) (.lit (.tup [(.str (ct "HEADER.FIELDS")),(.str (ct "HEADER.FIELDS.NOT"))]))) (.call (.lit (.ref 731)) (.cons (.Z 2) .nil)) (.tup .nil))) (.cons (.expr (.call (.lit (.ref 677)) (.cons (.Z 2) (.cons (.lit (.bytes [93])) .nil)))) (.cons (.asg (.name 6) (.call (.lit (.ref 738)) (.cons (.Z 2) .nil))) (.cons (.ite (.not (.val (.py (.Z 2) (ct "is_done") .nil))) (.cons (.raise 83 (ct "something stands behind the section") (.attr (.Z 2) (ct "at"))) .nil) .nil) (.cons (.ret (.call (.lit (.ref 666)) (.cons (.Z 3) (.cons (.Z 4) (.cons (.Z 5) (.cons (.Z 6) .nil)))))) .nil)))))
   [some (.str s),o,some (.ref c),some (.tup (ns.map λx=>.int (x:Nat))),some (.str w.s),none,none,none,none,none,none,none,none,none,none,none,none,none,none,none] kP (λfl _ U=>Q fl.val U) (λe _ U=>E e U))
  (k2:w=.qp->ns=[]->∀m kP,lg [] U kP->E ⟨83,m,.int (s.length-(u++r).length:Nat)⟩ kP):CL (n+8) 745 [.str s] U Q E:=by
 refine ent (ρ:=[_,_,_,_,_,_,_,_,_,_,_,_,_,_,_,_,_,_,_,_]) rfl rfl rfl ⟨hm,rS hm (Hq hm (λx hx=>a8 (r9 x hx) (by decide)) (λ_ o=>?_) λi x hi hx _ m ρ=>absurd (r9 x (bt hi)) (iH.mpr hx))⟩;refine Ep hm (λx hx=>a8 (r9 x hx) (by decide)) λσ₁ lh=>AK hm (λx hx=>a8 (r9 x hx) (by decide)) λc d σ₂ hd lA lL=>need lL (by decide) (λt lH e nG lU=>?_) λz=>absurd z (by refine J (hs ..) ?_;simp);have e:t=k_ ns++(u++r):=by rw[hs]at e;exact(bw e).2.symm
 subst e;refine JC nG hn (W.hd hw).2 λmH p_ nW=>JD p_ W hw (λz mL sd oY=>?_) λz1 z2 m mL oY=>k2 z1 z2 m mL (lh.trans (.fresh hd (lA.mono.trans (lU.trans (nW.trans oY)))));refine(?_:lO _ _ _ _ _ _ _);exact k1 z c d mL o (lh.none hd) (lh.trans (.fresh hd (lA.mono.trans (lU.trans (nW.trans oY))))) sd
def Ug{w:Wd}(h:w=.fields\/w=.xg):pc (.str w.s) [.str (ct "HEADER.FIELDS"),.str (ct "HEADER.FIELDS.NOT")]=some true:=by
 rcases h with rfl|rfl<;>rfl
def F9(hm:s.length<=M)(hs:s=91::(k_ ns++(u++r)))(r9:∀x∈s,x<=126)(hn:∀j∈ns,Er j)(W:qO w (u++r) u r)(hw:w=.fields\/w=.xg)(Uf:60∉s)
  (k1:∀ws,ws.length<=r.length->sm r .blank []=.ok ws->∀a kP,lg [] U kP->ph kP a ns w ws->Q (.ref a) kP) (k2:∀m e kP,e<=s.length->sm r .blank []=.err e->E ⟨83,m,.int (s.length-e:Nat)⟩ kP):CL (n+8) 745 [.str s] U Q E:=by
 have h0:w≠.no:=by clear W k1;rcases hw with rfl|rfl<;>exact λz=>nomatch z
 have h1:w≠.qp:=by clear W k1 h0;rcases hw with rfl|rfl<;>exact λz=>nomatch z
 refine AS hm hs r9 hn W h0 (λ_ c d σ₁ o hd lh h₁=>?_) λz=>absurd z h1;refine oO (Ug hw) (bT rfl (F8 h₁ (λws r2 σ₂ lL lA hl e=>?_) λm e σ₂ he e2=>k2 m e σ₂ he e2));refine(?_:lO _ _ _ _ _ _ _);refine Hp lL Uf (λz a lH lU S=>k1 ws hl (by refine J (e ..) (J (z ..) ?_);rfl) a lH (.fresh hd (lh.mono.trans (lA.trans lU))) S) λm e2 lH he e3=>k2 m e2 lH he (e.trans e3)
def JE(hm:s.length<=M)(hs:s=91::(k_ ns++(u++[93])))(r9:∀x∈s,x<=126)(hn:∀j∈ns,Er j)(W:qO .qp (u++[93]) u [93])(Uf:60∉s)
  (k1:ns≠[]->∀a kP,lg [] U kP->ph kP a ns .qp []->Q (.ref a) kP) (k2:ns=[]->∀m kP,lg [] U kP->E ⟨83,m,.int (s.length-(u++[93]).length:Nat)⟩ kP):CL (n+8) 745 [.str s] U Q E:=by
 refine AS hm hs r9 hn W (λz=>nomatch z) (λz c d σ₁ o hd lh h₁=>?_) λ_=>k2;refine oO (r:=false) rfl (bF rfl ?_);refine(?_:lO _ _ _ _ _ _ _);refine Hp (ws:=[]) h₁ Uf (λ_ a lH lU S=>k1 (z.resolve_left λy=>y rfl) a lH (.fresh hd (lh.mono.trans lU)) S) λm e2 lH he e3=>?_;contradiction
def Nt{P1 P2:Nat->kO->Prop}(h:∀(Q1:QV) (E1:nI),(∀a kP,P1 a kP->Q1 (.ref a) kP)->(∀m i kP,P2 i kP->E1 ⟨83,m,.int (i:Nat)⟩ kP)->CL n 745 [.str s] U Q1 E1)
  (q1:∀a kP,P1 a kP->Q (.tup [.ref a,.int (-1)]) kP) (q2:∀i kP,P2 i kP->Q (.tup [.none,.int (i:Nat)]) kP):CL (n+1) 866 [.str s] U Q E:=
 ent (ρ:=[_,_,_,_]) rfl rfl rfl (h _ _ (λa kP p=>q1 a kP p) λm i kP p=>⟨rfl,ae rfl,trivial,q2 i kP p⟩)
variable {p B:Nat}{hh:NL}
noncomputable def xj(l:NL):List PV:=l.map λx=>.int (x:Nat)
structure pZ(U:kO)(p c:Nat)(hh:NL)(B:Nat):Prop where
 ne:p≠c
 al:∀a∈hh,U a≠none
 x:∃cells pB lQ,U p=some (.list [.ref c,.int (pB:Nat),.int (lQ:Nat)])/\U c=some (.list (xj cells))/\cells.length<=40/\lQ+B<=1000
def vV{l:List PV}{i:Int}{j:Nat}{K:kO->Prop}(h:U a=some (.list l))(hi:i=j)(hj:j<l.length)(hm:l.length<=M)(k:K (U.put a (.list (l.set j v)))):zH U (.ref a) (.int i) v K:=by
 subst hi;unfold zH;dsimp only[sV];refine lst h ?_;rw[show oD (j:Int) l.length=some j from by
  dsimp only[oD,eM];rw[if_neg (bD.mpr (av j))];exact if_pos (az.mpr ⟨decide_eq_true (av j),decide_eq_true (aH.mpr hj)⟩)]
 exact⟨hj,hm,k⟩
def UE(h:a=p\/a=c):lg [p,c] U (U.put a o):=λb x hb e=>(mN λz=>hb (by refine J (z ..) ?_;clear hb;rcases h with rfl|rfl<;>simp)).trans e
def Cq(h:∀a∈hh,U a≠none):∀a∈hh,(U.put b o) a≠none:=λa ha=>by
 refine(?_:(if a=b then _ else _)≠_)
 split
 ·exact λz=>nomatch z
 exact h a ha
def drawn{m:Nat}(P:pZ U p c hh (B+1))(h0:0<m)(hm:m<1000000)(k:∀r kP,r<m->pZ kP p c hh B->lg [p,c] U kP->Q (.int (r:Nat)) kP):CL (n+1) 805 [.ref p,.int (m:Nat)] U Q E:=by
 refine lr λGp gk=>?_;obtain⟨ne,al,cells,pB,lQ,h1,h2,h3,h4⟩:=P;have hz:(m:Int)≠0:=by lia
 have hl:(xj cells).length=cells.length:=ai _;have hM:cells.length<=M:=ah h3 (by decide);refine gk ?_;refine ent (ρ:=[_,_,_,_,_,_,_]) rfl rfl rfl (lst h1 (lst h2 ⟨J (hl ..) hM,dC (λz=>?_) λz=>?_⟩))
 ·have z:pB<cells.length:=by rw[hl]at z;exact aH.mp z
  have hg:(xj cells)[pB]? =some (.int (cells[pB]:Nat)):=by dsimp only[xj];refine J (bH ..) (J (aT z ..) ?_);rfl
  refine mw h2 (J (hl ..) hM) rfl hg ⟨hz,by exact bW hm (by decide),vV h2 rfl (J (hl ..) z) (J (hl ..) hM) ?_⟩;generalize hw:cells[pB]=w;have e1:((w:Nat):Int).fdiv m=((w/m:Nat):Int):=(Int.ofNat_fdiv w m).symm;have e2:((w:Nat):Int).fmod m=((w%m:Nat):Int):=(ic w m).symm;have es:(xj cells).set pB (.int (((w:Nat):Int).fdiv m))=xj (cells.set pB (w/m)):=by
   refine J (e1 ..) ?_;dsimp only[xj];exact J (List.map_set ..) rfl
  refine J (es ..) ?_;have hp:(U.put c (.list (xj (cells.set pB (w/m))))) p=some (.list [.ref c,.int (pB:Nat),.int (lQ:Nat)]):=(mN ne).trans h1;have fin:∀sp':Nat,Q (.int (((w:Nat):Int).fmod m)) ((U.put c (.list (xj (cells.set pB (w/m))))).put p (.list [.ref c,.int (sp':Nat),.int (lQ:Nat)])):=λsp'=>by
   refine J (e2 ..) ?_;exact k (w%m) _ (Nat.mod_lt _ h0) ⟨ne,Cq (Cq al),cells.set pB (w/m),sp',lQ,kT,(mN ne.symm).trans kT,J (gO ..) h3,mZ 0x103e83fb10a03e83fb1b1a0a01 rfl h4⟩ ((UE (.inr rfl)).trans (UE (.inl rfl)))
  exact dC (λ_=>vV (j:=1) hp rfl (ae rfl) (ae rfl) ⟨hz,fin (pB+1)⟩) λ_=>vV (j:=1) hp rfl (ae rfl) (ae rfl) ⟨hz,fin pB⟩
 refine vV (j:=2) h1 rfl (ae rfl) (ae rfl) ?_;have e3:(((41*(lQ:Int)*lQ+13*lQ+3).fmod 10009).fmod m)=((((41*lQ*lQ+13*lQ+3)%10009)%m:Nat):Int):=by
  rw[show (41*(lQ:Int)*lQ+13*lQ+3)=((41*lQ*lQ+13*lQ+3:Nat):Int) by simp,show ((10009:Int))=((10009:Nat):Int)from rfl,←ic,←ic]
 refine⟨by decide,by exact a8 (ah (aM ..) h4) (by decide),by exact a8 (Nat.mul_le_mul_left 41 (ah (aM ..) h4)) (by decide),by exact a8 (ah (aM ..) h4) (by decide),by decide,by exact a8 (ah (aM ..) h4) (by decide),by decide,hz,?_⟩;refine(?_:Q (.int (((41*(lQ:Int)*lQ+13*lQ+3).fmod 10009).fmod m)) _);refine J (e3 ..) ?_;exact k _ _ (Nat.mod_lt _ h0) ⟨ne,Cq al,cells,pB,lQ+1,kT,(mN ne.symm).trans h2,h3,mZ 0x103e83fb11b0aa03e83fb1b1a0a01 rfl h4⟩ (UE (.inl rfl))
noncomputable def oZ(r:Row):PV:=.tup [.str r.key,.bytes r.oct]
structure Made(U kP:kO)(r:Nat)(kR:List Row)(body:NL)(kl:Nat)(nt:PV):Prop where
 x:lg [] U kP
 f:U r=.none
 e:∃J,U J=.none/\kP J=some (.list (kR.map oZ))/\kP r=some (.list [.ref J,.bytes body,.ref kl,nt,.bytes (lk kR)])
def Nu{kR:List Row}:qU (kR.map λr=>PV.bytes r.oct)=some (kR.map Row.oct):=nQ λ_ _=>rfl
def AT(x:lg [] U σ₁)(hq:U q1=.none)(h1:σ₁ q1=some (.list (kR.map oZ)))(hl:(lJ kR).length+2<=M)(hm:kR.length<=M)(h2:σ₁ q2=some (.list (kR.map λr=>.bytes r.oct)))
  (k:∀kP r,Made U kP r kR body kl nt->Q (.ref r) kP):HQ σ₁ nu [] [.ref q2] (λv U=>OH U v (.bytes [13,10]) λw U=>HR Q [.ref q1,.bytes body,.ref kl,nt,w] U):=by
 refine tr h2 Nu (by refine(?_:(lJ kR).length<=M);exact mZ 0x1010012b0a01 rfl hl) (J (ai ..) hm) ⟨hl,λr hr=>k _ r ⟨x.trans (.new hr),x.none hr,q1,hq,?_,kT⟩⟩;exact(lg.new hr).get h1
def Nv(hl:(lJ kR).length+2<=M)(hm:kR.length<=M)(k:∀kP r,Made U kP r kR body kl nt->Q (.ref r) kP):CL (n+1) 810 [.tup (kR.map oZ),.bytes body,.ref kl,nt] U Q E:=by
 refine ent (ρ:=[_,_,_,_,_]) rfl rfl rfl ⟨J (ai ..) hm,λq1 CH=>oM (zf (f:=oZ) (g:=λr=>.bytes r.oct) hm (λr hr σ₁ K x k=>bT rfl (k σ₁ .rfl)) λσ₂ q2 lA h2=>?_)⟩;exact AT ((lg.new CH).trans lA) CH (lA.get kT) hl hm h2 k
def Nw(h0:U q0=some (.list (kR.map oZ)))(hl:(lJ kR).length+2<=M)(hm:kR.length<=M)(k:∀kP r,Made U kP r kR body kl nt->Q (.ref r) kP):CL (n+1) 810 [.ref q0,.bytes body,.ref kl,nt] U Q E:=by
 refine ent (ρ:=[_,_,_,_,_]) rfl rfl rfl (lst h0 ⟨J (ai ..) hm,λq1 CH=>oM ?_⟩);have h0':=(lg.new (o:=.list (kR.map oZ)) CH).get h0;refine rR h0' (J (ai ..) hm) (xH (σ₀:=U.put q1 (.list (kR.map oZ))) (f:=oZ) (g:=λr=>[PV.bytes r.oct]) (λkP x=>x.get h0') kR [] _ _ (λr hr σ₁ K x k=>bT rfl (k σ₁ .rfl)) .rfl λσ₂ lA=>⟨?_,λq2 Aa=>?_⟩)
 ·exact J (bc ..) (J (ze ..) (J (ai ..) hm))
 rw[bc,ze]at*;exact AT ((lg.new CH).trans (lA.trans (.new Aa))) CH ((lA.trans (.new Aa)).get kT) hl hm kT k
noncomputable def qh(p c:Nat)(hh:NL)(U:kO):kO:=λa=>if a=p\/a=c\/a∈hh then .none else U a
def pj{o:MO}(h:a≠p/\a≠c/\a∉hh)(e:U a=some o):qh p c hh U a=some o:=(if_neg λz=>by
 rcases z with z|z|z
 ·exact h.1 z
 ·exact h.2.1 z
 exact h.2.2 z).trans e
def pM{o:MO}(h:qh p c hh U a=some o):(a≠p/\a≠c/\a∉hh)/\U a=some o:=by
 unfold qh at h
 split at h
 ·contradiction
 rename_i z;exact⟨⟨λy=>z (.inl y),λy=>z (.inr (.inl y)),λy=>z (.inr (.inr y))⟩,h⟩
def mq(x:lg [p,c] U kP):lg [] (qh p c hh U) (qh p c hh kP):=λa o _ e=>by
 obtain⟨h1,h3⟩:=pM e;exact pj h1 (x a o (by simp[h1.1,h1.2.1]) h3)
def Cr:lg [] (qh p c hh U) U:=λa o _ e=>(pM e).2
def pZ.fresh(P:pZ U p c hh B)(h:U a=.none):a≠p/\a≠c/\a∉hh:=by
 refine lr λGp gk=>?_;obtain⟨_,al,cells,pB,lQ,h1,h2,_⟩:=P;refine gk ?_;exact⟨λz=>(by rw[z,h1]at h;contradiction),λz=>(by rw[z,h2]at h;contradiction),λz=>al a z h⟩
def pZ.keep(P:pZ U p c hh B)(x:lg [] U kP):pZ kP p c hh B:=by
 refine lr λGp gk=>?_;obtain⟨ne,al,cells,pB,lQ,h1,h2,h3⟩:=P;refine gk ?_;exact⟨ne,λa ha z=>al a ha (x.none z),cells,pB,lQ,x.get h1,x.get h2,h3⟩
inductive NX(τ:kO)(kR:List Row)(body:NL)(P1 P2 P3:List PV->Prop)(l:List PV):Prop where
 |mk (r:Nat) (l':List PV) (J kl:Nat) (kv:List PV) (nt:PV) (e:l=.ref r::l') (h:τ r=some (.list [.ref J,.bytes body,.ref kl,nt,.bytes (lk kR)])) (hr:τ J=some (.list (kR.map oZ))) (hk:τ kl=some (.list kv)) (nr:NR nt) (k1:P1 kv) (k2:P2 (vN nt)) (k3:P3 l')
noncomputable def o_(τ:kO):Nd->List PV->Prop
 |.nil,l=>l=[]
 |.cons kR body kW kS kY,l=>NX τ kR body (o_ τ kW) (o_ τ kS) (o_ τ kY) l
theorem o_.keep{τ UZ:kO}(x:lg [] τ UZ):∀{F:Nd}{l:List PV},o_ τ F l->o_ UZ F l
 |.nil,l,h=>h
 |.cons kR body kW kS kY,l,h=>by
  rcases h with⟨r,l',J,kl,kv,nt,e,h,hr,hk,nr,k1,k2,k3⟩
  ·exact⟨r,l',J,kl,kv,nt,e,x.get h,x.get hr,x.get hk,nr,o_.keep x k1,o_.keep x k2,o_.keep x k3⟩
structure Out(U kP:kO)(p c:Nat)(hh:NL)(B:Nat)(F:Nd)(r:Nat):Prop where
 P:pZ kP p c hh B
 x:lg [p,c] U kP
 N:o_ (qh p c hh kP) F [.ref r]
def Made.out{r kl:Nat}{kR:List Row}{body:NL}{nt:PV}{kW kS:Nd}{kv:List PV}(m:Made U kP r kR body kl nt)(P:pZ U p c hh B)(hk:qh p c hh U kl=some (.list kv))(nr:NR nt)(k1:o_ (qh p c hh U) kW kv)(k2:o_ (qh p c hh U) kS (vN nt)):Out U kP p c hh B (.cons kR body kW kS .nil) r:=by
 refine lr λGp gk=>?_;obtain⟨J,f2,e1,e2⟩:=m.e;have x:=mq (p:=p) (c:=c) (hh:=hh) m.x.mono;refine gk ?_;exact⟨P.keep m.x,m.x.mono,r,[],J,kl,kv,nt,rfl,pj (P.fresh m.f) e2,pj (P.fresh f2) e1,x.get hk,nr,k1.keep x,k2.keep x,rfl⟩
def vR{α:Type}{L:List α}{f:α->PV}{r:Nat}(h:r<L.length)(hm:cr (L.map f).length M=true)(k:∀x,x∈L->K (f x)):rF U (.tup (L.map f)) (.int (r:Nat)) K:=by
 have hg:=aT h;exact Jj (az.mpr ⟨hm,decide_eq_true (av r)⟩) (by refine J (dA ..) (J (bH ..) (J (hg ..) ?_));rfl) (k _ (gB h))
noncomputable def zk:NL:=[67,111,110,116,101,110,116,45,84,121,112,101]
noncomputable def Cs:Row:=⟨zk,[32,116,101,120,116,47,104,116,109,108],[]⟩
noncomputable def Ny:Row:=⟨[99,111,110,116,101,110,116,45,84,89,80,69],[32,73,109,97,103,101,47,80,78,71,59],[[32,110,97,109,101,61,120]]⟩
noncomputable def Nz:Row:=⟨[88,45,97],[32,49],[]⟩
noncomputable def wB:List (List Row):=[[],[Cs],[Ny,Nz]]
noncomputable def xI:List NL:=[[],[120],[97,13,10,98,13,10],[45,45,13,10],[13,10,13,10,122],[61,109,65,13,10,45,45,61,109],[84,111,58,32,113,13,10,13,10,118,10]]
def AU:wB.all (λrs=>cr ((lJ rs).length+2) 100&&cr rs.length 2)=true:=rfl
def leaf(P:pZ U p c hh (B+2))(k:∀kP r rs b,rs∈wB->b∈xI->Out U kP p c hh B (.cons rs b .nil .nil .nil) r->Q (.ref r) kP):CL (n+2) 817 [.ref p] U Q E:=by
 refine ent (ρ:=[_,_,_,_,_,_]) rfl rfl rfl (drawn P (by decide) (by decide) λi σ₁ hi qH lh=>vR (L:=wB) (f:=λrs=>.tup (rs.map oZ)) hi rfl λrs U2=>?_);refine lw (aC.mp AU rs U2) λl1 l2=>?_;have l1:=ae l1;have l2:=ae l2;refine drawn qH (by decide) (by decide) λj σ₂ hj pK lA=>vR (L:=xI) (f:=PV.bytes) hj rfl λb hb q hq=>?_;have x3:=lg.new (o:=.list []) hq;refine Nv (ah l1 (by decide)) (ah l2 (by decide)) λmH r m=>?_;have O:=m.out (kW:=.nil) (kS:=.nil) (kv:=[]) (pK.keep x3) (pj (pK.fresh hq) kT) trivial rfl rfl;exact k mH r rs b U2 hb ⟨O.P,lh.trans (lA.trans (x3.mono.trans O.x)),O.N⟩
noncomputable def su:Row:=⟨zk,[32,109,101,115,115,97,103,101,47,114,102,99,56,50,50],[]⟩
noncomputable def oB(m:NL):Row:=⟨zk,[32,109,117,108,116,105,112,97,114,116,47,109,105,120,101,100,59,32,98,111,117,110,100,97,114,121,61,34]++(m++[34]),[]⟩
def around{q:Nat}{kR:List Row}{body:NL}{kW kS:Nd}(P:pZ U p c hh B)(N:o_ (qh p c hh U) (.cons kR body kW kS .nil) [.ref q])(hl:(lk kR).length+body.length<=M)
  (k:∀kP r,Out U kP p c hh B (.cons [su] (lk kR++body) .nil (.cons kR body kW kS .nil) .nil) r->Q (.ref r) kP):CL (n+2) 838 [.ref q] U Q E:=by
 have N0:=N;rcases N with⟨r,l',J,kl,kv,nt,e,h,hr,hk,nr,k1,k2,k3⟩
 ·clear k3;rcases e with _|_
  have hq:=(pM h).2;refine ent (ρ:=[_,_]) rfl rfl rfl λq0 XD=>?_;have x0:=lg.new (o:=.list [oZ su]) XD;have y0:=mq (p:=p) (c:=c) (hh:=hh) x0.mono;refine mw (j:=4) (x0.get hq) (ae rfl) rfl rfl (mw (j:=1) (x0.get hq) (ae rfl) rfl rfl ⟨hl,λq1 CH=>?_⟩);have x1:=lg.new (o:=.list []) CH;have x01:=x0.trans x1;have P1:=(P.keep x0).keep x1;refine Nw (kR:=[su]) (x1.get kT) (ae rfl) (ae rfl) λmH r m=>?_;have y1:=mq (p:=p) (c:=c) (hh:=hh) x01.mono;have O:=m.out (kW:=.nil) (kS:=.cons kR body kW kS .nil) (kv:=[]) P1 (pj ((P.keep x0).fresh CH) kT) trivial rfl (N0.keep y1);exact k mH r ⟨O.P,x01.mono.trans O.x,O.N⟩
noncomputable def QS:Row:=⟨[70,114,111,109],[32,97,64,120],[]⟩
noncomputable def Uh:Row:=⟨[84,79],[],[[32,98,64,121]]⟩
noncomputable def XF:Row:=⟨[120,34,81],[32,49],[]⟩
noncomputable def XG:Row:=⟨[88,45,65],[32,233],[]⟩
noncomputable def Ui:Row:=⟨[116,111],[32,99,64,122],[]⟩
noncomputable def ry:List Row:=[QS,Uh,XF,XG,Ui]
def tP{l:List PV}{x y:PV}{i j:Nat}(hm:l.length<=M)(hx:nF l.length 0 x=some i)(hy:nF l.length l.length y=some j)(k:Q (.tup (cut l i j)) U):mS U (.tup l) x y Q:=by
 unfold mS;refine(?_:lv (nF l.length 0 x) λa=>lv (nF l.length l.length y) λb=>l.length<=M/\Q (.tup (cut l a b)) U);refine J (hx ..) ?_;refine(?_:lv (nF l.length l.length y) _);refine J (hy ..) ?_;exact⟨hm,k⟩
def Ct{α β:Type}{g:α->β}{l:List α}{i j:Nat}:cut (l.map g) i j=(cut l i j).map g:=by
 unfold cut;exact rr (jM ..) (rr (ir ..) rfl)
def xJ{α:Type}{l:List α}{i j:Nat}:(cut l i j).Sublist l:=(gc _ _).trans (eE _ _)
def tz{l m:List Row}:lJ (l++m)=lJ l++lJ m:=by unfold lJ;rw[aS,fE]
def NA:ry.all (λf=>cr f.oct.length 20)=true:=rfl
def AV:∀{fs:List Row},(∀f∈fs,f∈ry)->(lJ fs).length<=20*fs.length:=by
 intro z9
 induction z9 with
 |nil=>
  intro _;exact aF _
 |cons f fs ih=>
  intro h;refine J (mu ..) (J (ac ..) (J (au ..) (J (Nat.mul_succ ..) (J (ck ..) ?_))));exact cj (ih λg hg=>h g (ay _ hg)) (ae (aC.mp NA f (h f aj)))
def F_{q:Nat}{kR:List Row}{body:NL}{kW kS:Nd}(P:pZ U p c hh (B+2))(N:o_ (qh p c hh U) (.cons kR body kW kS .nil) [.ref q])(hl:(lJ kR).length<=10000)(hm:kR.length<=10000)
  (k:∀kP r fs,(∀f∈fs,f∈ry)->fs.length<=10->Out U kP p c hh B (.cons (fs++kR) body kW kS .nil) r->Q (.ref r) kP):CL (n+2) 831 [.ref p,.ref q] U Q E:=by
 rcases N with⟨r,l',J,kl,kv,nt,e,h,hr,hk,nr,k1,k2,k3⟩
 ·clear k3;rcases e with _|_
  refine ent (ρ:=[_,_,_,_,_,_,_,_]) rfl rfl rfl (drawn P (by decide) (by decide) λi σ₁ hi qH lh=>drawn qH (by decide) (by decide) λj σ₂ hj pK lA=>?_);have y:=mq (hh:=hh) (lh.trans lA);have h2:=(pM (y.get h)).2;have xE:=(pM (y.get hr)).2;refine tP (l:=ry.map oZ) (by decide) rfl rfl (tP (l:=ry.map oZ) (by decide) rfl rfl ?_);rw[Ct,Ct];have hA:∀{x y},(∀f∈cut ry x y,f∈ry)/\(cut ry x y).length<=5:=⟨λf hf=>xJ.subset hf,xJ.length_le⟩;generalize hA1:cut ry _ _=A1;generalize hA2:cut ry _ _=A2;have a1:=hA1▸ @hA _ _;have a2:=hA2▸ @hA _ _;have e12:A1.map oZ++A2.map oZ=(A1++A2).map oZ:=(aS ..).symm;refine⟨by rw[ai,ai];exact ah (cj a1.2 a2.2) (by decide),?_⟩;rw[e12];have l12:(A1++A2).length<=10:=by rw[ac];exact cj a1.2 a2.2
  refine tP (by rw[ai];exact ah l12 (by decide)) rfl rfl ?_;rw[Ct];generalize hf:cut (A1++A2) _ _=fs;have f1:∀f∈fs,f∈ry:=λf hf'=>by
   rw[←hf]at hf';rcases aV.mp (xJ.subset hf')with z|z
   ·exact a1.1 f z
   exact a2.1 f z
  have f2:fs.length<=10:=rr (hf ..) (ah xJ.length_le l12);refine mw (j:=0) h2 (ae rfl) rfl rfl (lst xE ⟨by rw[ai];exact ah hm (by decide),⟨by rw[ai,ai];exact ah (cj f2 hm) (by decide),?_⟩⟩);refine rr (aS ..) ?_;refine mw (j:=1) h2 (ae rfl) rfl rfl (mw (j:=2) h2 (ae rfl) rfl rfl (mw (j:=3) h2 (ae rfl) rfl rfl (Nv ?_ ?_ λmH r m=>?_)))
  ·rw[tz,ac];have:=AV f1;have hM:M=16777216:=rfl;exact oV 0x10142f0110032b02aa010000007fb321142fd20ab1027104fb004 rfl hl f2 this hM
  ·rw[ac];exact ah (cj f2 hm) (by decide)
  have O:=m.out pK (y.get hk) nr (k1.keep y) (k2.keep y);exact k mH r fs f1 f2 ⟨O.P,(lh.trans lA).trans O.x,O.N⟩
noncomputable def zl:List NL:=[[],[108,101,97,100,13,10]]
noncomputable def tA:List NL:=[[45,45],[45,45,13,10],[45,45,32,13,10,112,111,115,116]]
def Cu:x++lC m (.cons kR body kW kS kY)=(((((x++[45,45])++m)++[13,10])++lk kR)++body)++[13,10]++lC m kY:=by
 refine(?_:x++(45::45::(m++(mv++(lk kR++(body++(mv++lC m kY))))))=_);simp[mv]
def QT:oZ (oB m)=.tup [.str Ci,.bytes ([67,111,110,116,101,110,116,45,84,121,112,101,58,32,109,117,108,116,105,112,97,114,116,47,109,105,120,101,100,59,32,98,111,117,110,100,97,114,121,61,34]++m++[34,13,10])]:=by
 dsimp only[oZ];rw[show (oB m).key=Ci from rfl,show (oB m).oct=[67,111,110,116,101,110,116,45,84,121,112,101,58,32,109,117,108,116,105,112,97,114,116,47,109,105,120,101,100,59,32,98,111,117,110,100,97,114,121,61,34]++m++[34,13,10] by
  dsimp only[Row.oct,Row.tl,oB,zk,mv];simp]
def Hr:(lJ [oB m]).length+2=m.length+46:=by
 refine J (mu ..) (J (ac ..) (J (Row.tN ..) ?_));simp[oB,zk,sQ,lJ];exact sR 0x2a2fb0a1b1b1b1b1b1b1b1b1b1b1b1b1b1b1b1b1b1b1b1b1b1b1b1b1b1b1b1b1b0aaaaaaaaaaaaaaaaaaaaaaaaaaaaadba20 rfl
def QU(tl:NL)(h:tl∈tA):tl.length<=9:=by
 have:tA.all (λl=>cr l.length 9)=true:=rfl;exact ae (aC.mp this tl h)
inductive MuI(p c kl:Nat)(hh m lead:NL)(F:Nd)(σ₁:kO)(l:List PV)(ρ:lK)(kP:kO):Prop
 |mk (hs:kP=σ₁) (G:Nd) (x:NL) (o:Option PV) (N:o_ (qh p c hh σ₁) G l) (e:x++lC m G=lead++lC m F) (hr:ρ=[some (.ref p),some (.bytes m),some (.ref kl),some (.bytes x),o,none,none]):MuI p c kl hh m lead F σ₁ l ρ kP
theorem zd(P:pZ U p c hh (B+2))(hk:qh p c hh U kl=some (.list kv))(N:o_ (qh p c hh U) F kv)(hm:m.length=3)(hF:(lC m F).length<=100000)(XH:kv.length<=M)
  (k:∀kP r lead tl,lead∈zl->tl∈tA->Out U kP p c hh B (.cons [oB m] (lead++(lC m F++(45::45::(m++tl)))) F .nil .nil) r->Q (.ref r) kP):CL (n+2) 824 [.ref p,.bytes m,.ref kl] U Q E:=by
 have hM:M=16777216:=rfl;refine ent (ρ:=[_,_,_,_,_,_,_]) rfl rfl rfl (drawn P (by decide) (by decide) λi σ₁ hi qH lh=>vR (L:=zl) (f:=PV.bytes) hi rfl λlead R7=>?_);have y:=mq (hh:=hh) lh;have GL:=(pM (y.get hk)).2;have N1:=N.keep y;have Ls:lead.length<=6:=by
  have:zl.all (λl=>cr l.length 6)=true:=rfl;exact ae (aC.mp this lead R7)
 refine rP GL XH (MY (MuI p c kl hh m lead F σ₁) ?_ (λl ρ kP h=>by obtain⟨e,_⟩:=h;exact J (e ..) GL) ?_ kv _ σ₁ ⟨rfl,F,lead,none,N1,rfl,rfl⟩)
 ·clear qH lh y GL N1;rintro q r ρ kP K ⟨rfl,G,x,o,NG,e,rfl⟩ hK _;rcases G with _|⟨kR,body,kW,kS,kY⟩
  ·contradiction
  rcases NG with⟨r',l',J,Ua,kv',nt,e2,h,hr,S2,nr,k1,k2,k3⟩
  ·rcases e2 with _|_;have hq:=(pM h).2;rw[Cu]at e;have el:=congrArg aZ e;simp only[ac,au,bA]at el;have lb:∀{X Y:NL},X.length+Y.length<=100006->X.length+Y.length<=M:=λh=>nn 0x10010021a0186a65fb21a010000007fb022 rfl hM h;refine⟨lb ?_,⟨lb ?_,⟨lb ?_,mw (j:=4) hq (ae rfl) rfl rfl ⟨lb ?_,mw (j:=1) hq (ae rfl) rfl rfl ⟨lb ?_,⟨lb ?_,hK _ _ ⟨rfl,kY,_,_,k3,e,rfl⟩⟩⟩⟩⟩⟩⟩
   all_goals simp only[ac,au,bA]
   exact J7 0x101010186a65fb1b1b0baa2a001a61b1b0baa541b1b0baa31b1b0baa2aaaaaaa26b10186a05fb003 rfl hF Ls el;exact J7 0x101010186a65fb31b1b0baa2aa001a61b1b0baa541b1b0baa31b1b0baa2aaaaaaa26b10186a05fb003 rfl hF Ls el;exact J7 0x101010186a65fb1b1b0baa31b1b0baa2aaa001a61b1b0baa541b1b0baa31b1b0baa2aaaaaaa26b10186a05fb003 rfl hF Ls el;exact J7 0x101010186a65fb41b1b0baa31b1b0baa2aaaa001a61b1b0baa541b1b0baa31b1b0baa2aaaaaaa26b10186a05fb003 rfl hF Ls el;exact J7 0x101010186a65fb541b1b0baa31b1b0baa2aaaaa001a61b1b0baa541b1b0baa31b1b0baa2aaaaaaa26b10186a05fb003 rfl hF Ls el;exact J7 0x101010186a65fb1b1b0baa541b1b0baa31b1b0baa2aaaaaa001a61b1b0baa541b1b0baa31b1b0baa2aaaaaaa26b10186a05fb003 rfl hF Ls el
 clear GL N1;rintro ρ kP ⟨rfl,G,x,o,NG,e,rfl⟩
 induction G with
 |cons kR body kW kS kY=>induction NG with|mk r' l' J Ua kv' nt e2=>contradiction
 |nil=>
  have e:x=lead++lC m F:=(aJ x).symm.trans e;have el:=congrArg aZ e;rw[ac]at el;have lb:∀{X Y:NL},X.length+Y.length<=100100->X.length+Y.length<=M:=λh=>nn 0x10010021a0187045fb21a010000007fb022 rfl hM h;refine⟨lb ?_,⟨lb ?_,drawn qH (by decide) (by decide) λj σ₂ hj pK lA=>vR (L:=tA) (f:=PV.bytes) hj rfl λtl htl=>⟨lb ?_,⟨lb ?_,⟨lb ?_,λq0 XD=>Nw (kR:=[oB m]) (kT.trans (congrArg (λv=>some (MO.list [v])) QT.symm)) ?_ (ae rfl) λmH r md=>?_⟩⟩⟩⟩⟩
  ·simp only[au,bA];exact nn 0x101010187045fb1b1b0baa2a001a226b10186a05fb003 rfl hF Ls el
  ·simp only[ac,au,bA];exact oV 0x10101010187045fb01b1b0baa3aa012a326b20186a05fb103b024 rfl hm hF Ls el
  ·have:=QU tl htl;simp only[ac,au,bA];exact tD 0x1010101010187045fb401b1b0baa3aaa09b4012a326b20186a05fb103b025 rfl hm hF Ls el this
  ·simp only[au,bA];lia
  ·simp only[ac,au,bA];lia
  ·refine J (Hr ..) (J (hm ..) ?_);decide
  have x3:=lg.new (o:=.list [.tup [.str Ci,.bytes ([67,111,110,116,101,110,116,45,84,121,112,101,58,32,109,117,108,116,105,112,97,114,116,47,109,105,120,101,100,59,32,98,111,117,110,100,97,114,121,61,34]++m++[34,13,10])]]) XD;have y2:=y.trans ((mq (hh:=hh) lA).trans (mq (hh:=hh) x3.mono));have O:=md.out (kW:=F) (kS:=.nil) (kv:=kv) (pK.keep x3) (y2.get hk) trivial (N.keep y2) rfl;have eb:x++[45,45]++m++tl=lead++(lC m F++(45::45::(m++tl))):=by refine J (e ..) ?_;simp
  rw[eb]at O;exact k mH r lead tl R7 htl ⟨O.P,lh.trans (lA.trans (x3.mono.trans O.x)),O.N⟩
variable {τ:kO}
noncomputable def Nd.len:Nd->Nat
 |.nil=>0
 |.cons _ _ _ _ kY=>kY.len+1
noncomputable def Nd.slim:Nd->Prop
 |.nil=>True
 |.cons _ _ kW kS kY=>kW.len<=3/\kW.slim/\kS.slim/\kY.slim
noncomputable abbrev pP(l:NL):List PV:=l.map λx=>.int (x:Nat)
inductive Uj(τ:kO)(F:Nd)(w:Bool)(base:NL)(v:PV):Prop where
 |mk (ns:NL) (r:Nat) (e:v=.tup [.tup (pP (base++ns)),.ref r]) (h0:ns≠[]) (hf:∀j∈ns,Er j) (hl:(base++ns).length<=1000) (hN:o_ τ (u7 F w ns) [.ref r])
inductive UF(F:Nd)(w:Bool)(base:NL)(v:PV):Prop where
 |mk (ns:NL) (j r:Nat) (e:v=.tup [.tup (pP (base++(ns++[j]))),.ref r]) (hf:Er (j+1)) (hl:(base++(ns++[j])).length<=1000) (hN:u7 F w (ns++[j+1])=.nil)
structure uV(τ:kO)(F:Nd)(w:Bool)(base:NL)(e:Prop)(L:List PV):Prop where
 a:∀v∈L,Uj τ F w base v
 z:∀v,L.getLast?=some v->e->UF F w base v
def PT(τ:kO)(w:Bool)(kR:List Row)(body:NL)(kW kS:Nd):Prop:=∀(U:kO) (Q:QV) (E:nI) (n r:Nat) (base:NL),lg [] τ U->o_ τ (.cons kR body kW kS .nil) [.ref r]->2*(1+max kW.dep kS.dep)+w.toNat<=n->base.length+(2*(1+max kW.dep kS.dep)+w.toNat)<=1000->Nd.num (.cons kR body kW kS .nil)<=10000->Nd.slim (.cons kR body kW kS .nil)->
 (∀kP l L,lg [] U kP->U l=.none->kP l=some (.list L)->L.length+1<=Nd.num (.cons kR body kW kS .nil)+w.toNat->(w=true->L≠[])->uV τ (.cons kR body kW kS .nil) w base True L->Q (.ref l) kP)->CL n 852 [.ref r,.tup (pP base),.bool w] U Q E
noncomputable def QW(τ:kO)(w:Bool):Nd->Prop
 |.nil=>True
 |.cons kR body kW kS kY=>PT τ w kR body kW kS/\QW τ w kY
def o_.tO(h:o_ τ .nil (vN v)):v=.none:=by
 change vN v=[]at h;rcases v with _|_<;>first|rfl|contradiction
def o_.qN(h:o_ τ (.cons kR body kW kS kY) (vN v)):∃q,v=.ref q/\kY=.nil/\o_ τ (.cons kR body kW kS kY) [.ref q]:=by
 have h0:=h;rcases h with⟨p,l',J,kl,kv,nt,e,h,hr,hk,nr,k1,k2,k3⟩
 ·rcases v with _|_<;>rcases e with _|_
  rcases kY with _|⟨r2,b2,k2,i2,t2⟩
  ·exact⟨p,rfl,rfl,h0⟩
  (rcases k3 with⟨p,l',J,kl,kv,nt,e⟩;(contradiction))
def Eu{K:List PV->(kO->Prop)->Prop}(h:U a=some (.list l))(hm:l.length<=M)(k:K ((l.zipIdx 0).map λp=>.tup [.int (p.2:Nat),p.1]) λkP=>kP a=some (.list l)):lT U .enum (.ref a) K:=by
 unfold lT;exact lst h ⟨hm,k⟩
def Cv{F G:Nd}{w:Bool}{i:Nat}{ns:NL}{kR:List Row}{body:NL}{kW kS kY:Nd}(h:qM (qL F w) i=.cons kR body kW kS kY):u7 F w ((i+1)::ns)=u7 (.cons kR body kW kS kY) false ns:=by
 show (match qM (qL F w) i with
  |.nil=>Nd.nil
  |.cons kR body kW kS kY=>u7 (.cons kR body kW kS kY) false ns)=_
 exact J (h ..) rfl
def NB{F:Nd}{w:Bool}{i:Nat}{ns:NL}(h:qM (qL F w) i=.nil):u7 F w ((i+1)::ns)=.nil:=by
 show (match qM (qL F w) i with
  |.nil=>Nd.nil
  |.cons kR body kW kS kY=>u7 (.cons kR body kW kS kY) false ns)=_
 exact J (h ..) rfl
def NC{L L2:List PV}{x:PV}:((L++[x])++L2).getLast?=some v->(L2=[]/\v=x)\/L2.getLast?=some v:=by
 intro h;rcases cJ L2 with rfl|⟨l,y,rfl⟩
 ·rw[aJ,cw]at h;exact .inl ⟨rfl,(af h).symm⟩
 rw[cK]at h ⊢;rw[←ao,cw]at h;refine J (cw ..) ?_;exact .inr h
def uV.turn{F:Nd}{w:Bool}{base:NL}{L L2:List PV}{i r:Nat}{kR:List Row}{body:NL}{kW kS kY:Nd}{e:Prop}(P:uV τ F w base e L)(hn:qM (qL F w) i=.cons kR body kW kS .nil)(hN:o_ τ (.cons kR body kW kS .nil) [.ref r])(hi:i<3)(hl:(base++[i+1]).length<=1000)
  (P2:uV τ (.cons kR body kW kS .nil) false (base++[i+1]) True L2):uV τ F w base (qM (qL F w) (i+1)=.nil) ((L++[.tup [.tup (pP (base++[i+1])),.ref r]])++L2):=by
 have hfi:Er (i+1):=⟨cB i,sR 0x109b1b0a03b011 rfl hi⟩;refine⟨λv hv=>?_,λv hv he=>?_⟩
 ·rcases aV.mp hv with z|z
  ·rcases aV.mp z with z|z
   ·exact P.a v z
   refine J (aB.mp z ..) ?_;exact⟨[i+1],r,rfl,(λz=>nomatch z),λj hj=>J (aB.mp hj ..) hfi,hl,J (Cv (G:=.nil) hn ..) hN⟩
  obtain⟨ns,r',e',h0,hf,yu,hN'⟩:=P2.a v z;exact⟨(i+1)::ns,r',by refine J (e' ..) (J (ao ..) ?_);rfl,(λz=>nomatch z),λj hj=>by rcases aU.mp hj with z|z;exact J (z ..) hfi;exact hf j z,by rw[ao]at yu;exact yu,J (Cv (G:=.nil) hn ..) hN'⟩
 rcases NC hv with⟨rfl,rfl⟩|z
 ·exact⟨[],i+1,r,rfl,⟨cB _,sR 0x109b1b1b0aa03b011 rfl hi⟩,hl,NB he⟩
 obtain⟨ns,j,r',e',hf,yu,hN'⟩:=P2.z v z trivial;exact⟨(i+1)::ns,j,r',by refine J (e' ..) (J (ao ..) ?_);rfl,hf,by rw[ao]at yu;exact yu,J (cV ..) (J (Cv (G:=.nil) hn ..) hN')⟩
def JF{x:PV}{l:List PV}{i:Nat}:(x::l).zipIdx i=(x,i)::l.zipIdx (i+1):=rfl
theorem Cw{F:Nd}:∀{G:Nd}{l:List PV},o_ τ G l->l.length=G.len
 |.nil,l,h=>by subst h;rfl
 |.cons kR body kW kS kY,l,h=>by
  rcases h with⟨p,l',J,kl,kv,nt,e,h,hr,hk,nr,k1,k2,k3⟩
  ·rw[e,au,Cw (F:=F) k3];rfl
inductive PL(τ σ₀:kO)(H F:Nd)(w:Bool)(base:NL)(r la:Nat)(l:List PV)(ps:List (PV×Nat))(ρ:lK)(kP:kO):Prop
 |mk (l':List PV) (i:Nat) (G:Nd) (x4 x5:Option PV) (fl:Nat) (L:List PV) (e1:ps=l'.zipIdx i) (NG:o_ τ G l') (hn:∀j,qM H (i+j)=qM G j) (PG:QW τ false G) (dG:G.dep<=H.dep) (sG:G.slim) (iG:i+G.len<=3) (LG:L.length+G.num<=H.num) (ne:l'≠l->L≠[]) (y1:lg [] σ₀ kP) (V5:kP la=some (.list l)) (x1:lg [] τ kP) (hf:σ₀ fl=.none) (R8:kP fl=some (.list L)) (P:uV τ F w base (G=.nil) L)
  (e:ρ=[some (.ref r),some (.tup (pP base)),some (.bool w),some (.ref fl),x4,x5,none,none]):PL τ σ₀ H F w base r la l ps ρ kP
theorem zm{H:Nd}{F:Nd}{w:Bool}{base:NL}{r la fl:Nat}{l:List PV}{N:Nat}{σ₀:kO}(x0:lg [] τ U)(V5:U la=some (.list l))(hN:o_ τ H l)(hP:QW τ false H)(hH:H=qL F w)(hd:2*H.dep<=n)(hb:base.length+1+2*H.dep<=1000)(hlen:H.len<=3)(XI:H.slim)(vQ:H.num<=10000)(R8:U fl=some (.list []))(hf0:σ₀ fl=.none)(y0:lg [] σ₀ U)
  (k:∀kP l' L,lg [] σ₀ kP->σ₀ l'=.none->kP l'=some (.list L)->L.length<=H.num->(l≠[]->L≠[])->uV τ F w base True L->Q (.ref l') kP):
  rG (λkP=>kP la=some (.list l)) (Ke (zI (CL n) lF (.tup (.cons (.name 4) (.cons (.name 5) .nil)))) (lO (CL n) lF (.cons (.asg (.name 3) (.bin .add (.bin .add (.Z 3) (.list (.cons (.tup (.cons (.bin .add (.Z 1) (.tup (.cons (.bin .add (.Z 4) (.lit (.int 1))) .nil))) (.cons (.Z 5) .nil))) .nil))) (.call (.lit (.ref 852)) (.cons (.Z 5) (.cons (.bin .add (.Z 1) (.tup (.cons (.bin .add (.Z 4) (.lit (.int 1))) .nil))) (.cons (.lit (.bool false)) .nil)))))) .nil)) λe ρ U=>E e U)
   ((l.zipIdx 0).map λp=>.tup [.int (p.2:Nat),p.1]) [some (.ref r),some (.tup (pP base)),some (.bool w),some (.ref fl),none,none,none,none] U (Bl (lO (CL n) lF (.cons (.ret (.Z 3)) .nil)) (λfl _ U=>Q fl.val U) λe _ U=>E e U):=by
 refine RV (I:=PL τ σ₀ H F w base r la l) ?_ ?_ ?_ (l.zipIdx 0) _ U
  ⟨l,0,H,_,_,fl,[],rfl,hN,λj=>by rw[bV],hP,aF _,XI,by rw[bV];exact hlen,db (bV _),λz=>absurd rfl z,y0,V5,x0,hf0,R8,⟨λv hv=>(nomatch hv),λv hv=>(nomatch hv)⟩,rfl⟩
 ·rintro⟨x,i⟩ r' ρ σ₁ K ⟨l',i0,G,x4,x5,fl,L,e1,NG,hn,PG,dG,sG,iG,LG,ne,y1,XJ,x1,hf1,Uk,PL,rfl⟩ hK _;clear ne;rcases l' with _|⟨x,l'⟩
  ·contradiction
  rw[JF]at e1;rcases e1 with _|_
  rcases G with _|⟨kR,body,kW,kS,kY⟩
  ·contradiction
  rcases NG with⟨q,l'',J,kl,kv,nt,e,h,hr,hk,nr,k1,k2,k3⟩
  ·rcases e with _|_;have iG:i+(kY.len+1)<=3:=iG;have LG:L.length+(kW.num+kS.num+kY.num+1)<=H.num:=LG;have d1:1+max kW.dep kS.dep<=Nd.dep (.cons kR body kW kS kY):=di _ _;have d2:kY.dep<=Nd.dep (.cons kR body kW kS kY):=cG _ _;have hM:M=16777216:=rfl;have eb:pP base++[.int ((i:Int)+1)]=pP (base++[i+1]):=by rw[pP,pP,aS];rfl
   have hbl:(base++[i+1]).length=base.length+1:=ac;have hbM:(pP base).length+[PV.int ((i:Int)+1)].length<=M:=by rw[ai];show base.length+1<=_;exact id (nn 0x110021b0a010000007fb223e83fb12d1b0aa02 rfl hb hM)
   have N1:o_ τ (.cons kR body kW kS .nil) [.ref q]:=⟨q,[],J,kl,kv,nt,rfl,h,hr,hk,nr,k1,k2,rfl⟩;have hn0:qM H i=.cons kR body kW kS .nil:=hn 0;rw[hH]at hn0;refine⟨hbM,?_⟩;rw[eb];refine λr1 Qp=>?_;have z1:=lg.new (o:=.list [.tup [.tup (pP (base++[i+1])),.ref q]]) Qp;refine lst (z1.get Uk) (lst kT ⟨by show L.length+1<=M;lia,λr2 xE=>⟨hbM,?_⟩⟩);rw[eb];have z2:=lg.new (o:=.list (L++[.tup [.tup (pP (base++[i+1])),.ref q]])) xE;have z12:=z1.trans z2;refine PG.1 _ _ _ _ _ _ (x1.trans z12) N1 (by show 2*(1+max kW.dep kS.dep)+0<=n;exact oV 0x10202010b31ba2da0231ba0020102d03 rfl hd dG d1) (by rw[hbl];show base.length+1+(2*(1+max kW.dep kS.dep)+0)<=1000;exact oV 0x1020203e83fb0b31ba2da1b0aa0231ba01203e83fb12d1b0aa03 rfl hb dG d1) (by show kW.num+kS.num+0+1<=10000;exact tD 0x101027104fb1b0b32aaa001b432aaa1a027104fb002 rfl vQ LG) ⟨sG.1,sG.2.1,sG.2.2.1,trivial⟩ λσ₂ l2 L2 x2 _ J1 Yz _ P2=>?_;have Yz:L2.length+1<=kW.num+kS.num+0+1+0:=Yz;refine lst (x2.get kT) (lst J1 ⟨by rw[ac];show L.length+1+L2.length<=M;exact id (J7 0x10110010561b1aa00b1b0b32aaaa1b6a010000007fb5201b432aaa1a027104fb004 rfl vQ LG hM Yz),λr3 Ow=>?_⟩);have z3:=lg.new (o:=.list ((L++[.tup [.tup (pP (base++[i+1])),.ref q]])++L2)) Ow;have z13:=z12.trans (x2.trans z3);have T:=uV.turn (L2:=L2) (kY:=.nil) PL hn0 N1 (mZ 0x103b013b1b1a0a01 rfl iG) (by rw[hbl];exact mZ 0x103e83fb1b0a03e83fb12d1b0aa01 rfl hb) P2;refine hK _ _ ⟨l',i+1,kY,_,_,r3,_,rfl,k3,λj=>?_,PG.2,ah d2 dG,sG.2.2.2,mZ 0x103b11b0aa03b1b1a0a01 rfl iG,?_,λ_ z=>?_,y1.trans z13,z13.get XJ,x1.trans z13,y1.none (z12.none (x2.none Ow)),kT,⟨T.a,λv hv he=>T.z v hv ?_⟩,rfl⟩
   ·rw[cE,ck 1 j];exact hn (j+1)
   ·rw[ac,ac];show L.length+1+L2.length+kY.num<=H.num;exact id (xm 0x10104351b0aaa00b1b0b21aaaa1b5a041b321aaa0a02 rfl LG Yz)
   ·exact absurd (congrArg aZ z) (by rw[ac,ac];show¬(L.length+1+L2.length=0);exact id (mZ 0x100b0b50b11b0aa21 rfl))
   rw[←hH,hn 1,he];rfl
 ·rintro ps ρ kP ⟨_,_,_,_,_,_,_,_,_,_,_,_,_,_,_,_,_,h⟩;exact h
 rintro ρ kP ⟨l',i,G,x4,x5,fl,L,e1,NG,hn,PG,dG,sG,iG,LG,ne,y1,XJ,x1,hf1,Uk,PL,rfl⟩;clear hn PG dG sG iG;induction l' with
 |cons x l'=>contradiction
 |nil=>
  induction G with
  |cons kR body kW kS kY=>induction NG with|mk q l'' J kl kv nt e=>contradiction
  |nil=>exact k kP fl L y1 hf1 Uk (ah (aM _ _) LG) (λz=>ne z.symm) ⟨PL.a,λv hv _=>PL.z v hv rfl⟩
def Hs{K:Bool->Prop}(ha:U a=some (.list l))(hb:U b=some (.list []))(k:K l.isEmpty):OG U (.ref a) (.ref b) K:=
 lst ha (lst hb ⟨.inr rfl,J (show (l.isEmpty&&([]:List PV).isEmpty)=l.isEmpty from gr _) k⟩)
def Ga(hP:QW τ false H)(hH:H=qL (.cons kR body kW kS .nil) w)(hc:kW≠.nil\/(w=true/\kW=.nil))(hd:2*H.dep+1<=2*(1+max kW.dep kS.dep)+w.toNat)(hn:H.num+1<=Nd.num (.cons kR body kW kS .nil)+w.toNat):PT τ w kR body kW kS:=by
 intro U Q E n r base x0 N R9 hb vQ AP k;obtain⟨n,rfl⟩:∃n',n=n'+1:=⟨n-1,mZ 0x10010001b1a0201b1a21b1a002 rfl s2 (aA (nn 0x1021b02101ba2da01 rfl R9))⟩;have N0:=N;rcases N with⟨r,l',J,kl,kv,nt,e,h,hr,hk,nr,k1,k2,k3⟩
 ·clear k3;rcases e with _|_
  have g:=x0.get h;have gk:=x0.get hk;have R0:w.toNat<=1:=Bool.toNat_le w;have hM:M=16777216:=rfl;refine ent (ρ:=[_,_,_,_,_,_,_,_]) rfl rfl rfl (mw (j:=2) g (ae rfl) rfl rfl λr1 Qp=>?_);have x1:=lg.new (o:=.list []) Qp;refine Hs (x1.get gk) kT ?_;clear hk;rcases hc with hc|⟨rfl,rfl⟩
  ·clear N0;rcases kW with _|⟨r2,b2,JA,i2,t2⟩
   ·exact absurd rfl hc
   change H=.cons r2 b2 JA i2 t2 at hH;subst hH;have XH:kv.isEmpty=false:=by(rcases k1 with⟨p,l',J,kl,kv,nt,e⟩;(rw[e];rfl))
   rw[XH];refine bF rfl (bF rfl λfl R8=>?_);have x2:=x1.trans (lg.new (o:=.list []) R8);refine mw (j:=2) (x2.get g) (ae rfl) rfl rfl λr3 Ow=>?_;have x3:=x2.trans (lg.new (o:=.list []) Ow);have gk3:=x3.get gk;have hl:=Cw (F:=.nil) k1;refine ne_nil (x3.get gk) kT (λ_=>?_) λz=>absurd (z▸XH) (by decide);refine(mw (j:=2) (x3.get g) (ae rfl) rfl rfl (Eu gk3 (by rw[hl];exact ah AP.1 (by decide)) ?_));refine zm (H:=.cons r2 b2 JA i2 t2) (F:=.cons kR body (.cons r2 b2 JA i2 t2) kS .nil) (σ₀:=U) (N:=0) (x0.trans x3) gk3 k1 hP rfl (oV 0x1010232d0101ba2da1b32da01b2a101ba2da02 rfl R9 hd) (oV 0x10103e83fb32d1b0aa0211ba2da1b32da03e83fb211ba2da0a02 rfl hb hd) AP.1 AP.2.1 (nn 0x10101027104fb2001a1b2a027104fb101b003 rfl R0 vQ hn) ((lg.new Ow).get kT) (x1.none R8) x3 λkP l L y hn hl hL ne P=>k kP l L y hn hl (by lia) (λ_=>ne λz=>by rw[z]at XH;contradiction) P
  change H=.cons kR body .nil kS .nil at hH;clear hd;subst hH;change kv=[]at k1;subst k1;refine bT rfl (bF rfl λfl R8=>?_);have x2:=x1.trans (lg.new (o:=.list []) R8);refine mw (j:=2) (x2.get g) (ae rfl) rfl rfl λr3 Ow=>?_;have x3:=x2.trans (lg.new (o:=.list []) Ow);refine ne_nil (x3.get gk) kT (λz=>absurd rfl z) λ_ r4 R3=>?_;have x4:=x3.trans (lg.new (o:=.list [.ref r]) R3);refine Eu kT (ae rfl) ?_;refine zm (H:=.cons kR body .nil kS .nil) (F:=.cons kR body .nil kS .nil) (σ₀:=U) (N:=0) (x0.trans x4) kT N0 hP rfl (by refine(?_:2*max (1+max Nd.nil.dep kS.dep) 0<=n);rw[eH];have:=R9;refine(?_:2*(1+max Nd.nil.dep kS.dep)<=n);exact eK this) (by refine(?_:base.length+1+2*max (1+max Nd.nil.dep kS.dep) 0<=1000);rw[eH];change base.length+(2*(1+max Nd.nil.dep kS.dep)+1)<=1000 at hb;lia) (ae rfl) AP vQ ((lg.new R3).get ((lg.new Ow).get kT)) (x1.none R8) x4 λkP l L y hn hl hL ne P=>k kP l L y hn hl (by lia) (λ_=>ne λz=>nomatch z) P
def QX:Nd.dep (.cons kR body kW kS .nil)=1+max kW.dep kS.dep:=eH _
def ND(h:ns≠[]):u7 (.cons kR body .nil (.cons r2 b2 k2 i2 t2) kY) false ns=u7 (.cons r2 b2 k2 i2 t2) true ns:=by
 rcases ns with _|⟨_|j,ns⟩
 ·exact absurd rfl h
 ·rfl
 rfl
def NE(h1:QW τ false kW)(h2:QW τ true kS):PT τ false kR body kW kS:=by
 by_cases hk:kW=.nil
 ·clear h1;subst hk;intro U Q E n r base x0 N R9 hb vQ AP k;obtain⟨n,rfl⟩:∃n',n=n'+1:=⟨n-1,mZ 0x10010001b1a0201b1a21b1a002 rfl s2 (aA (nn 0x1021b02101ba2da01 rfl R9))⟩;rcases N with⟨r,l',J,kl,kv,nt,e,h,hr,hk,nr,k1,k2,k3⟩
  ·clear nr k3;rcases e with _|_
   have g:=x0.get h;change kv=[]at k1;clear h;subst k1;refine ent (ρ:=[_,_,_,_,_,_,_,_]) rfl rfl rfl (mw (j:=2) g (ae rfl) rfl rfl λr1 Qp=>?_);have x1:=lg.new (o:=.list []) Qp;refine Hs (x1.get (x0.get hk)) kT (bT rfl (bT rfl (mw (j:=3) (x1.get g) (ae rfl) rfl rfl ?_)));rcases kS with _|⟨r2,b2,JA,i2,t2⟩
   ·have:=k2.tO;clear g k2;subst this;exact bT rfl λr2 xE=>k _ r2 [] (x1.trans (.new xE)) (x1.none xE) kT (bB (aO _)) (λz=>nomatch z) ⟨λv hv=>(nomatch hv),λv hv=>(nomatch hv)⟩
   obtain⟨q,rfl,rfl,N2⟩:=k2.qN;have hz:Nd.dep .nil=0:=rfl;rw[QX,hz]at R9 hb;change 2*(1+max 0 (1+max JA.dep i2.dep))+0<=n+1 at R9;change base.length+(2*(1+max 0 (1+max JA.dep i2.dep))+0)<=1000 at hb;refine bF rfl (mw (j:=3) (x1.get g) (ae rfl) rfl rfl (h2.1 _ _ _ _ _ _ (x0.trans x1) N2 ?_ ?_ ?_ AP.2.2.1 λkP l L y hn hl hL ne P=>k kP l L (x1.trans y) (x1.none hn) hl ?_ (λz=>nomatch z) ?_))
   ·refine(?_:2*(1+max JA.dep i2.dep)+1<=n);exact nn 0x102011b21ba2da0021ba01b1a0b01ba2da02 rfl R9 (cG _ _)
   ·refine(?_:base.length+(2*(1+max JA.dep i2.dep)+1)<=1000);exact nn 0x10203e83fb1b21ba2da0a0121ba03e83fb0b11ba2da0a02 rfl hb (cG _ _)
   ·exact ah (eJ (by refine(?_:_<=0+_+0);exact sR 0xb00baa000 rfl)) vQ
   ·refine(?_:L.length+1<=0+Nd.num (.cons r2 b2 JA i2 .nil)+0+1+0);have:(true).toNat=1:=rfl;exact nn 0x10100b1b0b10baaaa1b0a01b2221a1b0a02 rfl hL this
   exact⟨λv hv=>by
    obtain⟨ns,r',e,h0,hf,hl,hN⟩:=P.a v hv;refine⟨ns,r',e,h0,hf,hl,?_⟩;rw[ND h0];exact hN,λv hv _=>by
    obtain⟨ns,j,r',e,hf,hl,hN⟩:=P.z v hv trivial;refine⟨ns,j,r',e,hf,hl,?_⟩;rw[ND (by simp)];exact hN⟩
 refine Ga (H:=kW) h1 ?_ (.inl hk) (by refine(?_:2*kW.dep+1<=2*(1+max kW.dep kS.dep)+0);exact mZ 0x200b11ba2da1b02da01001 rfl (di _ _)) (by refine(?_:kW.num+1<=kW.num+kS.num+0+1+0);exact mZ 0xb1b0b10aaaa1b0a00 rfl);clear h1;rcases kW with _|_
 ·exact absurd rfl hk
 rfl
def QY(h1:QW τ false kW)(h2:PT τ false kR body kW kS):PT τ true kR body kW kS:=by
 by_cases hk:kW=.nil
 ·clear h1;subst hk;exact Ga (H:=.cons kR body .nil kS .nil) ⟨h2,trivial⟩ rfl (.inr ⟨rfl,rfl⟩) (J (QX ..) (aF _)) (aF _)
 refine Ga (H:=kW) h1 ?_ (.inl hk) (by refine(?_:2*kW.dep+1<=2*(1+max kW.dep kS.dep)+1);exact mZ 0x201b11ba2da1b02da01001 rfl (di _ _)) (by refine(?_:kW.num+1<=kW.num+kS.num+0+1+1);exact mZ 0x1b1b0b10aaaa1b0a00 rfl);clear h1 h2;rcases kW with _|_
 ·exact absurd rfl hk
 rfl
theorem YA:∀{F:Nd},QW τ false F/\QW τ true F
 |.nil=>⟨trivial,trivial⟩
 |.cons kR body kW kS kY=>
  have k:=YA (F:=kW);have i:=YA (F:=kS);have r:=YA (F:=kY);have f:=NE k.1 i.2
  ⟨⟨f,r.1⟩,QY k.1 f,r.2⟩
def JG(x0:lg [] τ U)(N:o_ τ F [.ref r])(hd:F.dep<=20)(vQ:F.num<=10000)(AP:F.slim)
  (k:∀kP l L,lg [] U kP->U l=.none->kP l=some (.list L)->L.length<=F.num->L≠[]->uV τ F true [] True L->Q (.ref l) kP):CL (n+41) 852 [.ref r,.tup [],.bool true] U Q E:=by
 have N0:=N;rcases F with _|⟨kR,body,kW,kS,kY⟩
 ·contradiction
 rcases N with⟨r,l',J,kl,kv,nt,e,h,hr,hk,nr,k1,k2,k3⟩
 ·clear h;rcases e with _|_
  induction kY with
  |cons r2 b2 JA i2 t2=>induction k3 with|mk p l' J kl kv nt e=>contradiction
  |nil=>
   rw[QX]at hd;have:=(YA (τ:=τ) (F:=.cons kR body kW kS .nil)).2.1;exact this _ _ _ _ _ [] x0 N0 (by refine(?_:2*(1+max kW.dep kS.dep)+1<=n+41);exact mZ 0x20292fb1a1b01ba2da0142fb01ba01 rfl hd) (by refine(?_:0+(2*(1+max kW.dep kS.dep)+1)<=1000);exact sR 0x203e83fb1b01ba2da0ba0142fb01ba01 rfl hd) vQ AP λkP l L y hn hl hL ne P=>k kP l L y hn hl (eK hL) (ne rfl) P
def Gb(h:Er j):zA j=[48+j]:=by
 exact(show∀j<10,zA j=[48+j] by decide) j (gn h.2)
def Ev:∀{l:NL},((l.map λj=>[48+j,46]).map aZ).sum=2*l.length:=by
 intro z9
 induction z9 with
 |nil=>
  exact rfl
 |cons x l ih=>
  rw[aK,aK,jL,ih];refine(?_:2+2*l.length=2*l.length+2);exact(ck _ _).trans rfl
def pk:(k_ l).length=2*l.length:=by
 unfold k_;exact J (List.length_flatten ..) (J (Ev ..) rfl)
def wV(hn:∀j∈ns,Er j)(hl:ns.length<=1000)(k:∀kP,lg [] U kP->Q (.str (91::k_ ns)) kP):CL (n+1) 876 [.tup (pP ns)] U Q E:=by
 have hM:M=16777216:=rfl;refine ent (ρ:=[_]) rfl rfl rfl (ng ?_);refine zf (α:=Nat) (f:=λx=>.int (x:Nat)) (g:=λj=>.str [48+j,46]) (mZ 0x110010010000007fb123e83fb002 rfl hl hM) (λx hx σ₁ K lh k=>bT rfl ?_) λσ₁ r lh h₁=>y4 h₁ (ts:=ns.map λj=>[48+j,46]) (nQ λ_ _=>rfl) ?_ ?_
 ·obtain⟨h1,h2⟩:=hn x hx;refine⟨av _,by lia,?_⟩;refine J (dA ..) (J (Gb ⟨h1,h2⟩ ..) ?_);exact⟨ae rfl,k σ₁ .rfl⟩
 ·refine J (Ev ..) ?_;refine(?_:_+_*0<=M);exact nn 0x2100120e02da010000007fb123e83fb002 rfl hl hM
 refine J (show ct ""=[]from rfl) (J (yZ ..) ?_);refine⟨?_,k σ₁ lh⟩;refine(?_:1+(k_ ns).length<=M);exact J (pk ..) (mZ 0x2100102d1ba010000007fb123e83fb002 rfl hl hM)
def AW{K:List PV->(kO->Prop)->Prop}(hm:l.length<=M)(k:K ((l.zipIdx 0).map λp=>.tup [.int (p.2:Nat),.str [p.1]]) λ_=>True):lT U .enum (.str l) K:=by
 unfold lT;refine⟨hm,?_⟩;have e:numbered (l.map λc=>.str [c])=(l.zipIdx 0).map λp=>.tup [.int (p.2:Nat),.str [p.1]]:=by
  unfold numbered;refine J (List.zipIdx_map ..) (J (bU ..) ?_);rfl
 exact J (e ..) k
def zo{K:Callee->Prop}(k:K (.bs qV s)):methP lF U (.str s) (ct "lower") K:=by
 unfold methP;exact⟨.inr (.inr rfl),k⟩
def AX(hm:s.length<=M)(hb:∀x∈s,x<128)(k:Q (.str (s.map mj)) U):Os U qV s [] Q:=by
 unfold Os;exact⟨rfl,hm,hb,k⟩
noncomputable def zp(b:Bool)(x:Nat):Nat:=match b with
 |true=>mj x
 |false=>x
noncomputable def vS(way i:Nat):Bool:=((way:Int)==1)||(((way:Int)==2)&&((((i:Nat):Int).fmod 2)==1))
noncomputable def NF(l:NL):Bool:=l.all λx=>decide (x<128)&&(lets.contains x&&(Np x==x&&(lets.contains (mj x)&&Np (mj x)==x)))
def NH{way:Nat}:∀{l:NL}{i:Nat},NF l=true->(((l.zipIdx i).map λp=>zp (vS way p.2) p.1).map Np=l/\((l.zipIdx i).map λp=>zp (vS way p.2) p.1).all lets.contains=true):=by
 intro z9
 induction z9 with
 |nil=>
  intro _ _;exact⟨rfl,rfl⟩
 |cons x l ih=>
  intro i h;refine lr λGp gk=>?_;refine lw h λh1 h2=>?_;obtain⟨e1,e2⟩:=ih (i:=i+1) h2;refine lw h1 λ_ h1=>?_;refine lw h1 λa1 h1=>?_;refine lw h1 λa2 h1=>?_;refine lw h1 λa3 a4=>?_;refine gk ?_;refine J (i6 ..) (J (aK ..) (J (aK ..) (J (e1 ..) (J (ce ..) (J (e2 ..) ?_)))));dsimp only;unfold zp
  induction vS way i with
  |true=>exact⟨congrArg (· ::l) (beq_iff_eq.mp a4),by refine J (a3 ..) ?_;rfl⟩
  |false=>exact⟨congrArg (· ::l) (beq_iff_eq.mp a2),by refine J (a1 ..) ?_;rfl⟩
def AY(P:pZ U p c hh (B+1))(hw:NF w=true)(hl:w.length<=100)(k:∀u kP,u.map Np=w->u.all lets.contains=true->pZ kP p c hh B->lg [p,c] U kP->Q (.str u) kP):CL (n+2) 871 [.ref p,.str w] U Q E:=by
 have hM:M=16777216:=rfl;refine ent (ρ:=[_,_,_,_,_]) rfl rfl rfl (drawn P (by decide) (by decide) λway σ₁ hi qH lh=>ng ?_);refine AW (mZ 0x110010010000007fb12642fb002 rfl hl hM) ⟨J (ai ..) (J (fT ..) (mZ 0x110010010000007fb12642fb002 rfl hl hM)),vK trivial (w.zipIdx 0) [] (g:=λq=>.str [zp (vS way q.2) q.1]) (λx hx K k=>bT rfl ?_) ?_⟩
 ·obtain⟨s1,i⟩:=x;have hs:s1<128:=of_decide_eq_true (az.mp (aC.mp hw s1 (List.fst_mem_of_mem_zipIdx hx))).1;have k:X2 K (.str [zp (vS way i) s1]) σ₁:=k;have low:vS way i=true->methP lF σ₁ (.str [s1]) (ct "lower") (Rm (CL (n+1)) (tS (CL (n+1)) lF .nil [none,some (.int (i:Nat)),some (.str [s1]),some (.int (way:Nat))]) (X2 K) Rj σ₁):=λz=>by
   rw[z]at k;exact zo (AX (ae rfl) (λy hy=>J (aB.mp hy ..) hs) k)
  refine bC (λz=>bT rfl (low ?_)) λz=>bC (λy=>⟨by decide,bC (λu=>low ?_) λu=>?_⟩) λy=>bF rfl ?_
  ·unfold vS;refine J (show ((way:Int)==1)=true from z) ?_;rfl
  ·unfold vS;exact J (show ((way:Int)==2)=true from y) (J (show ((((i:Nat):Int).fmod 2)==1)=true from u) (J (gr ..) (J (gK ..) rfl)))
  ·rw[show vS way i=false by unfold vS;refine J (show ((way:Int)==1)=false from z) (J (show ((((i:Nat):Int).fmod 2)==1)=false from u) (J (fX ..) ?_));rfl]at k;exact k
  rw[show vS way i=false by unfold vS;refine J (show ((way:Int)==1)=false from z) (J (show ((way:Int)==2)=false from y) ?_);rfl]at k;exact k
 obtain⟨e1,e2⟩:=NH (way:=way) (i:=0) hw;generalize hu:((w.zipIdx 0).map λp=>zp (vS way p.2) p.1)=u at e1 e2;have QO:u.length<=100:=rr (hu ..) (J (ai ..) (J (fT ..) hl));have e3:(w.zipIdx 0).map (λq=>PV.str [zp (vS way q.2) q.1])=u.map λx=>.str [x]:=by refine rr (hu ..) (J (bU ..) ?_);rfl
 refine J (e3 ..) (J (bc ..) ?_);refine⟨J (ai ..) (mZ 0x10010010642fb1010000007fb022 rfl hM QO),λr hr=>join_ones kT (mZ 0x10010010642fb1010000007fb022 rfl hM QO) (k u _ e1 e2 (qH.keep (.new hr)) (lh.trans (lg.new hr).mono))⟩
noncomputable def Pl.tx:Pl->NL
 |.blank=>ct "blank"
 |.Ox=>ct "open"
 |.begin=>ct "begin"
 |.atom=>ct "atom"
 |.behind=>ct "behind"
 |.quoted=>ct "quoted"
 |.escape=>ct "escape"
 |.close=>ct "close"
 |.fin=>ct "end"
noncomputable def YB(st:Pl)(g:NL):Bool:=match st with
 |.blank=>ct " "==g
 |.Ox=>ct "("==g
 |.quoted=>ct "\""==g||ct "\\"==g
 |.close=>ct "]"==g
 |_=>false
def Ul:∀b1 b2 b3 b4 b5:Bool,(((true&&(b1&&true))||((false&&(b2&&true))||((false&&(b3&&true))||((false&&(b4&&true))||((false&&(b5&&true))||false)))))=b1)/\(((false&&(b1&&true))||((true&&(b2&&true))||((false&&(b3&&true))||((false&&(b4&&true))||((false&&(b5&&true))||false)))))=b2)/\(((false&&(b1&&true))||((false&&(b2&&true))||((true&&(b3&&true))||((true&&(b4&&true))||((false&&(b5&&true))||false)))))=(b3||b4))/\(((false&&(b1&&true))||((false&&(b2&&true))||((false&&(b3&&true))||((false&&(b4&&true))||((true&&(b5&&true))||false)))))=b5)/\(((false&&(b1&&true))||((false&&(b2&&true))||((false&&(b3&&true))||((false&&(b4&&true))||((false&&(b5&&true))||false)))))=false):=by decide
def in1{st:Pl}{g:NL}:pc (.tup [.str st.tx,.str g]) [.tup [.str (ct "blank"),.str (ct " ")],.tup [.str (ct "open"),.str (ct "(")],.tup [.str (ct "quoted"),.str (ct "\"")],.tup [.str (ct "quoted"),.str (ct "\\")],.tup [.str (ct "close"),.str (ct "]")]]=some (YB st g):=by
 have h:=Ul (ct " "==g) (ct "("==g) (ct "\""==g) (ct "\\"==g) (ct "]"==g)
 induction st with
 |blank=>exact congrArg some h.1
 |Ox=>exact congrArg some h.2.1
 |quoted=>exact congrArg some h.2.2.1
 |close=>exact congrArg some h.2.2.2.1
 |_=>exact congrArg some h.2.2.2.2
noncomputable def nx1(st:Pl)(g:NL):Pl:=match st with
 |.blank=>.Ox
 |.Ox=>.begin
 |.quoted=>if g==ct "\"" then .behind else .escape
 |_=>.fin
noncomputable def NJ(st:Pl):Bool:=match st with
 |.atom|.behind=>true
 |_=>false
def aae{st:Pl}:pc (.str st.tx) [.str (ct "atom"),.str (ct "behind")]=some (NJ st):=by rcases st with _|_<;>rfl
noncomputable def Um(st:Pl):Bool:=match st with
 |.quoted|.escape=>true
 |_=>false
def aaf{st:Pl}:pc (.str st.tx) [.str (ct "quoted"),.str (ct "escape")]=some (Um st):=by rcases st with _|_<;>rfl
noncomputable def xk(a b:Pl):Bool:=match a with
 |.begin=>(match b with|.begin=>true|_=>false)
 |.atom=>(match b with|.atom=>true|_=>false)
 |.quoted=>(match b with|.quoted=>true|_=>false)
 |.escape=>(match b with|.escape=>true|_=>false)
 |.fin=>(match b with|.fin=>true|_=>false)
 |_=>false
def Gc{st:Pl}:(st.tx==ct "begin")=xk .begin st:=by rcases st with _|_<;>rfl
def AZ{st:Pl}:(st.tx==ct "atom")=xk .atom st:=by rcases st with _|_<;>rfl
def Ew{st:Pl}:(st.tx==ct "quoted")=xk .quoted st:=by rcases st with _|_<;>rfl
def Ex{st:Pl}:(st.tx==ct "escape")=xk .escape st:=by rcases st with _|_<;>rfl
def NK{st:Pl}:(st.tx==ct "end")=xk .fin st:=by rcases st with _|_<;>rfl
def xK{a st:Pl}(h:xk a st=true):st=a:=by rcases a with _|_<;>rcases st with _|_<;>first|rfl|contradiction
inductive J3:NL->NL->Prop
 |nil:J3 [] []
 |cons (x:Nat) (r:NL):J3 (x::r) [x]
def Ab(h:(([x]:NL)==[y])=true):x=y:=(bw (eq_of_beq h)).1
def Ac(h:(([x]:NL)==[y])=false):x≠y:=λz=>by rw[z,beq_self_eq_true]at h;contradiction
def go1{st:Pl}{g:NL}{ns:List NL}(G:J3 s g)(h:YB st g=true):∃x r,s=x::r/\sm s st ns=sm r (nx1 st g) ns:=by
 induction G with
 |nil=>induction st<;>contradiction
 |cons x r=>
  refine⟨x,r,rfl,?_⟩
  induction st<;>try contradiction
  ·cases (Ab h:32=x);rfl
  ·cases (Ab h:40=x);rfl
  ·rcases cA.mp h with h|h
   ·cases (Ab h:34=x);rfl
   cases (Ab h:92=x);rfl
  cases (Ab h:93=x);rfl
def go2 {st:Pl}{g:NL}{ns:List NL} (G:J3 s g) (h:NJ st=true) (h2:(ct " "==g||(ct ")"==g||false))=true):∃x r,s=x::r/\sm s st ns=sm r (if g==ct " " then .begin else .close) ns:=by
 rcases G with _|⟨x,r⟩
 ·contradiction
 refine⟨x,r,rfl,?_⟩;rw[d9]at h2;rcases cA.mp h2 with z|z
 ·clear h2;induction (Ab z:32=x);rcases st with _|_<;>try rcases h with _|_<;>rfl
 clear h2;induction (Ab z:41=x);rcases st with _|_<;>try rcases h with _|_<;>rfl
def NM(h:atC x=true)(hy:atC y=false):x≠y:=λz=>by rw[z,hy]at h;contradiction
def go3(G:J3 s g)(h:(g==ct "\""||zG atC g)=true):∃x r,s=x::r/\sm s .begin ns=sm r (if zG atC g=true then .atom else .quoted) (ns++[if zG atC g=true then g else[]]):=by
 induction G with
 |nil=>contradiction
 |cons x r=>
  refine⟨x,r,rfl,?_⟩
  show (if x=34 then sm r .quoted (ns++[[]])else if atC x=true then sm r .atom (ns++[[x]])else .err (r.length+1))=sm r (if atC x=true then .atom else .quoted) (ns++[if atC x=true then[x]else[]])
  by_cases z:atC x=true
  ·exact J (if_neg (NM z rfl) ..) (J (if_pos z ..) (J (if_pos z ..) (J (if_pos z ..) rfl)))
  have h:([x]==[34]||atC x)=true:=h;rw[(Bool.not_eq_true _).mp z,d9]at h;exact J (if_pos (Ab h) ..) (J (if_neg z ..) (J (if_neg z ..) rfl))
noncomputable def R_(g:NL):Bool:=zG (λx=>decide (32<=x)&&decide (x<=126)) g
def go4{st:Pl}{g:NL}{ns:List NL}(G:J3 s g)(h1:YB st g=false)
  (h:(st=.atom/\zG atC g=true)\/(st=.quoted/\R_ g=true)\/(st=.escape/\(ct "\""==g||(ct "\\"==g||false))=true)):
  ∃x r,s=x::r/\g=[x]/\sm s st ns=sm r (if xk .atom st=true then .atom else .quoted) (xi ns x):=by
 rcases G with _|⟨x,r⟩
 ·rcases h with⟨_,h⟩|⟨_,h⟩|⟨_,h⟩<;>contradiction
 refine⟨x,r,rfl,rfl,?_⟩;rcases h with⟨rfl,h⟩|⟨rfl,h⟩|⟨rfl,h⟩
 ·have h:atC x=true:=h;exact(if_neg (NM h rfl)).trans ((if_neg (NM h rfl)).trans (if_pos h))
 ·refine HL h1 λn1 n2=>?_;refine lw h λb1 b2=>?_;exact(if_neg λz=>Ac n1 z.symm).trans ((if_neg λz=>Ac n2 z.symm).trans (if_pos ⟨of_decide_eq_true b1,gn (of_decide_eq_true b2)⟩))
 rw[d9]at h;refine if_pos ?_;rcases cA.mp h with z|z
 ·exact .inl (Ab z).symm
 exact .inr (Ab z).symm
theorem go5{st:Pl}{g:NL}{ns:List NL}(G:J3 s g)(h1:YB st g=false)(h2:NJ st=true->(ct " "==g||(ct ")"==g||false))=false) (h3:st=.begin->(g==ct "\""||zG atC g)=false) (h4:st=.atom->zG atC g=false)
  (h5:st=.quoted->R_ g=false) (h6:st=.escape->(ct "\""==g||(ct "\\"==g||false))=false):
  (s=[]/\g=[]/\st=.fin/\sm s st ns=.ok ns)\/((xk .fin st&&g==ct "")=false/\∃e,sm s st ns=.err e/\s.length=e+(if(Um st&&!(g==ct ""))=true then 1 else 0)):=by
 induction G with
 |nil=>clear h1 h2 h3 h4 h5 h6;rcases st with _|_<;>first|exact .inl ⟨rfl,rfl,rfl,rfl⟩|exact .inr ⟨rfl,0,rfl,rfl⟩
 |cons x r=>
  have two:∀{y z:Nat},([y]==[x]||([z]==[x]||false))=false->x≠y/\x≠z:=λh=>by
   rw[d9]at h;refine HL h λn1 n2=>?_;exact⟨λz=>Ac n1 z.symm,λz=>Ac n2 z.symm⟩
  have na:zG atC [x]=false->¬atC x=true:=λh=>J (show atC x=false from h) a7;refine .inr ?_;rcases st with _|_|_|_|_|_|_|_|_
  ·exact⟨rfl,r.length+1,if_neg λz=>Ac h1 z.symm,rfl⟩
  ·exact⟨rfl,r.length+1,if_neg λz=>Ac h1 z.symm,rfl⟩
  ·refine HL (h3 rfl) λn1 n2=>?_;exact⟨rfl,r.length+1,(if_neg (Ac n1)).trans (if_neg (na n2)),rfl⟩
  ·obtain⟨n1,n2⟩:=two (h2 rfl);exact⟨rfl,r.length+1,(if_neg n1).trans ((if_neg n2).trans (if_neg (na (h4 rfl)))),rfl⟩
  ·obtain⟨n1,n2⟩:=two (h2 rfl);exact⟨rfl,r.length+1,(if_neg n1).trans (if_neg n2),rfl⟩
  ·refine HL h1 λn1 n2=>?_;refine⟨rfl,r.length,(if_neg λz=>Ac n1 z.symm).trans ((if_neg λz=>Ac n2 z.symm).trans (if_neg λz=>?_)),rfl⟩;have:=h5 rfl;rw[show R_ [x]=(decide (32<=x)&&decide (x<=126))from rfl,decide_eq_true z.1,decide_eq_true (eL z.2)]at this;contradiction
  ·obtain⟨n1,n2⟩:=two (h6 rfl);exact⟨rfl,r.length,if_neg λz=>z.elim n1 n2,rfl⟩
  ·exact⟨rfl,r.length+1,if_neg λz=>Ac h1 z.symm,rfl⟩
  exact⟨rfl,r.length+1,rfl,rfl⟩
def Un(hm:l.length<=M)(k:Q (.str (cut l i j)) U):mS U (.str l) (.int i) (.int j) Q:=by
 unfold mS;rw[←sh,←pg,←pg]at k;exact⟨hm,k⟩
def isG:J3 s (cut (pre++s) pre.length (pre.length+1)):=by
 dsimp only[cut];refine J (g8 ..) (J (bL ..) ?_);rcases s with _|⟨x,r⟩
 ·exact .nil
 exact .cons x r
def QZ{K:Bool->Prop}(k:K (l.contains x)):Al U (.str [x]) (.str l) K:=by
 unfold Al;exact k
def JH{g:NL}(G:J3 s g)(h4:ρ.get 4=some (.str g))(k:Q (.bool (zG atC g)) U):mh (CL n) lF (.and (.qj .le .le (.lit (.str (ct "!"))) (.Z 4) (.lit (.str (ct "~")))) (.cmp .qb (.Z 4) (.lit (.str (ct "(){%*\"\\]"))))) ρ U Q E:=by
 show lv (ρ.get 4) _
 refine J (h4 ..) ?_;rcases G with _|⟨x,r⟩
 ·exact bF rfl (bF rfl k)
 have e1:(!zE [x] [33])=decide (32<x):=by rw[F7,a0];simp;lia
 have e2:(!zE [126] [x])=decide (x<127):=by rw[F7,a0];simp;lia
 have k:Q (.bool (decide (32<x)&&(decide (x<127)&&!QP.contains x))) U:=k;refine bC (λz=>?_) λz=>?_
 ·have z:(!zE [x] [33])=true:=z;rw[e1]at z;rw[z,d8]at k;rw[←e2]at k;rcases y:(!zE [126] [x])with _|_
  ·rw[y]at k;refine bF y ?_
   show Q (.bool (!zE [126] [x])) U
   exact J (y ..) k
  rw[y,d8]at k;refine bT y ?_
  show lv (ρ.get 4) _
  refine J (h4 ..) ?_;have z:=of_decide_eq_true z;have:([40,41,123,37,42,34,92,93]:NL).contains x=QP.contains x:=by
   refine J (show QP=[40,41,123,37,42,34,92,93]++[32]from rfl) (J (jN ..) (J (jN ..) (J (List.any_append ..) ?_)))
   show _=(_||((x==32)||false))
   refine J (beq_false_of_ne (kb z) ..) ?_;exact(d9 _).symm
  rw[←this]at k;exact QZ k
 have z:(!zE [x] [33])=false:=z;rw[e1]at z;rw[z]at k;exact bF rfl k
structure U3(U:kO)(nl i:Nat)(ns:List NL):Prop where
 h:U nl=some (.list (ns.map .str))
 l:ns.length<=i
 w:∀w∈ns,w.length<=i
noncomputable def Cy:Pl->Bool
 |.atom|.quoted|.escape=>true
 |_=>false
def NN(h:U a=some (.list (l++[x])))(hm:(l++[x]).length<=M){K:kO->Prop}(k:K (U.put a (.list (l++[y])))):zH U (.ref a) (.int (-1)) y K:=by
 unfold zH;dsimp only[sV];refine lst h ?_;have hi:oD (-1) (l++[x]).length=some l.length:=by
  dsimp only[oD,eM];refine J (ac ..) (J (bi ..) ?_);simp;exact YL _
 refine J (hi ..) ?_;refine⟨?_,hm,?_⟩
 ·exact J (ac ..) (ba _)
 exact J (List.set_append_right _ _ (aF _) ..) (J (fP ..) k)
def t2v {st:Pl}{g:NL}{Q:Bool->kO->Prop} (h2:ρ.get 2=some (.str st.tx)) (h4:ρ.get 4=some (.str g)) (k:Q (NJ st&&(ct " "==g||(ct ")"==g||false))) U):rU (CL n) lF (.and (.cmp .isin (.Z 2) (.tup (.cons (.lit (.str (ct "atom"))) (.cons (.lit (.str (ct "behind"))) .nil)))) (.cmp .isin (.Z 4) (.tup (.cons (.lit (.str (ct " "))) (.cons (.lit (.str (ct ")"))) .nil))))) ρ U Q E:=by
 refine(?_:lv (ρ.get 2) _);refine J (h2 ..) ?_;refine oO aae ?_;rcases z:NJ st with _|_
 ·rw[z]at k;exact bF rfl k
 rw[z]at k;refine bT rfl ?_;refine(?_:lv (ρ.get 4) _);refine J (h4 ..) ?_;exact oO (r:=(ct " "==g||(ct ")"==g||false))) rfl k
def t3v{st:Pl}{g:NL}{ms:Bool}{Q:Bool->kO->Prop}(h2:ρ.get 2=some (.str st.tx))(h4:ρ.get 4=some (.str g))(h5:ρ.get 5=some (.bool ms))(k:Q (xk .begin st&&(g==ct "\""||ms)) U):rU (CL n) lF (.and (.cmp .eq (.Z 2) (.lit (.str (ct "begin")))) (.or (.cmp .eq (.Z 4) (.lit (.str (ct "\"")))) (.val (.Z 5)))) ρ U Q E:=by
 rw[←Gc]at k;refine(?_:lv (ρ.get 2) _);refine J (h2 ..) ?_;refine bC (λz=>?_) λz=>?_
 ·rw[show (st.tx==ct "begin")=true from z]at k;refine(?_:lv (ρ.get 4) _);refine J (h4 ..) ?_;refine bC (λy=>?_) λy=>?_
  ·rw[show (g==ct "\"")=true from y]at k;exact k
  rw[show (g==ct "\"")=false from y]at k;refine(?_:lv (ρ.get 5) _);exact J (h5 ..) k
 rw[show (st.tx==ct "begin")=false from z]at k;exact k
def le2{Q:Bool->kO->Prop}(G:J3 s g)(h4:ρ.get 4=some (.str g))(k:Q (R_ g) U):rU (CL n) lF (.qj .le .le (.lit (.str (ct " "))) (.Z 4) (.lit (.str (ct "~")))) ρ U Q E:=by
 show lv (ρ.get 4) _
 refine J (h4 ..) ?_;clear h4;induction G with
 |nil=>exact bF rfl k
 |cons x r=>
  have e1:(!zE [x] [32])=decide (32<=x):=J (F7 ..) (rr (decide_not ..) (decide_eq_decide.mpr iF));have e2:(!zE [126] [x])=decide (x<=126):=J (F7 ..) (rr (decide_not ..) (decide_eq_decide.mpr iF));have k:Q (decide (32<=x)&&decide (x<=126)) U:=k;rw[←e1,←e2]at k;refine bC (λz=>?_) λz=>?_
  ·rw[show (!zE [x] [32])=true from z]at k;exact k
  rw[show (!zE [x] [32])=false from z]at k;exact k
def t4v{st:Pl}{g:NL}{ms:Bool}{Q:Bool->kO->Prop}(G:J3 s g)(h2:ρ.get 2=some (.str st.tx))(h4:ρ.get 4=some (.str g))(h5:ρ.get 5=some (.bool ms))(k:Q ((xk .atom st&&ms)||((xk .quoted st&&R_ g)||(xk .escape st&&(ct "\""==g||(ct "\\"==g||false))))) U):
  rU (CL n) lF (.or (.and (.cmp .eq (.Z 2) (.lit (.str (ct "atom")))) (.val (.Z 5))) (.or (.and (.cmp .eq (.Z 2) (.lit (.str (ct "quoted")))) (.qj .le .le (.lit (.str (ct " "))) (.Z 4) (.lit (.str (ct "~"))))) (.and (.cmp .eq (.Z 2) (.lit (.str (ct "escape")))) (.cmp .isin (.Z 4) (.tup (.cons (.lit (.str (ct "\""))) (.cons (.lit (.str (ct "\\"))) .nil))))))) ρ U Q E:=by
 rw[←AZ,←Ew,←Ex]at k;have r2:∀{K:PV->Prop},K (.str st.tx)->lv (ρ.get 2) K:=λk=>J (h2 ..) k;have r4:∀{K:PV->Prop},K (.str g)->lv (ρ.get 4) K:=λk=>J (h4 ..) k;have k3:Q ((st.tx==ct "escape")&&(ct "\""==g||(ct "\\"==g||false))) U->rU (CL n) lF (.and (.cmp .eq (.Z 2) (.lit (.str (ct "escape")))) (.cmp .isin (.Z 4) (.tup (.cons (.lit (.str (ct "\""))) (.cons (.lit (.str (ct "\\"))) .nil))))) ρ U Q E:=λk=>r2<|by
  refine bC (λz=>r4 (oO (r:=(ct "\""==g||(ct "\\"==g||false))) rfl ?_)) λz=>?_
  ·rw[show (st.tx==ct "escape")=true from z]at k;exact k
  rw[show (st.tx==ct "escape")=false from z]at k;exact k
 have k2:Q (((st.tx==ct "quoted")&&R_ g)||((st.tx==ct "escape")&&(ct "\""==g||(ct "\\"==g||false)))) U->rU (CL n) lF (.or (.and (.cmp .eq (.Z 2) (.lit (.str (ct "quoted")))) (.qj .le .le (.lit (.str (ct " "))) (.Z 4) (.lit (.str (ct "~"))))) (.and (.cmp .eq (.Z 2) (.lit (.str (ct "escape")))) (.cmp .isin (.Z 4) (.tup (.cons (.lit (.str (ct "\""))) (.cons (.lit (.str (ct "\\"))) .nil)))))) ρ U Q E:=λk=>r2<|by
  refine bC (λz=>le2 G h4 ?_) λz=>?_
  ·rw[show (st.tx==ct "quoted")=true from z]at k
   induction y:R_ g with
   |true=>rw[y]at k;exact bT rfl k
   |false=>rw[y]at k;exact bF rfl (k3 k)
  rw[show (st.tx==ct "quoted")=false from z]at k;exact bF rfl (k3 k)
 refine r2 (bC (λz=>?_) λz=>?_)
 ·rw[show (st.tx==ct "atom")=true from z]at k;refine(?_:lv (ρ.get 5) _);refine J (h5 ..) ?_;clear h5;induction ms with
  |true=>exact bT rfl k
  |false=>exact bF rfl (k2 k)
 rw[show (st.tx==ct "atom")=false from z]at k;exact bF rfl (k2 k)
def Ey(h:U a=some (.dict es))(e:es.lookup s=some v)(k:K v):rF U (.ref a) (.str s) K:=by
 unfold rF;exact dct h (J (e ..) k)
def nd4:[ct "blank",ct "open",ct "quoted",ct "close"].Nodup:=by decide
def aag{a b:Bool}{A B X:Prop}(h:(a&&b)=true)(k:A):mx a (mx b A B) X:=bT (az.mp h).1 (bT (az.mp h).2 k)
def XK{a b:Bool}{A B:Prop}(h:(a&&b)=false)(k:B):mx a (mx b A B) (mx false A B):=by
 rcases a with _|_
 ·exact bF rfl (bF rfl k)
 exact bT rfl (bF h k)
theorem Q0{nl i:Nat}{g:NL}{st:Pl}{ns:List NL}{o4 o5:Option PV}{K:Fl->lK->kO->Prop}{E:QR}{kY pre:NL}(hr:kY=pre++s)(hi:pre.length=i)(N:U3 U nl i ns)(AB:Cy st=true->ns≠[])(hm:kY.length<M)
  (k1:∀x r JI R' kP ρ,s=x::r->sm s st ns=sm r JI R'->(Cy JI=true->R'≠[])->U3 kP nl (i+1) R'->lg [nl] U kP->ρ=[some (.str kY),some (.ref nl),some (.str JI.tx),some (.int i),some (.str g),some (.bool (zG atC g)),none,none]->K .next ρ kP)
  (k2:∀ρ,s=[]->sm s st ns=.ok ns->K (.ret (.tup [.ref nl,.int (-1)])) ρ U)
  (k3:∀ρ kP e,sm s st ns=.err e->e<=s.length->lg [] U kP->K (.ret (.tup [.none,.int (kY.length-e:Nat)])) ρ kP) (G:J3 s g):
  lO (CL n) lF (.cons (.ite (.cmp .isin (.tup (.cons (.Z 2) (.cons (.Z 4) .nil))) (.tup (.cons (.tup (.cons (.lit (.str (ct "blank"))) (.cons (.lit (.str (ct " "))) .nil))) (.cons (.tup (.cons (.lit (.str (ct "open"))) (.cons (.lit (.str (ct "("))) .nil))) (.cons (.tup (.cons (.lit (.str (ct "quoted"))) (.cons (.lit (.str (ct "\""))) .nil))) (.cons (.tup (.cons (.lit (.str (ct "quoted"))) (.cons (.lit (.str (ct "\\"))) .nil))) (.cons (.tup (.cons (.lit (.str (ct "close"))) (.cons (.lit (.str (ct "]"))) .nil))) .nil))))))) (.cons (.asg (.name 2) (.sub (.dict [(ct "blank"),(ct "open"),(ct "quoted"),(ct "close")] (.cons (.lit (.str (ct "open"))) (.cons (.lit (.str (ct "begin"))) (.cons (.ite (.cmp .eq (.Z 4) (.lit (.str (ct "\"")))) (.lit (.str (ct "behind"))) (.lit (.str (ct "escape")))) (.cons (.lit (.str (ct "end"))) .nil))))) (.Z 2))) .nil) (.cons (.ite (.and (.cmp .isin (.Z 2) (.tup (.cons (.lit (.str (ct "atom"))) (.cons (.lit (.str (ct "behind"))) .nil)))) (.cmp .isin (.Z 4) (.tup (.cons (.lit (.str (ct " "))) (.cons (.lit (.str (ct ")"))) .nil))))) (.cons (.asg (.name 2) (.ite (.cmp .eq (.Z 4) (.lit (.str (ct " ")))) (.lit (.str (ct "begin"))) (.lit (.str (ct "close"))))) .nil) (.cons (.ite (.and (.cmp .eq (.Z 2) (.lit (.str (ct "begin")))) (.or (.cmp .eq (.Z 4) (.lit (.str (ct "\"")))) (.val (.Z 5)))) (.cons (.expr (.py (.Z 1) (ct "append") (.cons (.ite (.val (.Z 5)) (.Z 4) (.lit (.str (ct "")))) .nil))) (.cons (.asg (.name 2) (.ite (.val (.Z 5)) (.lit (.str (ct "atom"))) (.lit (.str (ct "quoted"))))) .nil)) (.cons (.ite (.or (.and (.cmp .eq (.Z 2) (.lit (.str (ct "atom")))) (.val (.Z 5))) (.or (.and (.cmp .eq (.Z 2) (.lit (.str (ct "quoted")))) (.qj .le .le (.lit (.str (ct " "))) (.Z 4) (.lit (.str (ct "~"))))) (.and (.cmp .eq (.Z 2) (.lit (.str (ct "escape")))) (.cmp .isin (.Z 4) (.tup (.cons (.lit (.str (ct "\""))) (.cons (.lit (.str (ct "\\"))) .nil))))))) (.cons (.asg (.sub (.Z 1) (.neg (.lit (.int 1)))) (.bin .add (.sub (.Z 1) (.neg (.lit (.int 1)))) (.Z 4))) (.cons (.asg (.name 2) (.ite (.cmp .eq (.Z 2) (.lit (.str (ct "atom")))) (.lit (.str (ct "atom"))) (.lit (.str (ct "quoted"))))) .nil)) (.cons (.ite (.and (.cmp .eq (.Z 2) (.lit (.str (ct "end")))) (.cmp .eq (.Z 4) (.lit (.str (ct ""))))) (.cons (.ret (.tup (.cons (.Z 1) (.cons (.neg (.lit (.int 1))) .nil)))) .nil) (.cons (.ret (.tup (.cons (.lit .none) (.cons (.bin .add (.Z 3) (.ite (.and (.cmp .isin (.Z 2) (.tup (.cons (.lit (.str (ct "quoted"))) (.cons (.lit (.str (ct "escape"))) .nil)))) (.cmp .ne (.Z 4) (.lit (.str (ct ""))))) (.lit (.int 1)) (.lit (.int 0)))) .nil)))) .nil)) .nil)) .nil)) .nil)) .nil)) .nil)
   [some (.str kY),some (.ref nl),some (.str st.tx),some (.int i),some (.str g),some (.bool (zG atC g)),none,none] U K E:=by
 have N1:U3 U nl (i+1) ns:=⟨N.h,eJ N.l,λw h=>eJ (N.w w h)⟩;have J:kY.length=i+s.length:=J hr (J ac (J hi rfl));refine oO in1 (bC (λz=>?_) λz1=>?_)
 ·clear k2 k3;obtain⟨x,r,e1,e2⟩:=go1 (ns:=ns) G z;have fin:∀q es,U q=.none->∀JI:Pl,nx1 st g=JI->(Cy JI=true->ns≠[])->K .next [some (.str kY),some (.ref nl),some (.str JI.tx),some (.int i),some (.str g),some (.bool (zG atC g)),none,none] (U.put q (.dict es)):=λq es hq JI he hn=>
   have x:=lg.new (o:=.dict es) hq
   k1 _ r JI ns _ _ e1 (e2.trans (by rw[he])) hn ⟨x.get N.h,N1.l,N1.w⟩ x.mono rfl
  refine bC (λy=>⟨rfl,by decide,nd4,λq hq=>?_⟩) (λy=>⟨rfl,by decide,nd4,λq hq=>?_⟩)
  ·clear AB k1 e2;induction st<;>try contradiction
   ·exact Ey kT rfl (fin q _ hq .Ox rfl λh=>nomatch h)
   ·exact Ey kT rfl (fin q _ hq .begin rfl λh=>nomatch h)
   ·exact Ey kT rfl (fin q _ hq .behind (if_pos y) λh=>nomatch h)
   exact Ey kT rfl (fin q _ hq .fin rfl λh=>nomatch h)
  clear k1 e2;induction st<;>try contradiction
  ·exact Ey kT rfl (fin q _ hq .Ox rfl λh=>nomatch h)
  ·exact Ey kT rfl (fin q _ hq .begin rfl λh=>nomatch h)
  ·exact Ey kT rfl (fin q _ hq .escape (if_neg λh=>by rw[show (g==ct "\"")=false from y]at h;contradiction) λh=>AB rfl)
  exact Ey kT rfl (fin q _ hq .fin rfl λh=>nomatch h)
 refine(?_:rU _ _ _ _ _ _ _);refine t2v rfl rfl (bC (λz=>?_) λz2=>?_)
 ·refine lw z λza zb=>?_;obtain⟨x,r,e1,e2⟩:=go2 (ns:=ns) G za zb;refine bC (λy=>?_) λy=>?_
  ·change (g==ct " ")=true at y;rw[y]at e2;exact k1 x r .begin ns U _ e1 e2 (λh=>nomatch h) N1 .rfl rfl
  change (g==ct " ")=false at y;rw[y]at e2;exact k1 x r .close ns U _ e1 e2 (λh=>nomatch h) N1 .rfl rfl
 refine(?_:rU _ _ _ _ _ _ _);refine t3v rfl rfl rfl (bC (λz=>?_) λz3=>?_)
 ·clear hr AB k2 k3 z1 z2;obtain⟨za,zb⟩:=az.mp z;clear z;obtain rfl:=xK za;obtain⟨x,r,e1,e2⟩:=go3 (ns:=ns) G zb;have il:ns.length<M:=by have:=N.l;exact tD 0x11001014124032a021013 rfl hm J this
  have app:∀w:NL,w.length<=1->U3 (U.put nl (.list (ns.map .str++[.str w]))) nl (i+1) (ns++[w]):=λw hw=>⟨kT.trans (by rw[aS];rfl),by rw[ac];exact bB N.l,λu hu=>by
   rcases aV.mp hu with q|q
   ·exact N1.w u q
   rw[aB.mp q];exact ah hw (dj _ _)⟩
  refine mf N.h (bC (λy=>?_) λy=>?_)
  ·change zG atC g=true at y;rw[if_pos y,if_pos y]at e2;refine lst N.h ⟨by rw[ai];exact il,bT y (k1 x r .atom _ _ _ e1 e2 (λ_ z=>by simp at z) (app g ?_) .put rfl)⟩;clear J zb k1 e1 e2 y;induction G<;>exact ae rfl
  change zG atC g=false at y;rw[if_neg (by rw[y];exact a7),if_neg (by rw[y];exact a7)]at e2;exact lst N.h ⟨by rw[ai];exact il,bF y (k1 x r .quoted _ _ _ e1 e2 (λ_ z=>by simp at z) (app [] (aO _)) .put rfl)⟩
 refine(?_:rU _ _ _ _ _ _ _);refine t4v G rfl rfl rfl (bC (λz=>?_) λz4=>?_)
 ·have z:(st=.atom/\zG atC g=true)\/(st=.quoted/\R_ g=true)\/(st=.escape/\(ct "\""==g||(ct "\\"==g||false))=true):=by
   rcases cA.mp z with z|z
   ·exact .inl ⟨xK (az.mp z).1,(az.mp z).2⟩
   rcases cA.mp z with z|z
   ·exact .inr (.inl ⟨xK (az.mp z).1,(az.mp z).2⟩)
   exact .inr (.inr ⟨xK (az.mp z).1,(az.mp z).2⟩)
  have hn:ns≠[]:=AB (by clear K AB k1 k2 k3 z1 z2 z3;rcases z with⟨rfl,_⟩|⟨rfl,_⟩|⟨rfl,_⟩<;>rfl);clear AB k2 k3 z2 z3;obtain⟨x,r,e1,rfl,e2⟩:=go4 (ns:=ns) G z1 z;rcases cJ ns with q|⟨n0,w,q⟩
  ·exact absurd q hn
  rw[cK]at q;clear hn;subst q;rw[zj]at e2;have h:=N.h;rw[aS]at h;have hw:=N.w w (bv _ aj);have hl:=N.l;have hM:M=16777216:=rfl;rw[ac]at hl;change n0.length+1<=i at hl;have il:(n0.map PV.str++[PV.str w]).length<=M:=by rw[ac,ai];refine(?_:n0.length+1<=M);exact id (tD 0x11001011b4a021b4a032a021013 rfl hm J hl)
  have N2:U3 (U.put nl (.list (n0.map PV.str++[PV.str (w++[x])]))) nl (i+1) (n0++[w++[x]]):=⟨kT.trans (by rw[aS];rfl),by rw[ac];exact eJ hl,λu hu=>by
   rcases aV.mp hu with q|q
   ·exact N1.w u (dI _ q)
   rw[aB.mp q,ac];exact bB hw⟩
  refine vO h il ⟨by refine(?_:w.length+1<=M);exact id (tD 0x11001011b4a024032a021013 rfl hm J hw),NN h il ?_⟩;have e3:=AZ (st:=st);refine bC (λy=>?_) λy=>?_
  ·rw[←e3,if_pos (show (st.tx==ct "atom")=true from y)]at e2;exact k1 x r .atom _ _ _ e1 e2 (λ_ z=>by simp at z) N2 .put rfl
  rw[←e3,if_neg (by rw[show (st.tx==ct "atom")=false from y];exact a7)]at e2;exact k1 x r .quoted _ _ _ e1 e2 (λ_ z=>by simp at z) N2 .put rfl
 have an:∀{a b:Bool},(a&&b)=false->a=true->b=false:=λh1 h2=>by subst h2;exact h1
 clear hr AB k1;refine HL z4 λz5 z6=>?_;clear z4;refine HL z6 λz6 z7=>?_;have R:=go5 (ns:=ns) G z1 (an z2) (λh=>by clear z5 z6 z7;clear k2 k3 z1 z2;subst h;exact z3) (λh=>by clear k2 k3 z1 z2 z3 z6 z7;subst h;exact z5) (λh=>by clear k2 k3 z1 z2 z3 z5 z7;subst h;exact z6) (λh=>by clear k2 k3 z1 z2 z3 z5 z6;subst h;exact z7);have e5:=NK (st:=st);clear G z3 z5 z6 z7;clear z1 z2;rcases R with⟨rfl,rfl,rfl,e⟩|⟨z8,e,e6,e7⟩
 ·exact bT rfl (bT rfl (k2 _ rfl e))
 rw[←e5]at z8;have out:∀j:Nat,s.length=e+j->K (.ret (.tup [.none,.int ((i:Int)+(j:Int))])) [some (.str kY),some (.ref nl),some (.str st.tx),some (.int i),some (.str g),some (.bool (zG atC g)),none,none] U:=λj hj=>by
  have:=k3 [some (.str kY),some (.ref nl),some (.str st.tx),some (.int i),some (.str g),some (.bool (zG atC g)),none,none] U e e6 (nn 0x10001021a021 rfl e7) .rfl;rw[show ((kY.length-e:Nat):Int)=(i:Int)+(j:Int) by exact congrArg ff (Nat.sub_eq_of_eq_add (tD 0x1010001010341aa0243a2221a022 rfl J hj))]at this;exact this
 refine XK (a:=st.tx==ct "end") (b:=g==ct "") z8 ?_;refine(?_:lO _ _ _ _ _ _ _);refine oO aaf ?_
 induction y:(Um st&&!(g==ct ""))with
 |true=>
  rw[if_pos y]at e7;exact aag y (out 1 e7)
 |false=>
  rw[if_neg (by rw[y];exact a7)]at e7;exact XK y (out 0 e7)
def uW{mt:Tab}{call:CT}{i:Nat}{ss:Ss}{Q:Fl->lK->kO->Prop}{E:QR}(h:Nat.blt i ρ.length=true)(k:lO call mt ss (ρ.set i (some v)) U Q E):Kf (zI call mt (.name i)) ρ (Bl (lO call mt ss) Q E) v U:=xp.mk h k
inductive NiI(s:NL)(nl:Nat)(U:kO)(l:NL)(ρ:lK)(kP:kO):Prop
 |mk (pre r:NL) (st:Pl) (ns:List NL) (o4 o5 o3:Option PV) (e1:l=kA pre.length (r.length+1)) (e2:s=pre++r) (e3:sm s .blank []=sm r st ns) (AB:Cy st=true->ns≠[]) (N:U3 kP nl pre.length ns) (x:lg [] U kP) (hr:ρ=[some (.str s),some (.ref nl),some (.str st.tx),o3,o4,o5,none,none]):NiI s nl U l ρ kP
def Cz(hm:s.length<M)(k1:∀nl ws kP,sm s .blank []=.ok ws->ws.length<=s.length->(∀w∈ws,w.length<=s.length)->lg [] U kP->kP nl=some (.list (ws.map .str))->Q (.tup [.ref nl,.int (-1)]) kP)
  (k2:∀e kP,sm s .blank []=.err e->e<=s.length->lg [] U kP->Q (.tup [.none,.int (s.length-e:Nat)]) kP):CL (n+1) 859 [.str s] U Q E:=by
 refine ent (ρ:=[_,_,_,_,_,_,_,_]) rfl rfl rfl λnl Sb=>⟨bI hm,?_⟩;refine(?_:lT _ .range (.int (s.length+1:Nat)) _);refine rS hm (RV (α:=Nat) (NiI s nl U) ?_ (λ_ _ _ _=>trivial) ?_ _ _ _
  ⟨[],s,.blank,[],_,_,_,kz,rfl,rfl,λh=>(nomatch h),⟨kT,aF _,λw h=>nomatch h⟩,.new Sb,rfl⟩)
 ·rintro i l ρ σ₁ K ⟨pre,r,st,ns,o4,o5,o3,e1,rfl,e3,AB,N,lh,rfl⟩ hK hR;rw[eR]at e1;obtain⟨rfl,rfl⟩:=bw e1;refine Un (j:=pre.length+1) (bI hm) ?_;refine(?_:mh _ _ _ _ _ _ _);refine JH isG rfl (uW rfl ?_);refine Q0 (st:=st) (nl:=nl) (ns:=ns) (o4:=none) (o5:=none) rfl rfl N AB hm (λx r' JI R' kP ρ e1 e2 h1 N' x' e=>?_) (λρ e1 e2=>?_) (λρ kP e e1 e2 x'=>?_) isG
  ·clear hm k1 k2;subst e1;have el:(pre++[x]).length=pre.length+1:=ac;refine hK _ _ ⟨pre++[x],r',JI,R',_,_,_,by refine J (el ..) ?_;rfl,by refine J (ao ..) ?_;rfl,e3.trans e2,h1,J (el ..) N',?_,e⟩;intro a o _ ho;refine x' a o (λz=>?_) (lh.get ho);rw[aB.mp z,Sb]at ho;contradiction
  ·have pl:pre.length<=(pre++r).length:=J (ac ..) (aM _ _);exact hR _ _ _ (k1 nl ns σ₁ (e3.trans e2) (ah N.l pl) (λw hw=>ah (N.w w hw) pl) lh N.h)
  exact hR _ _ _ (k2 e kP (e3.trans e1) (ah e2 (J (ac ..) (dj _ _))) (lh.trans x'))
 rintro ρ σ₁ ⟨pre,r,st,ns,o4,o5,o3,e1,_⟩;rw[eR]at e1;contradiction
end
section
open PySem PySem.W PyProof.Rows
variable {m w:NL}{a e:Nat}{bg:Option Nat}
noncomputable def quiet(m w:NL):Bool:=(sM w).all λp=>way m p.1==ct ""
def qi(w:NL):Prop:=w=[]\/∃u,w=u++[10]
def Ez:∀{w1 acc:NL},qK acc (w1++10::w2)=qK acc (w1++[10])++sM w2:=by
 intro z9
 induction z9 with
 |nil=>
  intro acc;exact rfl
 |cons x w1 ih=>
  intro acc;refine(?_:(if x=10 then pA acc::qK [] (w1++10::w2)else qK (acc++[x]) (w1++10::w2))=(if x=10 then pA acc::qK [] (w1++[10])else qK (acc++[x]) (w1++[10]))++sM w2)
  by_cases h:x=10
  ·refine J (if_pos h ..) (J (if_pos h ..) (J (ih ..) ?_));rfl
  exact J (if_neg h ..) (J (if_neg h ..) (J (ih ..) rfl))
def Ht(h:qi w1):sM (w1++w2)=sM w1++sM w2:=by
 rcases h with rfl|⟨u,rfl⟩
 ·rfl
 exact J (ao ..) Ez
def oU(h:qi w1)(h1:quiet m w1=true)(h2:quiet m w2=true):quiet m (w1++w2)=true:=by
 unfold quiet at*;refine J (Ht h ..) (J (gP ..) (J (h1 ..) (J (h2 ..) ?_)));rfl
def tQ(h1:qi w1)(h2:qi w2):qi (w1++w2):=by
 rcases h2 with rfl|⟨u,rfl⟩
 ·exact J (aJ ..) h1
 exact .inr ⟨w1++u,(ao ..).symm⟩
noncomputable def A0:Nat->Nat->List (NL×NL)->Nat
 |_,bf,[]=>bf
 |a,_,p::L=>A0 (a+p.1.length+p.2.length) (a+p.1.length) L
def Sc:∀{L:List (NL×NL)}{a bf:Nat},(L.all λp=>way m p.1==ct "")=true->AM m e a bg bf (L++L')=AM m e (a+(rn L).length) bg (A0 a bf L) L':=by
 intro z9
 induction z9 with
 |nil=>
  intro a bf _;exact rfl
 |cons p L ih=>
  intro a bf h;refine lw h λh1 h2=>?_;have ef:(rn (p::L)).length=p.1.length+p.2.length+(rn L).length:=by
   unfold rn;exact J (aK ..) (J (bh ..) (J (ac ..) (J (ac ..) rfl)))
  refine J (ef ..) (rr (cE ..) (rr (cE ..) ?_));exact(if_pos (eq_of_beq h1)).trans (ih h2)
def Ge:∀{u acc:NL}{a bf:Nat},A0 a bf (qK acc (u++[13,10]))=a+acc.length+u.length:=by
 intro z9
 induction z9 with
 |nil=>
  intro acc a bf;refine(?_:A0 a bf (if 13=10 then _ else if 10=10 then pA (acc++[13])::qK [] []else _)=_);refine J (if_neg (by decide) ..) (J (if_pos rfl ..) ?_);refine(?_:a+(pA (acc++[13])).1.length=_);unfold pA;refine J (cw ..) (J (if_pos rfl ..) (J (dK ..) ?_));rfl
 |cons x u ih=>
  intro acc a bf;refine(?_:A0 a bf (if x=10 then pA acc::qK [] (u++[13,10])else qK (acc++[x]) (u++[13,10]))=_)
  by_cases h:x=10
  ·refine J (if_pos h ..) ?_;refine(ih (bf:=a+(pA acc).1.length)).trans ?_;have cl:=Ej (l:=acc);refine(?_:a+(pA acc).1.length+(pA acc).2.length+0+u.length=a+acc.length+(u.length+1));exact tD 0x1000101b4a23aa40b103aaaa21b2a10a21 rfl cl
  refine J (if_neg h ..) (J (ih ..) (J (ac ..) ?_));refine(?_:a+(acc.length+1)+u.length=a+acc.length+(u.length+1));exact id (nn 0x1b2a10aa21b1a0aa20 rfl)
noncomputable def Qk(m:NL):Nd->Prop
 |.nil=>True
 |.cons kR body _ _ kY=>quiet m (lk kR++(body++mv))=true/\Qk m kY
def NO:way m (45::45::m)=ct "next":=by
 unfold way;have e1:(45::45::m).take (m.length+2)=45::45::m:=i7 (l:=45::45::m);have e2:(45::45::m).drop (m.length+2)=[]:=List.drop_length (l:=45::45::m);refine J (if_pos e1 ..) (J (e2 ..) ?_);rfl
def NP(hm:10∉m)(h0:sM fI=p0::L0)(hw:way m p0.1=ct "last"):∀{F:Nd}{p bf:Nat}{bg:Option Nat},Qk m F->AM m e p bg bf (sM (lC m F++fI))=(UY bg λb=>max (b:Int) bf)++oI m p F:=by
 intro z9
 induction z9 with
 |nil=>
  intro p bf bg _;refine(?_:AM m e p bg bf (sM fI)=_);rw[h0];refine(?_:(if way m p0.1=ct "" then _ else(UY bg λb=>max (b:Int) bf)++(if way m p0.1=ct "last" then[]else _))=_);rw[if_neg (by rw[hw];decide),if_pos hw];rfl
 |cons kR body kW kS kY ih1 ih2 ih=>
  intro p bf bg h;have hu:10∉45::45::(m++[13]):=by simp;exact hm
  have e1:lC m (.cons kR body kW kS kY)++fI=(45::45::(m++[13]))++10::(((lk kR++body)++[13])++10::(lC m kY++fI)):=by
   refine(?_:(45::45::(m++(mv++(lk kR++(body++(mv++lC m kY))))))++fI=_);simp[mv]
  have ec:pA (45::45::(m++[13]))=(45::45::m,[13,10]):=by
   unfold pA;have:45::45::(m++[13])=(45::45::m)++[13]:=rfl;rw[this,cw,if_pos rfl,dK]
  have e3:sM (((lk kR++body)++[13])++10::(lC m kY++fI))=sM ((lk kR++body)++[13,10])++sM (lC m kY++fI):=(Ez (acc:=[])).trans (by rw[ao];rfl);have hq:((sM ((lk kR++body)++[13,10])).all λp=>way m p.1==ct "")=true:=by
   have:=h.1;rw[←ao]at this;exact this
  rw[e1,Nc hu,ec,e3];refine(?_:(if way m (45::45::m)=ct "" then _ else(UY bg λb=>max (b:Int) bf)++(if way m (45::45::m)=ct "last" then _ else AM m e (p+(m.length+2)+2) (some (p+(m.length+2)+2)) (p+(m.length+2)) _))=_);rw[NO,if_neg (by decide),if_neg (by decide),Sc hq,ih h.2];have fl:(rn (sM ((lk kR++body)++[13,10]))).length=(lk kR).length+body.length+2:=by
   rw[show rn (sM ((lk kR++body)++[13,10]))=(lk kR++body)++[13,10]from zc,ac,ac];rfl
  have le:∀{a bf:Nat},A0 a bf (sM ((lk kR++body)++[13,10]))=a+0+(lk kR++body).length:=Ge;rw[fl,le,ac]
  congr 1
  refine(?_:PV.tup [.int _,.int (max ((p+(m.length+2)+2:Nat):Int) ((p+(m.length+2)+2+0+((lk kR).length+body.length):Nat):Int))]::oI m (p+(m.length+2)+2+((lk kR).length+body.length+2)) kY=PV.tup [.int (p+(m.length+4):Nat),.int (p+(m.length+4)+(lk kR).length+body.length:Nat)]::oI m (p+(m.length+4)+(lk kR).length+body.length+2) kY);rw[fh (aN.mpr (ah (aM _ 0) (aM _ _)))];rw[show p+(m.length+2)+2+0+((lk kR).length+body.length)=p+(m.length+4)+(lk kR).length+body.length by exact oV 0x324b1a0aaa32a0b2b2b1a0aaaa20 rfl,show p+(m.length+2)+2+((lk kR).length+body.length+2)=p+(m.length+4)+(lk kR).length+body.length+2 by exact oV 0x2b324b1a0aaaa2b32aa2b2b1a0aaa20 rfl];rfl
variable {ms:List NL}{kR:List Row}{body:NL}{kW kS F G:Nd}{S D:Nat}
noncomputable def AllP{α:Type}(P:α->Prop):List α->Prop
 |[]=>True
 |x::l=>P x/\AllP P l
def xL{α:Type}{P:α->Prop}:∀{l:List α},AllP P l->∀x,x∈l->P x:=by
 intro z9
 induction z9 with
 |nil=>
  intro _ x h;exact nomatch h
 |cons y l ih=>
  intro h x hx;cases hx with
  |head=>exact h.1
  |tail _ hx=>exact ih h.2 x hx
def mI{α:Type}{P:α->Bool}{l:List α}(h:l.all P=true){x:α}(hx:x∈l):P x=true:=aC.mp h x hx
noncomputable def mA:NL:=[61,109,65]
noncomputable def mF:List NL:=[mA,[61,109,66],[61,109,67],[61,109,68]]
noncomputable def oct(w:NL):Bool:=w.all λx=>decide (x<256)
def nH(h1:oct u=true)(h2:oct v=true):oct (u++v)=true:=by
 unfold oct at*;refine J (gP ..) (J (h1 ..) (J (h2 ..) ?_));rfl
structure XM(ms:List NL)(kR:List Row)(body:NL)(kW kS:Nd):Prop where
 r:oP kR=true
 n:NodeOk kR body kW kS
 l:qi (lJ kR)
 q:∀m∈ms,quiet m (lJ kR)=true/\quiet m (body++mv)=true
 b:oct (lJ kR)=true/\oct body=true
noncomputable def Gd(ms:List NL):Nd->Prop
 |.nil=>True
 |.cons kR body kW kS kY=>XM ms kR body kW kS/\kW.Ok/\kS.Ok/\Gd ms kY
noncomputable def Nd.sz:Nd->Nat
 |.nil=>0
 |.cons kR body _ _ kY=>(lk kR).length+body.length+kY.sz
structure Gn(ms:List NL)(F:Nd)(S D:Nat):Prop where
 g:Gd ms F
 sl:F.slim
 dep:F.dep<=D
 num:F.num<=S
 sz:F.sz<=S
theorem Gd.ok:∀{F:Nd},Gd ms F->F.Ok
 |.nil,_=>trivial
 |.cons ..,h=>⟨h.1.r,h.1.n,h.2.1,h.2.2.1,Gd.ok h.2.2.2⟩
def Gn.mono(h:Gn ms F S D)(h1:S<=S')(h2:D<=D')(h3:∀m∈ms',m∈ms):Gn ms' F S' D':=by
 refine⟨?_,h.sl,ah h.dep h2,ah h.num h1,ah h.sz h1⟩;have g:=h.g;clear h
 induction F with
 |nil=>trivial
 |cons kR body kW kS kY _ _ ih=>exact⟨⟨g.1.r,g.1.n,g.1.l,λm hm=>g.1.q m (h3 m hm),g.1.b⟩,g.2.1,g.2.2.1,ih g.2.2.2⟩
noncomputable def Nd.ap:Nd->Nd->Nd
 |.nil,G=>G
 |.cons kR body kW kS kY,G=>.cons kR body kW kS (kY.ap G)
theorem Nd.NQ:∀{F:Nd},(F.ap G).num=F.num+G.num
 |.nil=>(bV _).symm
 |.cons kR body kW kS kY=>by
  refine(?_:kW.num+kS.num+(kY.ap G).num+1=kW.num+kS.num+kY.num+1+G.num);exact J (Nd.NQ ..) (oV 0x31b210aaaa1b32a10aaa20 rfl)
theorem Nd.Sd:∀{F:Nd},(F.ap G).sz=F.sz+G.sz
 |.nil=>(bV _).symm
 |.cons kR body kW kS kY=>by
  refine(?_:_+(kY.ap G).sz=_+kY.sz+G.sz);exact J (Nd.Sd ..) (rr (cE ..) rfl)
theorem Nd.NS:∀{F:Nd},(F.ap G).dep<=max F.dep G.dep
 |.nil=>cG _ _
 |.cons kR body kW kS kY=>by
  have:=Nd.NS (F:=kY);refine(?_:max (1+max kW.dep kS.dep) (kY.ap G).dep<=max (max (1+max kW.dep kS.dep) kY.dep) G.dep);refine J (Nat.max_assoc ..) ?_;exact Nat.max_le.mpr ⟨di _ _,ah this (cG _ _)⟩
theorem Nd.Hu:∀{F:Nd},F.slim->G.slim->(F.ap G).slim
 |.nil,_,h=>h
 |.cons kR body kW kS kY,f,h=>⟨f.1,f.2.1,f.2.2.1,Nd.Hu f.2.2.2 h⟩
theorem Gd.ap:∀{F:Nd},Gd ms F->Gd ms G->Gd ms (F.ap G)
 |.nil,_,h=>h
 |.cons kR body kW kS kY,f,h=>⟨f.1,f.2.1,f.2.2.1,Gd.ap f.2.2.2 h⟩
def Gn.ap(h:Gn ms F S D)(h':Gn ms G S' D):Gn ms (F.ap G) (S+S') D:=
 ⟨h.g.ap h'.g,Nd.Hu h.sl h'.sl,ah Nd.NS (Nat.max_le.mpr ⟨h.dep,h'.dep⟩),J (Nd.NQ ..) (cj h.num h'.num),J (Nd.Sd ..) (cj h.sz h'.sz)⟩
theorem o_.ap(h':o_ τ G l'):∀{F:Nd}{l:List PV},o_ τ F l->o_ τ (F.ap G) (l++l')
 |.nil,l,h=>by subst h;exact h'
 |.cons kR body kW kS kY,l,h=>by
  rcases h with⟨r,l0,J,kl,kv,nt,e,h,hr,hk,nr,k1,k2,k3⟩
  ·exact⟨r,l0++l',J,kl,kv,nt,by rw[e];rfl,h,hr,hk,nr,k1,k2,o_.ap h' k3⟩
def o_.one(h:o_ τ F [.ref r]):∃kR body kW kS,F=.cons kR body kW kS .nil:=by
 rcases F with _|⟨kR,body,kW,kS,kY⟩
 ·contradiction
 rcases h with⟨r,l0,J,kl,kv,nt,e,h,hr,hk,nr,k1,k2,k3⟩
 ·clear h;rcases e with _|_
  rcases kY with _|⟨_,_,_,_,_⟩
  ·exact⟨_,_,_,_,rfl⟩
  (rcases k3 with⟨r,l0,J,kl,kv,nt,e⟩;(contradiction))
def JJ:wB.all (λrs=>oP rs&&(oct (lJ rs)&&mF.all λm=>quiet m (lJ rs)))=true:=rfl
def Gf:xI.all (λb=>oct b&&(cr b.length 15&&mF.all λm=>quiet m (b++mv)))=true:=rfl
def Uo{rs:List Row}{b:NL}(h1:rs∈wB)(h2:b∈xI):Gn mF (.cons rs b .nil .nil .nil) 115 1:=by
 refine lr λGp gk=>?_;refine lw (mI JJ h1) λt1 t2=>?_;refine lw t2 λt2 t3=>?_;refine lw (mI Gf h2) λu1 u2=>?_;refine lw u2 λu2 u3=>?_;refine lw (mI AU h1) λl1 _=>?_;have l1:(lk rs).length<=100:=by unfold lk;exact J (ac ..) (ae l1)
 have hn:NodeOk rs b .nil .nil/\qi (lJ rs):=xL (P:=λrs=>NodeOk rs b .nil .nil/\qi (lJ rs)) (l:=wB)
  ⟨⟨.Nh rfl rfl rfl,.inl rfl⟩,⟨.leaf ⟨ct "text",ct "html",.none⟩ rfl rfl rfl rfl rfl rfl,.inr ⟨Cs.nm++58::(Cs.v++[13]),rfl⟩⟩,
   ⟨.leaf ⟨[73,109,97,103,101],[80,78,71],.plain (ct "name") [120]⟩ rfl rfl rfl rfl rfl rfl,.inr ⟨Ny.oct++(Nz.nm++58::(Nz.v++[13])),rfl⟩⟩,trivial⟩ rs h1
 refine gk ?_;exact⟨⟨⟨t1,hn.1,hn.2,λm hm=>⟨mI t3 hm,mI u3 hm⟩,t2,u1⟩,trivial,trivial,trivial⟩,⟨aO _,trivial,trivial,trivial⟩,aF _,ae rfl,cj l1 (ae u2)⟩
def NT:ry.all (λf=>oP [f]&&(oct f.oct&&(!(f.key==Ci)&&(f.oct.getLast?==some 10&&mF.all λm=>quiet m f.oct))))=true:=rfl
def zq(h:(w.getLast?==some 10)=true):qi w:=.inr (List.getLast?_eq_some_iff.mp (eq_of_beq h))
def NU:∀{fs kR:List Row},(∀f∈fs,(f.key==w)=false)->nE w (fs++kR)=nE w kR:=by
 intro z9
 induction z9 with
 |nil=>
  intro _ _;exact rfl
 |cons f fs ih=>
  intro kR h;have:=ih (kR:=kR) λg hg=>h g (ay _ hg);unfold nE at*;refine J (cV ..) (J (gJ (by rw[h f aj];exact a7) ..) ?_);exact this
def NodeOk.turn(e:nE Ci Hv=nE Ci kR)(h:NodeOk kR body kW kS):NodeOk Hv body kW kS:=by
 rcases h with⟨h,hk,hi⟩|⟨c,h,ok,n1,n2,hk,hi⟩|⟨c,m,lead,u,h,ok,n1,n2,n3,om,hk,hi,hb,hp⟩|⟨c,r,b,k,i,h,ok,n1,n2,hk,hi,hb⟩
 ·exact .Nh (e.trans h) hk hi
 ·exact .leaf c (e.trans h) ok n1 n2 hk hi
 ·exact .zd c m lead u (e.trans h) ok n1 n2 n3 om hk hi hb hp
 exact .around c r b k i (e.trans h) ok n1 n2 hk hi hb
def XN:∀{fs:List Row},(∀f∈fs,f∈ry)->oP fs=true/\oct (lJ fs)=true/\qi (lJ fs)/\(∀m∈mF,quiet m (lJ fs)=true)/\∀f∈fs,(f.key==Ci)=false:=by
 intro z9
 induction z9 with
 |nil=>
  intro _;exact⟨rfl,rfl,.inl rfl,λ_ _=>rfl,λ_ h=>nomatch h⟩
 |cons f fs ih=>
  intro h;refine lr λGp gk=>?_;obtain⟨a1,a2,a3,a4,a5⟩:=ih λg hg=>h g (ay _ hg);refine lw (mI NT (h f aj)) λt1 t2=>?_;refine lw t2 λt2 t3=>?_;refine lw t3 λt3 t4=>?_;refine lw t4 λt4 t5=>?_;have hl:=zq t4;have t1:=(az.mp t1).1;have t3:=(bu _).mp t3;refine gk ?_;refine J (mu ..) ?_;refine⟨?_,nH t2 a2,tQ hl a3,λm hm=>oU hl (mI t5 hm) (a4 m hm),λg hg=>?_⟩
  ·unfold oP at*;exact J (ce ..) (J (a1 ..) (J (gr ..) t1))
  cases hg with
  |head=>exact t3
  |tail _ hg=>exact a5 g hg
def NV(hs:∀m∈ms,m∈mF)(h:Gn ms (.cons kR body kW kS .nil) S D)(hf:∀f∈fs,f∈ry)(hl:fs.length<=10):Gn ms (.cons (fs++kR) body kW kS .nil) (S+200) D:=by
 refine lr λGp gk=>?_;obtain⟨⟨g,ok,oi,_⟩,sl,dep,num,sz⟩:=h;obtain⟨a1,a2,a3,a4,a5⟩:=XN hf;have a6:=AV hf;have sz:(lk kR).length+body.length+0<=S:=sz;refine gk ?_;refine⟨⟨⟨?_,g.n.turn (NU a5),?_,λm hm=>⟨?_,(g.q m hm).2⟩,?_,g.b.2⟩,ok,oi,trivial⟩,sl,dep,ah num (aM _ _),?_⟩
 ·have:=g.r;unfold oP at*;refine J (gP ..) (J (a1 ..) (J (this ..) ?_));rfl
 ·exact J (tz ..) (tQ a3 g.l)
 ·exact J (tz ..) (oU a3 (a4 m (hs m hm)) (g.q m hm).1)
 ·exact J (tz ..) (nH a2 g.b.1)
 show (lJ (fs++kR)++mv).length+body.length+0<=S+200
 have:(lJ kR++mv).length+body.length+0<=S:=sz;rw[ac]at*;refine J (tz ..) (J (ac ..) ?_);exact xm 0x142f01010c82fb5a0b4321aaaa050b432aaa00142fd10ab003 rfl hl a6 this
def zr:qi (u++mv):=.inr ⟨u++[13],by refine J (ao ..) ?_;rfl⟩
def zt(l:qi (lJ kR))(q1:quiet m (lJ kR)=true)(q2:quiet m (body++mv)=true)(h:quiet m mv=true):quiet m (lk kR++(body++mv))=true:=by
 unfold lk;refine J (ao ..) ?_;exact oU l q1 (oU (zr (u:=[])) h q2)
def Gg:mF.all (λm=>quiet m mv)=true:=rfl
def XO:mF.all (λm=>quiet m (lJ [su]))=true:=rfl
def NW(hs:∀m∈ms,m∈mF)(h:Gn ms (.cons kR body kW kS .nil) S D):Gn ms (.cons [su] (lk kR++body) .nil (.cons kR body kW kS .nil) .nil) (S+100) (D+1):=by
 have okF:=h.g.ok;refine lr λGp gk=>?_;obtain⟨⟨g,ok,oi,_⟩,sl,dep,num,sz⟩:=h;have sz:(lk kR).length+body.length+0<=S:=sz;have num:kW.num+kS.num+0+1<=S:=num;refine gk ?_;refine⟨⟨⟨rfl,.around ⟨ct "message",ct "rfc822",.none⟩ kR body kW kS rfl rfl rfl rfl rfl rfl rfl,.inr ⟨su.nm++58::(su.v++[13]),rfl⟩,λm hm=>⟨mI XO (hs m hm),?_⟩,rfl,nH (nH g.b.1 rfl) g.b.2⟩,trivial,okF,trivial⟩,⟨aO _,trivial,sl,trivial⟩,?_,?_,?_⟩
 ·refine J (ao ..) ?_;exact zt g.l (g.q m hm).1 (g.q m hm).2 (mI Gg (hs m hm))
 ·show max (1+max 0 (Nd.dep (.cons kR body kW kS .nil))) 0<=D+1
  refine J (eH ..) (J (Nat.zero_max ..) (J (ck ..) ?_));exact bB dep
 ·show 0+(kW.num+kS.num+0+1)+0+1<=S+100
  exact nn 0x10642fb2a1b0b1b0b10aaa0baaa021b0b10aaa01 rfl num
 show (lk [su]).length+(lk kR++body).length+0<=S+100
 rw[ac];have:(lk [su]).length<=100:=ae rfl;exact oV 0x1010642fb2a0b10a3aa0642fb3020b10aa02 rfl sz this
noncomputable def Up(m:NL):J2:=⟨ct "multipart",ct "mixed",.quoted (ct "boundary") m⟩
noncomputable def Uq(m:NL):List (NL×NL)->Bool
 |[]=>false
 |p::_=>way m p.1==ct "last"
def MulOk(m:NL):Prop:=nE Ci [oB m]=.bytes (Up m).oct/\(Up m).ok=true/\Ch m=true/\(!m.contains 10)=true/\m.length=3/\oP [oB m]=true/\oct (lJ [oB m])=true/\oct m=true/\(lJ [oB m]).getLast?=some 10/\(mF.all λm'=>quiet m' (lJ [oB m]))=true/\(tA.all λtl=>Uq m (sM (45::45::(m++tl))))=true/\(mF.all λm'=>m'==m||(quiet m' (45::45::(m++mv))&&tA.all λtl=>quiet m' (45::45::(m++tl)++mv)))=true
def Hw(h:m∈mF):MulOk m:=
 xL (P:=MulOk) (l:=mF) ⟨⟨rfl,rfl,rfl,rfl,rfl,rfl,rfl,rfl,rfl,rfl,rfl,rfl⟩,⟨rfl,rfl,rfl,rfl,rfl,rfl,rfl,rfl,rfl,rfl,rfl,rfl⟩,⟨rfl,rfl,rfl,rfl,rfl,rfl,rfl,rfl,rfl,rfl,rfl,rfl⟩,⟨rfl,rfl,rfl,rfl,rfl,rfl,rfl,rfl,rfl,rfl,rfl,rfl⟩,trivial⟩ m h
def NY:zl.all (λl=>oct l&&(cr l.length 6&&((l==[]||l.getLast?==some 10)&&mF.all λm=>quiet m l)))=true:=rfl
def NZ:tA.all (λl=>oct l&&cr l.length 9)=true:=rfl
theorem Gd.qk(hm:m∈ms)(hc:quiet m mv=true):∀{F:Nd},Gd ms F->Qk m F
 |.nil,_=>trivial
 |.cons ..,h=>⟨zt h.1.l (h.1.q m hm).1 (h.1.q m hm).2 hc,Gd.qk hm hc h.2.2.2⟩
def wC:lC m (.cons kR body kW kS kY)=(45::45::(m++mv))++((lk kR++(body++mv))++lC m kY):=by
 refine(?_:45::45::(m++(mv++(lk kR++(body++(mv++lC m kY)))))=_);simp[mv]
def zu:qi (45::45::(m++mv)):=.inr ⟨45::45::(m++[13]),by refine(?_:_=45::45::((m++[13])++[10]));refine J (ao ..) ?_;rfl⟩
def zv:qi (lk kR++(body++mv)):=rr (ao ..) zr
theorem N4(hq:quiet m' (45::45::(m++mv))=true):∀{F:Nd},Qk m' F->quiet m' (lC m F)=true/\qi (lC m F)
 |.nil,_=>⟨rfl,.inl rfl⟩
 |.cons ..,h=>by
  obtain⟨i1,i2⟩:=N4 hq h.2;refine J (wC ..) ?_;exact⟨oU zu hq (oU zv h.1 i1),tQ zu (tQ zv i2)⟩
theorem EA(hm:oct m=true):∀{F:Nd},Gd ms F->oct (lC m F)=true
 |.nil,_=>rfl
 |.cons kR body kW kS kY,h=>by
  refine J (wC ..) ?_;exact nH (nH (u:=45::45::m) hm rfl) (nH (nH (nH h.1.b.1 rfl) (nH h.1.b.2 rfl)) (EA hm h.2.2.2))
def zw:∀{F:Nd},(lC m F).length=F.sz+F.len*(m.length+6):=by
 intro z9
 induction z9 with
 |nil=>
  exact(bV _).symm.trans (by refine J (show Nd.nil.len=0 from rfl) (J (iS ..) ?_);rfl)
 |cons kR body kW kS kY ih1 ih2 ih=>
  have ih:=ih;rw[wC,ac,ac,ac,ac,ih];refine(?_:(m++mv).length+1+1+((lk kR).length+(body.length+2)+(kY.sz+kY.len*(m.length+6)))=(lk kR).length+body.length+kY.sz+(kY.len+1)*(m.length+6));refine J (ac ..) (J (Nat.succ_mul ..) ?_);refine(?_:m.length+2+1+1+_=_);exact tD 0x6b0a4a321aaa43a2b2a1aa1b1b2b0aaaa20 rfl
def Q2(hm:m∈mF)(hs:∀m'∈ms,m'∈mF/\(m'==m)=false)(h:Gn (m::ms) F S D)(hF:F≠.nil)(hlen:F.len<=3)(hl:lead∈zl)(ht:tl∈tA):
  Gn ms (.cons [oB m] (lead++(lC m F++(45::45::(m++tl)))) F .nil .nil) (S+100) (D+1):=by
 refine lr λGp gk=>?_;obtain⟨m1,m2,m3,m4,m5,m6,m7,m8,m9,m10,m11,m12⟩:=Hw hm;refine lw (mI NY hl) λl1 l2=>?_;refine lw l2 λl2 l3=>?_;refine lw l3 λl3 l4=>?_;refine lw (mI NZ ht) λt1 t2=>?_;have l2:=ae l2;have t2:=ae t2;have ll:qi lead:=by
  rcases cA.mp l3 with z|z
  ·exact .inl (eq_of_beq z)
  exact zq z
 have okF:=h.g.ok;obtain⟨g,sl,dep,num,sz⟩:=h;have kl:=zw (m:=m) (F:=F);rw[m5]at kl;refine gk ?_;refine⟨⟨⟨m6,.zd (Up m) m lead (45::45::(m++tl)) m1 m2 rfl rfl rfl m3 hF rfl rfl λa=>?_,zq (by refine J (m9 ..) ?_;rfl),λm' sL=>⟨mI m10 (hs m' sL).1,?_⟩,m7,?_⟩,okF,trivial,trivial⟩,⟨hlen,sl,trivial,trivial⟩,?_,?_,?_⟩
 ·have e:=mI m11 ht;have qk:=Gd.qk aj (mI Gg hm) g;rcases el:sM (45::45::(m++tl))with _|⟨p0,L0⟩
  ·rw[el]at e;contradiction
  rw[el]at e;refine J (Ht ll ..) (J (Sc (mI l4 hm) ..) (J (NP (nc m4) el (eq_of_beq e) qk ..) (J (show rn (sM lead)=lead from zc) ?_)));rfl
 ·refine lr λGp gk=>?_;obtain⟨R6,hm2⟩:=hs m' sL;have e:=mI m12 R6;rw[hm2,Bool.false_or]at e;refine lw e λe1 e2=>?_;obtain⟨k1,k2⟩:=N4 (m:=m) e1 (Gd.qk (ay _ sL) (mI Gg R6) g);refine gk ?_;refine J (ao ..) (J (ao ..) ?_);exact oU ll (mI l4 R6) (oU k2 k1 (mI e2 ht))
 ·exact nH l1 (nH (EA m8 g) (nH (u:=45::45::m) m8 t1))
 ·refine(?_:max (1+max F.dep 0) 0<=D+1);refine J (eH ..) (J (eH ..) (J (ck ..) ?_));exact bB dep
 ·exact cj (show F.num+0+0<=S from num) (ae rfl:1<=100)
 have e:=Hr (m:=m);rw[m5]at e;refine(?_:(lJ [oB m]++mv).length+(lead++(lC m F++(45::45::(m++tl)))).length+0<=S+100);rw[ac,ac,ac];refine(?_:(lJ [oB m]).length+2+(lead.length+((lC m F).length+((m++tl).length+1+1)))+0<=S+100);rw[ac];exact YH 0x90101010101010642fb5a0b1b1b31aaa6a2a2b7aaa0312fb2b7a209e4a625409b306b203b123b007 rfl hlen m5 l2 t2 sz kl e
end
section
open PySem PySem.W PyProof.Rows
variable {U kP τ:kO}{Q:QV}{E:nI}{n f a b c d:Nat}{t:mG}{vs:List PV}{ρ:lK}{nm:NL}{K:PV->Prop}{v:PV}{data s:NL}{p B:Nat}{hh:NL}{ms:List NL}{F:Nd}{S D:Nat}
def A3:(lk kR).length=(lJ kR).length+2:=ac
structure tW(U kP:kO)(p c:Nat)(hh:NL)(B:Nat)(ms:List NL)(S D:Nat)(F:Nd)(r:Nat):Prop where
 o:Out U kP p c hh B F r
 g:Gn ms F S D
def zx(P:pZ U p c hh (B+2))(k:∀kP r F,tW U kP p c hh B mF 115 1 F r->Q (.ref r) kP):CL (n+2) 817 [.ref p] U Q E:=
 leaf P λkP r rs b h1 h2 O=>k kP r _ ⟨O,Uo h1 h2⟩
def CA(P:pZ U p c hh (B+2))(N:o_ (qh p c hh U) F [.ref q])(g:Gn ms F S D)(hs:∀m∈ms,m∈mF)(hS:S<=9000)(k:∀kP r F,tW U kP p c hh B ms (S+200) D F r->Q (.ref r) kP):CL (n+2) 831 [.ref p,.ref q] U Q E:=by
 refine lr λGp gk=>?_;obtain⟨kR,body,kW,kS,rfl⟩:=N.one;have sz:(lk kR).length+body.length+0<=S:=g.sz;rw[A3]at sz;have hr:kR.all Row.ok=true:=aC.mpr λr h=>(az.mp (aC.mp g.g.1.r r h)).1;have:=tu hr;refine gk ?_;exact F_ P N (nn 0x101027104fb1000b22b1aaa023284fb002 rfl hS sz) (oV 0x10101027104fb3013000b22b1aaa023284fb003 rfl hS sz this) λkP r fs h1 h2 O=>k kP r _ ⟨O,NV hs g h1 h2⟩
def Hx(P:pZ U p c hh B)(N:o_ (qh p c hh U) F [.ref q])(g:Gn ms F S D)(hs:∀m∈ms,m∈mF)(hS:S<=10000)(k:∀kP r F,tW U kP p c hh B ms (S+100) (D+1) F r->Q (.ref r) kP):CL (n+2) 838 [.ref q] U Q E:=by
 refine lr λGp gk=>?_;obtain⟨kR,body,kW,kS,rfl⟩:=N.one;have sz:(lk kR).length+body.length+0<=S:=g.sz;have hM:M=16777216:=rfl;refine gk ?_;exact around P N (oV 0x101100321a010000007fb3200b21aa027104fb003 rfl hS sz hM) λkP r O=>k kP r _ ⟨O,NW hs g⟩
def Gh(P:pZ U p c hh (B+2))(hk:qh p c hh U kl=some (.list kv))(N:o_ (qh p c hh U) F kv)(hm:m∈mF)(hs:∀m'∈ms,m'∈mF/\(m'==m)=false)(g:Gn (m::ms) F S D)(hF:F≠.nil)(hlen:F.len<=3)(hS:S<=10000)
  (k:∀kP r F,tW U kP p c hh B ms (S+100) (D+1) F r->Q (.ref r) kP):CL (n+2) 824 [.ref p,.bytes m,.ref kl] U Q E:=by
 have kl:=zw (m:=m) (F:=F);have m5:=(Hw hm).2.2.2.2.1;have sz:=g.sz;have hM:M=16777216:=rfl;rw[m5]at kl;exact zd P hk N m5 (by exact(oV 0x90101010186a05fb2013009e3a2227104fb103b004 rfl hlen hS kl sz)) (J (Cw (F:=.nil) N ..) (mZ 0x110010010000007fb123b002 rfl hlen hM)) λkP r lead tl h1 h2 O=>k kP r _ ⟨O,Q2 hm hs g hF hlen h1 h2⟩
def tW.step(x:lg [p,c] U σ₁)(O:tW σ₁ kP p c hh B ms S D F r):tW U kP p c hh B ms S D F r:=⟨⟨O.o.P,x.trans O.o.x,O.o.N⟩,O.g⟩
def tW.mono(O:tW U kP p c hh B ms S D F r)(h1:S<=S')(h2:D<=D')(h3:∀m∈ms',m∈ms):tW U kP p c hh B ms' S' D' F r:=⟨O.o,O.g.mono h1 h2 h3⟩
def pZ.less(P:pZ U p c hh B)(h:B'<=B):pZ U p c hh B':=by
 refine lr λGp gk=>?_;obtain⟨ne,al,cells,pB,lQ,h1,h2,h3,h4⟩:=P;refine gk ?_;exact⟨ne,al,cells,pB,lQ,h1,h2,h3,ah (bK h _) h4⟩
def U7(h:m∈[mA]):m∈mF:=J (aB.mp h ..) aj
def lal(P:pZ U p c hh (B+4))(k:∀kP r F,tW U kP p c hh B mF 415 2 F r->Q (.ref r) kP)(h:ρ.get i=some (.ref p)):mh (CL (n+2)) lF (.call (.lit (.ref 838)) (.cons (.call (.lit (.ref 831)) (.cons (.Z i) (.cons (.call (.lit (.ref 817)) (.cons (.Z i) .nil)) .nil))) .nil)) ρ U Q E:=by
 refine(?_:lv (ρ.get i) _);refine J (h ..) ?_;refine(?_:lv (ρ.get i) _);refine J (h ..) ?_;refine zx P λσ₁ lM TE xf=>CA xf.o.P xf.o.N xf.g (λ_ h=>h) (by decide) λσ₂ oz aah oN=>Hx oN.o.P oN.o.N oN.g (λ_ h=>h) (by decide) λlH Tg aai rz=>?_;exact k lH Tg aai ((rz.step oN.o.x).step xf.o.x)
variable {G:Nd}
structure N5(U kP:kO)(p c:Nat)(hh:NL)(B:Nat)(ms:List NL)(S D:Nat)(F:Nd)(l:Nat)(v:List PV):Prop where
 P:pZ kP p c hh B
 x:lg [p,c] U kP
 h:qh p c hh kP l=some (.list v)
 N:o_ (qh p c hh kP) F v
 g:Gn ms F S D
def N5.new{l:Nat}{v:List PV}(P:pZ kP p c hh B)(x:lg [p,c] U kP)(hl:kP l=.none)(N:o_ (qh p c hh kP) F v)(g:Gn ms F S D):N5 U (kP.put l (.list v)) p c hh B ms S D F l v:=
 have y:=lg.new (o:=.list v) hl
 ⟨P.keep y,x.trans y.mono,pj (P.fresh hl) kT,N.keep (mq y.mono),g⟩
def duo{m:NL}{i:Nat}(P:pZ U p c hh (B+6))(hm:m∈mF)(hA:(mA==m)=false)(h:ρ.get i=some (.ref p))(k:∀kP r F,tW U kP p c hh B [mA] 330 2 F r->Q (.ref r) kP):
  mh (CL (n+2)) lF (.call (.lit (.ref 824)) (.cons (.Z i) (.cons (.lit (.bytes m)) (.cons (.list (.cons (.call (.lit (.ref 817)) (.cons (.Z i) .nil)) (.cons (.call (.lit (.ref 817)) (.cons (.Z i) .nil)) .nil))) .nil)))) ρ U Q E:=by
 have r1:∀{K:PV->Prop},K (.ref p)->lv (ρ.get i) K:=λk=>J (h ..) k;refine r1 (r1 (zx P λσ₁ lM TE xf=>r1 (zx xf.o.P λσ₂ oz aah oN l hl=>?_)));have N1:=xf.o.N.keep (mq oN.o.x);refine lr λGp gk=>?_;obtain⟨kR,body,kW,kS,rfl⟩:=xf.o.N.one;obtain⟨aar,aas,aat,aaj,rfl⟩:=oN.o.N.one;have L:=N5.new oN.o.P (xf.o.x.trans oN.o.x) hl (oN.o.N.ap N1) (xf.g.ap oN.g);refine gk ?_;refine Gh (m:=m) (ms:=[mA]) L.P L.h L.N hm (λm' h'=>?_) (L.g.mono (aF _) (aF _) λm' h'=>?_) (λz=>nomatch z) (ae rfl) (by decide) λlH r F O=>k lH r F ((O.step L.x).mono (by decide) (by decide) λ_ h=>h)
 ·exact J (aB.mp h' ..) (⟨aj,hA⟩)
 rcases aU.mp h' with z|z
 ·exact J (z ..) hm
 exact U7 z
def JK{way:Nat}(P:pZ U p c hh (B+6))(hw:way<3)(k:∀kP r F,tW U kP p c hh B [mA] 415 2 F r->Q (.ref r) kP):CL (n+3) 845 [.ref p,.int (way:Nat)] U Q E:=by
 refine ent (ρ:=[_,_,_,_,_,_]) rfl rfl rfl ?_;obtain rfl|rfl|rfl:=Sm hw
 ·exact bT rfl (zx (P.less (bK (by decide) _)) λkP r F O=>k kP r F (O.mono (by decide) (by decide) λ_ h=>U7 h))
 ·exact bF rfl (bT rfl (lal (i:=0) (ρ:=[some (.ref p),some (.int 1),none,none,none,none]) (P.less (bK (by decide) _)) (λkP r F O=>k kP r F (O.mono (by decide) (by decide) λ_ h=>U7 h)) rfl))
 exact bF rfl (bF rfl (duo (i:=0) (ρ:=[some (.ref p),some (.int 2),none,none,none,none]) P (ay _ (ay _ (ay _ aj))) rfl rfl λkP r F O=>k kP r F (O.mono (by decide) (by decide) λ_ h=>h)))
def JL{l:List PV}{j:Nat}(h:U a=some (.Aj l))(hm:l.length<=M)(k:∀q,U q=.none->Q (.ref q) (U.put q (.list (cut l 0 j)))):mS U (.ref a) .none (.int (j:Nat)) Q:=by
 unfold mS Bh;dsimp only;refine J (h ..) ?_;refine⟨hm,λq hq=>?_⟩;have:=sh (l:=l) (i:=0) (j:=j);rw[j8]at this;refine J (show v7 l.length (j:Int)=min j l.length from pg) (J (this ..) ?_);exact k q hq
def Q3{xs:List Int}(h:U a=some (.Aj (xs.map PV.int)))(hx:xs.length<=63)(k:∀kP p c,pZ kP p c [] 1000->lg [] U kP->Q (.ref p) kP):CL (n+1) 798 [.ref a] U Q E:=by
 have hM:M=16777216:=rfl;have e1:cut (xs.map PV.int) 0 40=(xs.take 40).map PV.int:=by
  refine(?_:(xs.map PV.int).take 40=_);exact J (ir ..) rfl
 have hl:(xs.map PV.int).length=xs.length:=ai _;have ht:(xs.take 40).length<=40:=List.length_take_le ..;refine ent (ρ:=[_]) rfl rfl rfl (JL (j:=40) h (J (hl ..) (mZ 0x110010010000007fb123f2fb002 rfl hx hM)) λq hq=>?_);refine J (e1 ..) ?_;have x1:=lg.new (o:=.list ((xs.take 40).map PV.int)) hq;refine rR kT (J (ai ..) (mZ 0x10010010282fb1010000007fb022 rfl hM ht)) (vK (α:=Int) (f:=PV.int) (g:=λx:Int=>.int (((x.natAbs:Nat):Int).fmod (10^60))) kT (xs.take 40) [] (λx hx K k=>bT rfl ⟨rfl,rfl,by decide,k⟩) ⟨?_,λc hc p hp=>?_⟩)
 ·exact J (bc ..) (J (ai ..) (mZ 0x10010010282fb1010000007fb022 rfl hM ht))
 rw[bc]at hp ⊢;have e2:(xs.take 40).map (λx=>PV.int (((x.natAbs:Nat):Int).fmod (10^60)))=xj ((xs.take 40).map λx=>x.natAbs%10^60):=by
  unfold xj;refine J (bU ..) ?_;refine ip λx _=>congrArg PV.int ?_;exact(ic x.natAbs (10^60)).symm
 rw[e2]at hp ⊢;have x2:=lg.new (o:=.list (xj ((xs.take 40).map λx=>x.natAbs%10^60))) hc;have x3:=lg.new (o:=.list [.ref c,.int 0,.int 0]) hp;exact k _ p c ⟨λz=>(by rw[z,kT]at hp;contradiction),(λa h=>nomatch h),_,0,0,kT,x3.get kT,J (ai ..) ht,aF _⟩ (x1.trans (x2.trans x3))
structure Rd(U:kO)(data:NL)(F:Nd)(p:Nat):Prop where
 P:qQ U data F [.ref p]
 o:F.Ok
 ne:F≠.nil
 num:F.num<=M
 m:data.length<M
 b:∀x∈data,x<256
def Rd.keep(R:Rd U data F p)(x:lg [] U kP):Rd kP data F p:=⟨R.P.keep x,R.o,R.ne,R.num,R.m,R.b⟩
def Rd.oct(R:Rd U data F p)(S:ph U z ln w ns)(hl:ln.length<=1000)(hn:namesOk ns)(k:∀kP,lg [] U kP->Q (sr F ln w ns) kP):CL (n+7) 778 [.bytes data,.ref p,.ref z] U Q E:=
 zh R.P S R.o R.ne R.num (ah hl (by decide)) R.m R.b hn k
def Gr:namesOk []:=⟨aO _,λx h=>nomatch h⟩
def same{ln:NL}{ns:List NL}{A B:Prop}(e:sr F ln w ns=U4)(k:B):OG U (sr F ln w ns) U4 λr=>mx (!r) A B:=by
 subst e;rcases zg (F:=F) (ln:=ln) (w:=w) (ns:=ns)with e|⟨x,e⟩<;>refine J (e ..) ?_
 ·exact bF rfl k
 exact bF (by show (!(x==x))=false;refine J (beq_self_eq_true ..) ?_;rfl) k
def four{r5 r6 o7 o8:Option PV}{Kq:Fl->lK->kO->Prop}{E:QR}(R:Rd U data F p)(hl:ns.length<=1000)
  (h1:sr F ns .no []=body) (h2:sr F ns .qp []=h4) (h3:sr F ns .header []=x0) (h5:sr F ns .text []=x1)
  (k:∀kP x7 x8,lg [] U kP->Kq .next [some (.bytes data),some (.ref p),some pl,some u,some (.tup (pP ns)),r5,r6,x7,x8,none,none,none,none,none] kP):
  rG (λ_=>True) (Ke (zI (CL (n+7)) lF (.tup (.cons (.name 7) (.cons (.name 8) .nil)))) (lO (CL (n+7)) lF (.cons (.ite (.cmp .ne (.call (.lit (.ref 778)) (.cons (.Z 0) (.cons (.Z 1) (.cons (.call (.lit (.ref 666)) (.cons (.Z 4) (.cons (.Z 7) .nil))) .nil)))) (.Z 8)) (.cons (.ret (.lit (.bool false))) .nil) .nil) .nil)) E)
   [.tup [.str (ct ""),body],.tup [.str (ct "MIME"),h4],.tup [.str (ct "HEADER"),x0],.tup [.str (ct "TEXT"),x1]] [some (.bytes data),some (.ref p),some pl,some u,some (.tup (pP ns)),r5,r6,o7,o8,none,none,none,none,none] U Kq:=by
 refine RV (α:=Wd×PV) (f:=λq=>.tup [.str q.1.s,q.2]) (λl ρ kP=>(∀q∈l,sr F ns q.1 []=q.2)/\lg [] U kP/\∃x7 x8,ρ=[some (.bytes data),some (.ref p),some pl,some u,some (.tup (pP ns)),r5,r6,x7,x8,none,none,none,none,none]) ?_ (λ_ _ _ _=>trivial) ?_ [(.no,body),(.qp,h4),(.header,x0),(.text,x1)] _ U
  ⟨λq hq=>xL (l:=[(Wd.no,body),(.qp,h4),(.header,x0),(.text,x1)]) (P:=λq:Wd×PV=>sr F ns q.1 []=q.2) ⟨h1,h2,h3,h5,trivial⟩ q hq,.rfl,_,_,rfl⟩
 ·rintro⟨w,U4⟩ l ρ σ₁ K ⟨h,x,x7,x8,rfl⟩ hK _;refine Hl (n:=n+6) (ln:=ns) (w:=w) λz σ₂ lA S=>(R.keep (x.trans lA)).oct S hl Gr λlH lU=>?_;exact same (h _ aj) (hK _ _ ⟨λq hq=>h q (ay _ hq),x.trans (lA.trans lU),_,_,rfl⟩)
 rintro ρ σ₁ ⟨h,x,x7,x8,rfl⟩;exact k σ₁ x7 x8 x
def A8(N:o_ τ (.cons kR body kW kS .nil) [.ref r]):∃J kl nt,τ r=some (.list [.ref J,.bytes body,.ref kl,nt,.bytes (lk kR)])/\τ J=some (.list (kR.map oZ))/\o_ τ kS (vN nt)/\NR nt:=by
 rcases N with⟨r,l',J,kl,kv,nt,e,h,hr,hk,nr,k1,k2,k3⟩
 ·clear k3;rcases e with _|_
  exact⟨J,kl,nt,h,hr,k2,nr⟩
def wD(h:ns≠[]):sr F ns w xs=JB w xs (u7 F true ns):=by
 rcases ns with _|⟨j,js⟩
 ·exact absurd rfl h
 rfl
def N6(x:lg [] τ U)(N:o_ τ (.cons kR body kW kS .nil) [.ref r])(h:ρ.get i=some (.ref r))(k:∀q kP,lg [] U kP->kP q=some (.list [xh .header [] kS,xh .text [] kS])->Q (.ref q) kP):
  mh (CL n) lF (.ite (.cmp .is (.sub (.Z i) (.lit (.int 3))) (.lit .none)) (.list (.cons (.lit .none) (.cons (.lit .none) .nil))) (.list (.cons (.sub (.sub (.Z i) (.lit (.int 3))) (.lit (.int 4))) (.cons (.sub (.sub (.Z i) (.lit (.int 3))) (.lit (.int 1))) .nil)))) ρ U Q E:=by
 have r1:∀{K:PV->Prop},K (.ref r)->lv (ρ.get i) K:=λk=>J (h ..) k;refine lr λGp gk=>?_;obtain⟨J,kl,nt,e,_,k2,nr⟩:=A8 N;have e:=x.get e;refine gk ?_;refine r1 (mw (j:=3) e (ae rfl) rfl rfl ?_);clear kW N nr;rcases kS with _|⟨r2,b2,JA,i2,t2⟩
 ·have:=k2.tO;clear e k2;subst this;exact bT rfl λq hq=>k q _ (.new hq) kT
 refine lr λGp gk=>?_;obtain⟨q,rfl,rfl,N2⟩:=k2.qN;obtain⟨_,_,_,e2,_⟩:=A8 N2;have e2:=x.get e2;refine gk ?_;exact bF rfl (r1 (mw (j:=3) e (ae rfl) rfl rfl (mw (j:=4) e2 (ae rfl) rfl rfl (r1 (mw (j:=3) e (ae rfl) rfl rfl (mw (j:=1) e2 (ae rfl) rfl rfl λq hq=>k q _ (.new hq) kT))))))
def N7(x:Nat):Prop:=x<=126/\x≠60
def JM(h:lets.contains x=true):N7 x:=
 show x<=126/\x≠60 from of_decide_eq_true (aC.mp (show lets.all (λx=>decide (x<=126/\x≠60))=true from rfl) x (bj.mp h))
def JN:∀{ns:NL},(∀j∈ns,Er j)->∀x∈k_ ns,N7 x:=by
 intro z9
 induction z9 with
 |nil=>
  intro _ x h;exact nomatch h
 |cons j ns ih=>
  intro hn x h;obtain⟨h1,h2⟩:=hn j aj;change x∈(48+j)::46::k_ ns at h;cases h with
  |head=>exact⟨sR 0x107e2fb0302fba09b001 rfl h2,sR 0x11000b0b53c2fb0302fba29b002 rfl h2⟩
  |tail _ h=>
   cases h with
   |head=>exact⟨by decide,by decide⟩
   |tail _ h=>exact ih (λi hi=>hn i (ay _ hi)) x h
def EB(hn:∀j∈ns,Er j)(hu:u.all lets.contains=true)(hr:∀x∈r,N7 x):∀x∈91::(k_ ns++(u++r)),N7 x:=λx h=>by
 cases h with
 |head=>exact⟨by decide,by decide⟩
 |tail _ h=>
  rcases aV.mp h with h|h
  ·exact JN hn x h
  rcases aV.mp h with h|h
  ·exact JM (aC.mp hu x h)
  exact hr x h
structure N8(w:Wd)(u:NL):Prop where
 e:u.map Np=w.s
 l:u.all lets.contains=true
def N8.at(C:N8 w u)(hr:∀x y,r=x::y->lets.contains x=false):qO w (u++r) u r:=⟨rfl,C.l,hr,C.e⟩
def N8.len(C:N8 w u):u.length=w.s.length:=rr (C.e ..) (J (ai ..) rfl)
def A4(hn:∀j∈ns,Er j)(hl:ns.length<=1000)(C:N8 .qp u)(k1:ns≠[]->∀a kP,lg [] U kP->ph kP a ns .qp []->Q (.ref a) kP)(k2:ns=[]->∀m kP,lg [] U kP->E ⟨83,m,.int 1⟩ kP):CL (n+8) 745 [.str (91::(k_ ns++(u++[93])))] U Q E:=by
 have hf:=EB hn C.l (r:=[93]) λx h=>J (aB.mp h ..) (⟨by decide,by decide⟩);have hu:u.length=4:=C.len;have pl:=pk (l:=ns);have hM:M=16777216:=rfl;refine JE (ns:=ns) (u:=u) (by refine(?_:(k_ ns++(u++[93])).length+1<=M);exact J (ac ..) (J (ac ..) (J (bi ..) (oV 0x2010110031b1b1a2aa010000007fb3202d224b123e83fb004 rfl hl hu pl hM)))) rfl (λx h=>(hf x h).1) hn (C.at λx y e=>by(injection e with e;subst e);rfl) (λh=>(hf 60 h).2 rfl) k1 λz m kP x'=>?_;have:=k2 z m kP x';clear hn hl k1 k2 hf pl;subst z;have e:((91::(k_ []++(u++[93]))).length-(u++[93]).length:Nat)=1:=by
  refine(?_:(u++[93]).length+1-(u++[93]).length=1);exact J (bL ..) rfl
 exact J (e ..) this
def Gi(hm:(l++[x]).length<=M)(k:Q (.tup l) U):mS U (.tup (l++[x])) .none (.int (-1)) Q:=by
 have e:bl (l++[x]).length (-1)=l.length:=by
  dsimp only[bl];refine J (ac ..) (J (bi ..) ?_);simp;exact nm3 _
 refine tP (i:=0) (j:=l.length) hm rfl (congrArg some e) ?_;dsimp only[cut];exact J (gZ ..) (J (j9 ..) (J (eD ..) k))
def JO(hm:(l++[v]).length<=M)(k:K v):rF U (.tup (l++[v])) (.int (-1)) K:=by
 unfold rF;refine⟨hm,?_⟩;have hi:oD (-1) (l++[v]).length=some l.length:=by
  dsimp only[oD,eM];refine J (ac ..) (J (bi ..) ?_);simp;exact YL _
 refine J (hi ..) ?_;refine(?_:lv (l++[v])[l.length]? K);refine J (cI (aF _) ..) (J (fP ..) ?_);exact k
inductive OrI(data u:NL)(p pl:Nat)(L:List PV)(U:kO)(l:List PV)(ρ:lK)(kP:kO):Prop
 |mk (hv:∀v∈l,v∈L) (x:lg [] U kP) (x4 x5 x6 x7 x8:Option PV) (hr:ρ=[some (.bytes data),some (.ref p),some (.ref pl),some (.str u),x4,x5,x6,x7,x8,none,none,none,none,none]):OrI data u p pl L U l ρ kP
def CB(R:Rd U data F p)(x0:lg [] τ U)(h:U pl=some (.list L))(hL:L.length<=10000)(sP:L≠[])(C:N8 .qp u)(PL:uV τ F true [] True L)
  (k:∀kP,lg [] U kP->Q (.bool true) kP):CL (n+9) 883 [.bytes data,.ref p,.ref pl,.str u] U Q E:=by
 have hM:M=16777216:=rfl;have YC:L.length<=M:=mZ 0x110010010000007fb1227104fb002 rfl hL hM;refine ent (ρ:=[_,_,_,_,_,_,_,_,_,_,_,_,_,_]) rfl rfl rfl (rP h YC (MY (OrI data u p pl L U) ?_ (λl ρ kP h'=>by obtain⟨_,x,_⟩:=h';exact x.get h) ?_ L _ U ⟨λv h=>h,.rfl,_,_,_,_,_,rfl⟩))
 ·rintro v l ρ σ₁ K ⟨hv,x,x4,x5,x6,x7,x8,rfl⟩ hK _;refine lr λGp gk=>?_;obtain⟨ns,r,rfl,h0,hf,hl,hN⟩:=PL.a v (hv v aj);change ns.length<=1000 at hl;have sv:=λw=>wD (F:=F) (w:=w) (xs:=[]) h0;obtain⟨kR,body,kW,kS,eG⟩:=hN.one;rw[eG]at hN sv;refine gk ?_;refine(?_:mh _ _ _ _ _ _ _);refine lr λGp gk=>?_;obtain⟨J,kl,nt,eN,_,_,_⟩:=A8 hN;refine gk ?_;refine N6 (i:=5) (x0.trans x) hN rfl λq σ₂ lA hq=>?_;have x02:=x.trans lA;have eN2:=x02.get (x0.get eN);refine mw (j:=1) eN2 (ae rfl) rfl rfl (mw (j:=4) eN2 (ae rfl) rfl rfl (mw (j:=0) hq (ae rfl) rfl rfl (mw (j:=1) hq (ae rfl) rfl rfl (Hj (ae rfl) ?_))));refine four (n:=n+1) (R.keep x02) hl (sv .no) (sv .qp) (sv .header) (sv .text) λlH x7 x8 lU=>?_;have YD:=x02.trans lU;refine wV hf hl λmH nW=>?_;have pn:=pk (l:=ns);have hu:u.length=4:=C.len;have et:(91::k_ ns)++u++[93]=91::(k_ ns++(u++[93])):=by rw[ao];rfl
  refine⟨by refine(?_:(k_ ns).length+1+u.length<=M);exact oV 0x100201010031b2aa04b3212d223e83fb1010000007fb024 rfl hM hl pn hu,⟨by rw[ac];refine(?_:(k_ ns).length+1+u.length+1<=M);exact oV 0x10020101001b31b2aaa04b3212d223e83fb1010000007fb024 rfl hM hl pn hu,?_⟩⟩;rw[show (91::k_ ([]++ns))++u++ct "]"=_ from et];refine A4 (n:=n) hf hl C (λ_ z mL oY S=>?_) λz=>absurd z h0;have x05:=YD.trans (nW.trans oY);refine(R.keep x05).oct (n:=n+1) S hl Gr λrh sq=>?_;have x06:=x05.trans sq;exact mw (j:=4) (x06.get (x0.get eN)) (ae rfl) rfl rfl (same (sv .qp) (hK _ _ ⟨λv h=>hv v (ay _ h),x06,_,_,_,_,_,rfl⟩))
 clear hL;rintro ρ σ₁ ⟨_,x,x4,x5,x6,x7,x8,rfl⟩;rcases cJ L with z|⟨L0,v,z⟩
 ·exact absurd z sP
 rw[cK]at z;refine lr λGp gk=>?_;clear sP;clear hv;subst z;obtain⟨ns,j,r,rfl,hf,hl,hN⟩:=PL.z v (cw ..) trivial;change (ns++[j]).length<=1000 at hl;rw[ac]at hl;change ns.length+1<=1000 at hl;have e1:pP ([]++(ns++[j]))=pP ns++[.int j]:=by rw[bc,pP,aS];rfl
 rw[e1]at h YC;have h1:=x.get h;have ll:(pP ns++[PV.int j]).length<=M:=by refine J (ac ..) (J (ai ..) ?_);refine(?_:ns.length+1<=M);exact id (mZ 0x1001001b1a03e83fb1b1a010000007fb022 rfl hM hl)
 have Yv:(pP ns).length+[PV.int ((j:Int)+1)].length<=M:=by refine J (ai ..) ?_;refine(?_:ns.length+1<=M);exact id (mZ 0x1001001b1a03e83fb1b1a010000007fb022 rfl hM hl)
 refine gk ?_;refine vO h1 YC (Jj rfl rfl (Gi ll (vO h1 YC (Jj rfl rfl (JO ll ⟨Yv,?_⟩)))));rw[show pP ns++[PV.int ((j:Int)+1)]=pP (ns++[j+1]) by rw[pP,pP,aS];rfl];refine Hl (n:=n+7) (ln:=ns++[j+1]) (w:=.qp) λz σ₂ lA S=>(R.keep (x.trans lA)).oct (n:=n+1) S (J (ac ..) hl) Gr λlH lU=>?_;refine J (wD (by simp) ..) (J (hN ..) ?_);exact k lH (x.trans (lA.trans lU))
noncomputable def Ss.at:Ss->Nat->Ss
 |s,0=>s
 |.cons _ r,n+1=>r.at n
 |.nil,_+1=>.nil
def N9:∀{l:NL},w5 (vg 6) (pP l) (pP l)=some true:=by
 intro z9
 induction z9 with
 |nil=>
  exact rfl
 |cons x l ih=>
  refine(?_:(some ((x:Int)==(x:Int))).bind (λp=>(w5 (vg 6) (pP l) (pP l)).bind λq=>some (p&&q))=_);refine J (ih ..) (J (beq_self_eq_true ..) ?_);rfl
def N_:∀{l:List NL},w5 (vg 6) (l.map .str) (l.map .str)=some true:=by
 intro z9
 induction z9 with
 |nil=>
  exact rfl
 |cons x l ih=>
  refine(?_:(some (x==x)).bind (λp=>(w5 (vg 6) (l.map .str) (l.map .str)).bind λq=>some (p&&q))=_);refine J (ih ..) (J (beq_self_eq_true ..) ?_);rfl
def CC(h:w5 (vg n) l l=some true):vg (n+1) (.tup l) (.tup l)=some true:=(if_pos rfl).trans h
def Q4{ws:List NL}:vg 8 (.tup [.tup (pP ln),.str x,.tup (ws.map .str),.none]) (.tup [.tup (pP ln),.str x,.tup (ws.map .str),.none])=some true:=by
 refine CC ?_;refine(?_:(vg 7 (.tup (pP ln)) (.tup (pP ln))).bind (λp=>((some (x==x)).bind λp=>((vg 7 (.tup (ws.map .str)) (.tup (ws.map .str))).bind λp=>some (p&&true)).bind λq=>some (p&&q)).bind λq=>some (p&&q))=_);refine J (CC N9 ..) (J (CC N_ ..) (J (beq_self_eq_true ..) ?_));rfl
def wW{α β:Type}{g:α->β}{p:α->Bool}:∀{l:List α},l.flatMap (λx=>if p x=true then[g x]else[])=(l.filter p).map g:=by
 intro z9
 induction z9 with
 |nil=>
  exact rfl
 |cons x l ih=>
  refine J (List.flatMap_cons ..) (J (ih ..) (J (i8 ..) ?_))
  split<;>rfl
inductive Here(τ:kO)(F:Nd)(ln:NL)(whole node:PV):Prop where
 |whole (w:Nat) (h:ln=[]) (e:whole=.ref w) (N:o_ τ F [.ref w])
 |within (r:Nat) (h:ln≠[]) (e:node=.ref r) (N:o_ τ (u7 F true ln) [.ref r])
noncomputable def fw:Bool->Wd
 |true=>.xg
 |false=>.fields
inductive wX(τ:kO)(F:Nd)(ln:NL)(hv:PV):Prop where
 |mk (H:Nd) (N:o_ τ H (vN hv)) (nr:NR hv) (e:∀i ws,sr F ln (fw i) ws=xh (fw i) ws H) (one:H=.nil\/∃kR body kW kS,H=.cons kR body kW kS .nil)
def Ur(h:Here τ F ln whole node)(x:lg [] τ U)(h6:ρ.get 6=some (.tup (pP ln)))(h4:ρ.get 4=some whole)(h7:ρ.get 7=some node)(k:∀hv,wX τ F ln hv->Q hv U):mh (CL n) lF (.ite (.cmp .eq (.Z 6) (.tup .nil)) (.Z 4) (.sub (.Z 7) (.lit (.int 3)))) ρ U Q E:=by
 refine(?_:lv (ρ.get 6) _);refine J (h6 ..) ?_;refine eq_nil (U:=U) ?_;clear h6;rcases h with⟨w,h,e,N⟩|⟨r,h,e,N⟩
 ·subst h;subst e;refine bT rfl ?_;refine(?_:lv (ρ.get 4) _);refine J (h4 ..) ?_;refine lr λGp gk=>?_;obtain⟨kR,body,kW,kS,rfl⟩:=N.one;refine gk ?_;exact k _ ⟨_,N,trivial,λi ws=>rfl,.inr ⟨_,_,_,_,rfl⟩⟩
 subst e;have h0:(pP ln).isEmpty=false:=by clear k;(clear N;rcases ln with _|_;(exact absurd rfl h);(rfl))
 refine J (h0 ..) ?_;refine bF rfl ?_;refine(?_:lv (ρ.get 7) _);refine J (h7 ..) ?_;have sv:=λi ws=>wD (F:=F) (w:=fw i) (xs:=ws) h;refine lr λGp gk=>?_;obtain⟨kR,body,kW,kS,eG⟩:=N.one;rw[eG]at N sv;obtain⟨J,kl,nt,eN,_,k2,nr⟩:=A8 N;refine gk ?_;refine mw (j:=3) (x.get eN) (ae rfl) rfl rfl (k _ ⟨kS,k2,nr,λi ws=>(sv i ws).trans (by rcases i with _|_<;>rfl),?_⟩);clear sv eG;rcases kS with _|⟨r2,b2,k2',i2,t2⟩
 ·exact .inl rfl
 refine lr λGp gk=>?_;clear N;obtain⟨q,_,e,_⟩:=k2.qN;clear k2;clear right;subst e;refine gk ?_;exact .inr ⟨_,_,_,_,rfl⟩
def Oa{kR:List Row}{ws:List NL}{J sm q:Nat}(hr:U J=some (.list (kR.map oZ)))(hs:U sm=some (.list (ws.map λw=>.str (w.map mj))))(hm:kR.length<=10000)(hl:(lJ kR).length+2<=M)(k:∀kP,lg [] U kP->Q (.bytes (lJ (qP ws inot kR)++mv)) kP)
  (h8:ρ.get 8=some (.bool inot)) (h21:ρ.get 21=some (.ref sm)) (h19:ρ.get 19=some (.ref q)) (hq:U q=some (.list L)) (hL:L.length<=M) (e0:L[0]? =some (.ref J)):
  mh (CL n) lF (.bin .add (.py (.lit (.bytes [])) (ct "join") (.cons (.comp (.Z 2) (.tup (.cons (.name 1) (.cons (.name 2) .nil))) .val (.sub (.Z 19) (.lit (.int 0))) (.cons (.cmp .ne (.cmp .isin (.Z 1) (.Z 4)) (.Z 3)) .nil) [none,none,none,some 8,some 21]) .nil)) (.lit (.bytes [13,10]))) ρ U Q E:=by
 have hM:M=16777216:=rfl;have hi:lK.inner ρ [none,none,none,some 8,some 21]=[none,none,none,some (.bool inot),some (.ref sm)]:=by
  refine(?_:[none,none,none,ρ.get 8,ρ.get 21]=_);rw[h8,h21]
 refine oM ?_;refine(?_:lv (ρ.get 19) _);rw[h19];refine mw (j:=0) hq hL rfl e0 ?_;refine(?_:lT U .val (.ref J) (v9 (Gy _ (lK.inner ρ [none,none,none,some 8,some 21]) _ _) _ U));rw[hi];have al:((kR.filter λr=>((ws.map (·.map mj)).contains r.key !=inot)).map λr=>PV.bytes r.oct).length<=M:=by
  rw[ai];exact ah cm.length_le (mZ 0x110010010000007fb1227104fb002 rfl hm hM)
 refine rR hr (by rw[ai];exact mZ 0x110010010000007fb1227104fb002 rfl hm hM) (xH (σ₀:=U) (f:=oZ) (g:=λr=>if((ws.map (·.map mj)).contains r.key !=inot)=true then[PV.bytes r.oct]else[]) (λkP x=>x.get hr) kR [] _ _ (λr RI σ₁ K x k=>?_) .rfl λσ₂ lA=>?_)
 ·refine HI (x.get hs) (r:=(ws.map (·.map mj)).contains r.key) (by rw[←En,bU];rfl) ?_;have k:=k σ₁ .rfl;refine bC (λz=>bT rfl ?_) λz=>bF rfl ?_
  ·rw[if_pos (show ((ws.map (·.map mj)).contains r.key !=inot)=true from z)]at k;exact k
  rw[if_neg (by rw[show ((ws.map (·.map mj)).contains r.key !=inot)=false from z];exact a7)]at k;exact k
 rw[bc,wW];refine⟨al,λr2 xE=>tr kT (Nl (l:=kR.filter _)) ?_ al ⟨?_,k _ (lA.trans (.new xE))⟩⟩
 ·exact ah (Cn (cm (l:=kR))) (Nat.le_of_add_right_le hl)
 exact ah (ib (Cn (cm (l:=kR))) 2) hl
def wX.find{ln:NL}{hv:PV}(h:wX τ F ln hv):(hv=.none/\∀i ws,sr F ln (fw i) ws=.none)\/∃q J kR b k4 kl nt,hv=.ref q/\τ q=some (.list [.ref J,.bytes b,.ref kl,nt,.bytes k4])/\τ J=some (.list (kR.map oZ))/\∀i ws,sr F ln (fw i) ws=.bytes (lJ (qP ws i kR)++mv):=by
 refine lr λGp gk=>?_;obtain⟨H,N,nr,e,one⟩:=h;refine gk ?_;clear Gp gk nr;rcases one with rfl|⟨kR,body,kW,kS,rfl⟩
 ·exact .inl ⟨N.tO,e⟩
 refine lr λGp gk=>?_;obtain⟨q,rfl,_,N2⟩:=N.qN;obtain⟨J,kl,nt,e1,e2,_⟩:=A8 N2;refine gk ?_;exact .inr ⟨q,J,kR,body,_,kl,nt,rfl,e1,e2,λi ws=>(e i ws).trans (by rcases i with _|_<;>rfl)⟩
noncomputable def Hy:List (Option PV):=[none,none,none,none,none,none,none,none,none,none,none]
def Us{ln:NL}{inot:Bool}{ws:List NL}{l z sm:Nat}{hv:PV}{o0 o1 o4 o5 o7 YE XQ Q5 Q6 o14 XR XS YF:Option PV}(R:Rd U data F l)(S:ph U z ln (fw inot) ws)(hn:namesOk ws)(hp:ln.length<=1000)(x0:lg [] τ U)(H:wX τ F ln hv)
  (hs:U sm=some (.list (ws.map λw=>.str (w.map mj)))) (hb:∀q J kR L,hv=.ref q->τ q=some (.list L)->L[0]? =some (.ref J)->τ J=some (.list (kR.map oZ))->kR.length<=10000/\(lJ kR).length+2<=M) (k:∀kP,lg [] U kP->Q (.bool true) kP):
  lO (CL (n+7)) lF (lD.body.at 16) (o0::o1::some (.bytes data)::some (.ref l)::o4::o5::some (.tup (pP ln))::o7::some (.bool inot)::some (.str (fw inot).s)::YE::XQ::Q5::Q6::o14::XR::XS::some (.ref z)::YF::some hv::some .none::some (.ref sm)::Hy) U (λfl _ U=>Q fl.val U) (λe _ U=>E e U):=by
 have fin:∀{U4:PV}{σ₁:kO},lg [] U σ₁->sr F ln (fw inot) ws=U4->lO (CL (n+7)) lF (lD.body.at 17) (o0::o1::some (.bytes data)::some (.ref l)::o4::o5::some (.tup (pP ln))::o7::some (.bool inot)::some (.str (fw inot).s)::YE::XQ::Q5::Q6::o14::XR::XS::some (.ref z)::YF::some hv::some U4::some (.ref sm)::Hy) σ₁ (λfl _ U=>Q fl.val U) (λe _ U=>E e U):=by
  rintro U4 σ₁ x rfl;refine(R.keep x).oct (S.keep x) hp hn λσ₂ lA=>?_;have k:=k σ₂ (x.trans lA);rcases zg (F:=F) (ln:=ln) (w:=fw inot) (ns:=ws)with e|⟨y,e⟩<;>refine J (e ..) ?_
  ·exact k
  refine(?_:Q (.bool (y==y)) σ₂);exact J (beq_self_eq_true ..) k
 rcases H.find with⟨rfl,e⟩|⟨q,J,kR,b,k4,kl,nt,rfl,e1,e2,e3⟩
 ·exact bF rfl (fin .rfl (e _ _))
 obtain⟨b1,b2⟩:=hb q J kR _ rfl e1 rfl e2;refine bT rfl ?_;refine(?_:mh _ _ _ _ _ _ _);refine Oa (q:=q) (x0.get e2) hs b1 b2 (λσ₁ lh=>?_) rfl rfl rfl (x0.get e1) (ae rfl) rfl;exact fin lh (e3 _ _)
def Q7{ln:NL}{inot:Bool}{ws:List NL}{l z nl:Nat}{whole node:PV}{o0 o1 o5 YE XQ Q5 Q6 XR XS YF:Option PV}(R:Rd U data F l)(S:ph U z ln (fw inot) ws)(hn:namesOk ws)(hp:ln.length<=1000)(x0:lg [] τ U)(H:Here τ F ln whole node)
  (Sb:U nl=some (.list (ws.map .str))) (aak:∀w∈ws,∀x∈w,x<128) (hb:∀hv,wX τ F ln hv->∀q J kR L,hv=.ref q->τ q=some (.list L)->L[0]? =some (.ref J)->τ J=some (.list (kR.map oZ))->kR.length<=10000/\(lJ kR).length+2<=M) (k:∀kP,lg [] U kP->Q (.bool true) kP):
  lO (CL (n+7)) lF (lD.body.at 13) (o0::o1::some (.bytes data)::some (.ref l)::some whole::o5::some (.tup (pP ln))::some node::some (.bool inot)::some (.str (fw inot).s)::YE::XQ::Q5::Q6::some (.ref nl)::XR::XS::some (.ref z)::YF::none::none::none::Hy) U (λfl _ U=>Q fl.val U) (λe _ U=>E e U):=by
 obtain⟨d,O⟩:=S;refine O.get rfl trivial rfl (O.get rfl trivial rfl (O.get rfl trivial rfl (O.get rfl trivial rfl (AR Sb hn.1 ?_))));refine(?_:lv (vg 8 (.tup [.tup (pP ln),.str (fw inot).s,.tup (ws.map .str),.none]) (.tup [.tup (pP ln),.str (fw inot).s,.tup (ws.map .str),.none])) _);refine J (Q4 ..) ?_;refine bF rfl ?_;refine(?_:mh _ _ _ _ _ _ _);refine Ur H x0 rfl rfl rfl λhv HV=>?_;refine rR Sb (J (ai ..) hn.1) (vK (α:=NL) (f:=PV.str) (g:=λw=>.str (w.map mj)) Sb ws [] (λw hw K k=>bT rfl (zo (AX (hn.2 w hw).1 (aak w hw) k))) ⟨J (bc ..) (J (ai ..) hn.1),λsm RL=>?_⟩);refine J (bc ..) ?_;have x1:=lg.new (o:=.list (ws.map λw=>PV.str (w.map mj))) RL;refine(?_:lO _ _ _ _ _ _ _);exact Us (R.keep x1) ⟨d,O.keep x1⟩ hn hp (x0.trans x1) HV kT (hb hv HV) λkP x=>k kP (x1.trans x)
def Hz(hl:lead.length<=M)(h:c=lead.length+b)(k:Q (.bool true) U):
  lO (CL n) lF (lD.body.at 12) (o0::o1::o2::o3::o4::o5::o6::o7::o8::o9::some (.str lead)::XQ::Q5::Q6::some .none::some (.int (b:Nat))::XS::some .none::some (.int (c:Nat))::none::none::none::Hy) U (λfl _ U=>Q fl.val U) (λe _ U=>E e U):=by
 subst h;refine bT rfl (bT rfl (bT rfl (bT rfl ⟨hl,?_⟩)));refine(?_:Q (.bool (((lead.length+b:Nat):Int)==((lead.length:Nat):Int)+((b:Nat):Int))) U);refine J (show (((lead.length+b:Nat):Int)==((lead.length:Nat):Int)+((b:Nat):Int))=true from beq_self_eq_true _) ?_;exact k
def pq[Decidable q]{A B:Res}{ws:List NL}(h:(if q then A else B)=.ok ws):(q/\A=.ok ws)\/(¬q/\B=.ok ws):=by
 by_cases z:q
 ·rw[if_pos z]at h;exact .inl ⟨z,h⟩
 rw[if_neg z]at h;exact .inr ⟨z,h⟩
def Ut:∀{s:NL}{st:Pl}{ns ws:List NL},sm s st ns=.ok ws->(∀w∈ns,∀x∈w,x<128)->∀w∈ws,∀x∈w,x<128:=by
 intro z9
 induction z9 with
 |nil=>
  intro st ns ws h hn;rcases st with _|_<;>rcases h with _|_
  exact hn
 |cons x r ih=>
  intro st ns ws h hn;have up:∀{JI:Pl}{R':List NL},sm r JI R'=.ok ws->(∀w∈R',∀x∈w,x<128)->∀w∈ws,∀x∈w,x<128:=λh hn=>ih h hn;have new:∀w:NL,(∀y∈w,y<128)->∀u∈ns++[w],∀y∈u,y<128:=λw hw u hu=>by
   rcases aV.mp hu with q|q
   ·exact hn u q
   exact J (aB.mp q ..) hw
  have add:x<128->∀u∈xi ns x,∀y∈u,y<128:=λhx u hu=>by
   unfold xi at hu;rcases aV.mp hu with q|q
   ·exact hn u ((List.dropLast_sublist _).subset q)
   refine J (aB.mp q ..) ?_;intro y hy;rcases aV.mp hy with q|q
   ·rcases cJ ns with z|⟨n0,w,z⟩
    ·rw[z]at q;contradiction
    rw[cK]at z;rw[z,jG,cw]at q;exact hn w (J (z ..) (bv _ aj)) y q
   exact J (aB.mp q ..) hx
  have Ob:atC x=true->x<128:=λz=>Nat.lt_succ_of_lt (of_decide_eq_true (az.mp (az.mp z).2).1);rcases st with _|_|_|_|_|_|_|_|_
  ·rcases pq h with⟨_,h⟩|⟨_,h⟩
   ·exact up h hn
   contradiction
  ·rcases pq h with⟨_,h⟩|⟨_,h⟩
   ·exact up h hn
   contradiction
  ·rcases pq h with⟨_,h⟩|⟨_,h⟩
   ·exact up h (new [] λy hy=>nomatch hy)
   rcases pq h with⟨z,h⟩|⟨_,h⟩
   ·exact up h (new [x] λy hy=>J (aB.mp hy ..) (Ob z))
   contradiction
  ·rcases pq h with⟨_,h⟩|⟨_,h⟩
   ·exact up h hn
   rcases pq h with⟨z,h⟩|⟨_,h⟩
   ·exact up h hn
   rcases pq h with⟨z,h⟩|⟨_,h⟩
   ·exact up h (add (Ob z))
   contradiction
  ·rcases pq h with⟨_,h⟩|⟨_,h⟩
   ·exact up h hn
   rcases pq h with⟨z,h⟩|⟨_,h⟩
   ·exact up h hn
   contradiction
  ·rcases pq h with⟨_,h⟩|⟨_,h⟩
   ·exact up h hn
   rcases pq h with⟨z,h⟩|⟨_,h⟩
   ·exact up h hn
   rcases pq h with⟨z,h⟩|⟨_,h⟩
   ·exact up h (add (Nat.lt_succ_of_lt z.2))
   contradiction
  ·clear Ob;rcases pq h with⟨z,h⟩|⟨_,h⟩
   ·exact up h (add (by clear add h;rcases z with rfl|rfl<;>decide))
   contradiction
  ·rcases pq h with⟨_,h⟩|⟨_,h⟩
   ·exact up h hn
   contradiction
  contradiction
noncomputable def rA(l:NL):NL:=((l.zipIdx 0).filter λp=>decide (126<p.1)).map λp=>p.2
def Oc(hm:l.length<=M)(h11:ρ.get 11=some (.str l))(k:∀q kP,lg [] U kP->kP q=some (.list (pP (rA l)))->Q (.ref q) kP):mh (CL n) lF (.comp (.Z 1) (.tup (.cons (.name 1) (.cons (.name 2) .nil))) .enum (.Z 11) (.cons (.cmp .gt (.Z 2) (.lit (.str (ct "~")))) .nil) [none,none,none]) ρ U Q E:=by
 refine(?_:lv (ρ.get 11) _);refine J (h11 ..) ?_;have hl:(l.zipIdx 0).length=l.length:=fT;refine AW hm ⟨J (ai ..) (J (hl ..) hm),xH (σ₀:=U) (f:=λp:Nat×Nat=>.tup [.int (p.2:Nat),.str [p.1]]) (g:=λp=>if decide (126<p.1)=true then[PV.int (p.2:Nat)]else[]) (λ_ _=>trivial) (l.zipIdx 0) [] U _ (λp hp σ₁ K x k=>?_) .rfl λσ₂ lA=>?_⟩
 ·have k:=k σ₁ .rfl;rw[←F7]at k;refine bC (λz=>bT rfl ?_) λz=>bF rfl ?_
  ·rw[if_pos (show zE [126] [p.1]=true from z)]at k;exact k
  rw[if_neg (by rw[show zE [126] [p.1]=false from z];exact a7)]at k;exact k
 refine J (bc ..) (J (wW ..) ?_);have e:((l.zipIdx 0).filter λp=>decide (126<p.1)).map (λp=>PV.int (p.2:Nat))=pP (rA l):=by
  unfold rA;rw[pP,bU];rfl
 refine J (e ..) ?_;refine⟨?_,λq hq=>k q _ (lA.trans (.new hq)) kT⟩;refine J (ai ..) ?_;unfold rA;refine J (ai ..) ?_;exact ah cm.length_le (J (hl ..) hm)
def Gj:∀{l:NL}{i:Nat},(∀x∈l,x<=126)/\((l.zipIdx i).filter λp=>decide (126<p.1))=[]\/∃j x L,l[j]? =some x/\126<x/\(∀y∈l.take j,y<=126)/\((l.zipIdx i).filter λp=>decide (126<p.1))=(x,i+j)::L:=by
 intro z9
 induction z9 with
 |nil=>
  intro _;exact .inl ⟨λx h=>(nomatch h),rfl⟩
 |cons x l ih=>
  intro i;refine J (i6 ..) (J (i8 ..) ?_)
  by_cases h:126<x
  ·refine J (if_pos (show decide (126<x)=true from decide_eq_true h) ..) ?_;exact .inr ⟨0,x,_,rfl,h,λy hy=>(nomatch hy),rfl⟩
  refine J (if_neg (show¬decide (126<x)=true by rw[decide_eq_false h];exact a7) ..) ?_;rcases ih (i:=i+1)with⟨h1,h2⟩|⟨j,y,L,h1,h2,h3,h4⟩
  ·refine .inl ⟨λy hy=>?_,h2⟩;cases hy with
   |head=>exact cF h
   |tail _ hy=>exact h1 y hy
  refine .inr ⟨j+1,y,L,h1,h2,λz hz=>?_,J (h4 ..) (J (cE ..) (J (ck 1 ..) rfl))⟩;cases hz with
  |head=>exact cF h
  |tail _ hz=>exact h3 z hz
def HA:(fw i).s.length<=17/\(fw i=.fields\/fw i=.xg):=by rcases i with _|_<;>exact⟨by decide,by simp[fw]⟩
structure tB(ln u rs:NL)(inot:Bool):Prop where
 fg:∀j∈ln,Er j
 pl:ln.length<=1000
 C:N8 (fw inot) u
 ch:∀x∈rs,x<1114112/\x≠60
 hd:∀x y,rs=x::y->lets.contains x=false
 J:rs.length<=1000
def tB.vT(T:tB ln u rs inot):(91::(k_ ln++u)).length<=3000:=by
 have h1:=pk (l:=ln);have h2:=T.C.len;have h3:=(HA (i:=inot)).1;have h4:=T.pl;refine(?_:(k_ ln++u).length+1<=3000);rw[ac];exact oV 0x10101020bb83fb1b20aa03e83fb10112fb3032212d024 rfl h1 h2 h3 h4
def A5(T:tB ln u rs inot):∀x∈91::(k_ ln++u),N7 x:=by
 have:=EB T.fg T.C.l (r:=[]) λx h=>nomatch h;rw[aJ]at this;exact this
def JP(T:tB ln u rs inot)(hi:rs[i]? =some x)(hx:126<x)(h:∀y∈rs.take i,y<=126)(k:∀kP,Q (.tup [.none,.int ((91::(k_ ln++u)).length+i:Nat)]) kP):CL (n+9) 866 [.str ((91::(k_ ln++u))++rs)] U Q E:=by
 have hM:M=16777216:=rfl;have ll:=T.vT;have lf:=A5 T;have J:=T.J;generalize 91::(k_ ln++u)=lead at ll lf k;refine Nt (n:=n+8) (P1:=λ_ _=>False) (P2:=λj _=>j=lead.length+i) (λQ1 E1 k1 k2=>?_) (λ_ _ h=>h.elim) λj kP h=>by rw[h];exact k kP
 refine Nr (i:=lead.length+i) (x:=x) (by rw[ac];exact nn 0x1001010012a0bb83fb203e83fb1010000007fb023 rfl hM J ll) (λy hy=>?_) ?_ hx (λy hy=>?_) λm=>k2 m _ U rfl
 ·rcases aV.mp hy with z|z
  ·exact a8 (lf y z).1 (by decide)
  exact(T.ch y z).1
 ·rw[cI (aM _ _),bL];exact hi
 rw[List.take_length_add_append]at hy;rcases aV.mp hy with z|z
 ·exact(lf y z).1
 exact h y z
def EC(T:tB ln u rs inot)(h:∀y∈rs,y<=126)(k1:∀ws a kP,sm rs .blank []=.ok ws->lg [] U kP->ph kP a ln (fw inot) ws->Q (.tup [.ref a,.int (-1)]) kP)
  (k2:∀e kP,sm rs .blank []=.err e->Q (.tup [.none,.int ((91::(k_ ln++u)).length+rs.length-e:Nat)]) kP):CL (n+9) 866 [.str ((91::(k_ ln++u))++rs)] U Q E:=by
 have hM:M=16777216:=rfl;have ll:=T.vT;have lf:=A5 T;have J:=T.J;have el:((91::(k_ ln++u))++rs).length=(91::(k_ ln++u)).length+rs.length:=ac;have fr:∀y∈(91::(k_ ln++u))++rs,y<=126/\y≠60:=λy hy=>by
  rcases aV.mp hy with z|z
  ·exact lf y z
  exact⟨h y z,(T.ch y z).2⟩
 refine Nt (n:=n+8) (P1:=λa kP=>∃ws,sm rs .blank []=.ok ws/\lg [] U kP/\ph kP a ln (fw inot) ws) (P2:=λj _=>∃e,sm rs .blank []=.err e/\j=(91::(k_ ln++u)).length+rs.length-e) (λQ1 E1 q1 q2=>?_) (λa kP z8=>by obtain⟨ws,h1,h2,h3⟩:=z8;exact k1 ws a kP h1 h2 h3) λj kP z9=>by obtain⟨e,h1,h2⟩:=z9;rw[h2];exact k2 e kP h1
 refine F9 (r:=rs) (u:=u) (by rw[el];exact nn 0x1001010021a03e83fb20bb83fb1010000007fb023 rfl hM ll J) (by rw[cV,ao]) (λy hy=>(fr y hy).1) T.fg (T.C.at T.hd) HA.2 (λhy=>(fr 60 hy).2 rfl) (λws _ e a kP x S=>q1 a kP ⟨ws,e,x,S⟩) λm e kP _ h1=>q2 m _ kP ⟨e,h1,by rw[el]⟩
def Uu(T:tB ln u rs inot)(hi:rs[i]? =some x)(hx:126<x)(h:∀y∈rs.take i,y<=126)(hq:U q=some (.list (.int (i:Nat)::L)))(hL:L.length<M)(k:∀kP,Q (.bool true) kP):
  lO (CL (n+9)) lF (lD.body.at 10) (o0::o1::o2::o3::o4::o5::o6::o7::o8::o9::some (.str (91::(k_ ln++u)))::some (.str rs)::Q5::Q6::o14::XR::some (.ref q)::none::none::none::none::none::Hy) U (λfl _ U=>Q fl.val U) (λe _ U=>E e U):=by
 have hM:M=16777216:=rfl;have ll:=T.vT;have J:=T.J;refine λq2 Aa=>ne_nil ((lg.new Aa).get hq) kT (λ_=>mw (j:=0) ((lg.new Aa).get hq) hL rfl rfl ?_) λz=>nomatch z;refine(?_:lO _ _ _ _ _ _ _);refine⟨nn 0x1001010021a03e83fb20bb83fb1010000007fb023 rfl hM ll J,JP T hi hx h λkP=>?_⟩;refine(?_:lO _ _ _ _ _ _ _);exact Hz (mZ 0x10010010bb83fb1010000007fb022 rfl hM ll) rfl (k kP)
def Q8(T:tB ln u rs inot)(h:∀y∈rs,y<=126)(hq:U q=some (.list []))(R:Rd U data F l)(x0:lg [] τ U)(H:Here τ F ln whole node)
  (hb:∀hv,wX τ F ln hv->∀q J kR L,hv=.ref q->τ q=some (.list L)->L[0]? =some (.ref J)->τ J=some (.list (kR.map oZ))->kR.length<=10000/\(lJ kR).length+2<=M) (k:∀kP,Q (.bool true) kP)
  (k1:∀ws,sm rs .blank []=.ok ws->ws.length<=rs.length/\(∀w∈ws,w.length<=rs.length)/\∃nl,nv=.ref nl/\U nl=some (.list (ws.map .str))) (k2:∀e,sm rs .blank []=.err e->e<=rs.length/\nv=.none/\pv=.int (rs.length-e:Nat)):
  lO (CL (n+9)) lF (lD.body.at 10) (o0::o1::some (.bytes data)::some (.ref l)::some whole::o5::some (.tup (pP ln))::some node::some (.bool inot)::some (.str (fw inot).s)::some (.str (91::(k_ ln++u)))::some (.str rs)::Q5::Q6::some nv::some pv::some (.ref q)::none::none::none::none::none::Hy) U (λfl _ U=>Q fl.val U) (λe _ U=>E e U):=by
 have hM:M=16777216:=rfl;have ll:=T.vT;have J:=T.J;refine λq2 Aa=>ne_nil ((lg.new Aa).get hq) kT (λz=>absurd rfl z) λ_=>?_;have y:=lg.new (o:=.list []) Aa;refine(?_:lO _ _ _ _ _ _ _);refine⟨by refine(?_:(91::(k_ ln++u)).length+rs.length<=M);exact nn 0x1001010021a03e83fb20bb83fb1010000007fb023 rfl hM ll J,EC T h (λws z kP e x S=>?_) λe kP e1=>?_⟩
 ·refine lr λGp gk=>?_;clear k2;obtain⟨w1,w2,nl,rfl,Sb⟩:=k1 ws e;have xy:=y.trans x;have low:=Ut e λw h=>nomatch h;refine gk ?_;refine(?_:lO _ _ _ _ _ _ _);refine bF rfl (bF rfl ?_);refine(?_:lO _ _ _ _ _ _ _);exact Q7 (n:=n+2) (R.keep xy) S ⟨nn 0x10010100201203e83fb1010000007fb023 rfl hM J w1,λw hw=>⟨by have:=w2 w hw;exact nn 0x10010100201203e83fb1010000007fb023 rfl hM J this,λx hx=>bW (low w hw x hx) (by decide)⟩⟩ T.pl (x0.trans xy) H (xy.get Sb) low hb λmQ _=>k mQ
 clear k1;obtain⟨w1,rfl,rfl⟩:=k2 e e1;refine(?_:lO _ _ _ _ _ _ _);exact Hz (mZ 0x10010010bb83fb1010000007fb022 rfl hM ll) (tD 0x1000001000010100040a22134a210a32a234a1032a10a04 rfl s2 s2 (aA (nn 0x1012a001001 rfl w1)) (aA (mZ 0x101001001 rfl w1))) (k kP)
def Uv(T:tB ln u rs inot)(R:Rd U data F l)(x0:lg [] τ U)(H:Here τ F ln whole node)
  (hb:∀hv,wX τ F ln hv->∀q J kR L,hv=.ref q->τ q=some (.list L)->L[0]? =some (.ref J)->τ J=some (.list (kR.map oZ))->kR.length<=10000/\(lJ kR).length+2<=M) (k:∀kP,Q (.bool true) kP):
  lO (CL (n+9)) lF (lD.body.at 8) (o0::o1::some (.bytes data)::some (.ref l)::some whole::o5::some (.tup (pP ln))::some node::some (.bool inot)::some (.str (fw inot).s)::some (.str (91::(k_ ln++u)))::some (.str rs)::Q5::Q6::none::none::none::none::none::none::none::none::Hy) U (λfl _ U=>Q fl.val U) (λe _ U=>E e U):=by
 have hM:M=16777216:=rfl;have J:=T.J;have main:∀{nv pv:PV}{σ₁:kO},lg [] U σ₁->(∀ws,sm rs .blank []=.ok ws->ws.length<=rs.length/\(∀w∈ws,w.length<=rs.length)/\∃nl,nv=.ref nl/\σ₁ nl=some (.list (ws.map .str)))->(∀e,sm rs .blank []=.err e->e<=rs.length/\nv=.none/\pv=.int (rs.length-e:Nat))->
   lO (CL (n+9)) lF (lD.body.at 9) (o0::o1::some (.bytes data)::some (.ref l)::some whole::o5::some (.tup (pP ln))::some node::some (.bool inot)::some (.str (fw inot).s)::some (.str (91::(k_ ln++u)))::some (.str rs)::Q5::Q6::some nv::some pv::none::none::none::none::none::none::Hy) σ₁ (λfl _ U=>Q fl.val U) (λe _ U=>E e U):=by
  intro nv pv σ₁ x k1 k2;refine(?_:mh _ _ _ _ _ _ _);refine Oc (mZ 0x100100103e83fb1010000007fb022 rfl hM J) rfl λq σ₂ lA hq=>?_;refine(?_:lO _ _ _ _ _ _ _);rcases Gj (l:=rs) (i:=0)with⟨h1,h2⟩|⟨j,y,L,h1,h2,h3,h4⟩
  ·rw[show rA rs=[] by unfold rA;rw[h2];rfl]at hq;refine Q8 T h1 hq (R.keep (x.trans lA)) (x0.trans (x.trans lA)) H hb k (λws e=>?_) k2;refine lr λGp gk=>?_;obtain⟨w1,w2,nl,e1,e2⟩:=k1 ws e;refine gk ?_;exact⟨w1,w2,nl,e1,lA.get e2⟩
  have e:rA rs=j::L.map λp=>p.2:=by unfold rA;rw[h4,bV];rfl
  have hl:(rA rs).length<=rs.length:=by
   unfold rA;rw[ai];exact ah cm.length_le (db fT)
  rw[e]at hq hl;rw[au]at hl;exact Uu T h1 h2 h3 hq (by rw[ai];exact nn 0x100101002111b2a03e83fb1010000007fb023 rfl hM J hl) k
 refine Cz (n:=n+8) (mZ 0x100100113e83fb1010000007fb022 rfl hM J) (λnl ws σ₁ e w1 w2 x h=>?_) λe σ₁ e1 he x=>?_
 ·refine(?_:lO _ _ _ _ _ _ _);exact main x (λws' e'=>by rw[e]at e';(injection e' with e';subst e');exact⟨w1,w2,nl,rfl,h⟩) λe' e2=>by rw[e]at e2;contradiction
 refine(?_:lO _ _ _ _ _ _ _);exact main x (λws' e'=>by rw[e1]at e';contradiction) λe' e2=>by rw[e1]at e2;(injection e2 with e2;subst e2);exact⟨he,rfl,rfl⟩
def Od(x:Nat):Prop:=x<1114112/\x≠60
structure wE(rs:NL):Prop where
 ch:∀x∈rs,Od x
 hd:∀x y,rs=x::y->lets.contains x=false
 J:rs.length<=1000
def xM{t m:NL}{i j:Nat}(ht:∀x∈t,Od x)(hl:t.length<=100)(hm:∀x∈m,Od x)(h1:m.length<=1)(h:1<=i\/(i=0/\m=[]/\j=1)):wE ((32::40::t).take i++m++(32::40::t).drop j):=by
 have hR:∀x∈32::40::t,Od x:=λx hx=>by
  cases hx with
  |head=>exact⟨by decide,by decide⟩
  |tail _ hx=>
   cases hx with
   |head=>exact⟨by decide,by decide⟩
   |tail _ hx=>exact ht x hx
 refine⟨λx hx=>?_,λx y e=>?_,?_⟩
 ·rcases aV.mp hx with z|z
  ·rcases aV.mp z with z|z
   ·exact hR x ((gc _ _).subset z)
   exact hm x z
  exact hR x ((eE _ _).subset z)
 ·clear hm h1;rcases h with h|⟨rfl,rfl,rfl⟩
  ·obtain⟨i,rfl⟩:∃k,i=k+1:=⟨i-1,mZ 0x101001b0a1211b0a21 rfl (aA (sR 0x1001b001b01 rfl h))⟩
   (injection e with e;subst e);rfl
  (injection e with e;subst e);rfl
 have l1:((32::40::t).take i).length<=(32::40::t).length:=(gc _ _).length_le;have l2:((32::40::t).drop j).length<=(32::40::t).length:=(eE _ _).length_le;refine J (ac ..) (J (ac ..) ?_);rw[au,au]at l1 l2;exact oV 0x201010103e83fb312aa01b1b0aa301b1b0aa201b10642fb004 rfl hl h1 l1 l2
def zy{l:NL}{j:Nat}(hm:l.length<=M)(k:Q (.str (l.take j)) U):mS U (.str l) .none (.int j) Q:=by
 unfold mS;refine⟨hm,?_⟩;refine J (show v7 l.length (j:Int)=min j l.length from pg) ?_;have:=sh (l:=l) (i:=0) (j:=j);rw[j8]at this;exact J (this ..) k
def uX{l:NL}{i:Nat}(hm:l.length<=M)(k:Q (.str (l.drop i)) U):mS U (.str l) (.int i) .none Q:=by
 unfold mS;refine⟨hm,?_⟩;refine J (show v7 l.length (i:Int)=min i l.length from pg) ?_;have e:=(sh (l:=l) (i:=i) (j:=l.length)).trans Ek;rw[kc]at e;exact J (e ..) k
def edits{t:NL}{way i sg:Nat}(ht:∀x∈t,Od x)(hl:t.length<=100)(hw:way<4)(hs:Od sg)(hi:way=1\/1<=i)(h11:ρ.get 11=some (.str (32::40::t)))(h12:ρ.get 12=some (.int (i:Nat)))(h13:ρ.get 13=some (.str [sg]))(h1:ρ.get 1=some (.int (way:Nat)))(k:∀rs kP,wE rs->lg [] U kP->Q (.str rs) kP):
  mh (CL n) lF (.sub (.list (.cons (.Z 11) (.cons (.bin .add (.slice (.Z 11) (.lit .none) (.Z 12)) (.slice (.Z 11) (.bin .add (.Z 12) (.lit (.int 1))) (.lit .none))) (.cons (.bin .add (.bin .add (.slice (.Z 11) (.lit .none) (.Z 12)) (.Z 13)) (.slice (.Z 11) (.Z 12) (.lit .none))) (.cons (.bin .add (.bin .add (.slice (.Z 11) (.lit .none) (.Z 12)) (.Z 13)) (.slice (.Z 11) (.bin .add (.Z 12) (.lit (.int 1))) (.lit .none))) .nil))))) (.Z 1)) ρ U Q E:=by
 have Uw:∀{K:PV->Prop},K (.str (32::40::t))->lv (ρ.get 11) K:=λk=>J (h11 ..) k;have U5:∀{K:PV->Prop},K (.int (i:Nat))->lv (ρ.get 12) K:=λk=>J (h12 ..) k;have r13:∀{K:PV->Prop},K (.str [sg])->lv (ρ.get 13) K:=λk=>J (h13 ..) k;have r1:∀{K:PV->Prop},K (.int (way:Nat))->lv (ρ.get 1) K:=λk=>J (h1 ..) k;have e0:=xM (m:=[]) (i:=1) (j:=1) ht hl (λx h=>nomatch h) (aO _) (.inl (aF _));have e1:wE ((32::40::t).take i++[]++(32::40::t).drop (i+1)):=xM (m:=[]) (i:=i) (j:=i+1) ht hl (λx h=>nomatch h) (aO _) (by
  rcases Nat.eq_zero_or_pos i with z|z
  ·exact .inr ⟨z,rfl,J (z ..) rfl⟩
  exact .inl z)
 have RL:∀x∈[sg],Od x:=λx h=>J (aB.mp h ..) hs;have e2:1<=i->wE ((32::40::t).take i++[sg]++(32::40::t).drop i):=λh=>xM ht hl RL (aF _) (.inl h);have e3:1<=i->wE ((32::40::t).take i++[sg]++(32::40::t).drop (i+1)):=λh=>xM ht hl RL (aF _) (.inl h);rw[aJ]at e1;have hR:(32::40::t).length<=102:=bB (bB hl);have e0:wE (32::40::t):=e0;have lt:((32::40::t).take i).length<=102:=ah (gc _ _).length_le hR;have ld:∀j,((32::40::t).drop j).length<=102:=λj=>ah (eE _ _).length_le hR;generalize 32::40::t=R at*;have hM:R.length<=M:=ah hR (by decide);have la:∀{x y:NL},x.length<=1000->y.length<=1000->x.length+y.length<=M:=λh1 h2=>ah (cj h1 h2) (by decide);have l1:(R.take i++[sg]).length<=1000:=J (ac ..) (ah (bB lt) (by decide));have lt:(R.take i).length<=1000:=ah lt (by decide);have ld:∀j,(R.drop j).length<=1000:=λj=>ah (ld j) (by decide);refine Uw (Uw (U5 (zy hM (Uw (U5 (uX (i:=i+1) hM ⟨la lt (ld _),?_⟩))))));refine Uw (U5 (zy hM (r13 ⟨la lt (ae rfl),Uw (U5 (uX (i:=i) hM ⟨la l1 (ld _),?_⟩))⟩)));refine Uw (U5 (zy hM (r13 ⟨la lt (ae rfl),Uw (U5 (uX (i:=i+1) hM ⟨la l1 (ld _),λq hq=>r1 ?_⟩))⟩)));obtain rfl|rfl|rfl|rfl:=YM hw
 ·exact mw (j:=0) kT (ae rfl) rfl rfl (k _ _ e0 (.new hq))
 ·exact mw (j:=1) kT (ae rfl) rfl rfl (k _ _ e1 (.new hq))
 ·exact mw (j:=2) kT (ae rfl) rfl rfl (k _ _ (e2 (hi.resolve_left (by decide))) (.new hq))
 exact mw (j:=3) kT (ae rfl) rfl rfl (k _ _ (e3 (hi.resolve_left (by decide))) (.new hq))
noncomputable def CD:List NL:=[ct "From",ct "tO",ct "\"x\\\"q\"",ct "\"To\"",ct "x-A",ct "\"\"",ct "\"a b\""]
def JQ:CD.all (λt=>cr t.length 7&&t.all λx=>decide (x<1114112/\x≠60))=true:=rfl
def Oe{t:NL}(h:t∈CD):t.length<=7/\∀x∈t,Od x:=by
 refine lw (mI JQ h) λh1 h2=>?_;exact⟨ae h1,λx hx=>show x<1114112/\x≠60 from of_decide_eq_true (aC.mp h2 x hx)⟩
theorem HB{q:Nat->Prop}(h:q 32):∀{ts:List NL},(∀t∈ts,∀x∈t,q x)->∀x∈tY [32] ts,q x
 |[],_,x,hx=>nomatch hx
 |[t],ht,x,hx=>ht t aj x hx
 |t::u::r,ht,x,hx=>by
  have hx:x∈(t++[32])++tY [32] (u::r):=hx;rcases aV.mp hx with z|z
  ·rcases aV.mp z with z|z
   ·exact ht t aj x z
   exact J (aB.mp z ..) h
  exact HB h (λt' h'=>ht t' (ay _ h')) x z
theorem ED:∀{ts:List NL},(∀t∈ts,t.length<=7)->(tY [32] ts).length<=8*ts.length
 |[],_=>aF _
 |[t],h=>ah (h t aj) (ae rfl)
 |t::u::r,h=>by
  have:=ED (ts:=u::r) λt' h'=>h t' (ay _ h');have h1:=h t aj;refine(?_:((t++[32])++tY [32] (u::r)).length<=8*((u::r).length+1));refine J (ac ..) (J (ac ..) (J (bi ..) ?_));exact nn 0x10101b1a8d01b2aa07b2018d002 rfl this h1
def Q9:∀{ts:List NL},(∀t∈ts,t.length<=7)->(ts.map aZ).sum<=7*ts.length:=by
 intro z9
 induction z9 with
 |nil=>
  intro _;exact aF _
 |cons t r ih=>
  intro h;have:=ih λt' h'=>h t' (ay _ h');have h1:=h t aj;refine J (aK ..) (J (jL ..) (J (au ..) ?_));exact nn 0x10101b1a7d02a07b2017d002 rfl this h1
theorem Gk:∀(l:List PV) (acc:List PV) (U:kO) (K:QL) (B:Nat),pZ U p c hh (B+l.length)->(∀kP (ts:List NL),pZ kP p c hh B->lg [p,c] U kP->ts.length=l.length->(∀t∈ts,t∈CD)->K (acc++ts.map .str) kP)->
  pT (λ_=>True) (Gy (zI (CL (n+1)) lF (.name 1)) [none,none,none,none,some (.ref p)] (Bk (CL (n+1)) lF .nil) (mh (CL (n+1)) lF (.sub (.lit (.tup [(.str (ct "From")),(.str (ct "tO")),(.str (ct "\"x\\\"q\"")),(.str (ct "\"To\"")),(.str (ct "x-A")),(.str (ct "\"\"")),(.str (ct "\"a b\""))])) (.call (.lit (.ref 805)) (.cons (.Z 4) (.cons (.lit (.int 7)) .nil)))))) l acc U K:=by
 intro z9
 induction z9 with
 |nil=>
  intro acc U K B P k;have:=k U [] P .rfl rfl λt h=>nomatch h;rw[gI,aJ]at this;exact this
 |cons x l ih=>
  intro acc U K B P k;refine bT rfl (drawn (B:=B+l.length) P (by decide) (by decide) λr σ₁ hr qH lh=>vR (L:=CD) (f:=PV.str) hr rfl λt ht=>⟨trivial,?_⟩);refine ih _ σ₁ K B qH λσ₂ ts pK lA e h=>?_;have:=k σ₂ (t::ts) pK (lh.trans lA) (congrArg (· +1) e) λt' h'=>by
   cases h' with
   |head=>exact ht
   |tail _ h'=>exact h t' h'
  refine J (ao ..) ?_;exact this
def Ux(P:pZ U p c hh (B+4))(h0:ρ.get 0=some (.ref p))(k:∀t kP,(∀x∈t,Od x)->t.length<=100->pZ kP p c hh B->lg [p,c] U kP->Q (.str (32::40::t)) kP):
  mh (CL (n+1)) lF (.bin .add (.bin .add (.lit (.str (ct " ("))) (.py (.lit (.str (ct " "))) (ct "join") (.cons (.comp (.sub (.lit (.tup [(.str (ct "From")),(.str (ct "tO")),(.str (ct "\"x\\\"q\"")),(.str (ct "\"To\"")),(.str (ct "x-A")),(.str (ct "\"\"")),(.str (ct "\"a b\""))])) (.call (.lit (.ref 805)) (.cons (.Z 4) (.cons (.lit (.int 7)) .nil)))) (.name 1) .range (.bin .add (.lit (.int 1)) (.call (.lit (.ref 805)) (.cons (.Z 0) (.cons (.lit (.int 3)) .nil)))) .nil [none,none,none,none,some 0]) .nil))) (.lit (.str (ct ")]")))) ρ U Q E:=by
 have hM:M=16777216:=rfl;have hi:lK.inner ρ [none,none,none,none,some 0]=[none,none,none,none,some (.ref p)]:=by
  refine(?_:[none,none,none,none,ρ.get 0]=_);exact J (h0 ..) rfl
 refine ng ?_;refine(?_:lv (ρ.get 0) _);refine J (h0 ..) ?_;refine drawn (m:=3) (B:=B+3) P (by decide) (by decide) λr σ₁ hr qH lh=>?_;refine(?_:lT σ₁ .range (.int (1+r:Nat)) (v9 (Gy _ (lK.inner ρ [none,none,none,none,some 0]) _ _) _ σ₁));refine J (hi ..) ?_;have hl:((cH (1+r)).map λi=>PV.int (i:Nat)).length=1+r:=J (ai ..) (J (List.length_range ..) rfl);refine rS (mZ 0x10010011ba03b1110000007fb022 rfl hM hr) ⟨J (hl ..) (mZ 0x10010011ba03b1110000007fb022 rfl hM hr),Gk (n:=n) _ [] σ₁ _ B (qH.less (J (hl ..) (mZ 0x103b1a01ba1a03b011 rfl hr))) λσ₂ ts pK lA e h=>?_⟩;rw[hl]at e;have ok:=λt ht=>Oe (h t ht);have s1:=Q9 λt ht=>(ok t ht).1;have s2:=ED λt ht=>(ok t ht).1;refine J (bc ..) ?_;refine⟨J (ai ..) (nn 0x100101002011ba223b1110000007fb023 rfl hM hr e),λq hq=>y4 kT (nQ (h:=id) λ_ _=>rfl) ?_ ⟨?_,⟨?_,?_⟩⟩⟩
 ·refine J (eu ..) ?_;refine(?_:_+ts.length*1<=M);exact oV 0x100808010021e3a027d3011ba223b1110000007fb024 rfl hM hr e s1
 ·refine J (eu ..) ?_;refine(?_:2+(tY [32] ts).length<=M);exact oV 0x100808010032ba028d3011ba223b1110000007fb024 rfl hM hr e s2
 ·refine J (eu ..) ?_;refine(?_:(tY [32] ts).length+2+2<=M);exact oV 0x10080801002b2b3aa028d3011ba223b1110000007fb024 rfl hM hr e s2
 refine J (eu ..) ?_;refine k (tY [32] ts++[41,93]) _ (λx hx=>?_) ?_ (pK.keep (.new hq)) (lh.trans (lA.trans (lg.new hq).mono))
 ·rcases aV.mp hx with z|z
  ·exact HB ⟨by decide,by decide⟩ (λt ht=>(ok t ht).2) x z
  exact xL (P:=Od) (l:=[41,93]) ⟨⟨by decide,by decide⟩,⟨by decide,by decide⟩,trivial⟩ x z
 refine J (ac ..) ?_;refine(?_:_+2<=100);exact nn 0x808010642fb2b2a018d2001ba123b013 rfl hr e s2
noncomputable def Q_:NL:=[32,40,41,34,92,93,97,84,37,31,127,233,126]
def Uy{i:Nat}(h:i<13):∃x,Q_[i]? =some x/\Od x:=by
 have hg:=aT (l:=Q_) (i:=i) h;exact⟨_,hg,show _<1114112/\_≠60 from of_decide_eq_true (aC.mp (show Q_.all (λx=>decide (x<1114112/\x≠60))=true from rfl) _ (gB _))⟩
def Gl:NF (ct "MIME")=true/\NF (ct "HEADER.FIELDS")=true/\NF (ct "HEADER.FIELDS.NOT")=true:=⟨rfl,rfl,rfl⟩
structure Base(τ:kO)(data:NL)(F:Nd)(l whole:Nat):Prop where
 R:Rd τ data F l
 N:o_ τ F [.ref whole]
 hb:∀ln hv node,Here τ F ln (.ref whole) node->wX τ F ln hv->∀q J kR L,hv=.ref q->τ q=some (.list L)->L[0]? =some (.ref J)->τ J=some (.list (kR.map oZ))->kR.length<=10000/\(lJ kR).length+2<=M
def Gm{m:Nat}{x:Int}(hx:x=(m:Nat))(P:pZ U p c hh (B+1))(h0:0<m)(hm:m<1000000)(k:∀r kP,r<m->pZ kP p c hh B->lg [p,c] U kP->Q (.int (r:Nat)) kP):CL (n+1) 805 [.ref p,.int x] U Q E:=by
 subst hx;exact drawn P h0 hm k
def Ra{ln u:NL}{inot:Bool}{l whole way:Nat}{node:PV}{o5:Option PV}(P:pZ U p c hh (B+6))(Bs:Base τ data F l whole)(x0:lg [] τ (qh p c hh U))(H:Here τ F ln (.ref whole) node)(hf:∀j∈ln,Er j)(hp:ln.length<=1000)(C:N8 (fw inot) u)(hw:way<4)(k:∀kP,Q (.bool true) kP):
  lO (CL (n+9)) lF (lD.body.at 4) (some (.ref p)::some (.int (way:Nat))::some (.bytes data)::some (.ref l)::some (.ref whole)::o5::some (.tup (pP ln))::some node::some (.bool inot)::some (.str (fw inot).s)::some (.str (91::(k_ ln++u)))::none::none::none::none::none::none::none::none::none::none::none::Hy) U (λfl _ U=>Q fl.val U) (λe _ U=>E e U):=by
 have hM:M=16777216:=rfl;refine Ux (n:=n+8) (B:=B+2) P rfl λt σ₁ ht hl qH lh=>uW rfl ?_;have hR:(32::40::t).length=t.length+2:=rfl;have pB:∀{σ₂:kO}{i:Nat},pZ σ₂ p c hh (B+1)->lg [p,c] σ₁ σ₂->(way=1\/1<=i)->lO (CL (n+9)) lF (lD.body.at 6) (some (.ref p)::some (.int (way:Nat))::some (.bytes data)::some (.ref l)::some (.ref whole)::o5::some (.tup (pP ln))::some node::some (.bool inot)::some (.str (fw inot).s)::some (.str (91::(k_ ln++u)))::some (.str (32::40::t))::some (.int (i:Nat))::none::none::none::none::none::none::none::none::none::Hy) σ₂ (λfl _ U=>Q fl.val U) (λe _ U=>E e U):=by
  intro σ₂ i pK lA hi;refine drawn (m:=13) pK (by decide) (by decide) λr lH hr yS lU=>?_;obtain⟨sg,e1,e2⟩:=Uy hr;refine Uc (l:=Q_) (by decide) e1 (uW rfl ?_);refine(?_:mh _ _ _ _ _ _ _);refine edits ht hl hw e2 hi rfl rfl rfl rfl λrs mH U2 nW=>uW rfl ?_;have R5:lg [] (qh p c hh U) (qh p c hh mH):=mq (lh.trans (lA.trans (lU.trans nW.mono)));have y:lg [] τ mH:=(x0.trans R5).trans Cr;exact Uv ⟨hf,hp,C,U2.ch,U2.hd,U2.J⟩ (Bs.R.keep y) y H (λhv=>Bs.hb ln hv node H) k
 have lt:(32::40::t).length<=M:=J (hR ..) (mZ 0x1001002b1a0642fb1010000007fb022 rfl hM hl);refine bC (λz=>?_) λz=>?_
 ·change ((way:Int)==1)=true at z;clear hw;obtain rfl:way=1:=bJ (eq_of_beq z);refine⟨lt,bF rfl (drawn (m:=t.length+2) (B:=B+1) qH (cB _) (sR 0x10f42405fb2b0a1642fb001 rfl hl) λr σ₂ hr pK lA=>?_)⟩;refine(?_:lO _ _ _ _ _ _ _);exact pB (i:=0+r) pK lA (.inl rfl)
 refine⟨lt,bC (λy=>Gm (m:=t.length+1) (B:=B+1) (by refine(?_:((t.length+2:Nat):Int)-1=_);lia) qH (cB _) (sR 0x10f42405fb1b0a1642fb001 rfl hl) λr σ₂ hr pK lA=>?_) λy=>Gm (m:=t.length+2) (B:=B+1) rfl qH (cB _) (sR 0x10f42405fb2b0a1642fb001 rfl hl) λr σ₂ hr pK lA=>?_⟩
 ·refine(?_:lO _ _ _ _ _ _ _);exact pB (i:=1+r) pK lA (.inr (aM _ _))
 refine(?_:lO _ _ _ _ _ _ _);exact pB (i:=1+r) pK lA (.inr (aM _ _))
def HC{ln:NL}{l whole way:Nat}{node:PV}{o5:Option PV}(P:pZ U p c hh (B+8))(Bs:Base τ data F l whole)(x0:lg [] τ (qh p c hh U))(H:Here τ F ln (.ref whole) node)(hf:∀j∈ln,Er j)(hp:ln.length<=1000)(hw:way<4)(k:∀kP,Q (.bool true) kP):
  lO (CL (n+9)) lF (lD.body.at 1) (some (.ref p)::some (.int (way:Nat))::some (.bytes data)::some (.ref l)::some (.ref whole)::o5::some (.tup (pP ln))::some node::none::none::none::none::none::none::none::none::none::none::none::none::none::none::Hy) U (λfl _ U=>Q fl.val U) (λe _ U=>E e U):=by
 have hM:M=16777216:=rfl;refine drawn (m:=2) (B:=B+7) P (by decide) (by decide) λr σ₁ hr qH lh=>?_;have go:∀inot:Bool,lO (CL (n+9)) lF (lD.body.at 3) (some (.ref p)::some (.int (way:Nat))::some (.bytes data)::some (.ref l)::some (.ref whole)::o5::some (.tup (pP ln))::some node::some (.bool inot)::some (.str (fw inot).s)::none::none::none::none::none::none::none::none::none::none::none::none::Hy) σ₁ (λfl _ U=>Q fl.val U) (λe _ U=>E e U):=by
  intro inot;refine wV hf hp λσ₂ lA=>AY (n:=n+7) (B:=B+6) (qH.keep lA) (by rcases inot with _|_;exact Gl.2.1;exact Gl.2.2) (ah HA.1 (by decide)) λu lH e1 e2 yS lU=>?_;have C:N8 (fw inot) u:=⟨e1,e2⟩;have hu:=C.len;have h17:=(HA (i:=inot)).1;have pl:=pk (l:=ln);refine⟨by refine(?_:(k_ ln).length+1+u.length<=M);exact tD 0x2100101010121b4aa002d42112fb3032210000007fb123e83fb005 rfl hp hM hu h17 pl,uW rfl ?_⟩;exact Ra yS Bs (x0.trans (mq (lh.trans (lA.mono.trans lU)))) H hf hp C hw k
 have fin:∀inot:Bool,Kf (zI (CL (n+9)) lF (.name 8)) (some (.ref p)::some (.int (way:Nat))::some (.bytes data)::some (.ref l)::some (.ref whole)::o5::some (.tup (pP ln))::some node::none::none::none::none::none::none::none::none::none::none::none::none::none::none::Hy) (Bl (lO (CL (n+9)) lF (lD.body.at 2)) (λfl _ U=>Q fl.val U) λe _ U=>E e U) (.bool inot) σ₁:=by
  intro inot;have go:=go inot
  induction inot with
  |true=>exact uW rfl (bT rfl (uW rfl go))
  |false=>exact uW rfl (bF rfl (uW rfl go))
 exact fin ((r:Int)==1)
def EE{pl l whole way:Nat}{L:List PV}(P:pZ U p c hh (B+9))(Bs:Base τ data F l whole)(x0:lg [] τ (qh p c hh U))(h:qh p c hh U pl=some (.list L))(hL:L.length<=10000)(PL:uV τ F true [] True L)(hw:way<4)(k:∀kP,Q (.bool true) kP):CL (n+10) 888 [.ref p,.int (way:Nat),.bytes data,.ref l,.ref whole,.ref pl] U Q E:=by
 have hM:M=16777216:=rfl;refine ent (ρ:=_::_::_::_::_::_::_::_::_::_::_::_::_::_::_::_::_::_::_::_::_::_::Hy) rfl rfl rfl λr1 Qp=>?_;have h:=(pM h).2;have x1:=lg.new (o:=.list [.tup [.tup [],.none]]) Qp;refine lst kT (lst (x1.get h) ⟨by refine(?_:1+L.length<=M);exact mZ 0x1100101ba010000007fb1227104fb002 rfl hL hM,λr2 xE=>?_⟩);have x2:=x1.trans (lg.new (o:=.list ([.tup [.tup [],.none]]++L)) xE);refine lst (x2.get h) ⟨mZ 0x110010010000007fb1227104fb002 rfl hL hM,Gm (m:=1+L.length) (B:=B+8) rfl (P.keep x2) (sR 0x1ba0b10 rfl) (sR 0x10f42405fb01ba127104fb001 rfl hL) λr lH hr yS lU=>?_⟩;have xE:=(pM ((mq lU).get (pj ((P.keep x1).fresh xE) (kT (U:=(U.put r1 (.list [.tup [.tup [],.none]]))) (a:=r2) (o:=.list ([.tup [.tup [],.none]]++L)))))).2;have YD:lg [] τ (qh p c hh lH):=x0.trans (mq (x2.mono.trans lU))
 induction r with
 |zero=>
  refine mw (j:=0) xE (by refine(?_:L.length+1<=M);exact mZ 0x110011b0a010000007fb1227104fb002 rfl hL hM) rfl rfl ?_;refine(?_:lO _ _ _ _ _ _ _);exact HC (ln:=[]) yS Bs YD (.whole whole rfl rfl Bs.N) (λj h=>nomatch h) (aO _) hw k
 |succ r=>
  have hr:r<L.length:=mZ 0x1010111ba1b0a11 rfl hr;obtain⟨ns,q,e,h0,hf,hl,hN⟩:=PL.a L[r] (gB hr);refine mw (j:=r+1) xE (by refine(?_:L.length+1<=M);exact mZ 0x110011b0a010000007fb1227104fb002 rfl hL hM) rfl (v:=.tup [.tup (pP ns),.ref q]) ?_ ?_
  ·refine(?_:L[r]? =_);refine J (aT hr ..) (J (e ..) ?_);rfl
  refine(?_:lO _ _ _ _ _ _ _);exact HC (ln:=ns) yS Bs YD (.within q h0 rfl hN) hf hl hw k
noncomputable def Nd.bd(n:Nat):Nd->Prop
 |.nil=>True
 |.cons kR _ kW kS kY=>(lJ kR).length<=n/\kW.bd n/\kS.bd n/\kY.bd n
theorem Nd.Ok.bd:∀{F:Nd},F.Ok->F.sz<=n->F.bd n
 |.nil,_,_=>trivial
 |.cons kR body kW kS kY,h,hs=>by
  have hs:(lk kR).length+body.length+kY.sz<=n:=hs;rw[A3]at hs;refine⟨oV 0x103003212b0aaa01 rfl hs,Nd.Ok.bd h.2.2.1 ?_,Nd.Ok.bd h.2.2.2.1 ?_,Nd.Ok.bd h.2.2.2.2 (oV 0x103203212b0aaa01 rfl hs)⟩
  ·induction h.2.1 with
   |Nh h hk hi=>exact J (hk ..) (aO _)
   |leaf c h ok n1 n2 hk hi=>exact J (hk ..) (aO _)
   |around c r b k i h ok n1 n2 hk hi hb=>exact J (hk ..) (aO _)
   |zd c m lead u h ok n1 n2 n3 om hk hi hb hp=>
    have e:=congrArg aZ hb;rw[ac,ac,zw]at e;exact YH 0x1100350765aa4a123212b0aaa02 rfl hs e
  rcases h.2.1 with⟨h,hk,hi⟩|⟨c,h,ok,n1,n2,hk,hi⟩|⟨c,m,lead,u,h,ok,n1,n2,n3,om,hk,hi,hb,hp⟩|⟨c,r,b,k,i,h,ok,n1,n2,hk,hi,hb⟩
  ·exact J (hi ..) (aO _)
  ·exact J (hi ..) (aO _)
  ·exact J (hi ..) (aO _)
  have e:=congrArg aZ hb;rw[ac]at e;refine J (hi ..) ?_
  show (lk r).length+b.length+0<=n
  exact xm 0x110030b54aa054a123212b0aaa02 rfl hs e
theorem Of:∀{F:Nd}{j:Nat},F.bd n->(qM F j).bd n
 |.nil,_,h=>h
 |.cons kR body kW kS kY,0,h=>⟨h.1,h.2.1,h.2.2.1,trivial⟩
 |.cons kR body kW kS kY,j+1,h=>Of (F:=kY) h.2.2.2
theorem HD:∀{F:Nd}{w:Bool},F.bd n->(qL F w).bd n
 |.nil,_,h=>h
 |.cons kR body (.cons r1 b1 k1 i1 t1) kS kY,w,h=>h.2.1
 |.cons kR body .nil kS kY,true,h=>⟨h.1,trivial,h.2.2.1,trivial⟩
 |.cons kR body .nil kS kY,false,h=>HD (F:=kS) h.2.2.1
theorem Og:∀{ns:NL}{F:Nd}{w:Bool},F.bd n->(u7 F w ns).bd n
 |[],F,w,h=>h
 |0::ns,F,w,h=>trivial
 |(j+1)::ns,F,w,h=>by
  have h1:=Of (j:=j) (HD (w:=w) h);rcases e:qM (qL F w) j with _|⟨kR,body,kW,kS,kY⟩
  ·refine J (NB e ..) ?_;trivial
  refine J (Cv (G:=.nil) e ..) ?_;rw[e]at h1;exact Og (ns:=ns) h1
def A6:qP [] true kR=kR:=kM.mpr λr _=>rfl
def EF(h:F.bd n)(e:xh .xg [] F=.bytes (lJ kR++mv)):(lJ kR).length<=n:=by
 rcases F with _|⟨r2,b2,k2,i2,t2⟩
 ·contradiction
 have e:PV.bytes (lJ (qP [] true r2)++mv)=.bytes (lJ kR++mv):=e;rw[A6]at e;have e:=congrArg (λv:PV=>match v with|.bytes b=>b.length|_=>0) e;dsimp only at e;rw[ac,ac]at e;have:=h.1;exact oV 0x1001032030012a10a22 rfl e this
def Oh(h:F.bd n)(e:sr F ln .xg []=.bytes (lJ kR++mv)):(lJ kR).length<=n:=by
 rcases ln with _|⟨j,js⟩
 ·exact EF h e
 have e:JB .xg [] (u7 F true (j::js))=.bytes (lJ kR++mv):=e;have hb:=Og (ns:=j::js) (w:=true) h;generalize u7 F true (j::js)=G at e hb;rcases G with _|⟨r2,b2,k2,i2,t2⟩
 ·contradiction
 exact EF hb.2.2.1 e
def Rb:∀{kR:List Row},kR.length<=(lJ kR).length:=by
 intro z9
 induction z9 with
 |nil=>
  exact aF _
 |cons r kR ih=>
  have:=ih;refine J (mu ..) (J (ac ..) (J (r.tN ..) (J (au ..) ?_)));exact tD 0x10142b31b2aaaaa1b0a01001 rfl this
noncomputable def XT:PV->NL
 |.tup (_::.bytes o::_)=>o
 |_=>[]
def HE:lJ kR=((kR.map oZ).map XT).flatten:=by
 unfold lJ;refine J (bU ..) ?_;rfl
def Oi(h:kR.map oZ=Hv.map oZ):lJ kR=lJ Hv:=by
 exact J (HE ..) (J (h ..) (rr (HE ..) rfl))
def base(R:Rd τ data F l)(N:o_ τ F [.ref whole])(h:F.bd 9000):Base τ data F l whole:=by
 refine⟨R,N,λln hv node H HV q J kR L e1 e2 e3 e4=>?_⟩;rcases HV.find with⟨rfl,_⟩|⟨q',rl',Hv,b,k4,kl,nt,rfl,g1,g2,g3⟩
 ·contradiction
 (injection e1 with e1;subst e1)
 rw[g1]at e2;refine lr λGp gk=>?_;cases e2;clear g1;cases e3;rw[g2]at e4;injection e4 with e4
 injection e4 with e4
 have e:=Oi e4;have hM:M=16777216:=rfl;have g:=g3 true [];rw[A6,e]at g;have l1:=Oh h g;have l2:=Rb (kR:=kR);refine gk ?_;exact⟨mZ 0x101027104fb1001023284fb002 rfl l1 l2,mZ 0x1001002b1a023284fb1010000007fb022 rfl hM l1⟩
def Uz(P:pZ U p c hh B):lg [] (fr U kP) (qh p c hh kP):=λa o _ e=>by
 obtain⟨h1,h2⟩:=R4 e;exact pj (P.fresh h1) h2
def uV.keep{base:NL}(h:uV τ F w base e L)(x:lg [] τ UZ):uV UZ F w base e L:=
 ⟨λv hv=>by
  obtain⟨ns,r,e',h0,hf,hl,hN⟩:=h.a v hv;exact⟨ns,r,e',h0,hf,hl,hN.keep x⟩,h.z⟩
def Gq(C:N8 .qp u)(k:∀kP,lg [] U kP->Q (.tup [.none,.int 1]) kP):CL (n+9) 866 [.str (91::(u++[93]))] U Q E:=
 Nt (n:=n+8) (P1:=λ_ _=>False) (P2:=λj kP=>j=1/\lg [] U kP) (λQ1 E1 q1 q2=>A4 (ns:=[]) (λj h=>nomatch h) (aO _) C (λz=>absurd rfl z) λ_ m kP x=>q2 m 1 kP ⟨rfl,x⟩) (λ_ _ h=>h.elim) λj kP h=>J (h.1 ..) (k kP h.2)
noncomputable def Oj:List (Option PV):=[none,none,none,none,none,none,none,none,none,none,none,none,none]
def UA(h:oct w=true):∀x∈w,x<256:=λx hx=>of_decide_eq_true (aC.mp h x hx)
def Rc{whole pl way:Nat}{o0 o3 o4 o5 o6 o7:Option PV}(P:pZ U p c hh (B+9))(N:o_ (qh p c hh U) (.cons kR body kW kS .nil) [.ref whole])(g:Gn ms (.cons kR body kW kS .nil) S D)(hS:S<=9000)(hD:D<=20)(h:qh p c hh U pl=some (.list L))(hL:L.length<=9000)(sP:L≠[])(PL:uV (qh p c hh U) (.cons kR body kW kS .nil) true [] True L)(C:N8 .qp u)(hw:way<4)(k:∀kP,Q (.bool true) kP):
  lO (CL (n+50)) lF (uj.body.at 8) (o0::some (.ref p)::some (.int (way:Nat))::o3::o4::o5::o6::o7::some (.ref whole)::some (.bytes (lk kR++body))::some (.ref pl)::some (.str u)::none::Oj) U (λfl _ U=>Q fl.val U) (λe _ U=>E e U):=by
 have hM:M=16777216:=rfl;have ok:=g.g.ok;have dep:=g.dep;rw[QX]at dep;have sz:(lk kR).length+body.length+0<=S:=g.sz;have hm:(lk kR++body).length<M:=J (ac ..) (oV 0x110010132a100b32aa010000007fb1223284fb003 rfl hS hM sz);have ho:∀x∈lk kR++body,x<256:=UA (nH (nH g.g.1.b.1 rfl) g.g.1.b.2);have hu:u.length=4:=C.len;refine Cm (n:=n+40) ok rfl hm ho (ah dep hD) (nn 0x1010282fb2a11ba0011ba0142fb002 rfl hD dep) λσ₁ lt lh IP=>uW rfl ?_;have P1:=P.keep lh;have y1:=mq (p:=p) (c:=c) (hh:=hh) lh.mono;have R:Rd (qh p c hh σ₁) (lk kR++body) (.cons kR body kW kS .nil) lt:=⟨IP.keep (Uz P),ok,(λz=>nomatch z),ah g.num (mZ 0x110010010000007fb1223284fb002 rfl hS hM),hm,ho⟩;have Bs:=base R (N.keep y1) (Nd.Ok.bd ok (ah g.sz hS));have PL1:=PL.keep y1;have h1:=y1.get h;refine⟨by refine(?_:1+u.length<=M);exact mZ 0x10010011ba04b1210000007fb022 rfl hM hu,⟨by refine(?_:u.length+1+1<=M);exact mZ 0x1001001b1b1aa04b1210000007fb022 rfl hM hu,Gq (n:=n+41) C λσ₂ lA=>?_⟩⟩;have y2:=mq (p:=p) (c:=c) (hh:=hh) lA.mono;refine bF rfl ?_;refine(?_:rU _ _ _ _ _ _ _);refine CB (n:=n+41) (R.keep (y2.trans Cr)) (y2.trans Cr) (lA.get (pM h1).2) (ah hL (by decide)) sP C PL1 λlH lU=>bF rfl ?_;refine(?_:lO _ _ _ _ _ _ _);have y3:=y2.trans (mq (p:=p) (c:=c) (hh:=hh) lU.mono);exact EE (n:=n+40) ((P1.keep lA).keep lU) Bs y3 (y3.get h1) (ah hL (by decide)) PL1 hw k
def Ol{w way:Nat}{o0 o3 o4 o5 o6 o7:Option PV}(P:pZ U p c hh (B+10))(N:o_ (qh p c hh U) F [.ref w])(g:Gn ms F S D)(hS:S<=9000)(hD:D<=20)(hw:way<4)(k:∀kP,Q (.bool true) kP):
  lO (CL (n+50)) lF (uj.body.at 7) (o0::some (.ref p)::some (.int (way:Nat))::o3::o4::o5::o6::o7::some (.ref w)::none::none::none::none::Oj) U (λfl _ U=>Q fl.val U) (λe _ U=>E e U):=by
 have hM:M=16777216:=rfl;refine lr λGp gk=>?_;obtain⟨kR,body,kW,kS,rfl⟩:=N.one;obtain⟨J,kl,nt,eN,_,_,_⟩:=A8 N;have eN:=(pM eN).2;have sz:(lk kR).length+body.length+0<=S:=g.sz;refine gk ?_;refine mw (j:=4) eN (ae rfl) rfl rfl (mw (j:=1) eN (ae rfl) rfl rfl ⟨oV 0x110010132a000b32aa010000007fb1223284fb003 rfl hS hM sz,?_⟩);refine JG (n:=n+9) (τ:=qh p c hh U) Cr N (ah g.dep hD) (ah g.num (sR 0x1027104fb0023284fb001 rfl hS)) g.sl λσ₁ pl L lh hn RM hL sP PL=>?_;refine AY (n:=n+48) (B:=B+9) (P.keep lh) Gl.1 (by decide) λu σ₂ e1 e2 pK lA=>?_;have y1:=mq (p:=p) (c:=c) (hh:=hh) lh.mono;have y2:=mq (hh:=hh) lA;refine(?_:lO _ _ _ _ _ _ _);exact Rc pK (N.keep (y1.trans y2)) g hS hD (y2.get (pj (P.fresh hn) RM)) (ah hL (ah g.num hS)) sP (PL.keep (y1.trans y2)) ⟨e1,e2⟩ hw k
def qr{l:List PV}{x y:PV}{i j:Nat}(h:U a=some (.list l))(hm:l.length<=M)(hx:nF l.length 0 x=some i)(hy:nF l.length l.length y=some j)(k:∀q,U q=.none->Q (.ref q) (U.put q (.list (cut l i j)))):mS U (.ref a) x y Q:=by
 unfold mS Bh;dsimp only;refine J (h ..) ?_;refine(?_:lv (nF l.length 0 x) λa=>lv (nF l.length l.length y) λb=>l.length<=M/\∀q,U q=.none->Q (.ref q) (U.put q (.list (cut l a b))));refine J (hx ..) ?_;refine(?_:lv (nF l.length l.length y) _);refine J (hy ..) ?_;exact⟨hm,k⟩
def JR{r1 r2 r3 turned way:Nat}{F1 F2 F3:Nd}{o0 o4 o5 o6:Option PV}(P:pZ U p c hh (B+14))(ha:U a=some (.list [.ref r1,.ref r2,.ref r3]))(N1:o_ (qh p c hh U) F1 [.ref r1])(N2:o_ (qh p c hh U) F2 [.ref r2])(N3:o_ (qh p c hh U) F3 [.ref r3])(g1:Gn [mA] F1 1500 3)(g2:Gn [mA] F2 1500 3)(g3:Gn [mA] F3 1500 3)(ht:turned<3)(hw:way<4)(k:∀kP,Q (.bool true) kP):
  lO (CL (n+50)) lF (uj.body.at 6) (o0::some (.ref p)::some (.int (way:Nat))::some (.int (turned:Nat))::o4::o5::o6::some (.ref a)::none::none::none::none::none::Oj) U (λfl _ U=>Q fl.val U) (λe _ U=>E e U):=by
 have go:∀{l1 l2 l3 q:Nat}{G1 G2 G3:Nd}{σ₁:kO}{Q':QV},lg [] U σ₁->σ₁ q=.none->o_ (qh p c hh U) G1 [.ref l1]->o_ (qh p c hh U) G2 [.ref l2]->o_ (qh p c hh U) G3 [.ref l3]->Gn [mA] G1 1500 3->Gn [mA] G2 1500 3->Gn [mA] G3 1500 3->
   (∀kP w F,tW U kP p c hh (B+12) [] 4600 4 F w->Q' (.ref w) kP)->CL (n+50) 824 [.ref p,.bytes mA,.ref q] (σ₁.put q (.list [.ref l1,.ref l2,.ref l3])) Q' E:=by
  intro l1 l2 l3 q G1 G2 G3 σ₁ Q' x hq M1 M2 M3 k1 k2 k3 kk;have y:=mq (p:=p) (c:=c) (hh:=hh) x.mono;refine lr λGp gk=>?_;obtain⟨_,_,_,_,rfl⟩:=M1.one;obtain⟨_,_,_,_,rfl⟩:=M2.one;obtain⟨_,_,_,_,rfl⟩:=M3.one;have L:=N5.new (P.keep x) x.mono hq (((M3.keep y).ap (M2.keep y)).ap (M1.keep y)) (k1.ap (k2.ap k3));refine gk ?_;exact Gh (n:=n+48) (m:=mA) (ms:=[]) (B:=B+12) L.P L.h L.N aj (λm' h'=>nomatch h') L.g (λz=>nomatch z) (ae rfl) (by decide) λσ₂ r F O=>kk σ₂ r F (O.step L.x)
 have fin:∀{σ₁:kO}{t1:Nat},t1=turned->∀kP w F,tW σ₁ kP p c hh (B+12) [] 4600 4 F w->CL (n+50) 831 [.ref p,.ref w] kP (Kf (zI (CL (n+50)) lF (.name 8)) (o0::some (.ref p)::some (.int (way:Nat))::some (.int (turned:Nat))::o4::o5::o6::some (.ref a)::none::none::none::none::none::Oj) (Bl (lO (CL (n+50)) lF (uj.body.at 7)) (λfl _ U=>Q fl.val U) λe _ U=>E e U)) (JW (λe _ U=>E e U) (o0::some (.ref p)::some (.int (way:Nat))::some (.int (turned:Nat))::o4::o5::o6::some (.ref a)::none::none::none::none::none::Oj)):=by
  rintro σ₁ t1 e kP w F O;exact CA (n:=n+48) (B:=B+10) O.o.P O.o.N O.g (λm' h'=>nomatch h') (by decide) λσ₂ w' F' O'=>uW rfl (Ol O'.o.P O'.o.N O'.g (by decide) (by decide) hw k)
 obtain rfl|rfl|rfl:=Sm ht
 ·refine qr (i:=0) (j:=3) ha (ae rfl) rfl rfl λq1 CH=>qr (i:=0) (j:=0) ((lg.new CH).get ha) (ae rfl) rfl rfl λq2 Aa=>?_;refine lst ((lg.new Aa).get kT) (lst kT ⟨ae rfl,λq hq=>?_⟩);exact go ((lg.new CH).trans (.new Aa)) hq N1 N2 N3 g1 g2 g3 (fin (t1:=0) rfl)
 ·refine qr (i:=1) (j:=3) ha (ae rfl) rfl rfl λq1 CH=>qr (i:=0) (j:=1) ((lg.new CH).get ha) (ae rfl) rfl rfl λq2 Aa=>?_;refine lst ((lg.new Aa).get kT) (lst kT ⟨ae rfl,λq hq=>?_⟩);exact go ((lg.new CH).trans (.new Aa)) hq N2 N3 N1 g2 g3 g1 (fin (t1:=1) rfl)
 refine qr (i:=2) (j:=3) ha (ae rfl) rfl rfl λq1 CH=>qr (i:=0) (j:=2) ((lg.new CH).get ha) (ae rfl) rfl rfl λq2 Aa=>?_;refine lst ((lg.new Aa).get kT) (lst kT ⟨ae rfl,λq hq=>?_⟩);exact go ((lg.new CH).trans (.new Aa)) hq N3 N1 N2 g3 g1 g2 (fin (t1:=2) rfl)
def Se{mt:Tab}{call:CT}{Q:Fl->lK->kO->Prop}{E:QR}(k:lO call mt ss ρ U Q E):Rp ρ (Bl (lO call mt ss) Q E) v U:=k
def xN:lg [] (qh p c [a] U) (qh p c [a] (U.put a o)):=λb x _ e=>by
 obtain⟨h1,h2⟩:=pM e;exact pj h1 ((mN λz:b=a=>h1.2.2 (J (z ..) (er _))).trans h2)
def Re(h:U a=.none):lg [] (qh p c [] U) (qh p c [a] (U.put a o)):=λb x _ e=>by
 obtain⟨h1,h2⟩:=pM e;have hb:b≠a:=λz=>by rw[z,h]at h2;contradiction
 exact pj ⟨h1.1,h1.2.1,λz=>hb (aB.mp z)⟩ ((mN hb).trans h2)
def pZ.XU(P:pZ U p c hh B)(h:a≠p/\a≠c):pZ (U.put a o) p c hh B:=by
 refine lr λGp gk=>?_;obtain⟨ne,al,cells,pB,lQ,h1,h2,h3⟩:=P;refine gk ?_;exact⟨ne,Cq al,cells,pB,lQ,(mN h.1.symm).trans h1,(mN h.2.symm).trans h2,h3⟩
def pZ.row(P:pZ U p c [] B)(h:U a=.none):pZ (U.put a o) p c [a] B:=by
 have f:=P.fresh h;refine lr λGp gk=>?_;obtain⟨ne,al,cells,pB,lQ,h1,h2,h3⟩:=P;refine gk ?_;exact⟨ne,λb hb=>J (aB.mp hb ..) (J (kT ..) ((λz=>nomatch z))),cells,pB,lQ,(mN f.1.symm).trans h1,(mN f.2.1.symm).trans h2,h3⟩
def Sf(x:lg [p,c] U kP)(h:a≠p/\a≠c)(e:U a=some o):kP a=some o:=x a o (by simp[h.1,h.2]) e
def UB{r1 r2 turned rT way:Nat}(P:pZ U p c [a] (B+20))(U6:a≠p/\a≠c)(ha:U a=some (.list [.ref r1,.ref r2]))(N1:o_ (qh p c [a] U) F1 [.ref r1])(N2:o_ (qh p c [a] U) F2 [.ref r2])(g1:Gn [mA] F1 1500 3)(g2:Gn [mA] F2 1500 3)(ht:turned<3)(h3:rT<3)(hw:way<4)(k:∀kP,Q (.bool true) kP):
  lO (CL (n+50)) lF (uj.body.at 5) (o0::some (.ref p)::some (.int (way:Nat))::some (.int (turned:Nat))::some (.int (rT:Nat))::o5::o6::some (.ref a)::none::none::none::none::none::Oj) U (λfl _ U=>Q fl.val U) (λe _ U=>E e U):=by
 refine mf ha ?_;refine JK (n:=n+47) (B:=B+14) P h3 λσ₁ r3 F3 O=>?_;refine lst (Sf O.o.x U6 ha) ⟨ae rfl,?_⟩;have y:=(mq (hh:=[a]) O.o.x).trans (xN (o:=.list [.ref r1,.ref r2,.ref r3]));exact Se (JR (O.o.P.XU U6) kT (N1.keep y) (N2.keep y) (O.o.N.keep xN) g1 g2 (O.g.mono (by decide) (by decide) λ_ h=>h) ht hw k)
def acd(P:pZ U p c hh (B+8))(hm:m∈mF)(hA:(mA==m)=false)(h:ρ.get i=some (.ref p))(k:∀kP r F,tW U kP p c hh B [mA] 630 3 F r->Q (.ref r) kP):
  mh (CL (n+2)) lF (.call (.lit (.ref 838)) (.cons (.call (.lit (.ref 831)) (.cons (.Z i) (.cons (.call (.lit (.ref 824)) (.cons (.Z i) (.cons (.lit (.bytes m)) (.cons (.list (.cons (.call (.lit (.ref 817)) (.cons (.Z i) .nil)) (.cons (.call (.lit (.ref 817)) (.cons (.Z i) .nil)) .nil))) .nil)))) .nil))) .nil)) ρ U Q E:=by
 refine(?_:lv (ρ.get i) _);refine J (h ..) ?_;refine(?_:mh _ _ _ _ _ _ _);refine duo (B:=B+2) P hm hA h λσ₁ q1 G1 O1=>?_;refine CA (B:=B) O1.o.P O1.o.N O1.g (λ_ h=>U7 h) (by decide) λσ₂ q2 G2 O2=>Hx O2.o.P O2.o.N O2.g (λ_ h=>U7 h) (by decide) λlH r2 F2 O3=>?_;exact k lH r2 F2 ((O3.step O2.o.x).step O1.o.x)
def UC{r1 turned rT way:Nat}(P:pZ U p c [a] (B+28))(U6:a≠p/\a≠c)(ha:U a=some (.list [.ref r1]))(N1:o_ (qh p c [a] U) F1 [.ref r1])(g1:Gn [mA] F1 1500 3)(ht:turned<3)(h3:rT<3)(hw:way<4)(k:∀kP,Q (.bool true) kP):
  lO (CL (n+50)) lF (uj.body.at 4) (o0::some (.ref p)::some (.int (way:Nat))::some (.int (turned:Nat))::some (.int (rT:Nat))::o5::o6::some (.ref a)::none::none::none::none::none::Oj) U (λfl _ U=>Q fl.val U) (λe _ U=>E e U):=by
 refine mf ha ?_;refine(?_:mh _ _ _ _ _ _ _);refine acd (n:=n+48) (i:=1) (B:=B+20) P (ay _ (ay _ aj)) rfl rfl λlH r2 F2 O3=>?_;have x:=O3.o.x;refine lst (Sf x U6 ha) ⟨ae rfl,?_⟩;have y:=(mq (hh:=[a]) x).trans (xN (o:=.list [.ref r1,.ref r2]));exact Se (UB (O3.o.P.XU U6) U6 kT (N1.keep y) (O3.o.N.keep xN) g1 (O3.g.mono (by decide) (by decide) λ_ h=>h) ht h3 hw k)
def Om{rm turned rT way:Nat}(P:pZ U p c [] (B+34))(Nm:o_ (qh p c [] U) Fm [.ref rm])(gm:Gn mF Fm 415 2)(ht:turned<3)(h3:rT<3)(hw:way<4)(k:∀kP,Q (.bool true) kP):
  lO (CL (n+50)) lF (uj.body.at 3) (o0::some (.ref p)::some (.int (way:Nat))::some (.int (turned:Nat))::some (.int (rT:Nat))::o5::some (.ref rm)::none::none::none::none::none::none::Oj) U (λfl _ U=>Q fl.val U) (λe _ U=>E e U):=by
 refine zx (n:=n+48) (B:=B+32) P λσ₁ r1 F1 O1=>zx (n:=n+48) (B:=B+30) O1.o.P λσ₂ r3 F3 O3 q hq=>?_;have x:=O1.o.x.trans O3.o.x;refine lr λGp gk=>?_;obtain⟨_,_,_,_,rfl⟩:=O1.o.N.one;obtain⟨_,_,_,_,rfl⟩:=Nm.one;obtain⟨_,_,_,_,rfl⟩:=O3.o.N.one;have g:=(O1.g.mono (S':=415) (D':=2) (by decide) (by decide) λ_ h=>h).ap (gm.ap (O3.g.mono (S':=415) (D':=2) (by decide) (by decide) λ_ h=>h));have L:=N5.new O3.o.P x hq ((O3.o.N.ap (Nm.keep (mq x))).ap (O1.o.N.keep (mq O3.o.x))) g;refine gk ?_;refine Gh (n:=n+48) (m:=[61,109,66]) (ms:=[mA]) (B:=B+28) L.P L.h L.N (ay _ aj) (λm' h'=>J (aB.mp h' ..) (⟨aj,rfl⟩)) (L.g.mono (aF _) (aF _) λm' h'=>?_) (λz=>nomatch z) (ae rfl) (by decide) λlH rB FB OB a ha=>?_
 ·rcases aU.mp h' with z|z
  ·exact J (z ..) (ay _ aj)
  exact U7 z
 have f:=OB.o.P.fresh ha;exact uW rfl (UC (OB.o.P.row ha) ⟨f.1,f.2.1⟩ kT (OB.o.N.keep (Re ha)) (OB.g.mono (by decide) (by decide) λ_ h=>h) ht h3 hw k)
theorem XW{deep:Bool}{turned rT way:Nat}{o0:Option PV}(P:pZ U p c [] (B+38))(ht:turned<3)(h3:rT<3)(hw:way<4)(k:∀kP,Q (.bool true) kP):
  lO (CL (n+50)) lF (uj.body.at 2) (o0::some (.ref p)::some (.int (way:Nat))::some (.int (turned:Nat))::some (.int (rT:Nat))::some (.bool deep)::none::none::none::none::none::none::none::Oj) U (λfl _ U=>Q fl.val U) (λe _ U=>E e U):=by
 induction deep with
 |true=>
  refine bT rfl ?_
  show mh _ _ _ _ _ _ _
  exact lal (n:=n+48) (i:=1) (B:=B+34) P (λσ₁ r F O=>uW rfl (Om O.o.P O.o.N O.g ht h3 hw k)) rfl
 |false=>exact bF rfl (zx (n:=n+48) (B:=B+36) P λσ₁ r F O=>uW rfl (Om (O.o.P.less (bK (by decide) _)) O.o.N (O.g.mono (by decide) (by decide) λ_ h=>h) ht h3 hw k))
def Rf{xs:List Int}(hx:xs.length<=63)(h:U a=some (.Aj (xs.map PV.int)))(k:∀kP,Q (.bool true) kP):CL (n+51) 895 [.ref a] U Q E:=by
 refine ent (ρ:=_::_::_::_::_::_::_::_::_::_::_::_::_::Oj) rfl rfl rfl (Q3 (n:=n+49) h hx λσ₁ p c P x=>uW rfl ?_);refine drawn (n:=n+49) (m:=4) (B:=999) P (by decide) (by decide) λway σ₂ hw pK _=>drawn (n:=n+49) (m:=3) (B:=998) pK (by decide) (by decide) λturned lH ht yS _=>drawn (n:=n+49) (m:=3) (B:=997) yS (by decide) (by decide) λrT mH h3 TL _=>drawn (n:=n+49) (m:=2) (B:=996) TL (by decide) (by decide) λdp mL _ Mg _=>?_;have go:∀deep:Bool,Kf (zI (CL (n+50)) lF (.tup (.cons (.name 2) (.cons (.name 3) (.cons (.name 4) (.cons (.name 5) .nil)))))) (some (.ref a)::some (.ref p)::none::none::none::none::none::none::none::none::none::none::none::Oj) (Bl (lO (CL (n+50)) lF (uj.body.at 2)) (λfl _ U=>Q fl.val U) λe _ U=>E e U) (.tup [.int (way:Nat),.int (turned:Nat),.int (rT:Nat),.bool deep]) mL:=λdeep=>by
  refine(?_:lO _ _ _ _ _ _ _);exact XW (B:=958) Mg ht h3 hw k
 exact go ((dp:Int)==1)
def law_true{xs:List Int}{U:kO}{p:Nat}(hx:xs.length<=63)(h:U p=some (.Aj (xs.map PV.int))):qe sN lF 99 895 [.ref p] U (λv _=>v=.bool true) (λ_ _=>False):=by
 have:=Rf (n:=48) (Q:=λv _=>v=.bool true) (E:=λ_ _=>False) hx h λ_=>rfl;unfold CL at this;exact this
end
end LP
end
theorem PySem.Challenge.cw_pq0954_01_holds : PySem.Challenge.rw_pq0954_01.Holds :=
 LP.law_of fun _ _ _ h k => LP.law_true h k
