import PyProof.Rows.All
import Wide.All
import OpenK.AllK
import Wide.FinOn
import Lean
import PySem.Challenge.RW_nn0366_01
set_option Elab.async false
set_option tactic.hygienic false
set_option linter.all false
set_option genCtorIdx false
set_option genSizeOf false
set_option genInjectivity false
set_option maxRecDepth 100000
noncomputable section
set_option maxHeartbeats 0
namespace Mine
open PySem PySem.W PySem.Calls PyProof.Rows PySem.SeqAt
open _root_.Array renaming size_setIfInBounds->gX,getElem?_eq_some_iff->jG,getElem?_setIfInBounds_self_of_lt->mK,length_toList->nE,getD_eq_getD_getElem?->se,forIn_toList->AN,toList_push->A2,toList_inj->DX
open _root_.Bool renaming and_eq_true->cZ,false_ne_true->dj,and_eq_true_iff->dk,false_eq_true->dG,or_eq_true->fg,eq_iff_iff->fh,beq_comm->fw,not_true->g8,eq_false_iff->ip,and_false->m3,not_eq_true'->pO,noConfusion->qu,or_eq_false_iff->zi,true->aj,false->ao
open _root_.Eq renaming symm->bA
open _root_.Int renaming natCast_nonneg->bs,ofNat_lt->cY,ofNat_inj->dp,toNat->ey,lt_trans->f4,toNat_natCast->gp,add_zero->gM,toNat_of_nonneg->gW,one_mul->ii,not_lt->i8,zero_add->jE,ofNat_le->jF,mul_add->nD,ofNat->nI,zero_mul->p6,le_of_lt->p7,negSucc->sd,mul_nonneg->uW,neg_nonneg_of_nonpos->wP,add_assoc->wQ,neg_mul->AM,sub_pos_of_lt->Eb,add_left_comm->Ec
open _root_.List renaming length_map->au,mem_append_right->ax,getElem?_eq_getElem->ay,mem_map->aC,getD_eq_getElem?_getD->aD,mem_singleton->aE,length_append->aF,mem_cons->aI,mem_append_left->aJ,map_append->aK,mem_append->aM,getElem?_map->aN,nodup_iff_pairwise_ne->aO,take_succ_eq_append_getElem->aS,nodup_append->aV,mem_of_getElem?->aX,range->aZ,take_length->a0,length_take->bb,map_cons->be,length_range->bf,getElem?_eq_some_iff->bh,length_cons->bj,getElem?_eq_none->bl,mem_map_of_mem->bq,lookup_cons->br,map_map->bu,replicate->bv,nodup_cons->bC,map_congr_left->bF,getElem?_append_right->bH,size_toArray->bI,nodup_nil->bL,lookup_eq_some_iff->bO,mem_range->bP,length_replicate->bR,pairwise_map->bU,append_assoc->bW,mem_flatMap->bX,getElem_map->bY,length_set->b0,mem_filter->b4,getElem?_toArray->b6,mem_cons_of_mem->b_,all_eq_true->cc,mem_cons_self->ci,mem_of_mem_drop->cC,mem_of_mem_take->cG,getElem_mem->cI,append_nil->cJ,mem_iff_getElem?->cL,length_singleton->cM,range_succ->cW,find?_cons->cX,getElem?_append_left->c3,foldl_cons->c6,take_append_drop->c_,length_filter_le->db,flatMap_cons->df,toArray->dr,cons_append->dt,findIdx?_eq_none_iff->dv,length->dB,mem_iff_getElem->dJ,lookup_eq_none_iff->dK,getElem_toArray->dL,any_eq_true->dM,perm_ext_iff_of_nodup->dU,ext_getElem?->dW,flatMap_append->dX,singleton_append->d5,set_append_right->d6,prefix_refl->d_,not_mem_nil->ea,mem_filterMap->eb,map_id->ej,getElem?_set->ew,perm_middle->eX,mem_toArray->eY,findIdx?_eq_some_iff_getElem->fb,take_sublist->fj,getElem?_inj->fk,foldl_append->fm,getElem?_range->fF,length_drop->fK,idxOf?_cons->fM,map_singleton->fZ,map_set->f0,length_zipIdx->f1,count_append->gn,exists_mem_of_ne_nil->gI,map_take->g5,idxOf_lt_length_iff->g6,getElem_append_left->g7,length_nil->hH,length_eq_zero_iff->ic,idxOf?_eq_none_iff->ie,cons_lt_cons_iff->iY,drop_length->iZ,any_toArray->i0,forall_mem_cons->jb,count_le_length->jc,sum_append->jk,forIn_cons->jl,prefix_append->jU,getElem_range->jV,findIdx?_cons->jW,pairwise_iff_getElem->kf,drop_eq_getElem_cons->kh,getElem?_replicate->lB,filter_cons_of_pos->lC,filter_cons_of_neg->lD,countP_cons->lE,take_of_length_le->lL,pairwise_lt_range->lM,drop_eq_nil_of_le->lN,getElem?_reverse->mH,countP_mono_left->mI,countP_le_length->mJ,getElem?_zipIdx->mY,count_singleton->mZ,map_eq_nil_iff->nH,map_drop->oy,map_inj_right->oA,getElem_idxOf->oB,filter_append->oC,idxOf_append->pL,isEmpty_iff->qt,eq_nil_of_length_eq_zero->r8,idxOf_lt_length_of_mem->sL,getElem_append_right->uV,sublist_append_left->u3,mem_of_elem_eq_true->u4,getElem?_take_of_lt->u5,all_cons->u6,pairwise_singleton->wO,range_succ_eq_map->wT,getElem_replicate->wU,findIdx?_toArray->yd,contains_iff_mem->ye,set_append_left->zb,map->zc,lookup->zh,filterMap_cons->AJ,countP_eq_zero->AK,append_toArray->AL,zipIdx_append->AY,ne_nil_of_mem->AZ,map_replicate->A0,contains_cons->A1,cons_eq_cons->DW,zipIdx_cons->D6,take->D7,range'_succ->D8,map_reverse->D9,flatMap_nil->D_,filter_cons->Ea
open _root_.List.Nodup renaming length_le_of_subset->aU
open _root_.List.Pairwise renaming filterMap->pN
open _root_.List.Perm renaming flatMap_right->kc
open _root_.List.Sublist renaming map->hJ,append_left->pM
open _root_.Nat renaming le_trans->aA,lt_of_lt_of_le->aH,le_of_ble_eq_true->aP,lt_of_le_of_lt->aR,le_refl->aT,le_of_lt->bc,zero_le->bg,lt_irrefl->bB,lt_trans->bD,sub_one_sub_lt_of_lt->bJ,le_add_left->bK,not_lt->bT,le_add_right->b3,lt_succ_self->ce,ne_of_lt->cm,le_of_lt_succ->cp,succ_pos->cr,le_of_eq->cu,pos_of_ne_zero->cy,lt_succ_of_lt->cD,add_sub_cancel_left->cE,lt_succ_iff_lt_or_eq->cH,zero_add->cQ,add_right_comm->cT,le_succ_of_le->c1,not_lt_zero->c9,lt_succ_of_le->dh,succ_le_succ->ee,lt_of_not_le->eg,sub_self->eU,lt_of_succ_lt_succ->eW,zero_testBit->e5,le_of_not_lt->e6,testBit_or->e9,ne_of_gt->fo,add_comm->ft,le_antisymm->gd,add_assoc->gf,le_succ->gA,add_le_add->gB,lt_add_of_pos_right->ig,le_of_succ_le->iG,le_sub_one_of_lt->jh,min_eq_left->jx,testBit_two_pow->jy,add_le_add_left->jz,add_zero->jD,succ->j8,lt_of_le_of_ne->j9,add_sub_cancel->j_,lt_pow_two_of_testBit->kS,add_sub_of_le->kY,succ_lt_succ->lI,pow_le_pow_right->nA,not_succ_le_self->nB,eq_of_testBit_eq->nC,sub_le->pc,not_le->pe,lt_or_eq_of_le->pf,mul_succ->pW,lt_trichotomy->pX,lt_or_ge->pY,cast->pZ,min_eq_right->r7,le_zero->r_,div_lt_self->sK,testBit_lt_two_pow->x_,succ_mul->ya,le_total->yb,le_mul_of_pos_left->yc,sub_one_lt_of_lt->AH,add_le_add_right->AI,mul_le_mul_left->AX,zero_lt_of_lt->D5
open _root_.Option renaming map_eq_some_iff->bM,bind_eq_some_iff->dg,elim->j7,join_eq_some_iff->kX,bind_some->pK,map_some->qs,some->ah,none->ai
open _root_.Or renaming elim->b7
open _root_.Prod renaming fst->jT,ext->lA
open _root_.PyProof.Rows renaming dflt->nL,SortKind->sq,seqObj->wW,StrsAre->Ba,keyKind'->Ej,failedOf->El
open _root_.PySem renaming wpAny_bind->aw,wpAny_pure->az,Addr->aG,Shared->aQ,wpAny->aW,wpAny_mono->aY,starEach->bk,model->bn,eval->bw,wpAny_holding->bE,DictEntry->bN,Params->bS,mainGlobals->b8,compareOp->cK,backTo->cO,spliced->c7,sysModules->dD,sizeLine_eq->dE,wpAny_call_entry->dS,binaryOp->dT,methodCallPos->d1,assignEach->d3,cellsFrom->d4,assign->ec,swapsWith->eo,wpAny_standAt->et,isTrue->ez,foldedSetIterable->eK,execs->eL,Arguments->eM,sizeLine->eZ,wpAny_loadPart->fc,cLine->fe,builtinsNs->ff,wpAny_truthy_bool->fE,exec->gg,codeAny->gi,wpAny_notOrdered_dict->gx,wpAny_dictEntries->gD,wpAny_loadName_local->gQ,wpAny_field->gR,methodCall->gT,Pos->gY,wpAny_specialOf->il,wpAny_rule->iq,Scope->iH,standAt->i1,rawInt->i2,wpAny_isInstance->jm,wpAny_call->jn,intKind->ki,holding->kj,getItem->km,dictGet->kq,codeAny_mono->kr,Program->kt,noteFrame->kW,call_meets->kZ,wpAny_Return_some->lJ,eqIsQuiet_byValue->lK,wpAny_callSpecial?_slot->mL,isInstance->m5,clipAt->m7,letOwnedTupleGo->nF,wpAny_storeName_local->nJ,wpAny_isTrue_Compare1->nK,wpAny_setField->oE,dictSetDefault->oG,codeAny_call_builtin->oH,wpAny_Name->qw,wpAny_Constant_int->qx,Result->qz,wpAny_sequenceKey->sg,wpAny_newObj_type->sj,bootBuiltins->so,plainObj_wpAny_Assign_Attribute->sM,wpAny_forIn_list->tH,wpAny_Call_NameR->tI,World->uY,wpAny_richCompare_same_room->wR,wpAny_newFunctionEnv_cells->wV,pyNext->wY,methodCallForm->wZ,letTemporaryGo->w1,wpAny_getItem_list_slice->zj,wpAny_comprehension_free->zk,behindInMarks->zl,wpAny_pyNext_tuple_item->AO,treeTable->AP,inplaceOp->AQ,wpAny_pyNext_tuple_end->A3,wpAny_mkText->A4,setItem->A5,getAttr->A6,fitsIndex_of->A7,dictSet->A8,aRefKeyMayBeTheName_at->A_,codeAny_call_function->DY,wpAny_updateDictKeys->Ed,wpAny_letTemporaryGo->Ee,wpAny_alloc->Ef,interactive->Ek,evalPart->En,calleeOf->Eo,bindSpecial->Er,bindArgs->Es,FuncData->Et,wpAny_Constant_none->Gf,aRefKeyMayBeTheName->Gg,wpAny_pyIter_tuple->Hw,typeOf->Hx,truthy->Hy,reduceHash->Hz,cameBackBy->HC,wpAny_pyIter_list->Jb,wpAny_dictFind_of->Jc,wpAny_assign_Name->Jd,slot_list_setitem->Je,slot_dict_setitem->Jf,leaving->Ji,Tok->Jm
open _root_.PySem.Calls renaming Name_function_global->oJ,loadGlobal_global->Jh
open _root_.PySem.Heap renaming get?_push_of_some->aL,get?_push_size->bQ,lt_size->cq,get?_update_self->dc,get?_none_of_le->el,get?_update_ne->fG,get?_update_other->f2
open _root_.PySem.Str renaming ofString->bo,length_append->cj
open _root_.PySem.Value renaming none->cV,ref->eT,builtin->nG,isStrOf->uU,str->u0,isInt->x9,isInt_shape->AW
open _root_.PySem.W renaming Frag->gb,looks_findIn->g9,findIn->hP,instObj->io,typeIn->lO,nsIn->mM,keepIn->m4,looks_clsIn->oF,lookIn->qy,hideAll_none->sm,hideAll->sn,emptyDict->tJ,absHeap->A9,plainGet_of->Eg,plainGet->Eh,looks_mroIn->Ei,callWith_of->Ep,fnOf->HA,check_slot->HB,mroIn->Jg,ktsIn->Jk,WellAll->Jl,SharedT->Jo
set_option compiler.extract_closed false in
 def rf:Lean.Syntax:=.node .none `Lean.Parser.Tactic.tacticSeq #[.node .none `Lean.Parser.Tactic.tacticSeq1Indented #[.node .none `null #[.node .none `Lean.Parser.Tactic.intros #[.atom .none "intros",.node .none `null #[]],.atom .none ";",.node .none `Lean.Parser.Tactic.tacticRfl #[.atom .none "rfl"]]]]
set_option compiler.extract_closed false in
 def rk:Lean.Syntax:=.node .none `Lean.Parser.Tactic.tacticSeq #[.node .none `Lean.Parser.Tactic.tacticSeq1Indented #[.node .none `null #[.node .none `Lean.Parser.Tactic.intros #[.atom .none "intros",.node .none `null #[]],.atom .none ";",.node .none `tacticKernel_rfl #[.atom .none "kernel_rfl"]]]]
set_option compiler.extract_closed false in
 def rx:Lean.Syntax:=.node .none `Lean.Parser.Tactic.tacticSeq #[.node .none `Lean.Parser.Tactic.tacticSeq1Indented #[.node .none `null #[.node .none `Lean.Parser.Tactic.intros #[.atom .none "intros",.node .none `null #[]],.atom .none ";",.node .none `Lean.Parser.Tactic.constructor #[.atom .none "constructor"],.atom .none ";",.node .none `Lean.Parser.Tactic.tacticRfl #[.atom .none "rfl"]]]]
set_option genInjectivity true in
inductive V where
 |none|bool (b:Bool)|int (i:Int)|str (x:Str)
 |tup (xs:List V)|list (xs:List V)|dict (es:List (V×V))|inst (C:aG) (fs:List (Str×V))|ref (a:aG)|Tf (a b:Int)
noncomputable def V.ctorIdx(v:V):Nat:=V.casesOn (motive_1:=λ Z=>Nat) v 0 (λ Z=>1) (λ Z=>2) (λ Z=>3) (λ Z=>4) (λ Z=>5) (λ Z=>6) (λ Z Z=>7) (λ Z=>8) (λ Z Z=>9)
noncomputable def vB(a b c d:Bool)(v:V):Bool:=V.casesOn (motive_1:=λ Z=>Bool) v a (λ Z=>b) (λ Z=>c) (λ Z=>d) (λ Z=>ao) (λ Z=>ao) (λ Z=>ao) (λ Z Z=>ao) (λ Z=>ao) (λ Z Z=>ao)
noncomputable def JU:gY:=⟨0,0,0,0⟩
noncomputable def Hn:Expr:=.Tuple [] 0 JU
noncomputable def I0:eM:=⟨[],[],ai,[],[],ai,[]⟩
noncomputable def Jp:iH:=PySem.Challenge.pw_nn0366_01.main.scope
noncomputable def d0:List Stmt×eM×iH×List Expr×Expr×gY:=([],I0,Jp,[],Hn,JU)
noncomputable def nY(s:Stmt):List Stmt×eM×iH×List Expr×Expr×gY:=
 Stmt.casesOn (motive_2:=λ Z=>List Stmt×eM×iH×List Expr×Expr×gY) s (λ Z a b Z Z Z s Z Z p=>(b,a,s,[],Hn,p)) (λ Z Z Z Z Z Z Z Z Z Z=>d0) (λ Z Z Z b Z Z s Z Z Z p=>(b,I0,s,[],Hn,p)) (λ Z Z=>d0) (λ Z Z=>d0) (λ l e p=>([],I0,Jp,l,e,p)) (λ Z Z Z Z Z Z Z=>d0) (λ Z Z Z Z=>d0) (λ Z Z Z Z Z=>d0) (λ Z e b Z p=>(b,I0,Jp,[],e,p)) (λ Z Z Z Z Z=>d0) (λ e b Z p=>(b,I0,Jp,[],e,p)) (λ e b Z p=>(b,I0,Jp,[],e,p)) (λ Z Z Z=>d0) (λ Z Z Z=>d0) (λ Z Z Z=>d0) (λ Z Z Z=>d0) (λ b Z Z Z p=>(b,I0,Jp,[],Hn,p)) (λ Z Z Z Z Z=>d0) (λ Z Z Z=>d0) (λ Z Z=>d0) (λ Z Z Z Z=>d0) (λ Z Z=>d0) (λ Z Z=>d0) (λ Z Z=>d0) (λ Z=>d0) (λ Z=>d0) (λ Z=>d0)
noncomputable def cA(s:Stmt):List Stmt:=(nY s).1
noncomputable def cP(s:Stmt):eM:=(nY s).2.1
noncomputable def bG(s:Stmt):iH:=(nY s).2.2.1
noncomputable def sub(s:Stmt)(n:Nat):Stmt:=(cA s).getD n (.Pass JU)
noncomputable def top(n:Nat):Stmt:=PySem.Challenge.pw_nn0366_01.main.body.getD n (.Pass JU)
noncomputable def mem(n k:Nat):Stmt:=sub (top n) k
noncomputable def j2(K:gb)(C:aG)(name:Str):Bool:=Eh K C name&&hasDictIn K C&&(match hP K (.ref C) name with|some attr=>noGet K attr|none=>ao)
noncomputable def iN(K:gb)(C:aG)(name:Str):Bool:=hP K (.ref C) "__setattr__"==ah (ah (.builtin "object.__setattr__"))&&plainOver K C&&takerIn K C name==ah ai&&(clsIn K C).any (·.hasDict)
noncomputable def o9(K:gb)(C:aG):Bool:=hP K (.ref C) "__getattribute__"==ah (ah (.builtin "BaseException.__getattribute__"))&&hP K (.ref C) "__getattr__"==ah ai&&Jg K C (.type "BaseException")==ah aj
noncomputable abbrev F3:List Value:=[.type "Exception",.type "BaseException",.type "object"]
noncomputable def rL:List Value->Bool
 |.ref _::l=>rL l
 |l=>l==F3
noncomputable def yu(v:Value):Option aG:=Value.casesOn v ai ai ai (λ Z=>ai) (λ Z Z=>ai) (λ Z Z=>ai) (λ Z Z=>ai) (λ Z Z=>ai) (λ Z=>ai) (λ Z=>ai) ah
noncomputable def JP(d:Data):Option (Array Value):=Data.casesOn d ai (λ Z=>ai) (λ i Z=>ah i) (λ Z Z=>ai) (λ Z Z Z=>ai) (λ Z Z=>ai) (λ Z=>ai) (λ Z=>ai) (λ Z=>ai) (λ Z=>ai) ai
noncomputable def NB(d:Data):Option Et:=Data.casesOn d ai (λ Z=>ai) (λ Z Z=>ai) (λ Z Z=>ai) (λ Z Z Z=>ai) (λ Z Z=>ai) (λ Z=>ai) ah (λ Z=>ai) (λ Z=>ai) ai
noncomputable def NF(d:Data):Option ClassData:=Data.casesOn d ai (λ Z=>ai) (λ Z Z=>ai) (λ Z Z=>ai) (λ Z Z Z=>ai) (λ Z Z=>ai) (λ Z=>ai) (λ Z=>ai) ah (λ Z=>ai) ai
noncomputable def h9(K:gb)(C:aG):Bool:=(K.lookup C).any λ o=>(NF o.data).any λ cd=>!cd.hasDel&&cd.hasDict&&(o.slots.toList[4]?).join==ah (.builtin "Exception.__new__")&&(cd.mro.head? ==ah (.ref C)&&rL cd.mro)&&
 specialIn K (.ref C) "__call__"==ah (ah (.builtin "type.__call__"))&&instIn K (.ref C) (.type "type")==ah aj
noncomputable def sw(K:gb)(C:aG)(name:Str):Bool:=hP K (.ref C) "__setattr__"==ah (ah (.builtin "object.__setattr__"))&&h9 K C&&takerIn K C name==ah ai
noncomputable def yD(K:gb)(C:aG):Bool:=hasDictIn K C&&(match hP K (.ref C) "at" with|some attr=>noGet K attr|none=>ao)
noncomputable def pB(h:Heap):List aG->gb
 |[]=>[]
 |a::l=>match h.get? a with
  |some o=>(a,o)::pB h l
  |none=>pB h l
noncomputable def C1(h:Heap):gb:=pB h [3,29,35,36,42,43,45,46,58,59,67,68,69,77,83,84,86,87,102,103,109,110,116,117,130,131,137,138,144,145,151,152,158,159,165,166,168,169,174,178,179,185,186,192,193,194,198,199,203,204,210,211,217,218,224,225,236,237,243,244,246,247,264,265,271,272,278,279,285,286,288,289,299,300,304,305,311,312,313,319,320,326,327,331,332,333,339,340,344,345,351,352,358,359,365,366,372,373,377,378,382,383,389,390,394,395]
theorem xN{h:Heap}{b:aG}{l:List aG}:pB h (b::l)=(match h.get? b with
 |some o=>(b,o)::pB h l
 |none=>pB h l):=rfl
theorem C2(h:Heap)(l:List aG):(pB h l).In h:=by
 induction l with
 |nil=>exact λ a o e=>by cases e
 |cons b l d=>
  intro a o e;rw[xN]at e;cases c:h.get? b with
  |none=>rw[c]at e;exact d a o e
  |some f=>
   rw[c]at e;have e:((b,f)::pB h l).lookup a=ah o:=e;rw[br]at e;cases q:a==b with
   |true=>rw[q]at e;cases e;rw[beq_iff_eq.mp q];exact c
   |false=>rw[q]at e;exact d a o e
noncomputable def q1:kt:={PySem.Challenge.pw_nn0366_01 with main:={PySem.Challenge.pw_nn0366_01.main with body:=[PySem.Challenge.pw_nn0366_01.main.body.getLast!]}}
noncomputable def xF:List Str:=(["_wall","ToolError","GrammarError","bits","END","OWN_TERMINALS","Rule","Grammar","show_rule",
 "show_item","last_terminal","plain_grammar","spread","nullable","first_of","first_masks","CanonicalState",
 "CanonicalAutomaton","closure_one","advanced","first_kernel","build_canonical","masks_of","show_canonical",
 "_law_orders","_law_pick","_law_pairs","_law_begin","_law_starts","_law_close","_law_masks","_law_shown",
 "_law_is_state","_law_allowed"]:List String).map bo
noncomputable def H2:Value->V
 |.none=>.none
 |.bool b=>.bool b
 |.int i _=>.int i
 |.str x _=>.str x
 |_=>.ref 0
noncomputable def qJ(K:gb)(v:Value):Option (List V):=(yu v).bind λ t=>(K.lookup t).bind λ o=>if (o.cls==.type "tuple"&&o.dict.isNone&&o.slots.toList.isEmpty)=aj then (JP o.data).map λ i=>i.toList.map H2 else ai
noncomputable def xU(K:gb)(v:Value):Option (Option (List V)):=if v=.none then ah ai else (qJ K v).map ah
noncomputable abbrev y7:=Option (Str×Str×eM×FuncBody×iH×aG×List (Str×aG)×aG×Option (Option (List V))×Bool)
noncomputable def ph(K:gb)(v:Option (Option Value)):y7:=(v.join.bind yu).bind λ a=>(K.lookup a).bind λ o=>(NB o.data).map λ fd=>(fd.name,fd.qualname,fd.params,fd.body,fd.scope,fd.globals,fd.closure,fd.builtins,xU K fd.defaults,codeIn K fd.code fd.qualname&&m4 K (.ref a)&&lO K (.ref a)==ah (.type "function"))
noncomputable def wr(st:Stmt)(name qual:Str)(d:Option (List V)):y7:=ah (name,qual,cP st,.stmts (cA st),bG st,b8,[],ff,ah d,aj)
noncomputable def dH(K:gb)(x:Str):aG:=((mM K b8 x).join.bind yu).getD 0
noncomputable def FJ(K:gb)(x:Str):Value:=(mM K b8 x).join.getD .none
noncomputable def Ho:List Str:=["bits","show_rule","show_item","last_terminal","plain_grammar","spread","nullable","first_of","first_masks","closure_one","advanced","first_kernel","build_canonical","masks_of","show_canonical","_law_pick","_law_pairs","_law_begin","_law_starts","_law_close","_law_masks","_law_shown","_law_is_state","_law_allowed","law"]
noncomputable def Cu:List (Str×Str):=[("Grammar","symbol_count"),("Grammar","is_terminal"),("Grammar","number"),("Grammar","rules_of"),("Grammar","item"),("Grammar","rule_of"),("Grammar","dot_of"),("Grammar","after"),("CanonicalState","set_items"),("CanonicalAutomaton","state_count"),("CanonicalAutomaton","goto"),("CanonicalAutomaton","walk"),("Rule","__init__"),("Grammar","__init__"),("CanonicalState","__init__"),("CanonicalAutomaton","__init__"),("GrammarError","__init__"),("GrammarError","told")]
noncomputable def Dx(K:gb):List Bool:=
 (["len","list","range","tuple","sorted","dict","int","str","Exception"]:List Str).map (λ x=>mM K b8 x==ah ai)++
 (["Grammar","Rule","CanonicalState","CanonicalAutomaton","GrammarError"]:List Str).map (λ x=>mM K b8 x==ah (ah (.ref (dH K x)))&&m4 K (.ref (dH K x)))++
 (["Grammar","Rule","CanonicalState","CanonicalAutomaton"]:List Str).map (λ x=>makesIn K (dH K x)&&Eh K (dH K x) "")++
 [(["names","terminal_count","rules","start","by_left","offsets","owners","item_count"]:List Str).all (j2 K (dH K "Grammar")),
 (["number","left","right"]:List Str).all (j2 K (dH K "Rule")),
 (["number","kernel","core","symbol","items","moves","reductions","masks"]:List Str).all (j2 K (dH K "CanonicalState")),
 (["grammar","states"]:List Str).all (j2 K (dH K "CanonicalAutomaton")),
 (["number","kernel","core","symbol","items","moves","reductions","masks"]:List Str).all (iN K (dH K "CanonicalState")),
 (["grammar","states"]:List Str).all (iN K (dH K "CanonicalAutomaton")),
 (["number","left","right","level_of","action","line","before"]:List Str).all (iN K (dH K "Rule")),
 (["names","terminal_count","rules","levels","expect","start","by_left","offsets","owners","item_count"]:List Str).all (iN K (dH K "Grammar"))]++
 [h9 K (dH K "GrammarError"),lO K (.ref (dH K "GrammarError"))==ah (.type "type"),sw K (dH K "GrammarError") "what",sw K (dH K "GrammarError") "at",o9 K (dH K "GrammarError"),yD K (dH K "GrammarError"),Jk K (dH K "GrammarError") "Exception"]
noncomputable abbrev F_:=List y7×List y7×List Bool×Option (List V)×Option (List V)×V
noncomputable def vQ(K:gb):F_:=(Ho.map λ d=>ph K (mM K b8 d),Cu.map λ m=>ph K (hP K (.ref (dH K m.1)) m.2),Dx K,qJ K (FJ K "_law_orders"),qJ K (FJ K "OWN_TERMINALS"),H2 (FJ K "END"))
noncomputable def yE:List Str:=["xyz","xzy","yxz","yzx","zxy","zyx"]
noncomputable def M0:List Str:=["$end","error","$undefined"]
noncomputable def l0:F_:=([
 wr (top 4) "bits" "bits" ai,
 wr (top 10) "show_rule" "show_rule" (ah [.int (-1)]),
 wr (top 11) "show_item" "show_item" ai,
 wr (top 12) "last_terminal" "last_terminal" ai,
 wr (top 13) "plain_grammar" "plain_grammar" (ah [.none]),
 wr (top 15) "spread" "spread" ai,
 wr (top 16) "nullable" "nullable" ai,
 wr (top 17) "first_of" "first_of" ai,
 wr (top 18) "first_masks" "first_masks" ai,
 wr (top 22) "closure_one" "closure_one" ai,
 wr (top 23) "advanced" "advanced" ai,
 wr (top 24) "first_kernel" "first_kernel" ai,
 wr (top 25) "build_canonical" "build_canonical" (ah [.int 2000]),
 wr (top 26) "masks_of" "masks_of" ai,
 wr (top 27) "show_canonical" "show_canonical" ai,
 wr (top 30) "_law_pick" "_law_pick" ai,
 wr (top 31) "_law_pairs" "_law_pairs" ai,
 wr (top 32) "_law_begin" "_law_begin" ai,
 wr (top 33) "_law_starts" "_law_starts" ai,
 wr (top 34) "_law_close" "_law_close" ai,
 wr (top 35) "_law_masks" "_law_masks" ai,
 wr (top 36) "_law_shown" "_law_shown" ai,
 wr (top 37) "_law_is_state" "_law_is_state" ai,
 wr (top 38) "_law_allowed" "_law_allowed" ai,
 wr (top 39) "law" "law" ai],[
 wr (mem 9 1) "symbol_count" "Grammar.symbol_count" ai,
 wr (mem 9 2) "is_terminal" "Grammar.is_terminal" ai,
 wr (mem 9 4) "number" "Grammar.number" ai,
 wr (mem 9 5) "rules_of" "Grammar.rules_of" ai,
 wr (mem 9 6) "item" "Grammar.item" ai,
 wr (mem 9 7) "rule_of" "Grammar.rule_of" ai,
 wr (mem 9 8) "dot_of" "Grammar.dot_of" ai,
 wr (mem 9 9) "after" "Grammar.after" ai,
 wr (mem 20 1) "set_items" "CanonicalState.set_items" ai,
 wr (mem 21 1) "state_count" "CanonicalAutomaton.state_count" ai,
 wr (mem 21 2) "goto" "CanonicalAutomaton.goto" ai,
 wr (mem 21 3) "walk" "CanonicalAutomaton.walk" ai,
 wr (mem 8 0) "__init__" "Rule.__init__" (ah [.int (-1),.none,.int 0,.int 0]),
 wr (mem 9 0) "__init__" "Grammar.__init__" ai,
 wr (mem 20 0) "__init__" "CanonicalState.__init__" ai,
 wr (mem 21 0) "__init__" "CanonicalAutomaton.__init__" ai,
 wr (mem 2 0) "__init__" "ToolError.__init__" (ah [.none]),
 wr (mem 2 1) "told" "ToolError.told" ai],
 bv 33 aj,ah (yE.map .str),ah (M0.map .str),.int 0)
noncomputable def hk:Hook where
 α:=F_
 obs s:=vQ (C1 s.heap)
 val _:=l0
 says _ h:=∃K:gb,K.In h/\vQ K=l0
 of _ s e:=⟨C1 s.heap,C2 _ _,e⟩
 keeps _ _ _ h k:=let ⟨K,a,b⟩:=h;⟨K,a.keeps k,b⟩
noncomputable def yN:List Obj->BT->Nat->Option (BT×Nat)
 |[],t,n=>ah (t,n)
 |o::l,t,n=>match ((t.ins n o).get n).isSome with
  |true=>yN l (t.ins n o) (n+1)
  |false=>ai
theorem CT{a:Life}{l:List Obj}:∀{t c:BT} {n b:Nat},yN l t n=ah (c,b)->(A9 c b a).objs.toList=(A9 t n a).objs.toList++l:=by
 induction l with
 |nil=>intro t c n b h;cases h;exact (cJ _).symm
 |cons o l d=>
  intro t c n b h;dsimp only[yN]at h;cases g:((t.ins n o).get n).isSome with
  |false=>rw[g]at h;cases h
  |true=>rw[g]at h;rw[d h,absHeap_ins g];show ((A9 t n a).objs.push o).toList++l=_;rw[A2,bW];rfl
noncomputable def E4(p:kt)(w:uY)(VS:Nat)(ann:Option Value):Nat->Jo->Thread->Option Jo
 |0,_,_=>ai
 |n+1,s,t=>match through t with
  |true=>ah s
  |false=>match stepOk VS ann t with
   |false=>ai
   |true=>match stepT (denote AP) p w s t with
    |some (s',t')=>E4 p w VS ann n s' t'
    |none=>ai
theorem E3{p:kt}{w:uY}{a:Nat}{b:Option Value}{n:Nat}:∀{s s':Jo} {t:Thread},E4 p w a b n s t=ah s'->topRun AP p w a b n s.abs t=ah s'.abs:=by
 induction n with
 |zero=>intro s s' t h;cases h
 |succ n e=>
  intro s s' t h;dsimp only[E4]at h;dsimp only[topRun];cases d:through t with
  |true=>rw[d]at h;cases h;rfl
  |false=>
   rw[d]at h;cases hk:stepOk a b t with
   |false=>rw[hk]at h;cases h
   |true=>
    rw[hk]at h;cases c:stepT (denote AP) p w s t with
    |none=>rw[c]at h;cases h
    |some r=>cases r;rw[c]at h;rw[stepT_spec c];exact e h
noncomputable def Ol(p:kt)(w:uY)(N:Nat):Option (aQ×aQ):=(fencedOpening AP p w N).bind λ s=>(yN s.heap.objs.toList .nil 0).bind λ r=>(E4 p w s.heap.objs.size (s.heap.nsMap b8 "__annotations__") N ⟨r.1,r.2,s.heap.life,s.gens,s.drawn,s.toks,s.os⟩ (topStub p)).map λ t=>(s,t.abs)
theorem Fx{p q:kt}{loose:List Str}{Xt:aQ->Bool}{α:Type}{Yf:aQ->α}{Ya:uY->α}{N:Nat}
 (h:∀w,(Ol p w N).map (λ r=>(((r.1.heap.isNs b8&&r.1.gens.size==0),(staticsOk (importedModules p.main.body) r.1.heap r.2.heap&&namesBound p r.2.heap&&gensDone r.2&&laidKept r.1.heap r.2.heap)),openSeen q loose (importedModules p.main.body) Xt aj r.2,Yf r.2))=ah ((aj,aj),openGood q loose,Ya w)):
 LeftO p q loose Xt Yf Ya N:=λ w=>by
 obtain ⟨r,c,e⟩:=bM.mp (h w);obtain ⟨s,l,c⟩:=dg.mp c;obtain ⟨b,j,c⟩:=dg.mp c;obtain ⟨t,i,c⟩:=bM.mp c;subst c;obtain ⟨d,g⟩:=Prod.mk.inj e;obtain ⟨d,f⟩:=Prod.mk.inj d;have k:=E3 i;have a:(⟨b.1,b.2,s.heap.life,s.gens,s.drawn,s.toks,s.os⟩:Jo).abs=s:=by show (⟨⟨(A9 b.1 b.2 s.heap.life).objs,s.heap.life⟩,s.gens,s.drawn,s.toks,s.os⟩:aQ)=s;rw[show (A9 b.1 b.2 s.heap.life).objs=s.heap.objs from DX.mp (CT j)]
 rw[a]at k;unfold openEnds;rw[l,pK];unfold topFrom;rw[d];dsimp only;rw[k,pK];dsimp only at f;rw[f];exact congrArg ah g
theorem Qv:LeftO PySem.Challenge.pw_nn0366_01 q1 xF (λ s=>xlAt q1 [] s&&recOk (RowW.records PySem.Challenge.rw_nn0366_01.row.toRowW) s) (Hook.obs hk) (Hook.val hk) 6000:=by refine Fx λ w=>?_;kernel_rfl
theorem Qq:PySem.Challenge.rw_nn0366_01.wellSaid=aj:=by kernel_rfl
namespace R0
inductive Tm where
 |V (i:Nat)|K (i:Nat)|A (s t:Tm)|S (s t:Tm)|M (i:Nat) (t:Tm)|I (s t:Tm)|X (s t:Tm)|N (t:Tm) (i:Nat)
noncomputable abbrev Li:=Int×List Int
noncomputable def dot:List Int->List Nat->Int
 |[],_=>0
 |x::l,c=>x*(c.headD 0:Nat)+dot l c.tail
noncomputable def Li.ev(c:List Nat)(q:Li):Int:=q.1+dot q.2 c
noncomputable def UO:List Int->List Int->List Int
 |[],l=>l
 |x::l,[]=>x::l
 |x::l,y::r=>(x+y)::UO l r
noncomputable def mulL(n:Int):List Int->List Int
 |[]=>[]
 |x::l=>n*x::mulL n l
noncomputable def comb(n:Int)(p:Li)(m:Int)(q:Li):Li:=(n*p.1+m*q.1,UO (mulL n p.2) (mulL m q.2))
noncomputable def one:Nat->List Int
 |0=>[1]
 |i+1=>0::one i
theorem Vt(a b c d:Int):a+b+(c+d)=a+c+(b+d):=by rw[wQ,wQ,Ec b]
theorem UM(x y:List Int)(c:List Nat):dot (UO x y) c=dot x c+dot y c:=by
 induction x generalizing y c with
 |nil=>exact (jE _).symm
 |cons a x d=>cases y with
  |nil=>exact (gM _).symm
  |cons b y=>exact (congrArg (_+·) (d y c.tail)).trans ((congrArg (·+_) (Int.add_mul ..)).trans (Vt ..))
theorem Tz(n:Int)(x:List Int)(c:List Nat):dot (mulL n x) c=n*dot x c:=by
 induction x generalizing c with
 |nil=>exact (Int.mul_zero _).symm
 |cons a x b=>show n*a*_+dot (mulL n x) c.tail=n*(a*_+dot x c.tail);rw[b,nD,Int.mul_assoc]
theorem Sa(c:List Nat)(n:Int)(p:Li)(m:Int)(q:Li):(comb n p m q).ev c=n*p.ev c+m*q.ev c:=by show n*p.1+m*q.1+dot (UO _ _) c=n*(p.1+dot p.2 c)+m*(q.1+dot q.2 c);rw[UM,Tz,Tz,nD,nD];exact Vt ..
theorem UL(i:Nat)(c:List Nat):dot (one i) c=(c.getD i 0:Nat):=by
 induction i generalizing c with
 |zero=>cases c with
  |nil=>rfl
  |cons a c=>exact (gM _).trans (ii _)
 |succ i b=>exact ((congrArg (·+_) (p6 _)).trans (jE _)).trans ((b _).trans (by cases c<;>rfl))
noncomputable def Tm.ev(c:List Nat):Tm->Nat
 |.V i=>c.getD i 0
 |.K i=>i
 |.A s t=>s.ev c+t.ev c
 |.S s t=>s.ev c-t.ev c
 |.M i t=>i*t.ev c
 |.I s t=>min (s.ev c) (t.ev c)
 |.X s t=>max (s.ev c) (t.ev c)
 |.N t i=>t.ev c*i
noncomputable def Ls(c:List Nat)(cs:List Li):Prop:=∀q∈cs,0<=q.ev c
theorem Ls.cons{c:List Nat}{q:Li}{b:List Li}(h:Ls c b)(a:0<=q.ev c):Ls c (q::b):=λ r d=>(aI.mp d).elim (λ e=>e▸a) (h r)
noncomputable def Tc(l m:Li):Li:=comb 1 m (-1) l
theorem Ue(c:List Nat)(l m:Li):(Tc l m).ev c=m.ev c-l.ev c:=(Sa ..).trans (by rw[ii,AM,ii];rfl)
theorem Sj{c:List Nat}{l m:Li}{a b:Nat}(e:l.ev c=a)(d:m.ev c=b)(h:a<=b):0<=(Tc l m).ev c:=by rw[Ue,e,d];exact Int.sub_nonneg_of_le (jF.mpr h)
noncomputable def Tm.go:Tm->(Li->List Li->Bool)->List Li->Bool
 |.V i,r,cs=>r (0,one i) cs
 |.K i,r,cs=>r (i,[]) cs
 |.A s t,r,cs=>s.go (λ l cs=>t.go (λ m cs=>r (comb 1 l 1 m) cs) cs) cs
 |.S s t,r,cs=>s.go (λ l cs=>t.go (λ m cs=>r (Tc m l) (Tc m l::cs)&&r (0,[]) (Tc l m::cs)) cs) cs
 |.M i t,r,cs=>t.go (λ l cs=>r (comb i l 0 l) cs) cs
 |.N t i,r,cs=>t.go (λ l cs=>r (comb i l 0 l) cs) cs
 |.I s t,r,cs=>s.go (λ l cs=>t.go (λ m cs=>r l (Tc l m::cs)&&r m (Tc m l::cs)) cs) cs
 |.X s t,r,cs=>s.go (λ l cs=>t.go (λ m cs=>r m (Tc l m::cs)&&r l (Tc m l::cs)) cs) cs
noncomputable def Ok(c:List Nat)(k:Li->List Li->Bool)(n:Nat):Prop:=∀l cs,Ls c cs->l.ev c=(n:Int)->k l cs=aj->False
theorem both{c:List Nat}{k:Li->List Li->Bool}{n a b:Nat}{l m x y:Li}{d:List Li}(ok:Ok c k n)(h:(k x (Tc l m::d)&&k y (Tc m l::d))=aj)(q:Ls c d)(e:l.ev c=a)(f:m.ev c=b)
 (j:a<=b->x.ev c=(n:Int)) (g:b<=a->y.ev c=(n:Int)):False:=
 have h:=dk.mp h;(yb a b).elim (λ i=>ok _ _ (q.cons (Sj e f i)) (j i) h.1) λ i=>ok _ _ (q.cons (Sj f e i)) (g i) h.2
theorem Tm.Tu{c:List Nat}(t:Tm):∀{k:Li->List Li->Bool} {d:List Li},t.go k d=aj->Ls c d->Ok c k (t.ev c)->False:=by
 induction t with
 |V i=>exact λ h a b=>b (0,one i) _ a ((jE _).trans (UL i c)) h
 |K n=>exact λ h a b=>b (n,[]) _ a (gM _) h
 |A s t j f=>exact λ h a b=>j h a λ l d a e h=>f h a λ m d a g h=>b (comb 1 l 1 m) _ a (by rw[Sa,e,g,ii,ii];rfl) h
 |M n t f=>exact λ h a b=>f h a λ l d a e h=>b (comb n l 0 l) _ a (by rw[Sa,e,p6,gM];rfl) h
 |N t n f=>exact λ h a b=>f h a λ l d a e h=>b (comb n l 0 l) _ a (by rw[Sa,e,p6,gM,Int.mul_comm];rfl) h
 |S s t j f=>exact λ h a b=>j h a λ l d a e h=>f h a λ m d a g h=>both b h a g e (λ q=>(Ue ..).trans (by rw[e,g];exact (Int.ofNat_sub q).symm)) λ q=>congrArg pZ (Nat.sub_eq_zero_of_le q).symm
 |I s t j f=>exact λ h a b=>j h a λ l d a e h=>f h a λ m d a g h=>both b h a e g (λ q=>e.trans (congrArg pZ (jx q).symm)) λ q=>g.trans (congrArg pZ (r7 q).symm)
 |X s t j f=>exact λ h a b=>j h a λ l d a e h=>f h a λ m d a g h=>both b h a e g (λ q=>g.trans (congrArg pZ (Nat.max_eq_right q).symm)) λ q=>e.trans (congrArg pZ (Nat.max_eq_left q).symm)
noncomputable def tl(q:Li):Li:=(q.1,q.2.tail)
noncomputable def hd(q:Li):Int:=q.2.headD 0
noncomputable def elim(cs:List Li):List Li:=
 (cs.filter λ q=>decide (hd q<=0)).map tl++(cs.filter λ q=>decide (0<hd q)).flatMap λ p=>(cs.filter λ q=>decide (hd q<0)).map λ q=>comb (-hd q) (tl p) (hd p) (tl q)
theorem Uc(c:List Nat)(q:Li):q.ev c=hd q*(c.headD 0:Nat)+(tl q).ev c.tail:=by
 obtain ⟨k,l⟩:=q;cases l with
 |nil=>exact (show 0*((c.headD 0:Nat):Int)+(k+0)=k+0 by rw[p6,jE]).symm
 |cons a l=>exact Ec ..
theorem Ls.elim{c:List Nat}{g:List Li}(h:Ls c g):Ls c.tail (elim g):=λ q e=>by
 rcases aM.mp e with e|e
 ·obtain ⟨p,d,rfl⟩:=aC.mp e;have d:=b4.mp d;have a:=h p d.1;rw[Uc]at a;have b:=Int.add_nonneg (uW (wP (of_decide_eq_true d.2)) (bs (c.headD 0))) a;rw[AM,Int.neg_add_cancel_left]at b;exact b
 ·obtain ⟨p,d,e⟩:=bX.mp e;obtain ⟨q,f,rfl⟩:=aC.mp e;have d:=b4.mp d;have f:=b4.mp f;have a:=Int.add_nonneg (uW (wP (p7 (of_decide_eq_true f.2))) (h p d.1)) (uW (p7 (of_decide_eq_true d.2)) (h q f.1));rw[Uc,Uc c q,nD,nD,Vt,AM,Int.mul_left_comm (hd p),Int.add_left_neg,jE]at a;rw[Sa];exact a
noncomputable def bad(q:Li):Bool:=decide (q.1<0)&&q.2.all λ x=>decide (x<=0)
theorem Tj(l:List Int)(c:List Nat)(h:(l.all λ x=>decide (x<=0))=aj):dot l c<=0:=by
 induction l generalizing c with
 |nil=>exact Int.le_refl _
 |cons a l b=>have h:=dk.mp (show (decide (a<=0)&&l.all _)=aj from h);exact Int.add_nonpos (Int.mul_nonpos_of_nonpos_of_nonneg (of_decide_eq_true h.1) (bs _)) (b c.tail h.2)
noncomputable def unsat:Nat->List Li->Bool
 |0,cs=>cs.any bad
 |n+1,cs=>cs.any bad||unsat n (elim cs)
theorem Uj{c:List Nat}{b:List Li}(h:b.any bad=aj)(a:Ls c b):False:=by obtain ⟨q,d,e⟩:=dM.mp h;have e:=dk.mp e;exact i8.mpr (a q d) (Int.add_neg_of_neg_of_nonpos (of_decide_eq_true e.1) (Tj _ c e.2))
theorem TO(n:Nat):∀{c:List Nat} {b:List Li},unsat n b=aj->Ls c b->False:=by
 induction n with
 |zero=>exact Uj
 |succ n d=>exact λ h a=>(Bool.or_eq_true_iff.mp h).elim (λ h=>Uj h a) λ h=>d h a.elim
inductive Fc where
 |L (s t:Tm)|T (s t:Tm)|E (s t:Tm)|D (s t:Tm)|G (s t:Tm)|H (s t:Tm)
noncomputable def Fc.den(c:List Nat):Fc->Prop
 |.L s t=>s.ev c<=t.ev c
 |.T s t=>s.ev c<t.ev c
 |.E s t=>s.ev c=t.ev c
 |.D s t=>¬s.ev c=t.ev c
 |.G s t=>¬s.ev c<t.ev c
 |.H s t=>¬s.ev c<=t.ev c
noncomputable def Ug(l m:Li):Li:=Tc (comb 1 l 1 (1,[])) m
noncomputable def go2(s t:Tm)(r:Li->Li->List Li->Bool)(cs:List Li):Bool:=s.go (λ l cs=>t.go (λ m cs=>r l m cs) cs) cs
theorem SF{c:List Nat}{l m:Li}{a b:Nat}(e:l.ev c=a)(d:m.ev c=b)(h:a<b):0<=(Ug l m).ev c:=Sj (a:=a+1) ((Sa ..).trans (by rw[e,ii,ii];rfl)) d h
theorem Sw{c:List Nat}{s t:Tm}{r:Li->Li->List Li->Bool}{d:List Li}(h:go2 s t r d=aj)(a:Ls c d)
 (b:∀l m d,Ls c d->l.ev c=((s.ev c:Nat):Int)->m.ev c=((t.ev c:Nat):Int)->r l m d=aj->False):False:=
 s.Tu h a λ l Z a e h=>t.Tu h a λ m d a f h=>b l m d a e f h
noncomputable def Fc.go:Fc->(List Li->Bool)->List Li->Bool
 |.L s t,r,cs=>go2 s t (λ l m cs=>r (Tc l m::cs)) cs
 |.T s t,r,cs=>go2 s t (λ l m cs=>r (Ug l m::cs)) cs
 |.E s t,r,cs=>go2 s t (λ l m cs=>r (Tc l m::Tc m l::cs)) cs
 |.D s t,r,cs=>go2 s t (λ l m cs=>r (Ug l m::cs)&&r (Ug m l::cs)) cs
 |.G s t,r,cs=>go2 s t (λ l m cs=>r (Tc m l::cs)) cs
 |.H s t,r,cs=>go2 s t (λ l m cs=>r (Ug m l::cs)) cs
theorem Fc.Tu{c:List Nat}(f:Fc){k:List Li->Bool}{i:List Li}(h:f.go k i=aj)(a:Ls c i)(d:f.den c)(b:∀i,Ls c i->k i=aj->False):False:=by
 cases f with
 |L s t=>exact Sw h a λ l m i a e g h=>b _ (a.cons (Sj e g d)) h
 |T s t=>exact Sw h a λ l m i a e g h=>b _ (a.cons (SF e g d)) h
 |E s t=>exact Sw h a λ l m i a e g h=>b _ ((a.cons (Sj g e (cu (bA d)))).cons (Sj e g (cu d))) h
 |D s t=>exact Sw h a λ l m i a e g h=>(dk.mp h).elim λ n j=>(Nat.lt_or_gt_of_ne d).elim (λ d=>b _ (a.cons (SF e g d)) n) λ d=>b _ (a.cons (SF g e d)) j
 |G s t=>exact Sw h a λ l m i a e g h=>b _ (a.cons (Sj g e (e6 d))) h
 |H s t=>exact Sw h a λ l m i a e g h=>b _ (a.cons (SF g e (eg d))) h
noncomputable def Fc.neg:Fc->Fc
 |.L s t=>.H s t
 |.T s t=>.G s t
 |.E s t=>.D s t
 |.D s t=>.E s t
 |.G s t=>.T s t
 |.H s t=>.L s t
theorem Fc.neg_den{c:List Nat}{f:Fc}(h:¬f.den c):f.neg.den c:=by
 cases f with
 |L s t=>exact h
 |T s t=>exact h
 |E s t=>exact h
 |D s t=>exact Classical.byContradiction h
 |G s t=>exact Classical.byContradiction h
 |H s t=>exact Classical.byContradiction h
noncomputable def WS:List Fc->Nat->List Li->Bool
 |[],n,cs=>unsat n cs
 |f::fs,n,cs=>f.go (WS fs n) cs
noncomputable def imp(c:List Nat)(P:Prop):List Fc->Prop
 |[]=>P
 |f::fs=>f.den c->imp c P fs
theorem Uh{c:List Nat}{n:Nat}:∀(fs:List Fc) {b:List Li},WS fs n b=aj->Ls c b->imp c False fs:=by
 intro fs;induction fs with
 |nil=>exact TO n
 |cons f fs e=>exact λ h a d=>Classical.byContradiction λ g=>f.Tu h a d λ b a h=>g (e h a)
theorem Vf{c:List Nat}{P:Prop}{fs:List Fc}(h:¬P->imp c False fs):imp c P fs:=by
 induction fs with
 |nil=>exact Classical.byContradiction h
 |cons f fs a=>exact λ d=>a λ n=>h n d
theorem rl0(c:List Nat)(fs:List Fc)(h:WS fs c.length []=aj):imp c False fs:=Uh fs h λ q a=>nomatch a
theorem rl(c:List Nat)(g:Fc)(fs:List Fc)(h:WS (g.neg::fs) c.length []=aj):imp c (g.den c) fs:=
 Vf λ n=>(Uh (c:=c) (g.neg::fs) h λ q a=>nomatch a) (Fc.neg_den n)
end R0
open R0 (rl rl0)
variable{p3 p2 Vw p5 p1 p0:Prop}{ka kb kvs:List (V×V)}{M:Model}{a tc tk c mj k d b i j N k' d' ep m':Nat}{o:Obj}{vs xs RI ys:List V}{TP py pos np pos':gY}{pn ls acc:List Str}{iter e elt slice value target test:Expr}{I CG C ae CS CR fI CA:aG}{Sm Td Vx RP Rz:Sort _}{us ws:List Value}{whole:Sem Value}{ms RY:List (Nat×Nat)}{fd:List Bool}{A:Around}{lk rs q:List Nat}{args elts ifs:List Expr}{B attr Yy x name qual ahead t:Str}{os:OsState}{nL:V}{E Ex ExB:Value->aQ->Prop}{prog:kt}{es:List bN}{fs:List (Str×V)}{β α:Type}{ku u:Value}{op:CmpOp}{s s':aQ}{p':Array Nat}{L:List (aG×List Nat)}{body:List Stmt}{h' H:Heap}{expr:Bool}{w:uY}{scope sc:iH}{env:Env}{Jj:List (aG×Obj)}{p4:Rz->Prop}{l:List α}
noncomputable def a_:R0.Tm:=.V 0
noncomputable def bp:R0.Tm:=.V 1
noncomputable def cw:R0.Tm:=.V 2
noncomputable def f3:R0.Tm:=.V 3
noncomputable def vg:R0.Tm:=.V 4
noncomputable def Qm:R0.Tm:=.V 5
theorem Rc{m:Nat}(i:2*m<=a+b)(f:a+b<2*(m+1))(e:a<b)(d:b-a<=c+1):a<=m/\m<b/\m-a<=c/\b-(m+1)<=c:=
 have t:=λ g h=>rl [a,b,c,m] g [.L (.M 2 f3) (.A a_ bp),.T (.A a_ bp) (.M 2 (.A f3 (.K 1))),.T a_ bp,.L (.S bp a_) (.A cw (.K 1))] h i f e d
 ⟨t (.L a_ f3) rfl,t (.T f3 bp) rfl,t (.L (.S f3 a_) cw) rfl,t (.L (.S bp (.A f3 (.K 1))) cw) rfl⟩
theorem QR:b<=a->a-(a-b)=b:=rl [a,b] (.E (.S a_ (.S a_ bp)) bp) [.L bp a_] rfl
theorem QQ:a<=b->a=b-(b-a):=rl [a,b] (.E a_ (.S bp (.S bp a_))) [.L a_ bp] rfl
theorem QP(b:(a:Int)<=63):a<=63:=jF.mp b
theorem QO:2<=a->1<=a:=rl [a] (.L (.K 1) a_) [.L (.K 2) a_] rfl
theorem QN:2<=b->a+1=b->1<=a:=rl [a,b] (.L (.K 1) a_) [.L (.K 2) bp,.E (.A a_ (.K 1)) bp] rfl
theorem QM:a<=3->b<=4*c->a+1+b<=4*(c+1):=rl [a,b,c] (.L (.A (.A a_ (.K 1)) bp) (.M 4 (.A cw (.K 1)))) [.L a_ (.K 3),.L bp (.M 4 cw)] rfl
theorem QL:0<b->2*b<=a+1->0<a:=rl [a,b] (.T (.K 0) a_) [.T (.K 0) bp,.L (.M 2 bp) (.A a_ (.K 1))] rfl
theorem QK:a+1<=a+(b+1):=rl [a,b] (.L (.A a_ (.K 1)) (.A a_ (.A bp (.K 1)))) [] rfl
theorem QJ:a<2->1+a<=2:=rl [a] (.L (.A (.K 1) a_) (.K 2)) [.T a_ (.K 2)] rfl
theorem PD:2<=1+a+1:=rl [a] (.L (.K 2) (.A (.A (.K 1) a_) (.K 1))) [] rfl
theorem MU:a<2->1+a+1<=3:=rl [a] (.L (.A (.A (.K 1) a_) (.K 1)) (.K 3)) [.T a_ (.K 2)] rfl
theorem PC:2<=a->2<=b->4<=a+b:=rl [a,b] (.L (.K 4) (.A a_ bp)) [.L (.K 2) a_,.L (.K 2) bp] rfl
theorem PB:a<=3->b<=3->a+b<=6:=rl [a,b] (.L (.A a_ bp) (.K 6)) [.L a_ (.K 3),.L bp (.K 3)] rfl
theorem PA:a<=1->7+a<=8:=rl [a] (.L (.A (.K 7) a_) (.K 8)) [.L a_ (.K 1)] rfl
theorem Pz:6<=7+a+1:=rl [a] (.L (.K 6) (.A (.A (.K 7) a_) (.K 1))) [] rfl
theorem Py:a<b+c->b=7->¬a<7->a-b<c:=rl [a,b,c] (.T (.S a_ bp) cw) [.T a_ (.A bp cw),.E bp (.K 7),.G a_ (.K 7)] rfl
theorem Px:a+c<=b+d->d<=c->a<=b:=rl [a,b,c,d] (.L a_ bp) [.L (.A a_ cw) (.A bp f3),.L f3 cw] rfl
theorem Pw:c+a<=d+b->d<=c->a<=b:=rl [a,b,c,d] (.L a_ bp) [.L (.A cw a_) (.A f3 bp),.L f3 cw] rfl
theorem Pv:2*a<=b->b+1<=c->c<=a+a->False:=rl0 [a,b,c] [.L (.M 2 a_) bp,.L (.A bp (.K 1)) cw,.L cw (.A a_ a_)] rfl
theorem Pu:a<=b->a+(b-a)=b:=rl [a,b] (.E (.A a_ (.S bp a_)) bp) [.L a_ bp] rfl
theorem Ps(b:(a:Int)<0):False:=absurd b (i8.mpr (bs a))
theorem Pp:b<=a->d=a-b->d<=c->¬d<c->a=b+c:=rl [a,b,c,d] (.E a_ (.A bp cw)) [.L bp a_,.E f3 (.S a_ bp),.L f3 cw,.G f3 cw] rfl
theorem Po:a<=6->(a+1)*2<=15:=rl [a] (.L (.N (.A a_ (.K 1)) 2) (.K 15)) [.L a_ (.K 6)] rfl
theorem Pn:a+40*c+100<b->a+40<b:=rl [a,b,c] (.T (.A a_ (.K 40)) bp) [.T (.A (.A a_ (.M 40 cw)) (.K 100)) bp] rfl
theorem K1:a+40*c+100<b->a+1+8<b:=rl [a,b,c] (.T (.A (.A a_ (.K 1)) (.K 8)) bp) [.T (.A (.A a_ (.M 40 cw)) (.K 100)) bp] rfl
theorem Pk(b:a<=2^20):(a:Int)<2^63:=cY.mpr (aR (m:=2^20) b (by decide:2^20<9223372036854775808))
theorem Pj(b:a<=2^20):¬1*a>(2^63-1)/8:=by rw[Nat.one_mul];exact bT.mpr (aA b (by decide))
theorem Pi: -((a+1:Nat):Int)<= -1:=Int.neg_le_neg (jF.mpr (ee (bg a)))
theorem Pg:ey (-1+((a+1:Nat):Int))=a:=by rw[Int.natCast_succ,Int.add_comm,Int.add_neg_cancel_right];rfl
theorem Pf:a+40*c+100<b->a+1+40<b:=rl [a,b,c] (.T (.A (.A a_ (.K 1)) (.K 40)) bp) [.T (.A (.A a_ (.M 40 cw)) (.K 100)) bp] rfl
theorem Pe:ey (max 0 (min (a:Int) (b:Int)))=min a b:=(congrArg ey (Int.max_eq_right (Int.le_min.mpr ⟨bs a,bs b⟩))).trans ((yb a b).elim (λ h=>(congrArg ey (Int.min_eq_left (jF.mpr h))).trans (jx h).symm) λ h=>(congrArg ey (Int.min_eq_right (jF.mpr h))).trans (r7 h).symm)
theorem Pd:min (min a b) b=min a b:=rl [a,b] (.E (.I (.I a_ bp) bp) (.I a_ bp)) [] rfl
theorem Pc{a b:Int}(c:b<a):a-b-1+1=((ey (a-b):Nat):Int):=(Int.sub_add_cancel _ _).trans (gW (p7 (Eb c))).symm
theorem Pb{a b:Int}(c:¬b<a):0=((ey (a-b):Nat):Int):=(congrArg pZ (Int.toNat_of_nonpos (Int.sub_nonpos_of_le (i8.mp c)))).symm
theorem Pa{a:Int}(c: -10000000<a)(b:a<10000000): -(2^63)<=a/\a<2^63:=⟨p7 (f4 (by decide) c),f4 b (by decide)⟩
theorem O_{a b:Int}(c: -1000000<a/\a<1000000/\ -1000000<b/\b<1000000): -10000000<a:=f4 (by decide) c.1
theorem O9{a b:Int}(c: -1000000<a/\a<1000000/\ -1000000<b/\b<1000000):a<10000000:=f4 c.2.1 (by decide)
theorem O8{a b:Int}(c: -1000000<b/\b<1000000/\ -1000000<a/\a<1000000): -10000000<a:=f4 (by decide) c.2.2.1
theorem O7{a b:Int}(c: -1000000<b/\b<1000000/\ -1000000<a/\a<1000000):a<10000000:=f4 c.2.2.2 (by decide)
theorem O6{a b:Int}(c: -1000000<b/\b<1000000/\ -1000000<a/\a<1000000):((ey (a-b):Nat):Int)<10000000:=(Int.ofNat_toNat _).symm▸Int.max_lt.mpr ⟨f4 (Int.sub_lt_sub c.2.2.2 c.1) (by decide),by decide⟩
theorem O5{a b:Int}(c: -1000000<b/\b<1000000/\ -1000000<a/\a<1000000): -10000000<a+(1-1):=(gM a).symm▸f4 (by decide) c.2.2.1
theorem O4{a b:Int}(c: -1000000<b/\b<1000000/\ -1000000<a/\a<1000000):a+(1-1)<10000000:=(gM a).symm▸f4 c.2.2.2 (by decide)
theorem O3{a b:Int}(d:c<ey (a-b)):0<((ey (a-b):Nat):Int)-(c:Int):=Eb (cY.mpr d)
theorem O2{a b:Int}:((ey (a-b):Nat):Int)-((ey (a-b):Nat):Int)<=0:=Int.le_of_eq (Int.sub_self _)
theorem O1:a<=b->b<c->c<=1->a=b:=rl [a,b,c] (.E a_ bp) [.L a_ bp,.T bp cw,.L cw (.K 1)] rfl
theorem Il:a+(c+1)=b->a<b:=rl [a,b,c] (.T a_ bp) [.E (.A a_ (.A cw (.K 1))) bp] rfl
theorem J0:a+(b+1)=c->a+1+b=c:=rl [a,b,c] (.E (.A (.A a_ (.K 1)) bp) cw) [.E (.A a_ (.A bp (.K 1))) cw] rfl
theorem O0(d:a<=c/\c<b):a<=a+b-1-c:=rl [a,b,c] (.L a_ (.S (.S (.A a_ bp) (.K 1)) cw)) [.L a_ cw,.T cw bp] rfl d.1 d.2
theorem OZ(d:a<=c/\c<b):a+b-1-c<b:=rl [a,b,c] (.T (.S (.S (.A a_ bp) (.K 1)) cw) bp) [.L a_ cw,.T cw bp] rfl d.1 d.2
theorem JZ:a-(b+1)<=c->a-1-b<=c:=rl [a,b,c] (.L (.S (.S a_ (.K 1)) bp) cw) [.L (.S a_ (.A bp (.K 1))) cw] rfl
theorem OY:a+1-1-(b+1)<=c->a-1-b<=c:=rl [a,b,c] (.L (.S (.S a_ (.K 1)) bp) cw) [.L (.S (.S (.A a_ (.K 1)) (.K 1)) (.A bp (.K 1))) cw] rfl
theorem OX:c<=b->0+a-1-b<=0+a-1-c:=rl [a,b,c] (.L (.S (.S (.A (.K 0) a_) (.K 1)) bp) (.S (.S (.A (.K 0) a_) (.K 1)) cw)) [.L cw bp] rfl
theorem OW:c<a->0+a-1-b<a:=rl [a,b,c] (.T (.S (.S (.A (.K 0) a_) (.K 1)) bp) a_) [.T cw a_] rfl
theorem OV:a<=b->b<1->a=b:=rl [a,b] (.E a_ bp) [.L a_ bp,.T bp (.K 1)] rfl
theorem OU(e:a<b)(d:b-a<=c+1):a<=(a+b)/2/\(a+b)/2<b/\(a+b)/2-a<=c/\b-((a+b)/2+1)<=c:=Rc (Nat.mul_div_le _ _) (Nat.lt_mul_div_succ (a+b) (by decide)) e d
theorem OT:1<=a->max a 1=a:=rl [a] (.E (.X a_ (.K 1)) a_) [.L (.K 1) a_] rfl
theorem JY:a=b->b<64->a<=16777216:=rl [a,b] (.L a_ (.K 16777216)) [.E a_ bp,.T bp (.K 64)] rfl
theorem OS:a=b->b<64->a<64:=rl [a,b] (.T a_ (.K 64)) [.E a_ bp,.T bp (.K 64)] rfl
theorem OR:a=b->b<=2^20->a<=16777216:=rl [a,b] (.L a_ (.K 16777216)) [.E a_ bp,.L bp (.K 1048576)] rfl
theorem OQ:a+80<b->a+1+60<b:=rl [a,b] (.T (.A (.A a_ (.K 1)) (.K 60)) bp) [.T (.A a_ (.K 80)) bp] rfl
theorem OP:a+40*c+100<b->a+80<b:=rl [a,b,c] (.T (.A a_ (.K 80)) bp) [.T (.A (.A a_ (.M 40 cw)) (.K 100)) bp] rfl
theorem OO:a+60<b->a+40<b:=rl [a,b] (.T (.A a_ (.K 40)) bp) [.T (.A a_ (.K 60)) bp] rfl
theorem ON:a+60<b->a+8<b:=rl [a,b] (.T (.A a_ (.K 8)) bp) [.T (.A a_ (.K 60)) bp] rfl
theorem OM:a+40*c+100<b->a+1+60<b:=rl [a,b,c] (.T (.A (.A a_ (.K 1)) (.K 60)) bp) [.T (.A (.A a_ (.M 40 cw)) (.K 100)) bp] rfl
theorem JX:a+40*c+100<b->a<b:=rl [a,b,c] (.T a_ bp) [.T (.A (.A a_ (.M 40 cw)) (.K 100)) bp] rfl
theorem JW:a+(b+1)<900->a+1+b<900:=rl [a,b] (.T (.A (.A a_ (.K 1)) bp) (.K 900)) [.T (.A a_ (.A bp (.K 1))) (.K 900)] rfl
theorem OL:a+40*(b+1)+100<c->a+1+40*b+100<c:=rl [a,b,c] (.T (.A (.A (.A a_ (.K 1)) (.M 40 bp)) (.K 100)) cw) [.T (.A (.A a_ (.M 40 (.A bp (.K 1)))) (.K 100)) cw] rfl
theorem OK:a+c<900->b<=c->a+b<900:=rl [a,b,c] (.T (.A a_ bp) (.K 900)) [.T (.A a_ cw) (.K 900),.L bp cw] rfl
theorem OJ:a+40*d+100<c->b<=d->a+40*b+100<c:=rl [a,b,c,d] (.T (.A (.A a_ (.M 40 bp)) (.K 100)) cw) [.T (.A (.A a_ (.M 40 f3)) (.K 100)) cw,.L bp f3] rfl
theorem OI:a+(b+1)<900->a<1000:=rl [a,b] (.T a_ (.K 1000)) [.T (.A a_ (.A bp (.K 1))) (.K 900)] rfl
theorem OH:a+40*(b+1)+100<c->a+3+40*b+100<c:=rl [a,b,c] (.T (.A (.A (.A a_ (.K 3)) (.M 40 bp)) (.K 100)) cw) [.T (.A (.A a_ (.M 40 (.A bp (.K 1)))) (.K 100)) cw] rfl
theorem JV:a+(b+1)<c->a+1+b<c:=rl [a,b,c] (.T (.A (.A a_ (.K 1)) bp) cw) [.T (.A a_ (.A bp (.K 1))) cw] rfl
theorem OG:a+(c+1)<b->a<b:=rl [a,b,c] (.T a_ bp) [.T (.A a_ (.A cw (.K 1))) bp] rfl
theorem OF:b+1<=a->a=a-1+1:=rl [a,b] (.E a_ (.A (.S a_ (.K 1)) (.K 1))) [.L (.A bp (.K 1)) a_] rfl
theorem BY:a+40<b->a+7<b:=rl [a,b] (.T (.A a_ (.K 7)) bp) [.T (.A a_ (.K 40)) bp] rfl
theorem OE:a*3≠1:=λ h=>by
 cases a with
 |zero=>cases h
 |succ a=>exact absurd h (fo (aH (by decide) (yc 3 (cr a))))
theorem OD:a*3≠2:=λ h=>by
 cases a with
 |zero=>cases h
 |succ a=>exact absurd h (fo (aH (by decide) (yc 3 (cr a))))
theorem kD:a+1<=a+1:=rl [a] (.L (.A a_ (.K 1)) (.A a_ (.K 1))) [] rfl
theorem ra:min a b<=a:=rl [a,b] (.L (.I a_ bp) a_) [] rfl
theorem OC(b:¬a=0):a/2<a:=sK (cy b) (by decide)
theorem OB:¬a=0->0<a:=rl [a] (.T (.K 0) a_) [.D a_ (.K 0)] rfl
theorem OA:a+b<2^20->a<2^20:=rl [a,b] (.T a_ (.K 1048576)) [.T (.A a_ bp) (.K 1048576)] rfl
theorem Oz(b:a%2=1):(a:Int)%2=1:=congrArg (λ x:Nat=>(x:Int)) b
theorem Oy(b:¬a%2=1):¬(a:Int)%2=1:=λ h=>b (dp.mp h)
theorem Ox:a<=b*1000->b<c->c<=100->a+1<=2^20:=rl [a,b,c] (.L (.A a_ (.K 1)) (.K 1048576)) [.L a_ (.N bp 1000),.T bp cw,.L cw (.K 100)] rfl
theorem Ow:a<=c*1000->b<=1000->c<d->d<=100->a+b<=2^20:=rl [a,b,c,d] (.L (.A a_ bp) (.K 1048576)) [.L a_ (.N cw 1000),.L bp (.K 1000),.T cw f3,.L f3 (.K 100)] rfl
theorem Ov:a<=c*1000->b<=1000->a+b<=(c+1)*1000:=rl [a,b,c] (.L (.A a_ bp) (.N (.A cw (.K 1)) 1000)) [.L a_ (.N cw 1000),.L bp (.K 1000)] rfl
theorem Ou:a<=b*1000->b<=100->a+1<=2^20:=rl [a,b] (.L (.A a_ (.K 1)) (.K 1048576)) [.L a_ (.N bp 1000),.L bp (.K 100)] rfl
theorem Ik(c:¬a=b):¬(a:Int)=(b:Int):=λ h=>c (dp.mp h)
theorem Ot:a<=b+1->a<=b+1:=rl [a,b] (.L a_ (.A bp (.K 1))) [.L a_ (.A bp (.K 1))] rfl
theorem Os:a<min b c->a<b:=rl [a,b,c] (.T a_ bp) [.T a_ (.I bp cw)] rfl
theorem Oq:a<=b->b<c->c<60->a<=2^20:=rl [a,b,c] (.L a_ (.K 1048576)) [.L a_ bp,.T bp cw,.T cw (.K 60)] rfl
theorem Ij:a<=b->b<60->a<64:=rl [a,b] (.T a_ (.K 64)) [.L a_ bp,.T bp (.K 60)] rfl
theorem Op:b<a->a-1-(a-1-b)<a:=rl [a,b] (.T (.S (.S a_ (.K 1)) (.S (.S a_ (.K 1)) bp)) a_) [.T bp a_] rfl
theorem B5:b<a->a-1-(a-1-b)=b:=rl [a,b] (.E (.S (.S a_ (.K 1)) (.S (.S a_ (.K 1)) bp)) bp) [.T bp a_] rfl
theorem MZ:a<b->b-1-a=c->a=b-1-c:=rl [a,b,c] (.E a_ (.S (.S bp (.K 1)) cw)) [.T a_ bp,.E (.S (.S bp (.K 1)) a_) cw] rfl
theorem G6:a<b->a<b:=rl [a,b] (.T a_ bp) [.T a_ bp] rfl
theorem MY:c<b->¬b-1-a=c->¬a=b-1-c:=rl [a,b,c] (.D a_ (.S (.S bp (.K 1)) cw)) [.T cw bp,.D (.S (.S bp (.K 1)) a_) cw] rfl
theorem G5:a<c->c=b->a<b:=rl [a,b,c] (.T a_ bp) [.T a_ cw,.E cw bp] rfl
theorem MX:a<=b->b<c->c<2^10->a<=2^20:=rl [a,b,c] (.L a_ (.K 1048576)) [.L a_ bp,.T bp cw,.T cw (.K 1024)] rfl
theorem G4:a<=b->b<2^10->a<2^62:=rl [a,b] (.T a_ (.K 4611686018427387904)) [.L a_ bp,.T bp (.K 1024)] rfl
theorem G3:b<2^10->min a b<=2^20:=rl [a,b] (.L (.I a_ bp) (.K 1048576)) [.T bp (.K 1024)] rfl
theorem MW:a<=c->b<2^10->c<2^10->a+(b+1)<2^20:=rl [a,b,c] (.T (.A a_ (.A bp (.K 1))) (.K 1048576)) [.L a_ cw,.T bp (.K 1024),.T cw (.K 1024)] rfl
theorem MV:1<=a->a+b=c->a-1+(b+1)=c:=rl [a,b,c] (.E (.A (.S a_ (.K 1)) (.A bp (.K 1))) cw) [.L (.K 1) a_,.E (.A a_ bp) cw] rfl
theorem MT:a+b+1=a+(b+1):=rl [a,b] (.E (.A (.A a_ bp) (.K 1)) (.A a_ (.A bp (.K 1)))) [] rfl
theorem MS:b<a->¬a<b:=rl [a,b] (.G a_ bp) [.T bp a_] rfl
theorem MQ(a:0<0):False:=rl0 [] [.T (.K 0) (.K 0)] rfl a
theorem MP:a+0=b->b=0->a=0:=rl [a,b] (.E a_ (.K 0)) [.E (.A a_ (.K 0)) bp,.E bp (.K 0)] rfl
theorem re:a<c->b=c->a<b:=rl [a,b,c] (.T a_ bp) [.T a_ cw,.E bp cw] rfl
theorem MN:a+c=d->d<=b->a<=b:=rl [a,b,c,d] (.L a_ bp) [.E (.A a_ cw) f3,.L f3 bp] rfl
theorem G2:a+1<=b->a<b:=rl [a,b] (.T a_ bp) [.L (.A a_ (.K 1)) bp] rfl
theorem MM:a<=c->b<=d->a+b<=c+(d+1):=rl [a,b,c,d] (.L (.A a_ bp) (.A cw (.A f3 (.K 1)))) [.L a_ cw,.L bp f3] rfl
theorem ML{e f:Nat}:a<=c->b<=min d e->c<=f->e<2^10->f<2^10->a+b<=2^20:=rl [a,b,c,d,e,f] (.L (.A a_ bp) (.K 1048576)) [.L a_ cw,.L bp (.I f3 vg),.L cw Qm,.T vg (.K 1024),.T Qm (.K 1024)] rfl
theorem G1:a<=b->b<2^10->a<=2^20:=rl [a,b] (.L a_ (.K 1048576)) [.L a_ bp,.T bp (.K 1024)] rfl
theorem MK:a<b->b<=c->c<2^10->a<2^62:=rl [a,b,c] (.T a_ (.K 4611686018427387904)) [.T a_ bp,.L bp cw,.T cw (.K 1024)] rfl
theorem MJ{e:Nat}:a+b=c->b+1<=d->c=e+d->1<=a:=rl [a,b,c,d,e] (.L (.K 1) a_) [.E (.A a_ bp) cw,.L (.A bp (.K 1)) f3,.E cw (.A vg f3)] rfl
theorem MI{e:Nat}:b+1<=c->d+b=e->d-1=0->e=a+c->a=0:=rl [a,b,c,d,e] (.E a_ (.K 0)) [.L (.A bp (.K 1)) cw,.E (.A f3 bp) vg,.E (.S f3 (.K 1)) (.K 0),.E vg (.A a_ cw)] rfl
theorem MH:a<b->a+1<=b:=rl [a,b] (.L (.A a_ (.K 1)) bp) [.T a_ bp] rfl
theorem yC:b<c->c<=a->a-(b+1)<a-b:=rl [a,b,c] (.T (.S a_ (.A bp (.K 1))) (.S a_ bp)) [.T bp cw,.L cw a_] rfl
theorem MG:a+c=d->d=b+c->a+0=b:=rl [a,b,c,d] (.E (.A a_ (.K 0)) bp) [.E (.A a_ cw) f3,.E f3 (.A bp cw)] rfl
theorem MF(c:b<=a):(a:Int)-(b:Int)=((a-b:Nat):Int):=(Int.ofNat_sub c).symm
theorem G0(b:0<a):(a:Int)≠0:=λ h=>absurd (dp.mp h) (fo b)
theorem GZ:(a:Int)=(b:Int)↔a=b:=dp
theorem ME:¬(a:Int)=(b:Int)↔¬a=b:=not_congr dp
theorem MD:b<c->c<=a->¬a=b:=rl [a,b,c] (.D a_ bp) [.T bp cw,.L cw a_] rfl
theorem MC:b<=a->d<b->a-b+c<a-d+c:=rl [a,b,c,d] (.T (.A (.S a_ bp) cw) (.A (.S a_ f3) cw)) [.L bp a_,.T f3 bp] rfl
theorem MB:c<d->a-b+c<a-b+d:=rl [a,b,c,d] (.T (.A (.S a_ bp) cw) (.A (.S a_ bp) f3)) [.T cw f3] rfl
theorem GY(b:a<1000000):(a:Int)<1000000:=cY.mpr b
theorem MA(b:a<=1000000):(a:Int)<=1000000:=jF.mpr b
theorem yB:a+1<=a+2:=rl [a] (.L (.A a_ (.K 1)) (.A a_ (.K 2))) [] rfl
theorem B4:a+1<=a+3:=rl [a] (.L (.A a_ (.K 1)) (.A a_ (.K 3))) [] rfl
theorem Mz:a<b->b<2^10->a<=1048576:=rl [a,b] (.L a_ (.K 1048576)) [.T a_ bp,.T bp (.K 1024)] rfl
theorem My:a<b->b<2^10->a<=1000000:=rl [a,b] (.L a_ (.K 1000000)) [.T a_ bp,.T bp (.K 1024)] rfl
theorem Mx:a<a+(b+1+c):=rl [a,b,c] (.T a_ (.A a_ (.A (.A bp (.K 1)) cw))) [] rfl
theorem Mw:a<b+(c+1)+d->a<b+(c+1+d):=rl [a,b,c,d] (.T a_ (.A bp (.A (.A cw (.K 1)) f3))) [.T a_ (.A (.A bp (.A cw (.K 1))) f3)] rfl
theorem Mv:a<0->False:=rl0 [a] [.T a_ (.K 0)] rfl
theorem Mt:a<=c->b<=d->a+b<=c+d:=rl [a,b,c,d] (.L (.A a_ bp) (.A cw f3)) [.L a_ cw,.L bp f3] rfl
theorem Ms:a<=c->b<d->a+b<c+d:=rl [a,b,c,d] (.T (.A a_ bp) (.A cw f3)) [.L a_ cw,.T bp f3] rfl
theorem yA:a<b+1->¬a=b->a<b:=rl [a,b] (.T a_ bp) [.T a_ (.A bp (.K 1)),.D a_ bp] rfl
theorem Mr:c<b+1->a+1-(b+1)<=a+1-c:=rl [a,b,c] (.L (.S (.A a_ (.K 1)) (.A bp (.K 1))) (.S (.A a_ (.K 1)) cw)) [.T cw (.A bp (.K 1))] rfl
theorem Mq:b<a->c<b+1->a+1-(b+1)<a+1-c:=rl [a,b,c] (.T (.S (.A a_ (.K 1)) (.A bp (.K 1))) (.S (.A a_ (.K 1)) cw)) [.T bp a_,.T cw (.A bp (.K 1))] rfl
theorem Mp:2*d+b<=c->a<d->2*a+(b+1)<=c:=rl [a,b,c,d] (.L (.A (.M 2 a_) (.A bp (.K 1))) cw) [.L (.A (.M 2 f3) bp) cw,.T a_ f3] rfl
theorem Mo:a<=b->b<60->a<=1000:=rl [a,b] (.L a_ (.K 1000)) [.L a_ bp,.T bp (.K 60)] rfl
theorem Mn:a<=b->b<60->a<=2^20:=rl [a,b] (.L a_ (.K 1048576)) [.L a_ bp,.T bp (.K 60)] rfl
theorem Mm:a<=c->b<=d->c<=59*1025->d<60->2*a+b<=200000:=rl [a,b,c,d] (.L (.A (.M 2 a_) bp) (.K 200000)) [.L a_ cw,.L bp f3,.L cw (.K 60475),.T f3 (.K 60)] rfl
theorem Ml{a:Int}(d:a<0)(c:a=(b:Int)):False:=absurd (c▸d) (i8.mpr (bs b))
theorem Mk{a:Int}(b:¬a<0):a=((ey a:Nat):Int):=(gW (i8.mp b)).symm
theorem GX(e:(c:Int)=(a:Int))(d:c<b):a<b:=dp.mp e▸d
theorem Mj{d:Int}(f:a<b)(e:b<=c)(h:d=(a:Int))(g:d=(c:Int)):False:=bB _ (aH (dp.mp (h.symm.trans g)▸f) e)
theorem yz:¬(a:Int)<0:=by omega
theorem Mi{c:Int}(e:c=(a:Int))(d:c=(b:Int)):a=b:=dp.mp (e.symm.trans d)
theorem GW:b<a->a+1-1-b=a-1-b+1:=rl [a,b] (.E (.S (.S (.A a_ (.K 1)) (.K 1)) bp) (.A (.S (.S a_ (.K 1)) bp) (.K 1))) [.T bp a_] rfl
theorem GV:b<a->c<a->¬b=c->¬a-1-b=a-1-c:=rl [a,b,c] (.D (.S (.S a_ (.K 1)) bp) (.S (.S a_ (.K 1)) cw)) [.T bp a_,.T cw a_,.D bp cw] rfl
theorem B3(c:¬b=a):¬(a:Int)=(b:Int):=λ h=>c (dp.mp h).symm
theorem GU(b: -1=(a:Int)):False:=by omega
theorem Mh{a:Int}(c:a<0):¬a=(b:Int):=by omega
theorem Mg{a:Int}(b:0<=a):a=((ey a:Nat):Int):=(gW b).symm
theorem GT:a<b->b<=c->c<60->a<=2^20:=rl [a,b,c] (.L a_ (.K 1048576)) [.T a_ bp,.L bp cw,.T cw (.K 60)] rfl
theorem GS:a<=b->a+(b-a+1)=b+1:=rl [a,b] (.E (.A a_ (.A (.S bp a_) (.K 1))) (.A bp (.K 1))) [.L a_ bp] rfl
theorem Mf{a:Int}(b:¬0<=a):a<0:=Int.not_le.mp b
theorem Md:a<=b->b<=c->c<60->a<64:=rl [a,b,c] (.T a_ (.K 64)) [.L a_ bp,.L bp cw,.T cw (.K 60)] rfl
theorem Mc:a+(c+1)<=b->a<=b:=rl [a,b,c] (.L a_ bp) [.L (.A a_ (.A cw (.K 1))) bp] rfl
theorem Mb:d+(a+1)<=b->a+1<=b+c-d:=rl [a,b,c,d] (.L (.A a_ (.K 1)) (.S (.A bp cw) f3)) [.L (.A f3 (.A a_ (.K 1))) bp] rfl
theorem Ma:a+b-c-(d+1)=a+b-(c+(d+1)):=rl [a,b,c,d] (.E (.S (.S (.A a_ bp) cw) (.A f3 (.K 1))) (.S (.A a_ bp) (.A cw (.A f3 (.K 1))))) [] rfl
theorem GR(e:(a:Int)=(b:Int)/\(c:Int)=(d:Int)):a=b:=dp.mp e.1
theorem GQ(e:(c:Int)=(d:Int)/\(a:Int)=(b:Int)):a=b:=dp.mp e.2
theorem GP:a+1-1-(b+1)=a-1-b:=rl [a,b] (.E (.S (.S (.A a_ (.K 1)) (.K 1)) (.A bp (.K 1))) (.S (.S a_ (.K 1)) bp)) [] rfl
theorem GO:a<b->a<b+c:=rl [a,b,c] (.T a_ (.A bp cw)) [.T a_ bp] rfl
theorem L_:a+3<=a+4:=rl [a] (.L (.A a_ (.K 3)) (.A a_ (.K 4))) [] rfl
theorem L9:a+4<=a+4:=rl [a] (.L (.A a_ (.K 4)) (.A a_ (.K 4))) [] rfl
theorem rc:a+2<=a+4:=rl [a] (.L (.A a_ (.K 2)) (.A a_ (.K 4))) [] rfl
theorem GN:a=b->b<=c->c<=2000->a<2^62:=rl [a,b,c] (.T a_ (.K 4611686018427387904)) [.E a_ bp,.L bp cw,.L cw (.K 2000)] rfl
theorem L8:a<b->b<=c->c<=2000->a<2^62:=rl [a,b,c] (.T a_ (.K 4611686018427387904)) [.T a_ bp,.L bp cw,.L cw (.K 2000)] rfl
theorem L7:a<=b->b<=2000->a<=2^20:=rl [a,b] (.L a_ (.K 1048576)) [.L a_ bp,.L bp (.K 2000)] rfl
theorem L6:a<=b->b<=2000->a<2^62:=rl [a,b] (.T a_ (.K 4611686018427387904)) [.L a_ bp,.L bp (.K 2000)] rfl
theorem L5:b<=2000->¬b<=a->a<=2^20:=rl [a,b] (.L a_ (.K 1048576)) [.L bp (.K 2000),.H bp a_] rfl
theorem L4:a<1000->1+a<2^20:=rl [a] (.T (.A (.K 1) a_) (.K 1048576)) [.T a_ (.K 1000)] rfl
theorem L3:a<b->b<64->a<2^62:=rl [a,b] (.T a_ (.K 4611686018427387904)) [.T a_ bp,.T bp (.K 64)] rfl
theorem L2:a<=min b c->c<=10->a<=2^20:=rl [a,b,c] (.L a_ (.K 1048576)) [.L a_ (.I bp cw),.L cw (.K 10)] rfl
theorem GM:a<=b->b<=10->a<=2^20:=rl [a,b] (.L a_ (.K 1048576)) [.L a_ bp,.L bp (.K 10)] rfl
theorem L1{e:Nat}:a<=d+3*c->d<=b+1*e->e<=3->a<=b+3*(c+1):=rl [a,b,c,d,e] (.L a_ (.A bp (.M 3 (.A cw (.K 1))))) [.L a_ (.A f3 (.M 3 cw)),.L f3 (.A bp (.M 1 vg)),.L vg (.K 3)] rfl
theorem L0:a<=b+3*min c d->b=3->d<=10->a<=33:=rl [a,b,c,d] (.L a_ (.K 33)) [.L a_ (.A bp (.M 3 (.I cw f3))),.E bp (.K 3),.L f3 (.K 10)] rfl
theorem LZ:a<=b+1*min c d->b<=33->d<=3->a<=2^20:=rl [a,b,c,d] (.L a_ (.K 1048576)) [.L a_ (.A bp (.M 1 (.I cw f3))),.L bp (.K 33),.L f3 (.K 3)] rfl
theorem LY:a<=33->b<=c->c<=10->a+1+b<=2^20:=rl [a,b,c] (.L (.A (.A a_ (.K 1)) bp) (.K 1048576)) [.L a_ (.K 33),.L bp cw,.L cw (.K 10)] rfl
theorem LX:a<c->b=c+1->a+1<b:=rl [a,b,c] (.T (.A a_ (.K 1)) bp) [.T a_ cw,.E bp (.A cw (.K 1))] rfl
theorem td:a+2<=a+2:=rl [a] (.L (.A a_ (.K 2)) (.A a_ (.K 2))) [] rfl
theorem LW:a<c->b=c+1->min (a+1) b=a+1:=rl [a,b,c] (.E (.I (.A a_ (.K 1)) bp) (.A a_ (.K 1))) [.T a_ cw,.E bp (.A cw (.K 1))] rfl
theorem LU:a<b->b<=10->a+1<2^62:=rl [a,b] (.T (.A a_ (.K 1)) (.K 4611686018427387904)) [.T a_ bp,.L bp (.K 10)] rfl
theorem LS:a<b->b<=10->a+1<=2^20:=rl [a,b] (.L (.A a_ (.K 1)) (.K 1048576)) [.T a_ bp,.L bp (.K 10)] rfl
theorem LR:a=b+(c+1)->a=b+1+c:=rl [a,b,c] (.E a_ (.A (.A bp (.K 1)) cw)) [.E a_ (.A bp (.A cw (.K 1)))] rfl
theorem LQ:a=0+a:=rl [a] (.E a_ (.A (.K 0) a_)) [] rfl
theorem LP:a<=60->b<=60*c->a+b<=60*(c+1):=rl [a,b,c] (.L (.A a_ bp) (.M 60 (.A cw (.K 1)))) [.L a_ (.K 60),.L bp (.M 60 cw)] rfl
theorem LO:a<=60*min b c->a<=60*b:=rl [a,b,c] (.L a_ (.M 60 bp)) [.L a_ (.M 60 (.I bp cw))] rfl
theorem LN{e:Nat}:a<=60*d->c<=60->d<e->e<=2000->a+min b c<=2^20:=rl [a,b,c,d,e] (.L (.A a_ (.I bp cw)) (.K 1048576)) [.L a_ (.M 60 f3),.L cw (.K 60),.T f3 vg,.L vg (.K 2000)] rfl
theorem LM:a<=d->b<=c->a+b<=c+d:=rl [a,b,c,d] (.L (.A a_ bp) (.A cw f3)) [.L a_ f3,.L bp cw] rfl
theorem LL:b<=3->min a b+(b-a+1)<=4:=rl [a,b] (.L (.A (.I a_ bp) (.A (.S bp a_) (.K 1))) (.K 4)) [.L bp (.K 3)] rfl
theorem GL:a<=20*b->b<=4->a+b*1<=84:=rl [a,b] (.L (.A a_ (.N bp 1)) (.K 84)) [.L a_ (.M 20 bp),.L bp (.K 4)] rfl
theorem LK:a<=20->b<=84->a+3+b<=107:=rl [a,b] (.L (.A (.A a_ (.K 3)) bp) (.K 107)) [.L a_ (.K 20),.L bp (.K 84)] rfl
theorem GK:a<=20->a+3<=2^24:=rl [a] (.L (.A a_ (.K 3)) (.K 16777216)) [.L a_ (.K 20)] rfl
theorem GJ:a<=20->b<=84->a+3+b<=2^24:=rl [a,b] (.L (.A (.A a_ (.K 3)) bp) (.K 16777216)) [.L a_ (.K 20),.L bp (.K 84)] rfl
theorem LJ:b<=60->min a b<=2^20:=rl [a,b] (.L (.I a_ bp) (.K 1048576)) [.L bp (.K 60)] rfl
theorem LI:a<=20*b->b<=60->a+b*1<=1260:=rl [a,b] (.L (.A a_ (.N bp 1)) (.K 1260)) [.L a_ (.M 20 bp),.L bp (.K 60)] rfl
theorem LH:a<=107->a+3<=2^24:=rl [a] (.L (.A a_ (.K 3)) (.K 16777216)) [.L a_ (.K 107)] rfl
theorem LG:a<=107->b<=1260->a+3+b<=2^24:=rl [a,b] (.L (.A (.A a_ (.K 3)) bp) (.K 16777216)) [.L a_ (.K 107),.L bp (.K 1260)] rfl
theorem LF:a<=107->b<=1260->a+3+b+1<=2^24:=rl [a,b] (.L (.A (.A (.A a_ (.K 3)) bp) (.K 1)) (.K 16777216)) [.L a_ (.K 107),.L bp (.K 1260)] rfl
theorem LD:a+1<=a+(b+c)+1:=rl [a,b,c] (.L (.A a_ (.K 1)) (.A (.A a_ (.A bp cw)) (.K 1))) [] rfl
theorem LB{e:Nat}:a<=b+e+c+1->e<=d->a<=b+(c+d)+1:=rl [a,b,c,d,e] (.L a_ (.A (.A bp (.A cw f3)) (.K 1))) [.L a_ (.A (.A (.A bp vg) cw) (.K 1)),.L vg f3] rfl
theorem LA:b<=d->a+b<=a+(c+d)+1:=rl [a,b,c,d] (.L (.A a_ bp) (.A (.A a_ (.A cw f3)) (.K 1))) [.L bp f3] rfl
theorem Ly:a<=min b c->c<=10->a<=10:=rl [a,b,c] (.L a_ (.K 10)) [.L a_ (.I bp cw),.L cw (.K 10)] rfl
theorem Lx:a=b->b<=10->a<=2^20:=rl [a,b] (.L a_ (.K 1048576)) [.E a_ bp,.L bp (.K 10)] rfl
theorem Lw:a<=10->a+1<1000000:=rl [a] (.T (.A a_ (.K 1)) (.K 1000000)) [.L a_ (.K 10)] rfl
theorem GI:a<=3->b<=3*c->a+b<=3*(c+1):=rl [a,b,c] (.L (.A a_ bp) (.M 3 (.A cw (.K 1)))) [.L a_ (.K 3),.L bp (.M 3 cw)] rfl
theorem Lv:a<=3*b->b<=10->a<=30:=rl [a,b] (.L a_ (.K 30)) [.L a_ (.M 3 bp),.L bp (.K 10)] rfl
theorem Lu:a<=3->0+30*a+1<=2^20:=rl [a] (.L (.A (.A (.K 0) (.M 30 a_)) (.K 1)) (.K 1048576)) [.L a_ (.K 3)] rfl
theorem GH(c:(a:Int)=(b:Int)):a=b:=dp.mp c
theorem Lr:ey ((a:Int)-1)=a-1:=Int.toNat_sub a 1
theorem Lq:1+(a:Int)=((a+1:Nat):Int):=Int.add_comm _ _
theorem Lp:b=c->c<64->min a b<=2^20:=rl [a,b,c] (.L (.I a_ bp) (.K 1048576)) [.E bp cw,.T cw (.K 64)] rfl
theorem Lo:a<=b->b<=100000->a<2^62:=rl [a,b] (.T a_ (.K 4611686018427387904)) [.L a_ bp,.L bp (.K 100000)] rfl
theorem Ln:a<b->b<=c->c<=100000->a<2^62:=rl [a,b,c] (.T a_ (.K 4611686018427387904)) [.T a_ bp,.L bp cw,.L cw (.K 100000)] rfl
theorem Lm:a<b->b<=12->a<2^62:=rl [a,b] (.T a_ (.K 4611686018427387904)) [.T a_ bp,.L bp (.K 12)] rfl
theorem Ll:a<=3->a-(b+1)<=3:=rl [a,b] (.L (.S a_ (.A bp (.K 1))) (.K 3)) [.L a_ (.K 3)] rfl
theorem Lk:a<=0+30*b+1->b<=3->a<=1000:=rl [a,b] (.L a_ (.K 1000)) [.L a_ (.A (.A (.K 0) (.M 30 bp)) (.K 1)),.L bp (.K 3)] rfl
theorem Lj:a<b-1->a+1<b:=rl [a,b] (.T (.A a_ (.K 1)) bp) [.T a_ (.S bp (.K 1))] rfl
theorem Lh:a+1<b->b<=12->a+1<2^62:=rl [a,b] (.T (.A a_ (.K 1)) (.K 4611686018427387904)) [.T (.A a_ (.K 1)) bp,.L bp (.K 12)] rfl
theorem Lg:a<b->a<b-1+1:=rl [a,b] (.T a_ (.A (.S bp (.K 1)) (.K 1))) [.T a_ bp] rfl
theorem Lf:a<=d+c->d<=b+1->a<=b+(c+1):=rl [a,b,c,d] (.L a_ (.A bp (.A cw (.K 1)))) [.L a_ (.A f3 cw),.L f3 (.A bp (.K 1))] rfl
theorem Le:a<=0+min b c->c<2^20->a+1<=2^20:=rl [a,b,c] (.L (.A a_ (.K 1)) (.K 1048576)) [.L a_ (.A (.K 0) (.I bp cw)),.T cw (.K 1048576)] rfl
theorem Ld:b<=3->min a b+1+(b-a)<=4:=rl [a,b] (.L (.A (.A (.I a_ bp) (.K 1)) (.S bp a_)) (.K 4)) [.L bp (.K 3)] rfl
theorem Lc:b<60->min a b<=2^20:=rl [a,b] (.L (.I a_ bp) (.K 1048576)) [.T bp (.K 60)] rfl
theorem Lb:a<=20*b->b<=c->c<=10->a+b*1<=210:=rl [a,b,c] (.L (.A a_ (.N bp 1)) (.K 210)) [.L a_ (.M 20 bp),.L bp cw,.L cw (.K 10)] rfl
theorem K9:b<=3->min a b+1<=2^20:=rl [a,b] (.L (.A (.I a_ bp) (.K 1)) (.K 1048576)) [.L bp (.K 3)] rfl
theorem K8:b<=3->min a b+1+(b-a)<=2^20:=rl [a,b] (.L (.A (.A (.I a_ bp) (.K 1)) (.S bp a_)) (.K 1048576)) [.L bp (.K 3)] rfl
theorem K7:a<=20->b<=84->a+3+b+3<=2^24:=rl [a,b] (.L (.A (.A (.A a_ (.K 3)) bp) (.K 3)) (.K 16777216)) [.L a_ (.K 20),.L bp (.K 84)] rfl
theorem K6:a<=20->b<=84->c<=210->a+3+b+3+c<=2^24:=rl [a,b,c] (.L (.A (.A (.A (.A a_ (.K 3)) bp) (.K 3)) cw) (.K 16777216)) [.L a_ (.K 20),.L bp (.K 84),.L cw (.K 210)] rfl
theorem K5:a<=20->b<=84->c<=210->a+3+b+3+c+1<=2^24:=rl [a,b,c] (.L (.A (.A (.A (.A (.A a_ (.K 3)) bp) (.K 3)) cw) (.K 1)) (.K 16777216)) [.L a_ (.K 20),.L bp (.K 84),.L cw (.K 210)] rfl
theorem GG(b:¬0<a):¬0<(a:Int):=λ h=>b (cY.mp h)
theorem GF:a+6<6->False:=rl0 [a] [.T (.A a_ (.K 6)) (.K 6)] rfl
theorem K2:a<b->b<3->5+a<1000:=rl [a,b] (.T (.A (.K 5) a_) (.K 1000)) [.T a_ bp,.T bp (.K 3)] rfl
theorem K0:a<=3*min b c->b<2->a<=6:=rl [a,b,c] (.L a_ (.K 6)) [.L a_ (.M 3 (.I bp cw)),.T bp (.K 2)] rfl
theorem KZ:a<=24->b<c->c<3->a+1+b<1000:=rl [a,b,c] (.T (.A (.A a_ (.K 1)) bp) (.K 1000)) [.L a_ (.K 24),.T bp cw,.T cw (.K 3)] rfl
theorem KY:a<=24->a+4<1000:=rl [a] (.T (.A a_ (.K 4)) (.K 1000)) [.L a_ (.K 24)] rfl
theorem GE:a<2->1+a<1000000:=rl [a] (.T (.A (.K 1) a_) (.K 1000000)) [.T a_ (.K 2)] rfl
theorem KX:a<=6->b<1+c->c<2->a+(b+1)<=20:=rl [a,b,c] (.L (.A a_ (.A bp (.K 1))) (.K 20)) [.L a_ (.K 6),.T bp (.A (.K 1) cw),.T cw (.K 2)] rfl
theorem KW:a<1+b->b<2->a<2:=rl [a,b] (.T a_ (.K 2)) [.T a_ (.A (.K 1) bp),.T bp (.K 2)] rfl
theorem KV:a<=24->b<2->a+5+5*b<1000:=rl [a,b] (.T (.A (.A a_ (.K 5)) (.M 5 bp)) (.K 1000)) [.L a_ (.K 24),.T bp (.K 2)] rfl
theorem KU:a<2->1+a<=3:=rl [a] (.L (.A (.K 1) a_) (.K 3)) [.T a_ (.K 2)] rfl
theorem KT:a<=24->b<2->c<1+d->d<2->a+5+5*b+1+c<1000:=rl [a,b,c,d] (.T (.A (.A (.A (.A a_ (.K 5)) (.M 5 bp)) (.K 1)) cw) (.K 1000)) [.L a_ (.K 24),.T bp (.K 2),.T cw (.A (.K 1) f3),.T f3 (.K 2)] rfl
theorem KS(d:a<=b)(c:b<=2^20):(a:Int)<2^63:=cY.mpr (aR (m:=2^20) (aA d c) (by decide:2^20<9223372036854775808))
theorem KR(d:(a:Int)=(b:Int))(c:¬a=b):False:=c (dp.mp d)
theorem KQ:a+1+b<=a+(b+1):=rl [a,b] (.L (.A (.A a_ (.K 1)) bp) (.A a_ (.A bp (.K 1)))) [] rfl
theorem KP:a<=b+1+c->a<=b+(c+1):=rl [a,b,c] (.L a_ (.A bp (.A cw (.K 1)))) [.L a_ (.A (.A bp (.K 1)) cw)] rfl
theorem KO:a<b->min a b=a:=rl [a,b] (.E (.I a_ bp) a_) [.T a_ bp] rfl
theorem KN:¬b<a->¬b=a->a+1<=b:=rl [a,b] (.L (.A a_ (.K 1)) bp) [.G bp a_,.D bp a_] rfl
theorem B2:a<b+1->¬a<b->a=b:=rl [a,b] (.E a_ bp) [.T a_ (.A bp (.K 1)),.G a_ bp] rfl
theorem KM:a<1->a=0:=rl [a] (.E a_ (.K 0)) [.T a_ (.K 1)] rfl
theorem KJ:a<=60*min b c->c<=2000->a<=120000:=rl [a,b,c] (.L a_ (.K 120000)) [.L a_ (.M 60 (.I bp cw)),.L cw (.K 2000)] rfl
theorem KI:a<=b->c=b->¬a<c->a=b:=rl [a,b,c] (.E a_ bp) [.L a_ bp,.E cw bp,.G a_ cw] rfl
theorem yy:a<b->b<=2000->a<2^62:=rl [a,b] (.T a_ (.K 4611686018427387904)) [.T a_ bp,.L bp (.K 2000)] rfl
theorem tb:a+2<=a+5:=rl [a] (.L (.A a_ (.K 2)) (.A a_ (.K 5))) [] rfl
theorem B1:a+3<=a+5:=rl [a] (.L (.A a_ (.K 3)) (.A a_ (.K 5))) [] rfl
theorem KH:a+b<=c->c<d->d<=2000->a<2^60:=rl [a,b,c,d] (.T a_ (.K 1152921504606846976)) [.L (.A a_ bp) cw,.T cw f3,.L f3 (.K 2000)] rfl
theorem KG:¬0<a->a=0:=rl [a] (.E a_ (.K 0)) [.G (.K 0) a_] rfl
theorem KF(b:a=0):¬0<(a:Int):=b▸Int.lt_irrefl 0
theorem KE(c:b<a):0<(a:Int):=cY.mpr (aR (bg _) c)
theorem KD{e:Nat}:a=b+min c d->b+d=e->e<=120000->a<=2^20:=rl [a,b,c,d,e] (.L a_ (.K 1048576)) [.E a_ (.A bp (.I cw f3)),.E (.A bp f3) vg,.L vg (.K 120000)] rfl
theorem GD:a<=0+min b c->c<=100000->a<=100000:=rl [a,b,c] (.L a_ (.K 100000)) [.L a_ (.A (.K 0) (.I bp cw)),.L cw (.K 100000)] rfl
theorem rb:a+1<=a+5:=rl [a] (.L (.A a_ (.K 1)) (.A a_ (.K 5))) [] rfl
theorem KC:a<c->c<=b->a<b:=rl [a,b,c] (.T a_ bp) [.T a_ cw,.L cw bp] rfl
theorem KB:a=0+min b c->b<c->a=b:=rl [a,b,c] (.E a_ bp) [.E a_ (.A (.K 0) (.I bp cw)),.T bp cw] rfl
theorem BZ:a=b->b<=2000->a<=2^20:=rl [a,b] (.L a_ (.K 1048576)) [.E a_ bp,.L bp (.K 2000)] rfl
theorem KA:a=c->b=c->a=b:=rl [a,b,c] (.E a_ bp) [.E a_ cw,.E bp cw] rfl
theorem Kz:a=b->b=c->c<=2000->a<2^62:=rl [a,b,c] (.T a_ (.K 4611686018427387904)) [.E a_ bp,.E bp cw,.L cw (.K 2000)] rfl
theorem Kx:a=b->b=c->c<=2000->a<=2^20:=rl [a,b,c] (.L a_ (.K 1048576)) [.E a_ bp,.E bp cw,.L cw (.K 2000)] rfl
theorem Kw:a<=b->b<c->c<=2000->a+1<=2^20:=rl [a,b,c] (.L (.A a_ (.K 1)) (.K 1048576)) [.L a_ bp,.T bp cw,.L cw (.K 2000)] rfl
theorem Kv:a=b->b<=2000->a+1<=2^20:=rl [a,b] (.L (.A a_ (.K 1)) (.K 1048576)) [.E a_ bp,.L bp (.K 2000)] rfl
theorem Ku:a=b->b<=2^20->a<=2^20:=rl [a,b] (.L a_ (.K 1048576)) [.E a_ bp,.L bp (.K 1048576)] rfl
theorem Kt:a=0+b->b<=c->c<60->a<=2000:=rl [a,b,c] (.L a_ (.K 2000)) [.E a_ (.A (.K 0) bp),.L bp cw,.T cw (.K 60)] rfl
theorem Ks:b<a->a-(b+1)<a-b:=rl [a,b] (.T (.S a_ (.A bp (.K 1))) (.S a_ bp)) [.T bp a_] rfl
theorem Kr:a<=c->a+1<=b+1+c:=rl [a,b,c] (.L (.A a_ (.K 1)) (.A (.A bp (.K 1)) cw)) [.L a_ cw] rfl
theorem Kq:a<2^0->a=0:=rl [a] (.E a_ (.K 0)) [.T a_ (.K 1)] rfl
theorem Ko:a=b->b<=2000->a<2^62:=rl [a,b] (.T a_ (.K 4611686018427387904)) [.E a_ bp,.L bp (.K 2000)] rfl
theorem Km:a<=b->b<c->c<=2000->a+2<=2^20:=rl [a,b,c] (.L (.A a_ (.K 2)) (.K 1048576)) [.L a_ bp,.T bp cw,.L cw (.K 2000)] rfl
theorem Kl:a<=b->b<=10->a<=60:=rl [a,b] (.L a_ (.K 60)) [.L a_ bp,.L bp (.K 10)] rfl
theorem Kj:a<2->c<b->a<=b:=rl [a,b,c] (.L a_ bp) [.T a_ (.K 2),.T cw bp] rfl
theorem Ki(e:b-c=a)(d:c<2):a=b\/a+1=b:=Decidable.or_iff_not_imp_left.mpr λ h=>rl [a,b,c] (.E (.A a_ (.K 1)) bp) [.E (.S bp cw) a_,.T cw (.K 2),.D a_ bp] rfl e d h
theorem Kh:min 24 a<=2^20:=rl [a] (.L (.I (.K 24) a_) (.K 1048576)) [] rfl
theorem Kg:min 24 a<64:=rl [a] (.T (.I (.K 24) a_) (.K 64)) [] rfl
theorem Kf:a<=10->1+a<=2^20:=rl [a] (.L (.A (.K 1) a_) (.K 1048576)) [.L a_ (.K 10)] rfl
theorem GB:a+5<=a+5:=rl [a] (.L (.A a_ (.K 5)) (.A a_ (.K 5))) [] rfl
theorem Ke:a<b+1+c->¬a<b+1->a-(b+1)<c:=rl [a,b,c] (.T (.S a_ (.A bp (.K 1))) cw) [.T a_ (.A (.A bp (.K 1)) cw),.G a_ (.A bp (.K 1))] rfl
theorem Kc:a<=b+(d+1)+(c-(d+1))->¬c<d+1->a<=b+c:=rl [a,b,c,d] (.L a_ (.A bp cw)) [.L a_ (.A (.A bp (.A f3 (.K 1))) (.S cw (.A f3 (.K 1)))),.G cw (.A f3 (.K 1))] rfl
theorem Kb{e:Nat}:a+(e+1)+(b-(e+1))-c<=d->a+b-c<=d:=rl [a,b,c,d,e] (.L (.S (.A a_ bp) cw) f3) [.L (.S (.A (.A a_ (.A vg (.K 1))) (.S bp (.A vg (.K 1)))) cw) f3] rfl
theorem Ka:a<b->b<2^12->a<2^62:=rl [a,b] (.T a_ (.K 4611686018427387904)) [.T a_ bp,.T bp (.K 4096)] rfl
theorem J_{a:Int}(d:a<(b:Int))(c:¬a<0):ey a<b:=(Int.toNat_lt (i8.mp c)).mpr d
theorem J9{a:Int}(b:¬a<0):0<=a:=i8.mp b
theorem J8:a+1=b->c=b->c<=a->False:=rl0 [a,b,c] [.E (.A a_ (.K 1)) bp,.E cw bp,.L cw a_] rfl
theorem GA:a+1=b->b<=2000->a<=2000:=rl [a,b] (.L a_ (.K 2000)) [.E (.A a_ (.K 1)) bp,.L bp (.K 2000)] rfl
theorem J7:a+b<900->a<1000:=rl [a,b] (.T a_ (.K 1000)) [.T (.A a_ bp) (.K 900)] rfl
theorem J6(c:a+1=b):(a:Int)≠(b:Int):=λ h=>absurd (dp.mp h) (c▸cm (ce a))
theorem J5:a<=100->b<=100->a+b<=2^24:=rl [a,b] (.L (.A a_ bp) (.K 16777216)) [.L a_ (.K 100),.L bp (.K 100)] rfl
theorem J4:a<=100->b<=100->c<=100->a+b+c<=2^24:=rl [a,b,c] (.L (.A (.A a_ bp) cw) (.K 16777216)) [.L a_ (.K 100),.L bp (.K 100),.L cw (.K 100)] rfl
theorem J3{e:Nat}:a<=b+c->b<=d+e->a<=d+(c+e):=rl [a,b,c,d,e] (.L a_ (.A f3 (.A cw vg))) [.L a_ (.A bp cw),.L bp (.A f3 vg)] rfl
theorem Gz(f:a<900)(d:b<=c+1)(e:c=a):b<=16777216+1:=aA d (ee (e▸bc (bD f (by decide))))
theorem za{g:Prop}(h:p0/\p1)(k:p0->p1->g):g:=h.elim k
theorem zd{p0:∀a:(Vw),Prop}{g:Prop}(h:∃a:(Vw),p0 a)(k:∀a:(Vw),p0 a->g):g:=h.elim k
theorem ze{p0:Rz->Prop}{g:Prop}(h:∃a:Rz,p0 a)(k:∀a:Rz,p0 a->g):g:=h.elim k
theorem jA{g:Prop}(h:p0/\p1/\p2)(k:p0->p1->p2->g):g:=h.elim λ a h=>za h (k a)
theorem AR{p1:Rz->Prop}{g:Prop}(h:p0/\∃b:Rz,p1 b)(k:p0->∀b:Rz,p1 b->g):g:=h.elim λ a h=>ze h (k a)
theorem QC{p0 p1:∀b:(Vw),Prop}{g:Prop}(h:∃b:(Vw),p0 b/\p1 b)(k:∀b:(Vw),p0 b->p1 b->g):g:=h.elim λ a h=>za h (k a)
theorem b5{p0 p1:Rz->Prop}{g:Prop}(h:∃b:Rz,p0 b/\p1 b)(k:∀b:Rz,p0 b->p1 b->g):g:=h.elim λ a h=>za h (k a)
theorem Eu{c:∀b:Rz,Prop}{p0:∀b:Rz,∀d:(c b),Prop}{g:Prop}(h:∃b:Rz,∃d:(c b),p0 b d)(k:∀b:Rz,∀d:(c b),p0 b d->g):g:=h.elim λ a h=>zd h (k a)
theorem Jy{p0:Rz->RP->Prop}{g:Prop}(h:∃b:Rz,∃c:RP,p0 b c)(k:∀b:Rz,∀c:RP,p0 b c->g):g:=h.elim λ a h=>ze h (k a)
theorem w2{g:Prop}(h:p0/\p1/\p2/\p3)(k:p0->p1->p2->p3->g):g:=h.elim λ a h=>jA h (k a)
theorem JA{p2:Rz->Prop}{g:Prop}(h:p0/\p1/\∃b:Rz,p2 b)(k:p0->p1->∀b:Rz,p2 b->g):g:=h.elim λ a h=>AR h (k a)
theorem Ev{p1 p2:Rz->Prop}{g:Prop}(h:p0/\∃b:Rz,p1 b/\p2 b)(k:p0->∀b:Rz,p1 b->p2 b->g):g:=h.elim λ a h=>b5 h (k a)
theorem Of{p1:Rz->RP->Prop}{g:Prop}(h:p0/\∃b:Rz,∃c:RP,p1 b c)(k:p0->∀b:Rz,∀c:RP,p1 b c->g):g:=h.elim λ a h=>Jy h (k a)
theorem eB{p0 p1 p2:Rz->Prop}{g:Prop}(h:∃b:Rz,p0 b/\p1 b/\p2 b)(k:∀b:Rz,p0 b->p1 b->p2 b->g):g:=h.elim λ a h=>jA h (k a)
theorem hQ{p0 p1:Rz->RP->Prop}{g:Prop}(h:∃b:Rz,∃c:RP,p0 b c/\p1 b c)(k:∀b:Rz,∀c:RP,p0 b c->p1 b c->g):g:=h.elim λ a h=>b5 h (k a)
theorem Oi{p4 g:Prop}(h:p0/\p1/\p2/\p3/\p4)(k:p0->p1->p2->p3->p4->g):g:=h.elim λ a h=>w2 h (k a)
theorem Jz{p3:Rz->Prop}{g:Prop}(h:p0/\p1/\p2/\∃b:Rz,p3 b)(k:p0->p1->p2->∀b:Rz,p3 b->g):g:=h.elim λ a h=>JA h (k a)
theorem k4{p0 p1 p2 p3:Rz->Prop}{g:Prop}(h:∃b:Rz,p0 b/\p1 b/\p2 b/\p3 b)(k:∀b:Rz,p0 b->p1 b->p2 b->p3 b->g):g:=h.elim λ a h=>w2 h (k a)
theorem fx{p0 p1 p2:Rz->RP->Prop}{g:Prop}(h:∃b:Rz,∃c:RP,p0 b c/\p1 b c/\p2 b c)(k:∀b:Rz,∀c:RP,p0 b c->p1 b c->p2 b c->g):g:=h.elim λ a h=>eB h (k a)
theorem mN{p0 p1:Rz->RP->Sm->Prop}{g:Prop}(h:∃b:Rz,∃c:RP,∃d:Sm,p0 b c d/\p1 b c d)(k:∀b:Rz,∀c:RP,∀d:Sm,p0 b c d->p1 b c d->g):g:=h.elim λ a h=>hQ h (k a)
theorem Qi{p4 g:Prop}(h:p0/\p1/\p2/\p3/\p4/\p5)(k:p0->p1->p2->p3->p4->p5->g):g:=h.elim λ a h=>Oi h (k a)
theorem Oh{g:Prop}(h:p0/\p1/\p2/\p3/\∃b:Rz,p4 b)(k:p0->p1->p2->p3->∀b:Rz,p4 b->g):g:=h.elim λ a h=>Jz h (k a)
theorem Gh{p1 p2 p3:Rz->Prop}{g:Prop}(h:p0/\∃b:Rz,p1 b/\p2 b/\p3 b/\p4 b)(k:p0->∀b:Rz,p1 b->p2 b->p3 b->p4 b->g):g:=h.elim λ a h=>k4 h (k a)
theorem HD{p1 p2 p3:Rz->RP->Prop}{g:Prop}(h:p0/\∃b:Rz,∃c:RP,p1 b c/\p2 b c/\p3 b c)(k:p0->∀b:Rz,∀c:RP,p1 b c->p2 b c->p3 b c->g):g:=h.elim λ a h=>fx h (k a)
theorem kw{p0 p1 p2:Rz->RP->Sm->Prop}{g:Prop}(h:∃b:Rz,∃c:RP,∃d:Sm,p0 b c d/\p1 b c d/\p2 b c d)(k:∀b:Rz,∀c:RP,∀d:Sm,p0 b c d->p1 b c d->p2 b c d->g):g:=h.elim λ a h=>fx h (k a)
theorem Oe{p0 p1:Rz->RP->Sm->Td->Prop}{g:Prop}(h:∃b:Rz,∃c:RP,∃e:Sm,∃d:Td,p0 b c e d/\p1 b c e d)(k:∀b:Rz,∀c:RP,∀e:Sm,∀d:Td,p0 b c e d->p1 b c e d->g):g:=h.elim λ a h=>mN h (k a)
theorem qB{p0 p1 p2 p3:∀b:Rz,∀c:RP,Prop}{g:Prop}(h:∃b:Rz,∃c:RP,p0 b c/\p1 b c/\p2 b c/\p3 b c)(k:∀b:Rz,∀c:RP,p0 b c->p1 b c->p2 b c->p3 b c->g):g:=h.elim λ a h=>k4 h (k a)
theorem Og{p4 b g:Prop}(h:p0/\p1/\p2/\p3/\p4/\p5/\b)(k:p0->p1->p2->p3->p4->p5->b->g):g:=h.elim λ a h=>Qi h (k a)
theorem Bg{p3 p5:Rz->Prop}{g:Prop}(h:p0/\p1/\p2/\∃d:Rz,p3 d/\p4 d/\p5 d)(k:p0->p1->p2->∀d:Rz,p3 d->p4 d->p5 d->g):g:=h.elim λ a h=>h.elim λ b h=>h.elim λ c h=>eB h (k a b c)
theorem Be{p1 p2 p3:Rz->RP->Sm->Prop}{g:Prop}(h:p0/\∃b:Rz,∃c:RP,∃d:Sm,p1 b c d/\p2 b c d/\p3 b c d)(k:p0->∀b:Rz,∀c:RP,∀d:Sm,p1 b c d->p2 b c d->p3 b c d->g):g:=h.elim λ a h=>kw h (k a)
theorem Jx{p0 p1 p2 p3 p4:Rz->RP->Prop}{g:Prop}(h:∃c:Rz,∃d:RP,p0 c d/\p1 c d/\p2 c d/\p3 c d/\p4 c d)(k:∀c:Rz,∀d:RP,p0 c d->p1 c d->p2 c d->p3 c d->p4 c d->g):g:=h.elim λ a h=>h.elim λ b h=>Oi h (k a b)
theorem qA{p0 p1 p2 p3:Rz->RP->Sm->Prop}{g:Prop}(h:∃b:Rz,∃c:RP,∃d:Sm,p0 b c d/\p1 b c d/\p2 b c d/\p3 b c d)(k:∀b:Rz,∀c:RP,∀d:Sm,p0 b c d->p1 b c d->p2 b c d->p3 b c d->g):g:=h.elim λ a h=>qB h (k a)
theorem yf{p0 p1 p2:Rz->RP->Sm->Td->Prop}{g:Prop}(h:∃b:Rz,∃c:RP,∃e:Sm,∃d:Td,p0 b c e d/\p1 b c e d/\p2 b c e d)(k:∀b:Rz,∀c:RP,∀e:Sm,∀d:Td,p0 b c e d->p1 b c e d->p2 b c e d->g):g:=h.elim λ a h=>kw h (k a)
theorem Bc{p0 p1 p2 p3:Rz->RP->Sm->Td->Prop}{g:Prop}(h:∃b:Rz,∃c:RP,∃e:Sm,∃d:Td,p0 b c e d/\p1 b c e d/\p2 b c e d/\p3 b c e d)(k:∀b:Rz,∀c:RP,∀e:Sm,∀d:Td,p0 b c e d->p1 b c e d->p2 b c e d->p3 b c e d->g):g:=h.elim λ a h=>qA h (k a)
theorem Ew{p3 p4 p5:Rz->RP->Sm->Prop}{g:Prop}(h:p0/\p1/\p2/\∃c:Rz,∃d:RP,∃e:Sm,p3 c d e/\p4 c d e/\p5 c d e)(k:p0->p1->p2->∀c:Rz,∀d:RP,∀e:Sm,p3 c d e->p4 c d e->p5 c d e->g):g:=h.elim λ a h=>h.elim λ b h=>Be h (k a b)
theorem Od{p0 p1 p2 p3 p5 d e:Rz->Prop}{g:Prop}(h:∃c:Rz,p0 c/\p1 c/\p2 c/\p3 c/\p4 c/\p5 c/\d c/\e c)(k:∀c:Rz,p0 c->p1 c->p2 c->p3 c->p4 c->p5 c->d c->e c->g):g:=h.elim λ a h=>h.elim λ b h=>Og h (k a b)
theorem Bb{p0 p1 p2 p3:∀b:Rz,∀d:RP,∀f:Sm,∀e:Td,∀c:Vx,Prop}{g:Prop}(h:∃b:Rz,∃d:RP,∃f:Sm,∃e:Td,∃c:Vx,p0 b d f e c/\p1 b d f e c/\p2 b d f e c/\p3 b d f e c)(k:∀b:Rz,∀d:RP,∀f:Sm,∀e:Td,∀c:Vx,p0 b d f e c->p1 b d f e c->p2 b d f e c->p3 b d f e c->g):g:=h.elim λ a h=>Bc h (k a)
theorem Jw{j:Sort _}{p0 p1 p2 p3:Rz->RP->Sm->Td->Vx->j->Prop}{g:Prop}(h:∃b:Rz,∃d:RP,∃f:Sm,∃e:Td,∃c:Vx,∃i:j,p0 b d f e c i/\p1 b d f e c i/\p2 b d f e c i/\p3 b d f e c i)(k:∀b:Rz,∀d:RP,∀f:Sm,∀e:Td,∀c:Vx,∀i:j,p0 b d f e c i->p1 b d f e c i->p2 b d f e c i->p3 b d f e c i->g):g:=h.elim λ a h=>Bb h (k a)
noncomputable def b9:=aG->Obj->Prop
variable{S Kp:b9}
noncomputable def b9.le(S T:b9):Prop:=∀a o,S a o->T a o
noncomputable def b9.add(S:b9)(a:aG)(o:Obj):b9:=λ b p=>S b p\/(b=a/\p=o)
theorem b9.le.refl(S:b9):S.le S:=λ Z Z h=>h
theorem b9.le.trans{T U:b9}(x:S.le T)(y:T.le U):S.le U:=λ a o h=>y a o (x a o h)
theorem b9.RN(S:b9)(a:aG)(o:Obj):S.le (S.add a o):=λ Z Z h=>.inl h
theorem b9.RO(S:b9)(a:aG)(o:Obj):S.add a o a o:=.inr ⟨rfl,rfl⟩
noncomputable abbrev dZ(Un:Array Value)(n:Nat):Obj:={cls:=.type "tuple",data:=.seq Un n}
mutual
noncomputable def jI(P:bS):V->Int
 |.int i=>hashInt i
 |.str x=>PySem.PyData.keyHash P x
 |.tup xs=>Hz (Builtin.Tuple.tupleHashOf (jX P xs))
 |_=>0
noncomputable def jX(P:bS):List V->List Int
 |[]=>[]
 |x::xs=>jI P x::jX P xs
end
mutual
inductive VR(P:bS)(S:b9):Value->V->Prop
 |none:VR P S .none .none
 |bool (b:Bool):VR P S (.bool b) (.bool b)
 |int (i:Int) (t:Jm):VR P S (.int i t) (.int i)
 |str (x:Str) (t:Jm):VR P S (.str x t) (.str x)
 |tup {a:aG} {vs:List Value} {n:Nat} {xs:List V}:S a (dZ vs.toArray n)->dn P S vs xs->VR P S (.ref a) (.tup xs)
 |list {a:aG} {vs:List Value} {n:Nat} {xs:List V}:S a (listOf vs.toArray n)->dn P S vs xs->VR P S (.ref a) (.list xs)
 |dict {a:aG} {es:List bN} {n:Nat} {kvs:List (V×V)}:(a==dD)=ao->S a (dictOf es n)->ge P S es kvs->VR P S (.ref a) (.dict kvs)
 |inst {a C d:aG} {es:List bN} {n:Nat} {fs:List (Str×V)}:S a (io C d)->S d (dictOf es n)->g_ P S es fs->VR P S (.ref a) (.inst C fs)
 |ref (a:aG):VR P S (.ref a) (.ref a)
 |Tf {a:aG} {x y:Int} {t u v:Jm}:S a {cls:=.type "range",data:=.fields #[.int x t,.int y u,.int 1 v]}->VR P S (.ref a) (.Tf x y)
inductive dn(P:bS)(S:b9):List Value->List V->Prop
 |nil:dn P S [] []
 |cons {u:Value} {us:List Value} {v:V} {vs:List V}:VR P S u v->dn P S us vs->dn P S (u::us) (v::vs)
inductive ge(P:bS)(S:b9):List bN->List (V×V)->Prop
 |nil:ge P S [] []
 |cons {h:Int} {ku u:Value} {es:List bN} {k v:V} {kvs:List (V×V)}:h=jI P k->VR P S ku k->VR P S u v->ge P S es kvs->ge P S (⟨h,ku,u⟩::es) ((k,v)::kvs)
inductive g_(P:bS)(S:b9):List bN->List (Str×V)->Prop
 |nil:g_ P S [] []
 |cons {x:Str} {t:Jm} {u:Value} {es:List bN} {v:V} {fs:List (Str×V)}:VR P S u v->g_ P S es fs->g_ P S (⟨PySem.PyData.keyHash P x,.str x t,u⟩::es) ((x,v)::fs)
end
section
variable{P:bS}{T:b9}(h:S.le T)
include h
theorem VR.mono{v:V}(r:VR P S u v):VR P T u v:=
 VR.rec (motive_1:=λ u v Z=>VR P T u v) (motive_2:=λ us vs Z=>dn P T us vs) (motive_3:=λ es kvs Z=>ge P T es kvs) (motive_4:=λ es fs Z=>g_ P T es fs) .none .bool .int .str (λ a Z k=>.tup (h _ _ a) k) (λ a Z k=>.list (h _ _ a) k) (λ q a Z k=>.dict q (h _ _ a) k)
  (λ a b Z k=>.inst (h _ _ a) (h _ _ b) k) .ref (λ a=>.Tf (h _ _ a)) .nil (λ Z Z a k=>.cons a k) .nil (λ e Z Z Z a b k=>.cons e a b k) .nil (λ Z Z a k=>.cons a k) r
theorem dn.mono(r:dn P S us vs):dn P T us vs:=
 dn.rec (motive_1:=λ u v Z=>VR P T u v) (motive_2:=λ us vs Z=>dn P T us vs) (motive_3:=λ es kvs Z=>ge P T es kvs) (motive_4:=λ es fs Z=>g_ P T es fs) .none .bool .int .str (λ a Z k=>.tup (h _ _ a) k) (λ a Z k=>.list (h _ _ a) k) (λ q a Z k=>.dict q (h _ _ a) k)
  (λ a b Z k=>.inst (h _ _ a) (h _ _ b) k) .ref (λ a=>.Tf (h _ _ a)) .nil (λ Z Z a k=>.cons a k) .nil (λ e Z Z Z a b k=>.cons e a b k) .nil (λ Z Z a k=>.cons a k) r
theorem ge.mono{us:List bN}{vs:List (V×V)}(r:ge P S us vs):ge P T us vs:=
 ge.rec (motive_1:=λ u v Z=>VR P T u v) (motive_2:=λ us vs Z=>dn P T us vs) (motive_3:=λ es kvs Z=>ge P T es kvs) (motive_4:=λ es fs Z=>g_ P T es fs) .none .bool .int .str (λ a Z k=>.tup (h _ _ a) k) (λ a Z k=>.list (h _ _ a) k) (λ q a Z k=>.dict q (h _ _ a) k)
  (λ a b Z k=>.inst (h _ _ a) (h _ _ b) k) .ref (λ a=>.Tf (h _ _ a)) .nil (λ Z Z a k=>.cons a k) .nil (λ e Z Z Z a b k=>.cons e a b k) .nil (λ Z Z a k=>.cons a k) r
theorem g_.mono{us:List bN}{vs:List (Str×V)}(r:g_ P S us vs):g_ P T us vs:=
 g_.rec (motive_1:=λ u v Z=>VR P T u v) (motive_2:=λ us vs Z=>dn P T us vs) (motive_3:=λ es kvs Z=>ge P T es kvs) (motive_4:=λ es fs Z=>g_ P T es fs) .none .bool .int .str (λ a Z k=>.tup (h _ _ a) k) (λ a Z k=>.list (h _ _ a) k) (λ q a Z k=>.dict q (h _ _ a) k)
  (λ a b Z k=>.inst (h _ _ a) (h _ _ b) k) .ref (λ a=>.Tf (h _ _ a)) .nil (λ Z Z a k=>.cons a k) .nil (λ e Z Z Z a b k=>.cons e a b k) .nil (λ Z Z a k=>.cons a k) r
end
section
variable{P:bS}{Q:Value->Prop}{Qs:List Value->Prop}
noncomputable def Qx(P:bS)(S:b9)(u:Value):V->Prop
 |.none=>u=.none
 |.bool b=>u=.bool b
 |.int i=>∀Q:Value->Prop,(∀t,Q (.int i t))->Q u
 |.str x=>∀Q:Value->Prop,(∀t,Q (.str x t))->Q u
 |.tup xs=>∀Q:Value->Prop,(∀a vs n,S a (dZ (dr vs) n)->dn P S vs xs->Q (.ref a))->Q u
 |.list xs=>∀Q:Value->Prop,(∀a vs n,S a (listOf (dr vs) n)->dn P S vs xs->Q (.ref a))->Q u
 |.dict kvs=>∀Q:Value->Prop,(∀a es n,(a==dD)=ao->S a (dictOf es n)->ge P S es kvs->Q (.ref a))->Q u
 |.inst C fs=>∀Q:Value->Prop,(∀a d es n,S a (io C d)->S d (dictOf es n)->g_ P S es fs->Q (.ref a))->Q u
 |.ref a=>u=.ref a
 |.Tf x y=>∀Q:Value->Prop,(∀a t t' Y7,S a {cls:=.type "range",data:=.fields #[.int x t,.int y t',.int 1 Y7]}->Q (.ref a))->Q u
theorem VR.inv{v:V}(h:VR P S u v):Qx P S u v:=
 VR.rec (motive_1:=λ u v Z=>Qx P S u v) (motive_2:=λ Z Z Z=>True) (motive_3:=λ Z Z Z=>True) (motive_4:=λ Z Z Z=>True) rfl (λ Z=>rfl) (λ Z t Z k=>k t) (λ Z t Z k=>k t) (λ a r Z Z k=>k _ _ _ a r) (λ a r Z Z k=>k _ _ _ a r) (λ q a r Z Z k=>k _ _ _ q a r)
  (λ a b r Z Z k=>k _ _ _ _ a b r) (λ Z=>rfl) (λ a Z k=>k _ _ _ _ a) trivial (λ Z Z Z Z=>trivial) trivial (λ Z Z Z Z Z Z Z=>trivial) trivial (λ Z Z Z Z=>trivial) h
@[elab_as_elim] theorem VR.R1(h:VR P S u .none)(k:Q .none):Q u:=bA (show u=_ from h.inv)▸k
@[elab_as_elim] theorem VR.Wo{b:Bool}(h:VR P S u (.bool b))(k:Q (.bool b)):Q u:=bA (show u=_ from h.inv)▸k
@[elab_as_elim] theorem VR.RS{a:aG}(h:VR P S u (.ref a))(k:Q (.ref a)):Q u:=bA (show u=_ from h.inv)▸k
@[elab_as_elim] theorem VR.RB{i:Int}(h:VR P S u (.int i))(k:∀t,Q (.int i t)):Q u:=h.inv Q k
@[elab_as_elim] theorem VR.RG(h:VR P S u (.str x))(k:∀t,Q (.str x t)):Q u:=h.inv Q k
@[elab_as_elim] theorem VR.RL(h:VR P S u (.tup xs))(k:∀a vs n,S a (dZ (dr vs) n)->dn P S vs xs->Q (.ref a)):Q u:=h.inv Q k
@[elab_as_elim] theorem VR.listE(h:VR P S u (.list xs))(k:∀a vs n,S a (listOf (dr vs) n)->dn P S vs xs->Q (.ref a)):Q u:=h.inv Q k
@[elab_as_elim] theorem VR.R9(h:VR P S u (.dict kvs))(k:∀a es n,(a==dD)=false->S a (dictOf es n)->ge P S es kvs->Q (.ref a)):Q u:=h.inv Q k
@[elab_as_elim] theorem VR.instE(h:VR P S u (.inst C fs))(k:∀a d es n,S a (io C d)->S d (dictOf es n)->g_ P S es fs->Q (.ref a)):Q u:=h.inv Q k
@[elab_as_elim] theorem VR.Xp{i j:Int}(h:VR P S u (.Tf i j))(k:∀a t c b,S a {cls:=.type "range",data:=.fields #[.int i t,.int j c,.int 1 b]}->Q (.ref a)):Q u:=h.inv Q k
noncomputable def NU(P:bS)(S:b9)(us:List Value):List V->Prop
 |[]=>us=[]
 |x::xs=>∀Q:List Value->Prop,(∀u ws,VR P S u x->dn P S ws xs->Q (u::ws))->Q us
theorem dn.inv(h:dn P S us vs):NU P S us vs:=
 dn.rec (motive_1:=λ Z Z Z=>True) (motive_2:=λ us vs Z=>NU P S us vs) (motive_3:=λ Z Z Z=>True) (motive_4:=λ Z Z Z=>True) trivial (λ Z=>trivial) (λ Z Z=>trivial) (λ Z Z=>trivial) (λ Z Z Z=>trivial) (λ Z Z Z=>trivial) (λ Z Z Z Z=>trivial)
  (λ Z Z Z Z=>trivial) (λ Z=>trivial) (λ Z=>trivial) rfl (λ a r Z Z Z k=>k _ _ a r) trivial (λ Z Z Z Z Z Z Z=>trivial) trivial (λ Z Z Z Z=>trivial) h
noncomputable def N0(P:bS)(S:b9)(es:List bN):List (V×V)->Prop
 |[]=>es=[]
 |q::kvs=>∀Q:List bN->Prop,(∀ku u ws,VR P S ku q.1->VR P S u q.2->ge P S ws kvs->Q (⟨jI P q.1,ku,u⟩::ws))->Q es
theorem ge.inv(h:ge P S es kvs):N0 P S es kvs:=
 ge.rec (motive_1:=λ Z Z Z=>True) (motive_2:=λ Z Z Z=>True) (motive_3:=λ es kvs Z=>N0 P S es kvs) (motive_4:=λ Z Z Z=>True) trivial (λ Z=>trivial) (λ Z Z=>trivial) (λ Z Z=>trivial) (λ Z Z Z=>trivial) (λ Z Z Z=>trivial) (λ Z Z Z Z=>trivial)
  (λ Z Z Z Z=>trivial) (λ Z=>trivial) (λ Z=>trivial) trivial (λ Z Z Z Z=>trivial) rfl (λ e a b r Z Z Z Z k=>e▸k _ _ _ a b r) trivial (λ Z Z Z Z=>trivial) h
noncomputable def NZ(P:bS)(S:b9)(es:List bN):List (Str×V)->Prop
 |[]=>es=[]
 |q::fs=>∀Q:List bN->Prop,(∀t u ws,VR P S u q.2->g_ P S ws fs->Q (⟨PySem.PyData.keyHash P q.1,.str q.1 t,u⟩::ws))->Q es
theorem g_.inv(h:g_ P S es fs):NZ P S es fs:=
 g_.rec (motive_1:=λ Z Z Z=>True) (motive_2:=λ Z Z Z=>True) (motive_3:=λ Z Z Z=>True) (motive_4:=λ es fs Z=>NZ P S es fs) trivial (λ Z=>trivial) (λ Z Z=>trivial) (λ Z Z=>trivial) (λ Z Z Z=>trivial) (λ Z Z Z=>trivial) (λ Z Z Z Z=>trivial)
  (λ Z Z Z Z=>trivial) (λ Z=>trivial) (λ Z=>trivial) trivial (λ Z Z Z Z=>trivial) trivial (λ Z Z Z Z Z Z Z=>trivial) rfl (λ a r Z Z Z k=>k _ _ _ a r) h
section
variable{Qe:List bN->Prop}
@[elab_as_elim] theorem ge.RX(h:ge P S es [])(k:Qe []):Qe es:=bA (show es=_ from h.inv)▸k
@[elab_as_elim] theorem ge.RC{x y:V}(h:ge P S es ((x,y)::kvs))(k:∀ku u ws,VR P S ku x->VR P S u y->ge P S ws kvs->Qe (⟨jI P x,ku,u⟩::ws)):Qe es:=h.inv Qe k
@[elab_as_elim] theorem g_.RX(h:g_ P S es [])(k:Qe []):Qe es:=bA (show es=_ from h.inv)▸k
@[elab_as_elim] theorem g_.RC{y:V}(h:g_ P S es ((x,y)::fs))(k:∀t u ws,VR P S u y->g_ P S ws fs->Qe (⟨PySem.PyData.keyHash P x,.str x t,u⟩::ws)):Qe es:=h.inv Qe k
end
@[elab_as_elim] theorem dn.RX(h:dn P S us [])(k:Qs []):Qs us:=bA (show us=_ from h.inv)▸k
@[elab_as_elim] theorem dn.RC{x:V}(h:dn P S us (x::xs))(k:∀u ws,VR P S u x->dn P S ws xs->Qs (u::ws)):Qs us:=h.inv Qs k
@[elab_as_elim] theorem dn.TX{x:V}(h:dn P S us [x])(k:∀u,VR P S u x->Qs [u]):Qs us:=h.RC λ u Z a r=>r.RX (k u a)
@[elab_as_elim] theorem dn.U5{x y:V}(h:dn P S us [x,y])(k:∀u w,VR P S u x->VR P S w y->Qs [u,w]):Qs us:=h.RC λ u Z a r=>r.TX λ w b=>k u w a b
@[elab_as_elim] theorem dn.U6{x y z:V}(h:dn P S us [x,y,z])(k:∀u w t,VR P S u x->VR P S w y->VR P S t z->Qs [u,w,t]):Qs us:=h.RC λ u Z a r=>r.U5 λ w t b c=>k u w t a b c
end
section
variable{P:bS}
@[elab_as_elim] theorem dn.ind{M:List Value->List V->Prop}(h:dn P S us vs)(nil:M [] [])(cons:∀u us v vs,VR P S u v->dn P S us vs->M us vs->M (u::us) (v::vs)):M us vs:=
 dn.rec (motive_1:=λ Z Z Z=>True) (motive_2:=λ us vs Z=>M us vs) (motive_3:=λ Z Z Z=>True) (motive_4:=λ Z Z Z=>True) trivial (λ Z=>trivial) (λ Z Z=>trivial) (λ Z Z=>trivial) (λ Z Z Z=>trivial) (λ Z Z Z=>trivial) (λ Z Z Z Z=>trivial)
  (λ Z Z Z Z=>trivial) (λ Z=>trivial) (λ Z=>trivial) nil (λ a r Z k=>cons _ _ _ _ a r k) trivial (λ Z Z Z Z Z Z Z=>trivial) trivial (λ Z Z Z Z=>trivial) h
@[elab_as_elim] theorem ge.ind{M:List bN->List (V×V)->Prop}(h:ge P S es kvs)(nil:M [] [])(cons:∀(ku u:Value) (es:List bN) (k v:V) (kvs:List (V×V)),VR P S ku k->VR P S u v->ge P S es kvs->M es kvs->M (⟨jI P k,ku,u⟩::es) ((k,v)::kvs)):M es kvs:=
 ge.rec (motive_1:=λ Z Z Z=>True) (motive_2:=λ Z Z Z=>True) (motive_3:=λ es kvs Z=>M es kvs) (motive_4:=λ Z Z Z=>True) trivial (λ Z=>trivial) (λ Z Z=>trivial) (λ Z Z=>trivial) (λ Z Z Z=>trivial) (λ Z Z Z=>trivial) (λ Z Z Z Z=>trivial)
  (λ Z Z Z Z=>trivial) (λ Z=>trivial) (λ Z=>trivial) trivial (λ Z Z Z Z=>trivial) nil (λ e a b r Z Z k=>e▸cons _ _ _ _ _ _ a b r k) trivial (λ Z Z Z Z=>trivial) h
@[elab_as_elim] theorem g_.ind{M:List bN->List (Str×V)->Prop}(h:g_ P S es fs)(nil:M [] [])(cons:∀(x:Str) (t:Jm) (u:Value) (es:List bN) (v:V) (fs:List (Str×V)),VR P S u v->g_ P S es fs->M es fs->M (⟨PySem.PyData.keyHash P x,.str x t,u⟩::es) ((x,v)::fs)):M es fs:=
 g_.rec (motive_1:=λ Z Z Z=>True) (motive_2:=λ Z Z Z=>True) (motive_3:=λ Z Z Z=>True) (motive_4:=λ es fs Z=>M es fs) trivial (λ Z=>trivial) (λ Z Z=>trivial) (λ Z Z=>trivial) (λ Z Z Z=>trivial) (λ Z Z Z=>trivial) (λ Z Z Z Z=>trivial)
  (λ Z Z Z Z=>trivial) (λ Z=>trivial) (λ Z=>trivial) trivial (λ Z Z Z Z=>trivial) trivial (λ Z Z Z Z Z Z Z=>trivial) nil (λ a r Z k=>cons _ _ _ _ _ _ a r k) h
theorem dn.length(h:dn P S us vs):us.length=vs.length:=h.ind rfl λ Z Z Z Z Z Z k=>congrArg j8 k
theorem dn.append{b:List Value}{c:List V}(h:dn P S us vs)(k:dn P S b c):dn P S (us++b) (vs++c):=h.ind k λ Z Z Z Z a Z k=>.cons a k
theorem dn.get(h:dn P S us vs){i:Nat}{v:V}(e:vs[i]? =ah v):∃u,us[i]? =ah u/\VR P S u v:=
 dn.ind (M:=λ us vs=>∀(i:Nat) (v:V),vs[i]? =ah v->∃u,us[i]? =ah u/\VR P S u v) h (λ Z Z e=>nomatch e) (λ u Z Z Z a Z k i v e=>by
  cases i with
  |zero=>exact ⟨u,rfl,(Option.some.inj e)▸a⟩
  |succ i=>exact k i v e) i v e
theorem dn.get'(h:dn P S us vs){i:Nat}{u:Value}(e:us[i]? =ah u):∃v,vs[i]? =ah v/\VR P S u v:=
 dn.ind (M:=λ us vs=>∀(i:Nat) (u:Value),us[i]? =ah u->∃v,vs[i]? =ah v/\VR P S u v) h (λ Z Z e=>nomatch e) (λ Z Z v Z a Z k i u e=>by
  cases i with
  |zero=>exact ⟨v,rfl,(Option.some.inj e)▸a⟩
  |succ i=>exact k i u e) i u e
theorem dn.snoc{v:V}(h:dn P S us vs)(k:VR P S u v):dn P S (us++[u]) (vs++[v]):=h.append (.cons k .nil)
theorem dn.set{v:V}(h:dn P S us vs)(k:VR P S u v):∀i:Nat,dn P S (us.set i u) (vs.set i v):=
 h.ind (λ Z=>.nil) λ Z Z Z Z a r b i=>by
  cases i with
  |zero=>exact .cons k r
  |succ i=>exact .cons a (b i)
theorem dn.take(h:dn P S us vs):∀n:Nat,dn P S (us.take n) (vs.take n):=
 h.ind (λ n=>by cases n<;>exact .nil) λ Z Z Z Z a Z b n=>by
  cases n with
  |zero=>exact .nil
  |succ n=>exact .cons a (b n)
theorem dn.drop(h:dn P S us vs):∀n:Nat,dn P S (us.drop n) (vs.drop n):=
 h.ind (λ n=>by cases n<;>exact .nil) λ Z Z Z Z a r b n=>by
  cases n with
  |zero=>exact .cons a r
  |succ n=>exact b n
theorem dn.SG:∀{vs:List V},us.length=vs.length->(∀(i:Nat) (u:Value) (v:V),us[i]? =ah u->vs[i]? =ah v->VR P S u v)->dn P S us vs:=by
 induction us with
 |nil=>intro vs c _;simp only[ic.mp c.symm];exact .nil
 |cons u us d=>
  intro vs c h;cases vs with
  |nil=>cases c
  |cons v vs=>exact .cons (h 0 u v rfl rfl) (d (Nat.succ.inj c) λ i u v a b=>h (i+1) u v a b)
theorem ge.length{us:List bN}{vs:List (V×V)}(h:ge P S us vs):us.length=vs.length:=h.ind rfl λ Z Z Z Z Z Z Z Z Z k=>congrArg j8 k
theorem ge.append{us c:List bN}{vs d:List (V×V)}(h:ge P S us vs)(k:ge P S c d):ge P S (us++c) (vs++d):=h.ind k λ Z Z Z Z Z Z a b Z k=>.cons rfl a b k
end
inductive MO where
 |list (xs:List V)
 |dict (kvs:List (V×V))
 |inst (C d:aG) (fs:List (Str×V))
 |exc (C:aG) (d:Option aG) (vs:Array Value) (fs:List (Str×V))
noncomputable def MO.ctorIdx(v:MO):Nat:=MO.casesOn v (λ Z=>0) (λ Z=>1) (λ Z Z Z=>2) (λ Z Z Z Z=>3)
noncomputable abbrev Mu:=List (aG×MO)
variable{J1 l' J J2 J':Mu}{post' post:V->Mu->Prop}
noncomputable def ch:aG×MO->List aG
 |(a,.list _)=>[a]
 |(a,.dict _)=>[a]
 |(a,.inst _ d _)=>[a,d]
 |(a,.exc _ ai _ _)=>[a]
 |(a,.exc _ (ah d) _ _)=>[a,d]
noncomputable def addrs(J:Mu):List aG:=J.flatMap ch
inductive MR(P:bS)(S:b9)(h:Heap):aG×MO->Prop
 |list {a:aG} {vs:List Value} {n:Nat} {xs:List V}:h.get? a=ah (listOf vs.toArray n)->dn P S vs xs->MR P S h (a,.list xs)
 |dict {a:aG} {es:List bN} {n:Nat} {kvs:List (V×V)}:(a==dD)=ao->h.get? a=ah (dictOf es n)->ge P S es kvs->MR P S h (a,.dict kvs)
 |inst {a C d:aG} {es:List bN} {n:Nat} {fs:List (Str×V)}:h.get? a=ah (io C d)->h.get? d=ah (dictOf es n)->g_ P S es fs->MR P S h (a,.inst C d fs)
 |S_ {a C:aG} {vs:Array Value}:h.get? a=ah {cls:=.ref C,data:=.fields vs}->MR P S h (a,.exc C ai vs [])
 |S9 {a C d:aG} {vs:Array Value} {es:List bN} {n:Nat} {fs:List (Str×V)}:h.get? a=ah {cls:=.ref C,dict:=ah d,data:=.fields vs}->h.get? d=ah (dictOf es n)->g_ P S es fs->MR P S h (a,.exc C (ah d) vs fs)
noncomputable def Qz(P:bS)(S:b9)(h:Heap)(a:aG):MO->Prop
 |.list xs=>∀Q:Prop,(∀vs n,h.get? a=ah (listOf (dr vs) n)->dn P S vs xs->Q)->Q
 |.dict kvs=>∀Q:Prop,(∀es n,(a==dD)=ao->h.get? a=ah (dictOf es n)->ge P S es kvs->Q)->Q
 |.inst C d fs=>∀Q:Prop,(∀es n,h.get? a=ah (io C d)->h.get? d=ah (dictOf es n)->g_ P S es fs->Q)->Q
 |.exc ..=>True
theorem MR.inv{P:bS}{h:Heap}{p:aG×MO}(m:MR P S h p):Qz P S h p.1 p.2:=
 MR.rec (motive:=λ p Z=>Qz P S h p.1 p.2) (λ a r Z k=>k _ _ a r) (λ q a r Z k=>k _ _ q a r) (λ a b r Z k=>k _ _ a b r) (λ Z=>trivial) (λ Z Z Z=>trivial) m
section
variable{P:bS}{h:Heap}{a:aG}{Q:Prop}
theorem MR.listE(m:MR P S h (a,.list xs))(k:∀vs n,h.get? a=ah (listOf (dr vs) n)->dn P S vs xs->Q):Q:=m.inv Q k
theorem MR.R9(m:MR P S h (a,.dict kvs))(k:∀es n,(a==dD)=ao->h.get? a=ah (dictOf es n)->ge P S es kvs->Q):Q:=m.inv Q k
theorem MR.instE{d:aG}(m:MR P S h (a,.inst C d fs))(k:∀es n,h.get? a=ah (io C d)->h.get? d=ah (dictOf es n)->g_ P S es fs->Q):Q:=m.inv Q k
end
theorem MR.mono{P:bS}{T:b9}{h:Heap}(x:S.le T){p:aG×MO}(k:∀b∈ch p,∀o,h.get? b=ah o->h'.get? b=ah o)(m:MR P S h p):MR P T h' p:=by
 cases m with
 |list a r=>exact .list (k _ (by simp[ch]) _ a) (r.mono x)
 |dict q a r=>exact .dict q (k _ (by simp[ch]) _ a) (r.mono x)
 |inst a b r=>exact .inst (k _ (by simp[ch]) _ a) (k _ (by simp[ch]) _ b) (r.mono x)
 |S_ a=>exact .S_ (k _ (by simp[ch]) _ a)
 |S9 a b r=>exact .S9 (k _ (by simp[ch]) _ a) (k _ (by simp[ch]) _ b) (r.mono x)
set_option genInjectivity true in
inductive NK where
 |loc|RJ (c:aG)|glob|other
variable{T:(Str->aG)->List (Str×NK)}
noncomputable def NK.ctorIdx(v:NK):Nat:=NK.casesOn v 0 (λ Z=>1) 2 3
structure GC where
 prog:kt
 w:uY
 K:gb
 p:kt
 loose:List Str
 Tg:ExcName->Option Value
 mg:Str->Option Value
 mb:Str->Option Value
variable{G:GC}
structure FC where
 G:GC
 A:Around
 A₀:Around
 base:Heap
 outer:List Env
 g:Heap
 R2:Env
 fL:aG
 env:Env
 h₀:Heap
 S₀:b9
 Se:List aG
 ns:List (Str×NK)
 own:List aG
 Sd:aQ
 dep:Nat
variable{O:FC}
noncomputable def FC.P(O:FC):bS:=O.G.w.params
noncomputable def FC.fp(O:FC):List aG:=O.env.locals::O.own
structure FC.Ok(O:FC):Prop where
 below:Below O.A₀ O.base O.outer O.g
 SA:O.G.K.In O.g
 top:Top O.G.p O.G.loose O.G.Tg O.G.mg O.G.mb O.g
 frames:O.A.frames=ah (O.R2::O.outer)
 R7:O.R2.frame=ah O.fL
 Tw:O.R2.scope.kind=.function
 above:O.g.objs.size<=O.fL
 SP:∀b o,O.g.get? b=ah o->O.h₀.get? b=ah o/\b∉O.Se
 s0:∀b o,O.S₀ b o->O.h₀.get? b=ah o/\b∉O.Se
 hand:O.A.handled=ai
 depth:O.A.depth+O.dep<900
 units:O.A.units+40*O.dep+100<fe
 kind:O.env.scope.kind=.function
 globals:O.env.globals=b8
 loc:∀(i:Nat) (x:Str),O.ns[i]? =ah (x,NK.loc)->O.env.kindOf x=ah .local
 RJ:∀(i:Nat) (x:Str) (c:aG),O.ns[i]? =ah (x,NK.RJ c)->O.env.kindOf x=ah .cell/\O.env.cells.lookup x=ah c
 glob:∀(i:Nat) (x:Str),O.ns[i]? =ah (x,NK.glob)->O.env.kindOf x=ah .globalImplicit
 names:(O.ns.map (·.1)).Nodup
 cells:∀(i j:Nat) (x y:Str) (c:aG),O.ns[i]? =ah (x,NK.RJ c)->O.ns[j]? =ah (y,NK.RJ c)->i=j
structure St where
 vals:List (Option V)
 mu:Mu
variable{Y Y':St}{Q:V->St->Prop}
noncomputable def Ht(P:bS)(S:b9)(h:Heap)(m:Str->Option Value)(x:Str):NK->V->Prop
 |.loc,v=>∃u,m x=ah u/\VR P S u v
 |.RJ c,v=>∃u,h.IsCell c (ah u)/\VR P S u v
 |_,_=>False
structure cS(O:FC)(Y:St)(Kp:b9)(Jj:List (aG×Obj))(s:aQ):Prop where
 vars:∃m,s.heap.Ns O.env.locals m/\∀(i:Nat) (x:Str) (k:NK) (v:V),O.ns[i]? =ah (x,k)->Y.vals[i]? =ah (ah v)->Ht O.P Kp s.heap m x k v
 Ui:∀(i:Nat) (x:Str) (c:aG),O.ns[i]? =ah (x,NK.RJ c)->∃u,s.heap.IsCell c u
 mu:∀p∈Y.mu,MR O.P Kp s.heap p
 nd:(O.fp++addrs Y.mu).Nodup
 fresh:∀b∈O.fp++addrs Y.mu,b∈O.Se\/O.h₀.get? b=ai
 live:∀b∈O.fp++addrs Y.mu,∃o,s.heap.get? b=ah o
 kp:∀b o,Kp b o->s.heap.get? b=ah o/\b∉O.fp++addrs Y.mu/\(O.S₀ b o\/O.h₀.get? b=ai)
 ghost:(Jj.map (·.1)).Nodup/\∀p∈Jj,s.heap.get? p.1=ah p.2/\p.1∉O.fp++addrs Y.mu/\(∀o,¬Kp p.1 o)/\O.h₀.get? p.1=ai/\∃vs,p.2.data=.fields vs
 old:∀b o,O.h₀.get? b=ah o->b∉O.Se->s.heap.get? b=ah o
 frame:∃m,s.heap.Ns O.fL m
 Y2:O.fL∉addrs Y.mu
 Vd:∀b o,O.G.K.lookup b=ah o->Kp b o
 alive:∀b o,O.h₀.get? b=ah o->∃o',s.heap.get? b=ah o'
 st:s.gens=O.Sd.gens/\s.drawn=O.Sd.drawn/\s.os=O.Sd.os
theorem cS.fr(R:cS O Y Kp Jj s)(ok:O.Ok):∃m,Fr O.g O.fL s.heap m:=
 by refine ze R.frame λ m h=>?_;exact ⟨m,h,λ b o e=>by refine za (ok.SP b o e) λ a c=>?_;exact R.old b o a c,ok.above⟩
theorem cS.SA(R:cS O Y Kp Jj s)(ok:O.Ok):O.G.K.In s.heap:=
 ok.SA.keeps λ b o e=>by refine za (ok.SP b o e) λ a c=>?_;exact R.old b o a c
theorem cS.keeps{O:FC}{Y:St}{Kp:b9}{Jj:List (aG×Obj)}{s:aQ}(R:cS O Y Kp Jj s){h':Heap}{tk:Nat}(k:∀b o,s.heap.get? b=ah o->h'.get? b=ah o):
 cS O Y Kp Jj {s with heap:=h',toks:=tk}:=by
 obtain ⟨⟨m,D,F⟩,H,E,nd,z,G,t,q,g,⟨w,A⟩,f,l,al,st⟩:=R;refine ⟨⟨m,D.keeps k,λ i x kk v a b=>?_⟩,λ i x c e=>by refine ze (H i x c e) λ u j=>?_;exact ⟨u,j.keeps k⟩,λ p d=>(E p d).mono (.refl _) λ b Z o e=>k b o e,nd,z,λ b y=>by refine ze (G b y) λ o B=>?_;exact ⟨o,k _ _ B⟩,λ b o e=>⟨k _ _ (t b o e).1,(t b o e).2⟩,
  ⟨q.1,λ p d=>⟨k _ _ (q.2 p d).1,(q.2 p d).2⟩⟩,λ b o e n=>k _ _ (g b o e n),⟨w,A.keeps k⟩,f,l,λ b o e=>by refine ze (al b o e) λ C h=>?_;exact ⟨C,k _ _ h⟩,st⟩
 have:=F i x kk v a b;cases kk with
 |loc=>exact this
 |RJ c=>exact let ⟨u,j,r⟩:=this;⟨u,j.keeps k,r⟩
 |glob=>exact this
 |other=>exact this
theorem cS.toks(R:cS O Y Kp Jj s)(tk:Nat):cS O Y Kp Jj {s with toks:=tk}:=R.keeps (h':=s.heap) λ Z Z e=>e
theorem cS.Wr{O:FC}{Y:St}{Kp:b9}{Jj:List (aG×Obj)}{s:aQ}(R:cS O Y Kp Jj s){a:aG}{o:Obj}(E:s.heap.get? a=ah o)(C:a∉O.fp++addrs Y.mu)(A:O.h₀.get? a=ai)(B:∀p∈Jj,p.1≠a):
 cS O Y (Kp.add a o) Jj s:=by
 obtain ⟨⟨m,D,F⟩,H,n,nd,z,G,y,f,k,g,j,t,al,st⟩:=R;have l:=b9.RN Kp a o;refine ⟨⟨m,D,λ i x kk v e b=>?_⟩,H,λ p d=>(n p d).mono l λ Z Z Z e=>e,nd,z,G,λ b w e=>?_,⟨f.1,λ p d=>⟨(f.2 p d).1,(f.2 p d).2.1,λ w h=>h.elim ((f.2 p d).2.2.1 w) λ q=>B p d q.1,(f.2 p d).2.2.2⟩⟩,k,g,j,λ b o e=>.inl (t b o e),al,st⟩
 ·have:=F i x kk v e b;cases kk with
  |loc=>exact let ⟨u,hu,r⟩:=this;⟨u,hu,r.mono l⟩
  |RJ c=>exact let ⟨u,hu,r⟩:=this;⟨u,hu,r.mono l⟩
  |glob=>exact this
  |other=>exact this
 ·rcases e with e|⟨rfl,rfl⟩
  ·exact y b w e
  ·exact ⟨E,C,.inr A⟩
inductive Pt{α β:Type}(O:FC)(Jj:List (aG×Obj))(Kp:b9)(R:b9->α->β->Prop)(Q:β->St->Prop)(u:α)(s':aQ):Prop
 |mk (b:β) (Y':St) (WT:b9) (le:Kp.le WT) (rel:cS O Y' WT Jj s') (r:R WT u b) (q:Q b Y')
theorem Pt.on{R:b9->α->β->Prop}{Q:β->St->Prop}{u:α}{g:Prop}(h:Pt O Jj Kp R Q u s')(k:∀(b:β) (Y':St) (K:b9),Kp.le K->cS O Y' K Jj s'->R K u b->Q b Y'->g):g:=by cases h;exact k _ _ _ ‹_› ‹_› ‹_› ‹_›
noncomputable def X(O:FC)(Ex:Value->aQ->Prop){α β:Type}(t:Sem α)(R:b9->α->β->Prop)(Q:β->St->Prop)(Y:St):Prop:=
 ∀Kp Jj s,cS O Y Kp Jj s->aW (bn O.G.prog O.G.w) O.A t (Pt O Jj Kp R Q) Ex s
inductive tG(P:bS)(S:b9):Flow->Option (Option V)->Prop
 |next:tG P S .next ai
 |ret {u:Value} {v:V}:VR P S u v->tG P S (.ret u) (ah (ah v))
 |cont:tG P S .cont (ah ai)
noncomputable abbrev XV(O:FC)(Ex:Value->aQ->Prop)(t:Sem Value)(Q:V->St->Prop)(Y:St):Prop:=X O Ex t (VR O.P) Q Y
noncomputable abbrev XL(O:FC)(Ex:Value->aQ->Prop)(t:Sem (List Value))(Q:List V->St->Prop)(Y:St):Prop:=X O Ex t (dn O.P) Q Y
noncomputable abbrev XF(O:FC)(Ex:Value->aQ->Prop)(t:Sem Flow)(Q:Option (Option V)->St->Prop)(Y:St):Prop:=X O Ex t (tG O.P) Q Y
noncomputable abbrev XB(O:FC)(Ex:Value->aQ->Prop)(t:Sem Bool)(Q:Bool->St->Prop)(Y:St):Prop:=X O Ex t (λ Z u b=>u=b) Q Y
theorem X.mono{t:Sem α}{R:b9->α->β->Prop}{Q i:β->St->Prop}(h:X O Ex t R Q Y)(k:∀b Y,Q b Y->i b Y):X O Ex t R i Y:=
 λ Kp Jj s r=>aY (h Kp Jj s r) (λ Z Z g=>by obtain ⟨b,Y',f,a,c,d,e⟩:=g;exact ⟨b,Y',f,a,c,d,k _ _ e⟩) λ Z Z e=>e
noncomputable def St.set(Y:St)(i:Nat)(v:V):St:=⟨Y.vals.set i (ah v),Y.mu⟩
theorem lp{h:Heap}{c L:aG}{u:Option Value}{m:Str->Option Value}(f:h.IsCell c u)(g:h.Ns L m):c≠L:=by rintro rfl;refine b5 f λ o e d=>?_;refine kw g λ i es ep b a Z=>?_;rw[e]at b;cases b;rw[d]at a;cases a
theorem jf{h:Heap}{a c:aG}{u:Option Value}(f:Heap.SameBut a h h')(d:c≠a)(x:h.IsCell c u):h'.IsCell c u:=
 by refine b5 x λ o e b=>?_;exact ⟨o,(f.2 c d).trans e,b⟩
theorem cS.TQ(R:cS O Y Kp Jj s){i:Nat}{x:Str}{u:Value}{v:V}(hi:O.ns[i]? =ah (x,.loc))(U:VR O.P Kp u v)(ok:O.Ok)
 {h':Heap} {tk:Nat} {m:Str->Option Value} (r:s.heap.Ns O.env.locals m) (T:∀(i:Nat) (x:Str) (k:NK) (v:V),O.ns[i]? =ah (x,k)->Y.vals[i]? =ah (ah v)->Ht O.P Kp s.heap m x k v)
 (z:h'.Ns O.env.locals (λ y=>if y=x then ah u else m y)) (f:Heap.SameBut O.env.locals s.heap h'):cS O (Y.set i v) Kp Jj {s with heap:=h',toks:=tk}:=by
 obtain ⟨-,X,F,nd,L,W,B,A,d,⟨N,P⟩,D,H,al,st⟩:=R;have J:O.env.locals∈O.fp++addrs Y.mu:=by simp[FC.fp]
 have M:∀b,b∉O.fp++addrs Y.mu->b≠O.env.locals:=λ b g e=>g (e▸J);have E:∀b∈addrs Y.mu,b≠O.env.locals:=λ b g e=>by have:=nd;simp only[FC.fp,dt,bC,aM,not_or]at this;exact this.1.2 (e▸g)
 refine ⟨⟨_,z,λ j y kk w a b=>?_⟩,λ j y c e=>by refine ze (X j y c e) λ q I=>?_;exact ⟨q,jf f (lp I r) I⟩,λ p h=>(F p h).mono (.refl _) λ b g o e=>(f.2 b (E b (bX.mpr ⟨p,h,g⟩))).trans e,nd,L,λ b g=>?_,λ b o e=>⟨(f.2 b (M b (B b o e).2.1)).trans (B b o e).1,(B b o e).2⟩,
  ⟨A.1,λ p h=>⟨(f.2 _ (M _ (A.2 p h).2.1)).trans (A.2 p h).1,(A.2 p h).2⟩⟩,λ b o e n=>?_,?_,D,H,λ b o e=>?_,st⟩
 ·simp only[St.set,ew]at b;split at b
  ·rename_i Vo;subst Vo;split at b
   ·cases b;rw[hi]at a;cases a;exact ⟨u,by simp,U⟩
   ·exact nomatch b
  ·rename_i Vo;have d:=T j y kk w a b;cases kk with
   |loc=>
    refine b5 d λ q t C=>?_;have Q:y≠x:=by
     rintro rfl;have K:(O.ns.map (·.1))[i]? =ah y:=by (refine (aN).trans ?_;rw[hi]);rfl
     exact Vo ((fk (bh.mp K).1 ok.names).mp (K.trans (show (O.ns.map (·.1))[j]? =ah y by (refine (aN).trans ?_;rw[a]);rfl).symm))
    exact ⟨q,by simp[Q,t],C⟩
   |RJ c=>exact let ⟨q,t,C⟩:=d;⟨q,jf f (lp t r) t,C⟩
   |glob=>exact d
   |other=>exact d
 ·by_cases e:b=O.env.locals
  ·subst e;refine mN z λ o Z Z l Z=>?_;exact ⟨o,l⟩
  ·refine ze (W b g) λ o l=>?_;exact ⟨o,(f.2 b e).trans l⟩
 ·refine (f.2 b ?_).trans (d b o e n);rintro rfl;rcases L _ J with q|q
  ·exact n q
  ·simp only[q]at e;exact nomatch e
 ·by_cases e:O.fL=O.env.locals
  ·exact ⟨_,e▸z⟩
  ·exact ⟨N,P.sameBut f e⟩
 ·refine ze (al b o e) λ S G=>?_;by_cases e:b=O.env.locals
  ·subst e;refine mN z λ o Z Z l Z=>?_;exact ⟨o,l⟩
  ·exact ⟨S,(f.2 b e).trans G⟩
theorem cS.U9(R:cS O Y Kp Jj s){i:Nat}{x:Str}{c:aG}{u:Value}{v:V}(hi:O.ns[i]? =ah (x,.RJ c))(g:c∈O.own)(S:VR O.P Kp u v)(ok:O.Ok)
 {h':Heap} {tk:Nat} (t:h'.IsCell c (ah u)) (f:Heap.SameBut c s.heap h'):cS O (Y.set i v) Kp Jj {s with heap:=h',toks:=tk}:=by
 obtain ⟨⟨m,l,Q⟩,M,E,nd,J,T,A,z,d,⟨N,K⟩,B,G,al,st⟩:=R;have I:c∈O.fp++addrs Y.mu:=by simp[FC.fp,g]
 have L:∀b,b∉O.fp++addrs Y.mu->b≠c:=λ b h e=>h (e▸I);have D:∀b∈addrs Y.mu,b≠c:=λ b h e=>by rw[aV]at nd;exact nd.2.2 c (by simp[FC.fp,g]) b h e.symm
 refine ze (M i x c hi) λ U r=>?_;refine ⟨⟨m,l.sameBut f (Ne.symm (lp r l)),λ j y kk w a b=>?_⟩,λ j y C e=>?_,λ p k=>(E p k).mono (.refl _) λ b h o e=>(f.2 b (D b (bX.mpr ⟨p,k,h⟩))).trans e,nd,J,λ b h=>?_,λ b o e=>⟨(f.2 b (L b (A b o e).2.1)).trans (A b o e).1,(A b o e).2⟩,
  ⟨z.1,λ p k=>⟨(f.2 _ (L _ (z.2 p k).2.1)).trans (z.2 p k).1,(z.2 p k).2⟩⟩,λ b o e n=>?_,⟨N,K.sameBut f (Ne.symm (lp r K))⟩,B,G,λ b o e=>?_,st⟩
 ·simp only[St.set,ew]at b;split at b
  ·rename_i Vo;subst Vo;split at b
   ·cases b;rw[hi]at a;cases a;exact ⟨u,t,S⟩
   ·exact nomatch b
  ·rename_i Vo;have d:=Q j y kk w a b;cases kk with
   |loc=>exact d
   |RJ C=>exact let ⟨q,h1,h2⟩:=d;⟨q,jf f (by rintro rfl;exact Vo (ok.cells i j x y _ hi a)) h1,h2⟩
   |glob=>exact d
   |other=>exact d
 ·by_cases H:C=c
  ·subst H;exact ⟨_,t⟩
  ·exact let ⟨q,hq⟩:=M j y C e;⟨q,jf f H hq⟩
 ·by_cases e:b=c
  ·cases e;refine b5 t λ o g Z=>?_;exact ⟨o,g⟩
  ·refine ze (T b h) λ o g=>?_;exact ⟨o,(f.2 b e).trans g⟩
 ·refine (f.2 b ?_).trans (d b o e n);rintro rfl;rcases J _ I with q|q
  ·exact n q
  ·rw[q]at e;exact nomatch e
 ·refine ze (al b o e) λ P F=>?_;by_cases e:b=c
  ·cases e;refine b5 t λ o g Z=>?_;exact ⟨o,g⟩
  ·exact ⟨P,(f.2 b e).trans F⟩
inductive r5(O:FC)(i:Nat)(x:Str):Prop
 |loc:O.ns[i]? =ah (x,.loc)->r5 O i x
 |RJ {c:aG}:O.ns[i]? =ah (x,.RJ c)->r5 O i x
inductive nx(O:FC)(i:Nat)(x:Str):Prop
 |loc:O.ns[i]? =ah (x,.loc)->nx O i x
 |RJ {c:aG}:O.ns[i]? =ah (x,.RJ c)->c∈O.own->nx O i x
theorem yh{v:V}(ok:O.Ok)(a:r5 O i x)(e:Y.vals[i]? =ah (ah v))(R:cS O Y Kp Jj s){Q:Value->aQ->Prop}(h:∀u,VR O.P Kp u v->Q u s):aW (bn O.G.prog O.G.w) O.A (loadName O.env x) Q Ex s:=by
 refine b5 R.vars λ m f b=>?_;cases a with
 |loc a=>refine b5 (b i x _ v a e) λ u d c=>?_;exact gQ ok.kind (ok.loc i x a) f d (h u c)
 |RJ a=>refine b5 (b i x _ v a e) λ u d c=>?_;have:=ok.RJ i x _ a;exact wpAny_loadName_cell ok.kind this.1 this.2 d (h u c)
theorem HK{i:Nat}{x:Str}{v:V}{Q:V->St->Prop}(ok:O.Ok)(c:r5 O i x)(a:Y.vals[i]? =ah (ah v))(h:Q v Y):
 XV O Ex (loadName O.env x) Q Y:=λ Kp Jj s R=>yh ok c a R λ u b=>⟨v,Y,Kp,.refl _,R,b,h⟩
theorem qC{v:V}(ok:O.Ok)(a:nx O i x)(R:cS O Y Kp Jj s)(f:VR O.P Kp u v){Q:Unit->aQ->Prop}(h:∀s',cS O (Y.set i v) Kp Jj s'->Q () s'):aW (bn O.G.prog O.G.w) O.A (storeName O.env x u) Q Ex s:=by
 cases a with
 |loc a=>refine b5 (id R.vars) λ m g e=>?_;exact nJ (ok.loc i x a) g (λ h' d b=>h _ (R.TQ a f ok g e d b)) (by rw[ok.kind];rfl)
 |RJ a j=>refine ze (R.Ui i x _ a) λ k c=>?_;have:=ok.RJ i x _ a;exact wpAny_storeName_cell ok.kind this.1 this.2 c λ h' d b=>h _ (R.U9 a j f ok d b)
noncomputable def iS(x:Str):Bool:=!(x==("__debug__":Str))
theorem Bk(i:Nat){x:Str}{pos:gY}{v:V}{Q:V->St->Prop}(ok:O.Ok)(b:r5 O i x)(a:Y.vals[i]? =ah (ah v))(h:Q v Y)(hd:iS x=aj):
 XV O Ex (bw (.Name x pos) O.env) Q Y:=λ Kp Jj s R=>qw (HK ok b a h Kp Jj s R) (by simpa[iS]using hd)
theorem dN{i:Int}(h:Q (.int i) Y):XV O Ex (bw (.Constant (.int i) k pos) O.env) Q Y:=
 λ Kp Z Z R=>qx ⟨_,Y,Kp,.refl _,R.toks _,.int _ _,h⟩
theorem c4(h:Q (.str x) Y):XV O Ex (bw (.Constant (.str x) k pos) O.env) Q Y:=
 λ Kp Z Z R=>wpAny_Constant_str ⟨_,Y,Kp,.refl _,R.toks _,.str _ _,h⟩
theorem Bj(h:Q .none Y):XV O Ex (bw (.Constant .none k pos) O.env) Q Y:=
 λ Kp Z Z R=>Gf ⟨_,Y,Kp,.refl _,R,.none,h⟩
theorem i3{b:Bool}(h:Q (.bool b) Y):XV O Ex (bw (.Constant (.bool b) k pos) O.env) Q Y:=
 λ Kp Z Z R=>wpAny_Constant_bool ⟨_,Y,Kp,.refl _,R,.bool _,h⟩
theorem X.Rr{t:Sem α}{R:b9->α->β->Prop}{Q:β->St->Prop}{P:α->aQ->Prop}(h:X O Ex t R Q Y)(r:cS O Y Kp Jj s)(k:∀u s' b Y' f,Kp.le f->cS O Y' f Jj s'->R f u b->Q b Y'->P u s'):aW (bn O.G.prog O.G.w) O.A t P Ex s:=
 aY (h Kp Jj s r) (λ u s' g=>by obtain ⟨b,Y',f,a,c,d,e⟩:=g;exact k u s' b Y' f a c d e) λ Z Z e=>e
noncomputable def iF(O:FC)(Ex:Value->aQ->Prop){β:Type}{α:Type}(t:Value->Value->Sem α)(R:b9->α->β->Prop)(a b:V)(Q:β->St->Prop)(Y:St):Prop:=
 ∀Kp Jj s ua ub,cS O Y Kp Jj s->VR O.P Kp ua a->VR O.P Kp ub b->aW (bn O.G.prog O.G.w) O.A (t ua ub) (Pt O Jj Kp R Q) Ex s
noncomputable def NS(O:FC)(Ex:Value->aQ->Prop){β:Type}{α:Type}(t:Value->Sem α)(R:b9->α->β->Prop)(a:V)(Q:β->St->Prop)(Y:St):Prop:=
 ∀Kp Jj s ua,cS O Y Kp Jj s->VR O.P Kp ua a->aW (bn O.G.prog O.G.w) O.A (t ua) (Pt O Jj Kp R Q) Ex s
noncomputable def kR(O:FC)(Ex:Value->aQ->Prop)(r:Expr)(Q:V->V->St->Prop):V->St->Prop:=λ a Y=>XV O Ex (bw r O.env) (Q a) Y
noncomputable def Jq(O:FC)(Ex:Value->aQ->Prop)(t:Value->Value->Sem Value)(Q:V->St->Prop):V->V->St->Prop:=λ a b Y=>iF O Ex t (VR O.P) a b Q Y
inductive kB(Q:Bool->St->Prop)(c:V)(Y:St):Prop
 |mk (q:Bool) (e:c=.bool q) (h:Q q Y)
noncomputable def kU(O:FC)(Ex:Value->aQ->Prop)(op:UnaryOp)(Q:V->St->Prop):V->St->Prop:=λ a Y=>NS O Ex (unaryOp op) (VR O.P) a Q Y
noncomputable def kT(O:FC)(Ex:Value->aQ->Prop)(Q:Bool->St->Prop):V->St->Prop:=λ v Y=>NS O Ex Hy (λ Z u b=>u=b) v Q Y
noncomputable def PU(O:FC)(Ex:Value->aQ->Prop)(body orelse:Expr)(Q:V->St->Prop):Bool->St->Prop:=λ b Y=>if b=aj then XV O Ex (bw body O.env) Q Y else XV O Ex (bw orelse O.env) Q Y
noncomputable def kN(Q:Bool->St->Prop):Bool->St->Prop:=λ c Y=>Q (!c) Y
noncomputable def PX(O:FC)(Ex:Value->aQ->Prop)(rest:List Expr)(pos:gY)(whole:Sem Value)(Q:Bool->St->Prop):Bool->St->Prop:=λ c Y=>if c=aj then XB O Ex (ez (.BoolOp .And rest pos) O.env whole) Q Y else Q ao Y
noncomputable def PQ(O:FC)(Ex:Value->aQ->Prop)(rest:List Expr)(pos:gY)(whole:Sem Value)(Q:Bool->St->Prop):Bool->St->Prop:=λ c Y=>if c=aj then Q aj Y else XB O Ex (ez (.BoolOp .Or rest pos) O.env whole) Q Y
noncomputable def IA(O:FC)(Ex:Value->aQ->Prop)(rest:List Stmt)(Q:Option (Option V)->St->Prop):Option (Option V)->St->Prop:=λ f Y=>match f with|none=>XF O Ex (eL rest O.env) Q Y|some f=>Q (ah f) Y
noncomputable def we(i:Nat)(Q:Option (Option V)->St->Prop):V->St->Prop:=λ v Y=>Q ai (Y.set i v)
noncomputable def Q6(O:FC)(Ex:Value->aQ->Prop)(body orelse:List Stmt)(Q:Option (Option V)->St->Prop):Bool->St->Prop:=λ b Y=>if b=aj then XF O Ex (eL body O.env) Q Y else XF O Ex (eL orelse O.env) Q Y
noncomputable def PO(Q:Option (Option V)->St->Prop):V->St->Prop:=λ v Y=>Q (ah (ah v)) Y
noncomputable def kE(Q:Option (Option V)->St->Prop):V->St->Prop:=λ Z Y=>Q ai Y
theorem iD{c:Bool}{A B:Prop}(h:c=aj)(a:A):if c=aj then A else B:=by rw[if_pos h];exact a
theorem fX{c:Bool}{A B:Prop}(h:c=ao)(b:B):if c=aj then A else B:=by rw[if_neg (by rw[h];decide)];exact b
theorem up{R:b9->α->β->Prop}{Q:β->St->Prop}{d:b9}{u:α}(l:Kp.le d)(x:Pt O Jj d R Q u s'):Pt O Jj Kp R Q u s':=by obtain ⟨b,Y',c,a,r,h,q⟩:=x;exact ⟨b,Y',c,l.trans a,r,h,q⟩
theorem bx{l r:Expr}{op:Operator}{pos:gY}{Q:V->St->Prop}
 (h:XV O Ex (bw l O.env) (kR O Ex r (Jq O Ex (dT op) Q)) Y):
 XV O Ex (bw (.BinOp l op r pos) O.env) Q Y:=λ Kp Jj s R=>wpAny_BinOp (h.Rr R λ n k a i Kk l₁ d p h₁=>h₁.Rr d λ o Rw b j f l₂ c m g=>aY (g f Jj Rw n o c (p.mono l₂) m) (λ Z Z x=>up (l₁.trans l₂) x) λ Z Z e=>e)
theorem iu{e:Expr}{op:UnaryOp}{pos:gY}{Q:V->St->Prop}
 (h:XV O Ex (bw e O.env) (kU O Ex op Q) Y):
 XV O Ex (bw (.UnaryOp op e pos) O.env) Q Y:=λ Kp Jj s R=>wpAny_UnaryOp (h.Rr R λ f c a d Kk l₁ b g h₁=>aY (h₁ Kk Jj c f b g) (λ Z Z x=>up l₁ x) λ Z Z e=>e)
theorem mh{test body a:Expr}{pos:gY}{Q:V->St->Prop}
 (h:XB O Ex (ez test O.env (bw test O.env)) (PU O Ex body a Q) Y):
 XV O Ex (bw (.IfExp test body a pos) O.env) Q Y:=λ Kp Jj s R=>wpAny_IfExp (h.Rr R λ g d b f Kk l₁ c e h₁=>by
  subst e;cases g with
  |true=>exact aY (h₁ Kk Jj d c) (λ Z Z x=>up l₁ x) λ Z Z e=>e
  |false=>exact aY (h₁ Kk Jj d c) (λ Z Z x=>up l₁ x) λ Z Z e=>e)
theorem JN{l r:Expr}{Q:Bool->St->Prop}(h:XV O Ex (bw l O.env) (kR O Ex r (Jq O Ex (cK op) (kB Q))) Y)(A:zl op r=ao):XB O Ex (ez (.Compare l [op] [r] pos) O.env whole) Q Y:=λ Kp Jj s R=>nK (h.Rr R λ w t a o Kk l₁ g B h₁=>h₁.Rr g λ z Rw b p n l₂ f v j=>aY (j n Jj Rw w z f (B.mono l₂) v) (λ u RW x=>by obtain ⟨c,d,m,k,i,C,q,rfl,y⟩:=x;cases C;exact fE ⟨q,d,m,(l₁.trans l₂).trans k,i,rfl,y⟩) λ Z Z e=>e) A
theorem sR{e:Expr}{pos:gY}{whole:Sem Value}{Q:Bool->St->Prop}(h:XB O Ex (ez e O.env (bw e O.env)) (kN Q) Y):
 XB O Ex (ez (.UnaryOp .Not e pos) O.env whole) Q Y:=λ Kp Jj s R=>isTrue_not (h.Rr R λ u d b a Kk l₁ c e h₁=>by subst e;exact ⟨_,a,Kk,l₁,c,rfl,h₁⟩)
theorem lx{a:Expr}{d:List Expr}{pos:gY}{whole:Sem Value}{Q:Bool->St->Prop}
 (h:XB O Ex (ez a O.env (bw a O.env)) (PX O Ex d pos whole Q) Y):
 XB O Ex (ez (.BoolOp .And (a::d) pos) O.env whole) Q Y:=λ Kp Jj s R=>by
 show aW _ _ (ez a O.env (bw a O.env)>>=_) _ _ _;refine aw (h.Rr R λ u g b f Kk l₁ c e h₁=>?_);subst e;cases u with
 |true=>exact aY (h₁ Kk Jj g c) (λ Z Z x=>up l₁ x) λ Z Z e=>e
 |false=>exact az ⟨_,f,Kk,l₁,c,rfl,h₁⟩
theorem ji{Q:Bool->St->Prop}(h:Q aj Y):XB O Ex (ez (.BoolOp .And [] pos) O.env whole) Q Y:=
 λ Kp Z Z R=>az ⟨_,Y,Kp,.refl _,R,rfl,h⟩
theorem na{a:Expr}{d:List Expr}{pos:gY}{whole:Sem Value}{Q:Bool->St->Prop}
 (h:XB O Ex (ez a O.env (bw a O.env)) (PQ O Ex d pos whole Q) Y):
 XB O Ex (ez (.BoolOp .Or (a::d) pos) O.env whole) Q Y:=λ Kp Jj s R=>by
 show aW _ _ (ez a O.env (bw a O.env)>>=_) _ _ _;refine aw (h.Rr R λ u g b f Kk l₁ c e h₁=>?_);subst e;cases u with
 |true=>exact az ⟨_,f,Kk,l₁,c,rfl,h₁⟩
 |false=>exact aY (h₁ Kk Jj g c) (λ Z Z x=>up l₁ x) λ Z Z e=>e
theorem jq{Q:Bool->St->Prop}(h:Q ao Y):XB O Ex (ez (.BoolOp .Or [] pos) O.env whole) Q Y:=
 λ Kp Z Z R=>az ⟨_,Y,Kp,.refl _,R,rfl,h⟩
theorem JM{Q:Bool->St->Prop}(h:XV O Ex (bw e O.env) (kT O Ex Q) Y)(g:∀whole,ez e O.env whole=do let v <-whole;i1 e.pos;kj [v] (Hy v)):XB O Ex (ez e O.env (bw e O.env)) Q Y:=
 λ Kp Jj s R=>isTrue_plain (h.Rr R λ f c a d Kk l₁ b i h₁=>aY (h₁ Kk Jj c f b i) (λ Z Z x=>up l₁ x) λ Z Z e=>e) (g _)
theorem bm{Q:Option (Option V)->St->Prop}(h:Q ai Y):XF O Ex (eL [] O.env) Q Y:=λ Kp Z Z R=>az ⟨ai,Y,Kp,.refl _,R,.next,h⟩
theorem aB{st:Stmt}{d:List Stmt}{Q:Option (Option V)->St->Prop}
 (h:XF O Ex (gg st O.env) (IA O Ex d Q) Y):XF O Ex (eL (st::d) O.env) Q Y:=λ Kp Jj s R=>by
 show aW _ _ (gg st O.env>>=_) _ _ _;refine aw (h.Rr R λ u f b a Kk l₁ c e h₁=>?_);cases e with
 |next=>exact aY (h₁ Kk Jj f c) (λ Z Z x=>up l₁ x) λ Z Z e=>e
 |ret g=>exact az ⟨_,a,Kk,l₁,c,.ret g,h₁⟩
 |cont=>exact az ⟨_,a,Kk,l₁,c,.cont,h₁⟩
theorem u9{x:Str}{pos' pos:gY}{e:Expr}{Q:Option (Option V)->St->Prop}(i:Nat)(ok:O.Ok)(f:nx O i x)
 (h:XV O Ex (bw e O.env) (we i Q) Y) (d:eo e (ah (.Name x pos')) pos.line O.env=pure ao):
 XF O Ex (gg (.Assign [.Name x pos'] e pos) O.env) Q Y:=λ Kp Jj s R=>wpAny_Assign_Name (h.Rr R λ u c v b Kk l₁ a g h₁=>qC ok f a g λ s' R'=>⟨ai,_,Kk,l₁,R',.next,h₁⟩) d
theorem JI{x:Str}{pos' pos:gY}{op:Operator}{e:Expr}{v:V}{Q:Option (Option V)->St->Prop}(i:Nat)(ok:O.Ok)(o:nx O i x)(p:r5 O i x)(t:Y.vals[i]? =ah (ah v))
 (h:XV O Ex (bw e O.env) (Jq O Ex (AQ op) (we i Q) v) Y):
 XF O Ex (gg (.AugAssign (.Name x pos') op e pos) O.env) Q Y:=λ Kp Jj s R=>wpAny_AugAssign_Name (yh ok p t R λ m u=>h.Rr R λ q g b j Kk l₁ d l h₁=>aY (h₁ Kk Jj g m q d (u.mono l₁) l) (λ r Rw x=>by obtain ⟨c,k,f,l₂,a,w,n⟩:=x;exact qC ok o a w λ s' R'=>⟨ai,_,f,l₁.trans l₂,R',.next,n⟩) λ Z Z e=>e)
theorem e4{test:Expr}{body a:List Stmt}{pos:gY}{Q:Option (Option V)->St->Prop}
 (h:XB O Ex (ez test O.env (bw test O.env)) (Q6 O Ex body a Q) Y):
 XF O Ex (gg (.If test body a pos) O.env) Q Y:=λ Kp Jj s R=>wpAny_If (h.Rr R λ g d b f Kk l₁ c e h₁=>by
  subst e;cases g with
  |true=>exact aY (h₁ Kk Jj d c) (λ Z Z x=>up l₁ x) λ Z Z e=>e
  |false=>exact aY (h₁ Kk Jj d c) (λ Z Z x=>up l₁ x) λ Z Z e=>e)
theorem dF{e:Expr}{pos:gY}{Q:Option (Option V)->St->Prop}(h:XV O Ex (bw e O.env) (PO Q) Y):
 XF O Ex (gg (.Return (ah e) pos) O.env) Q Y:=λ Kp Jj s R=>lJ (h.Rr R λ u c v a Kk l₁ b d h₁=>⟨_,a,Kk,l₁,b,.ret d,h₁⟩)
theorem Bm{Q:Option (Option V)->St->Prop}(h:Q (ah ai) Y):XF O Ex (gg (.Continue pos) O.env) Q Y:=λ Kp Z Z R=>wpAny_Continue ⟨_,Y,Kp,.refl _,R,.cont,h⟩
theorem HM{e:Expr}{pos:gY}{Q:Option (Option V)->St->Prop}(h:XV O Ex (bw e O.env) (kE Q) Y)(hi:Ek O.env=ao)(d:eo e ai pos.line O.env=pure ao):
 XF O Ex (gg (.Expr e pos) O.env) Q Y:=λ Kp Jj s R=>wpAny_Expr_any (h.Rr R λ u c v a Kk l₁ b f h₁=>⟨_,a,Kk,l₁,b,.next,h₁⟩) hi d
inductive NV(A:Around)(g:Heap)(fL:aG)(h:Heap):Prop
 |mk (A₀:Around) (base:Heap) (outer:List Env) (R2:Env) (m:Str->Option Value) (B:Below A₀ base outer g) (F:Fr g fL h m) (hA:A.frames=ah (R2::outer)) (hf:R2.frame=ah fL) (hk:R2.scope.kind=.function)
structure DN(G:GC)(d:Nat)(A:Around)(g:Heap)(fL:aG)(h:Heap):Prop where
 ex:NV A g fL h
 SA:G.K.In g
 top:Top G.p G.loose G.Tg G.mg G.mb g
 hand:A.handled=ai
 depth:A.depth+d<900
 units:A.units+40*d+100<fe
noncomputable def gz(s s':aQ):Prop:=s'.gens=s.gens/\s'.drawn=s.drawn/\s'.os=s.os
inductive DT(G:GC)(S₀:b9)(J:Mu)(post:V->Mu->Prop)(s:aQ)(r:qz)(s':aQ):Prop
 |mk (u:Value) (v:V) (J':Mu) (S':b9) (e:r=.ok (.ret u)) (st:gz s s') (keep:∀b o,s.heap.get? b=ah o->b∉addrs J->s'.heap.get? b=ah o) (al:∀b o,s.heap.get? b=ah o->∃o',s'.heap.get? b=ah o') (le:S₀.le S')
  (hS:∀b o,S' b o->s'.heap.get? b=ah o/\b∉addrs J'/\(S₀ b o\/s.heap.get? b=ai)) (mu:∀p∈J',MR G.w.params S' s'.heap p) (nd:(addrs J').Nodup)
  (fr:∀b∈addrs J',b∈addrs J\/s.heap.get? b=ai) (hv:VR G.w.params S' u v) (hp:post v J')
noncomputable def cF(G:GC)(d:Nat)(f:Value)(args:List V)(J:Mu)(post:V->Mu->Prop):Prop:=
 ∀A g fL s us S₀,DN G d A g fL s.heap->(∀b o,S₀ b o->s.heap.get? b=ah o/\b∉addrs J)->(∀b o,G.K.lookup b=ah o->S₀ b o)->(∀p∈J,MR G.w.params S₀ s.heap p)->(addrs J).Nodup->(∀b∈addrs J,g.get? b=ai/\b≠fL)->
  dn G.w.params S₀ us args->gi (bn G.prog G.w) A (.call f ⟨us,[]⟩) (DT G S₀ J post s) s
theorem cF.mono{f:Value}{args:List V}(h:cF G d f args J post)(hd:d<=d')(x:∀v J',post v J'->post' v J'):cF G d' f args J post':=
 λ A g B s us S₀ i a o b c e k=>kr (h A g B s us S₀ ⟨i.ex,i.SA,i.top,i.hand,by have:=i.depth;exact OK this hd,by have:=i.units;exact OJ this hd⟩ a o b c e k)
  λ r s' l=>by obtain ⟨u,v,J',S',q,n,z,m,p,w,C,t,y,D,j⟩:=l;exact ⟨u,v,J',S',q,n,z,m,p,w,C,t,y,D,x _ _ j⟩
mutual
inductive ow(J:Mu):V->V->Prop
 |refl (v:V):ow J v v
 |list {a:aG} {xs ys:List V}:(a,.list xs)∈J->RE J xs ys->ow J (.ref a) (.list ys)
 |dict {a:aG} {xs ys:List (V×V)}:(a,.dict xs)∈J->md J xs ys->ow J (.ref a) (.dict ys)
 |inst {a C d:aG} {xs ys:List (Str×V)}:(a,.inst C d xs)∈J->mX J xs ys->ow J (.ref a) (.inst C ys)
 |Xd {xs ys:List V}:RE J xs ys->ow J (.tup xs) (.tup ys)
 |VT {xs ys:List V}:RE J xs ys->ow J (.list xs) (.list ys)
inductive RE(J:Mu):List V->List V->Prop
 |nil:RE J [] []
 |cons {x y:V} {xs ys:List V}:ow J x y->RE J xs ys->RE J (x::xs) (y::ys)
inductive md(J:Mu):List (V×V)->List (V×V)->Prop
 |nil:md J [] []
 |cons {k x y:V} {xs ys:List (V×V)}:ow J x y->md J xs ys->md J ((k,x)::xs) ((k,y)::ys)
inductive mX(J:Mu):List (Str×V)->List (Str×V)->Prop
 |nil:mX J [] []
 |cons {k:Str} {x y:V} {xs ys:List (Str×V)}:ow J x y->mX J xs ys->mX J ((k,x)::xs) ((k,y)::ys)
end
noncomputable def b9.with(S:b9)(h:Heap)(l:List aG):b9:=λ b o=>S b o\/(b∈l/\h.get? b=ah o)
theorem b9.RK(S:b9)(h:Heap)(l:List aG):S.le (S.with h l):=λ Z Z x=>.inl x
theorem dw{p:aG×MO}{b:aG}(a:p∈J)(c:b∈ch p):b∈addrs J:=bX.mpr ⟨p,a,c⟩
section
variable{P:bS}{h:Heap}(m:∀p∈J,MR P S h p)
include m
theorem ow.sound{v w:V}(x:ow J v w){u:Value}(r:VR P S u v):VR P (S.with h (addrs J)) u w:=
 ow.rec (motive_1:=λ v w Z=>∀u,VR P S u v->VR P (S.with h (addrs J)) u w) (motive_2:=λ v w Z=>∀u,dn P S u v->dn P (S.with h (addrs J)) u w) (motive_3:=λ v w Z=>∀u,ge P S u v->ge P (S.with h (addrs J)) u w) (motive_4:=λ v w Z=>∀u,g_ P S u v->g_ P (S.with h (addrs J)) u w)
  (λ v u r=>r.mono (b9.RK _ _ _)) (λ b Z k u r=>r.RS ((m _ b).listE λ vs n e rs=>.list (.inr ⟨dw b (.head _),e⟩) (k _ rs))) (λ b Z k u r=>r.RS ((m _ b).R9 λ es n q e rs=>.dict q (.inr ⟨dw b (.head _),e⟩) (k _ rs)))
  (λ b Z k u r=>r.RS ((m _ b).instE λ es n e c rs=>.inst (.inr ⟨dw b (.head _),e⟩) (.inr ⟨dw b (.tail _ (.head _)),c⟩) (k _ rs))) (λ Z k u r=>r.RL λ a vs n e rs=>.tup (.inl e) (k _ rs)) (λ Z k u r=>r.listE λ a vs n e rs=>.list (.inl e) (k _ rs))
  (λ u r=>r.RX .nil) (λ Z Z k k' u r=>r.RC λ u ws x y=>.cons (k _ x) (k' _ y)) (λ u r=>r.RX .nil) (λ Z Z k k' u r=>r.RC λ ku u es x y z=>.cons rfl (x.mono (b9.RK _ _ _)) (k _ y) (k' _ z)) (λ u r=>r.RX .nil) (λ Z Z k k' u r=>r.RC λ t u es x y=>.cons (k _ x) (k' _ y)) x _ r
theorem RE.sound{v w:List V}(x:RE J v w){u:List Value}(r:dn P S u v):dn P (S.with h (addrs J)) u w:=
 RE.rec (motive_1:=λ v w Z=>∀u,VR P S u v->VR P (S.with h (addrs J)) u w) (motive_2:=λ v w Z=>∀u,dn P S u v->dn P (S.with h (addrs J)) u w) (motive_3:=λ v w Z=>∀u,ge P S u v->ge P (S.with h (addrs J)) u w) (motive_4:=λ v w Z=>∀u,g_ P S u v->g_ P (S.with h (addrs J)) u w)
  (λ v u r=>r.mono (b9.RK _ _ _)) (λ b Z k u r=>r.RS ((m _ b).listE λ vs n e rs=>.list (.inr ⟨dw b (.head _),e⟩) (k _ rs))) (λ b Z k u r=>r.RS ((m _ b).R9 λ es n q e rs=>.dict q (.inr ⟨dw b (.head _),e⟩) (k _ rs)))
  (λ b Z k u r=>r.RS ((m _ b).instE λ es n e c rs=>.inst (.inr ⟨dw b (.head _),e⟩) (.inr ⟨dw b (.tail _ (.head _)),c⟩) (k _ rs))) (λ Z k u r=>r.RL λ a vs n e rs=>.tup (.inl e) (k _ rs)) (λ Z k u r=>r.listE λ a vs n e rs=>.list (.inl e) (k _ rs))
  (λ u r=>r.RX .nil) (λ Z Z k k' u r=>r.RC λ u ws x y=>.cons (k _ x) (k' _ y)) (λ u r=>r.RX .nil) (λ Z Z k k' u r=>r.RC λ ku u es x y z=>.cons rfl (x.mono (b9.RK _ _ _)) (k _ y) (k' _ z)) (λ u r=>r.RX .nil) (λ Z Z k k' u r=>r.RC λ t u es x y=>.cons (k _ x) (k' _ y)) x _ r
theorem md.sound{v w:List (V×V)}(x:md J v w){u:List bN}(r:ge P S u v):ge P (S.with h (addrs J)) u w:=
 md.rec (motive_1:=λ v w Z=>∀u,VR P S u v->VR P (S.with h (addrs J)) u w) (motive_2:=λ v w Z=>∀u,dn P S u v->dn P (S.with h (addrs J)) u w) (motive_3:=λ v w Z=>∀u,ge P S u v->ge P (S.with h (addrs J)) u w) (motive_4:=λ v w Z=>∀u,g_ P S u v->g_ P (S.with h (addrs J)) u w)
  (λ v u r=>r.mono (b9.RK _ _ _)) (λ b Z k u r=>r.RS ((m _ b).listE λ vs n e rs=>.list (.inr ⟨dw b (.head _),e⟩) (k _ rs))) (λ b Z k u r=>r.RS ((m _ b).R9 λ es n q e rs=>.dict q (.inr ⟨dw b (.head _),e⟩) (k _ rs)))
  (λ b Z k u r=>r.RS ((m _ b).instE λ es n e c rs=>.inst (.inr ⟨dw b (.head _),e⟩) (.inr ⟨dw b (.tail _ (.head _)),c⟩) (k _ rs))) (λ Z k u r=>r.RL λ a vs n e rs=>.tup (.inl e) (k _ rs)) (λ Z k u r=>r.listE λ a vs n e rs=>.list (.inl e) (k _ rs))
  (λ u r=>r.RX .nil) (λ Z Z k k' u r=>r.RC λ u ws x y=>.cons (k _ x) (k' _ y)) (λ u r=>r.RX .nil) (λ Z Z k k' u r=>r.RC λ ku u es x y z=>.cons rfl (x.mono (b9.RK _ _ _)) (k _ y) (k' _ z)) (λ u r=>r.RX .nil) (λ Z Z k k' u r=>r.RC λ t u es x y=>.cons (k _ x) (k' _ y)) x _ r
theorem mX.sound{v w:List (Str×V)}(x:mX J v w){u:List bN}(r:g_ P S u v):g_ P (S.with h (addrs J)) u w:=
 mX.rec (motive_1:=λ v w Z=>∀u,VR P S u v->VR P (S.with h (addrs J)) u w) (motive_2:=λ v w Z=>∀u,dn P S u v->dn P (S.with h (addrs J)) u w) (motive_3:=λ v w Z=>∀u,ge P S u v->ge P (S.with h (addrs J)) u w) (motive_4:=λ v w Z=>∀u,g_ P S u v->g_ P (S.with h (addrs J)) u w)
  (λ v u r=>r.mono (b9.RK _ _ _)) (λ b Z k u r=>r.RS ((m _ b).listE λ vs n e rs=>.list (.inr ⟨dw b (.head _),e⟩) (k _ rs))) (λ b Z k u r=>r.RS ((m _ b).R9 λ es n q e rs=>.dict q (.inr ⟨dw b (.head _),e⟩) (k _ rs)))
  (λ b Z k u r=>r.RS ((m _ b).instE λ es n e c rs=>.inst (.inr ⟨dw b (.head _),e⟩) (.inr ⟨dw b (.tail _ (.head _)),c⟩) (k _ rs))) (λ Z k u r=>r.RL λ a vs n e rs=>.tup (.inl e) (k _ rs)) (λ Z k u r=>r.listE λ a vs n e rs=>.list (.inl e) (k _ rs))
  (λ u r=>r.RX .nil) (λ Z Z k k' u r=>r.RC λ u ws x y=>.cons (k _ x) (k' _ y)) (λ u r=>r.RX .nil) (λ Z Z k k' u r=>r.RC λ ku u es x y z=>.cons rfl (x.mono (b9.RK _ _ _)) (k _ y) (k' _ z)) (λ u r=>r.RX .nil) (λ Z Z k k' u r=>r.RC λ t u es x y=>.cons (k _ x) (k' _ y)) x _ r
end
noncomputable def zU(n:Nat):NameKind->NK
 |.local=>.loc
 |.cell=>.RJ n
 |.globalImplicit=>.glob
 |_=>.other
noncomputable def Om:NameKind->Nat
 |.cell=>1
 |_=>0
noncomputable def lV:Nat->List (Str×NameKind)->List (Str×NK)
 |_,[]=>[]
 |n,(x,k)::r=>(x,zU n k)::lV (n+Om k) r
theorem Ch{n:Nat}{k:NameKind}(h:zU n k=.loc):k=.local:=by cases k<;>first|rfl|cases h
theorem zT{n:Nat}{k:NameKind}(h:zU n k=.glob):k=.globalImplicit:=by cases k<;>first|rfl|cases h
theorem vX{n:Nat}{k:NameKind}(h:zU n k=.RJ c):k=.cell/\n=c:=by cases k<;>first|(cases h;exact ⟨rfl,rfl⟩)|cases h
theorem rj(l:List (Str×NameKind)):∀n:Nat,(lV n l).map (·.1)=l.map (·.1):=by
 induction l with
 |nil=>exact λ Z=>rfl
 |cons p r a=>exact λ n=>congrArg (p.1::·) (a _)
theorem rm{l:List (Str×NameKind)}:∀{n i:Nat} {x:Str} {q:NK},(lV n l)[i]? =ah (x,q)->∃k m,l[i]? =ah (x,k)/\zU m k=q:=by
 induction l with
 |nil=>exact λ h=>nomatch h
 |cons p r a=>
  intro n i x q h;cases i with
  |zero=>cases Option.some.inj h;exact ⟨p.2,n,rfl,rfl⟩
  |succ i=>exact a h
theorem gN{b:List (Str×α)}{n:Str}{c:α}:(b.map (·.1)).Nodup->(n,c)∈b->b.lookup n=ah c:=by
 induction b with
 |nil=>exact λ Z h=>nomatch h
 |cons p b g=>
  intro a d;have a:=bC.mp a;refine br.trans ?_;rcases aI.mp d with e|d
  ·simp only[<-e,beq_self_eq_true]
  ·simp only[show (n==p.1)=ao from beq_eq_false_iff_ne.mpr λ e=>a.1 (show p.1∈_ from e▸bq (f:=(·.1)) d)];exact g a.2 d
theorem fW{l:List (Str×α)}{k:α}(a:(l.map (·.1)).Nodup)(hi:l[i]? =ah (x,k)):l.lookup x=ah k:=
 gN a (aX hi)
theorem vU(l:List (Str×NameKind))(n i:Nat)(x:Str)(h:(lV n l)[i]? =ah (x,.loc)):l[i]? =ah (x,.local):=by refine hQ (rm h) λ Z Z e h=>?_;exact Ch h▸e
theorem tf(l:List (Str×NameKind))(n i:Nat)(x:Str)(h:(lV n l)[i]? =ah (x,.glob)):l[i]? =ah (x,.globalImplicit):=by refine hQ (rm h) λ Z Z e h=>?_;exact zT h▸e
theorem rR(n:Nat)(p:Str×NameKind)(r:List (Str×NameKind))(acc:List (Str×aG)):∃a,d4 n (p::r) acc=d4 (n+Om p.2) r a/\(p.2=.cell->(p.1,n)∈a)/\∀q∈acc,q∈a:=by obtain ⟨y,k⟩:=p;cases k<;>first|exact ⟨acc,rfl,λ h=>NameKind.noConfusion h,λ Z h=>h⟩|exact ⟨_,rfl,λ Z=>.head _,λ Z=>.tail _⟩
theorem sE(l:List (Str×NameKind)):∀(n:Nat) (acc:List (Str×aG)) (p:Str×aG),p∈acc->p∈d4 n l acc:=by
 induction l with
 |nil=>exact λ Z Z Z h=>h
 |cons q r a=>exact λ n acc p h=>by refine eB (rR n q r acc) λ Z e Z k=>?_;exact e▸a _ _ _ (k p h)
theorem vV(l:List (Str×NameKind)):∀(n i:Nat) (x:Str) (c:aG) (acc:List (Str×aG)),(lV n l)[i]? =ah (x,.RJ c)->l[i]? =ah (x,.cell)/\(x,c)∈d4 n l acc/\n<=c:=by
 induction l with
 |nil=>exact λ Z Z Z Z Z h=>nomatch h
 |cons p r m=>
  intro n i x c acc h;refine eB (rR n p r acc) λ f e k1 k2=>?_;simp only[e];cases i with
  |zero=>refine za (Prod.mk.inj (Option.some.inj h)) λ j q=>?_;refine za (vX q) λ g o=>?_;subst j o;exact ⟨congrArg (λ k=>ah (p.1,k)) g,sE _ _ _ _ (k1 g),aT _⟩
  |succ i=>exact let ⟨a,b,d⟩:=m _ i x c f h;⟨a,b,aA (b3 _ _) d⟩
theorem t5(l:List (Str×NameKind)):∀(n i j:Nat) (x y:Str) (c:aG),(lV n l)[i]? =ah (x,.RJ c)->(lV n l)[j]? =ah (y,.RJ c)->i=j:=by
 induction l with
 |nil=>exact λ Z Z Z Z Z Z h=>nomatch h
 |cons p r d=>
  have a:∀{n j:Nat} {x y:Str} {c:aG},ah (p.1,zU n p.2)=ah (x,NK.RJ c)->(lV (n+Om p.2) r)[j]? =ah (y,NK.RJ c)->False:=λ {n j x y c} h h'=>by refine za (vX (Prod.mk.inj (Option.some.inj h)).2) λ b e=>?_;have:=(vV r _ j y c [] h').2.2;rw[b,e]at this;exact nB _ this
  intro n i j x y c h h';cases i with
  |zero=>
   cases j with
   |zero=>rfl
   |succ j=>exact (a h h').elim
  |succ i=>
   cases j with
   |zero=>exact (a h' h).elim
   |succ j=>exact congrArg j8 (d _ _ _ _ _ _ h h')
section
variable{ko:Str->Option NameKind}
theorem Ap(b:List (Str×Value)):∀(m:Str->Option Value) (x:Str),x∉b.map (·.1)->bindL ko b m x=m x:=by
 induction b with
 |nil=>exact λ Z Z Z=>rfl
 |cons p r a=>
  intro m x h;refine (a _ x λ q=>h (.tail _ q)).trans ?_;by_cases e:ko p.1=ah .local
  ·rw[if_pos e,if_neg (show x≠p.1 from λ e=>h (e▸.head _))]
  ·rw[if_neg e]
theorem DA(b:List (Str×Value)):∀(m:Str->Option Value) (x:Str) (u:Value),(b.map (·.1)).Nodup->(x,u)∈b->ko x=ah .local->bindL ko b m x=ah u:=by
 induction b with
 |nil=>exact λ Z Z Z Z h=>nomatch h
 |cons p r d=>
  intro m x u a c hk;have a:=bC.mp a;rcases aI.mp c with e|c
  ·simp only[<-e]at a ⊢;refine (Ap r _ _ a.1).trans ?_;rw[if_pos hk,if_pos rfl]
  ·exact d _ x u a.2 c hk
theorem Aq(b:List (Str×Value)):∀(m:Str->Option Value) (x:Str),x∉b.map (·.1)->bindC ko b m x=m x:=by
 induction b with
 |nil=>exact λ Z Z Z=>rfl
 |cons p r a=>
  intro m x h;refine (a _ x λ q=>h (.tail _ q)).trans ?_;by_cases e:ko p.1=ah .local
  ·rw[if_pos e]
  ·rw[if_neg e,if_neg (show x≠p.1 from λ e=>h (e▸.head _))]
theorem DB(b:List (Str×Value)):∀(m:Str->Option Value) (x:Str) (u:Value),(b.map (·.1)).Nodup->(x,u)∈b->ko x=ah .cell->bindC ko b m x=ah u:=by
 induction b with
 |nil=>exact λ Z Z Z Z h=>nomatch h
 |cons p r d=>
  intro m x u a c hk;have a:=bC.mp a;rcases aI.mp c with e|c
  ·rw[<-e]at a ⊢;refine (Aq r _ _ a.1).trans ?_;rw[if_neg ((bA hk)▸λ h=>nomatch h),if_pos rfl]
  ·exact d _ x u a.2 c hk
end
inductive ma(J:Mu):aG×MO->aG×MO->Prop
 |refl (p:aG×MO):ma J p p
 |list {a:aG} {xs ys:List V}:RE J xs ys->ma J (a,.list xs) (a,.list ys)
 |dict {a:aG} {xs ys:List (V×V)}:md J xs ys->ma J (a,.dict xs) (a,.dict ys)
 |inst {a C d:aG} {xs ys:List (Str×V)}:mX J xs ys->ma J (a,.inst C d xs) (a,.inst C d ys)
inductive dI(J:Mu):Mu->Mu->Prop
 |nil:dI J [] []
 |cons {p q:aG×MO} {l l':Mu}:ma J p q->dI J l l'->dI J (p::l) (q::l')
theorem ma.addrs{p q:aG×MO}(h:ma J p q):ch q=ch p:=ma.rec (motive:=λ p q Z=>ch q=ch p) (λ Z=>rfl) (λ Z=>rfl) (λ Z=>rfl) (λ Z=>rfl) h
theorem dI.addrs{l:Mu}(h:dI J l l'):Mine.addrs l'=Mine.addrs l:=
 dI.rec (motive:=λ l l' Z=>Mine.addrs l'=Mine.addrs l) rfl (λ {p q l l'} a Z k=>(congr (congrArg (· ++·) a.addrs) k:ch q++Mine.addrs l'=ch p++Mine.addrs l)) h
section
variable{P:bS}{h:Heap}(m:∀p∈J,MR P S h p)
include m
theorem ma.sound{p q:aG×MO}(x:ma J p q):MR P S h p->MR P (S.with h (Mine.addrs J)) h q:=
 ma.rec (motive:=λ p q Z=>MR P S h p->MR P (S.with h (Mine.addrs J)) h q) (λ Z r=>r.mono (b9.RK _ _ _) λ Z Z Z e=>e) (λ a r=>r.listE λ Z Z e rs=>.list e (RE.sound m a rs)) (λ a r=>r.R9 λ Z Z q e rs=>.dict q e (md.sound m a rs))
  (λ a r=>r.instE λ Z Z e b rs=>.inst e b (mX.sound m a rs)) x
theorem dI.sound{l:Mu}(x:dI J l l'):(∀p∈l,MR P S h p)->∀q∈l',MR P (S.with h (Mine.addrs J)) h q:=
 dI.rec (motive:=λ l l' Z=>(∀p∈l,MR P S h p)->∀q∈l',MR P (S.with h (Mine.addrs J)) h q) (λ Z Z h=>nomatch h) (λ a Z k r=>jb.mpr ⟨a.sound m (r _ (.head _)),k λ p b=>r p (.tail _ b)⟩) x
end
theorem dI.refl(J l:Mu):dI J l l:=List.rec .nil (λ p Z k=>.cons (.refl p) k) l
theorem s_(J:Mu)(kvs:List (V×V)):md J kvs kvs:=List.rec .nil (λ p Z k=>.cons (.refl p.2) k) kvs
theorem JT(J:Mu)(fs:List (Str×V)):mX J fs fs:=List.rec .nil (λ p Z k=>.cons (.refl p.2) k) fs
theorem cx(a b:Mu):addrs (a++b)=addrs a++addrs b:=dX
inductive Fin(J:Mu)(post:V->Mu->Prop)(v:V)(J':Mu):Prop
 |mk (Vv Wu Uq:Mu) (w:V) (e:J'=Vv++Wu) (h:∀b∈addrs J,b∈addrs Wu) (ms:dI Vv Wu Uq) (s:ow Vv v w) (p:post w Uq)
noncomputable def AG(J:Mu)(post:V->Mu->Prop):Option (Option V)->St->Prop
 |some (ah v),Y=>Fin J post v Y.mu
 |none,Y=>Fin J post .none Y.mu
 |some ai,_=>False
theorem Fj{g h:Heap}{f:aG}{l:List aG}(i:∀b∈l,∃o,h.get? b=ah o)(j:∀b∈l,g.get? b=ai/\b≠f):
 ∃a,News g f h a/\a.map (·.1)=l:=by
 induction l with
 |nil=>exact ⟨[],News.nil,rfl⟩
 |cons b l n=>
  refine b5 (n (λ b d=>i b (b_ _ d)) λ b d=>j b (b_ _ d)) λ a N e=>?_;refine ze (i b ci) λ o m=>?_;have:=j b ci;refine ⟨(b,o)::a,λ p c=>?_,by simp[e]⟩;refine b7 (aI.mp c) (λ k=>?_) λ c=>?_
  ·subst k;exact ⟨m,this.2,this.1⟩
  ·exact N p c
theorem MR.live{P:bS}{h:Heap}{p:aG×MO}(m:MR P S h p):∀b∈ch p,∃o,h.get? b=ah o:=by
 intro b a;cases m with
 |list e _=>simp[ch]at a;subst a;exact ⟨_,e⟩
 |dict _ e _=>simp[ch]at a;subst a;exact ⟨_,e⟩
 |inst e c _=>simp[ch]at a;rcases a with rfl|rfl<;>first|exact ⟨_,e⟩|exact ⟨_,c⟩
 |S_ e=>simp[ch]at a;subst a;exact ⟨_,e⟩
 |S9 e c _=>simp[ch]at a;rcases a with rfl|rfl<;>first|exact ⟨_,e⟩|exact ⟨_,c⟩
theorem v0{x:α}{y:β}:∀{r:List β} {i:Nat},l[i]? =ah x->r[i]? =ah y->(x,y)∈l.zip r:=by
 induction l with
 |nil=>exact λ h=>nomatch h
 |cons p l a=>
  intro r i h h';cases r with
  |nil=>exact nomatch h'
  |cons q r=>
   cases i with
   |zero=>cases h;cases h';exact .head _
   |succ i=>exact .tail _ (a h h')
inductive Rj(K:gb)(P:bS)(f:aG)(name qual:Str)(params:eM)(body:List Stmt)(scope:iH)(pn:List Str)(RI:List V):Prop
 |mk (dV kV doc pm Up ct oc:Value) (an od:Option aG) (Wz:Array (Option Value)) (hl:K.lookup f=ah ⟨oc,od,.func (HA name qual params body scope dV kV doc pm an Up ct),Wz⟩) (hc:codeIn K Up qual=aj)
  (xU:List Value) (hd:∀S,dn P S xU RI) (V_:xU.length=RI.length) (hb:∀(us:List Value) (s:aQ),K.In s.heap->us.length+xU.length=pn.length->BindsTo s (HA name qual params body scope dV kV doc pm an Up ct) ⟨us,[]⟩ (pn.zip (us++xU)))
structure cv(G:GC)(f:aG)(name qual:Str)(params:eM)(body:List Stmt)(scope:iH)(pn:List Str)(RI:List V):Prop where
 at_:Rj G.K G.w.params f name qual params body scope pn RI
 co:scope.isCoroutine=ao
 gen:scope.isGenerator=ao
 kind:scope.kind=.function
 nodup:(scope.names.map (·.1)).Nodup
 Zb:(scope.names.take pn.length).map (·.1)=pn
 pk:(scope.names.take pn.length).all (λ y=>y.2==.local||y.2==.cell)=aj
theorem cv.kindAt{f:aG}{a:eM}(Yy:cv G f name qual a body scope pn RI){i:Nat}{x:Str}(h:pn[i]? =ah x):∃k,scope.names[i]? =ah (x,k)/\(k=.local\/k=.cell):=by have hi:i<pn.length:=(bh.mp h).1;rw[<-Yy.Zb,aN]at h;refine b5 (bM.mp h) λ b c d=>?_;obtain ⟨y,k⟩:=b;have hk:=cc.mp Yy.pk _ (aX c);rw[u5 hi]at c;refine ⟨k,by (refine c.trans ?_);simp only at d;rw[d],?_⟩;simpa using hk
theorem pR(l:List (Str×NameKind)):∀(n:Nat) (acc:List (Str×aG)),(acc.map (·.1)++l.map (·.1)).Nodup->((d4 n l acc).map (·.1)).Nodup:=by
 induction l with
 |nil=>exact λ n acc h=>(cJ (acc.map (·.1)))▸h
 |cons p r a=>
  intro n acc h;have h':(p.1::(acc.map (·.1)++r.map (·.1))).Nodup:=(eX).nodup_iff.mp h;show ((if p.2==.cell then d4 (n+1) r ((p.1,n)::acc)else d4 n r acc).map (·.1)).Nodup;by_cases e:(p.2==.cell)=aj
  ·rw[if_pos e];exact a _ _ h'
  ·rw[if_neg e];exact a _ _ (bC.mp h').2
theorem mS{a:List (Str×aG)}{y:Str}{c b:aG}(e:(a.map (·.1)).Nodup)(h:a.lookup y=ah b)(d:(y,c)∈a):b=c:=Option.some.inj (h.symm.trans (gN e d))
theorem xA(l:List (Str×NameKind))(n i:Nat)(x y:Str)(k:NameKind)(h:(lV n l)[i]? =ah (x,.other))(h':l[i]? =ah (y,k)):¬(k=.local\/k=.cell):=by refine hQ (rm h) λ k' m e q=>?_;cases e.symm.trans h';exact λ h=>h.elim (λ e=>by subst e;cases q) λ e=>by subst e;cases q
theorem Da{G:GC}{d:Nat}{f:aG}{name qual:Str}{I:eM}{body:List Stmt}{scope:iH}{pn:List Str}{RI:List V}(Yy:cv G f name qual I body scope pn RI)
 (args:List V) (J:Mu) (K:args.length+RI.length=pn.length) {A:Around} {base:Heap} {outer:List Env} {s:aQ} {us:List Value} {S₀:b9}
 {R:Except Value Flow->aQ->Prop}
 (BG:Below A base outer (sn s.heap (addrs J))) (SA:G.K.In (sn s.heap (addrs J))) (top:Top G.p G.loose G.Tg G.mg G.mb (sn s.heap (addrs J)))
 (hand:A.handled=ai) (E:A.depth+(d+1)<900) (units:A.units+40*(d+1)+100<fe)
 (hS:∀b o,S₀ b o->s.heap.get? b=ah o/\b∉addrs J) (hKS:∀b o,G.K.lookup b=ah o->S₀ b o) (hM:∀p∈J,MR G.w.params S₀ s.heap p) (hN:(addrs J).Nodup) (hU:dn G.w.params S₀ us args)
 (H:∀O:FC,O.Ok->O.G=G->O.dep=d->(∃n,O.ns=lV n scope.names)->(∀(i:Nat) (x:Str) (c:aG),O.ns[i]? =ah (x,NK.RJ c)->c∈O.own)->O.env.scope=scope->O.env.builtins=ff->
  O.A=A.deeper O.env->O.base=base->O.outer=outer->O.R2=O.env->O.h₀=s.heap->O.Se=addrs J->O.Sd=s->O.S₀=S₀->O.A₀=A->(∀L,O.env.frame=ah L->s.heap.get? L=ai)->
  ∀s',cS O ⟨(args++RI).map ah++bv (scope.names.length-pn.length) ai,J⟩ S₀ [] s'->aW (bn G.prog G.w) O.A (eL body O.env) (λ f D=>R (.ok (.ret (match f with|.ret v=>v|_=>.none))) D)
   (λ e s'=>aW (bn G.prog G.w) O.A (Ji O.env e) (λ Z D=>R (.error e) D) (λ e' D=>R (.error e') D) s') s'):
 gi (bn G.prog G.w) A (.call (.ref f) ⟨us,[]⟩) R s:=by
 obtain ⟨⟨dV,kV,doc,pm,Up,ct,oc,an,od,Wz,hl,ZY,xU,ZU,V_,Q⟩,ZW,W,hk,w,YB,WG⟩:=id Yy;have lv:∀b∈addrs J,∃o,s.heap.get? b=ah o:=λ b g=>by refine b5 (bX.mp g) λ p r g=>?_;exact (hM p r).live b g
 have kg:∀b o,(sn s.heap (addrs J)).get? b=ah o->s.heap.get? b=ah o:=λ b o e=>of_hideAll _ e;have X:=SA.keeps kg;have Zt:us.length+xU.length=pn.length:=by rw[hU.length,V_];exact K
 have hz:(pn.zip (us++xU)).map (·.1)=pn:=List.map_fst_zip (by rw[aF];exact cu (bA ‹_›));have N:pn.Nodup:=by rw[<-YB];exact (hJ _ (fj _ _)).nodup w
 refine DY (by show A.depth<1000;exact OI E) (X _ _ hl) rfl ZW W rfl (codeRec_of X ZY) (Q us s X Zt _ _ _ _ ?_);refine wV hk (λ x hx=>?_) λ aap he s' x=>?_
 ·have US:x.1∈pn:=hz▸bq hx;refine ze (cL.mp US) λ i hi=>?_;refine b5 (Yy.kindAt hi) λ k T B=>?_;have h3:=fW w T;refine b7 B (λ F=>?_) λ F=>?_
  ·subst F;exact .inl h3
  ·subst F;exact .inr ⟨h3,cellsFrom_some _ _ _ (.inl h3)⟩
 subst he;refine ⟨(top.nolimit.keeps kg).keeps x.toInCall.keep,codeAny_func ?_⟩;refine Jy x.toInCall.same λ h₁ tk ZA=>?_;have m:=x.toInCall.keep;have X1:((d4 (s.heap.objs.size+1) scope.names []).map (·.2)).Nodup:=by rw[aO,bU];exact x.apart
 generalize U:newEnv scope s.heap.objs.size b8 (d4 (s.heap.objs.size+1) scope.names []) (qual++".<locals>.") (ah f) Up ai ff=env at*;have Y:((d4 (s.heap.objs.size+1) scope.names []).map (·.1)).Nodup:=pR _ _ _ (by simpa using w);have M:env.locals=s.heap.objs.size:=by rw[<-U];rfl
 have S:env.cells=d4 (s.heap.objs.size+1) scope.names []:=by rw[<-U];rfl
 have eS:env.scope=scope:=by rw[<-U];rfl
 have eF:env.frame=ah s.heap.objs.size:=by rw[<-U];rfl
 have eG:env.globals=b8:=by rw[<-U];rfl
 let O:FC:=FC.mk G (A.deeper env) A base outer (sn s.heap (addrs J)) env s.heap.objs.size env s.heap S₀ (addrs J)
  (lV (s.heap.objs.size+1) scope.names) ((d4 (s.heap.objs.size+1) scope.names []).map (·.2)) s d
 have lk:∀{i:Nat} {y:Str} {k:NameKind},scope.names[i]? =ah (y,k)->env.kindOf y=ah k:=λ h=>by show zh _ env.scope.names=_;rw[eS];exact fW w h
 have l:∀(i:Nat) (y:Str) (c:aG),(lV (s.heap.objs.size+1) scope.names)[i]? =ah (y,NK.RJ c)->env.kindOf y=ah .cell/\env.cells.lookup y=ah c/\(y,c)∈d4 (s.heap.objs.size+1) scope.names []:=λ i y c h=>by
  refine jA (vV _ _ _ _ _ [] h) λ a b Z=>?_;refine ⟨lk a,?_,b⟩;rw[S];cases q:(d4 (s.heap.objs.size+1) scope.names []).lookup y with
  |none=>have:=cellsFrom_some scope.names (s.heap.objs.size+1) [] (.inl (fW w a));rw[q]at this;cases this
  |some c'=>rw[(mS Y q b)]
 have ok:O.Ok:=by
  refine ⟨BG,SA,top,?_,eF,by show env.scope.kind=_;rw[eS];exact hk,cu (hideAll_size _ _),λ b o e=>⟨of_hideAll _ e,λ g=>?_⟩,hS,hand,?_,?_,by show env.scope.kind=_;rw[eS];exact hk,eG,λ i y h=>lk (vU _ _ _ _ h),
   λ i y c h=>⟨(l i y c h).1,(l i y c h).2.1⟩,λ i y h=>lk (tf _ _ _ _ h),by rw[show O.ns.map (·.1)=scope.names.map (·.1)from rj _ _];exact w,λ i j y z c h h'=>t5 _ _ _ _ _ _ _ h h'⟩
  ·show (A.frames.map (env::·))=_;rw[BG.stack];rfl
  ·rw[sm _ g]at e;cases e
  ·show A.depth+1+d<900;exact JW E
  ·show A.units+3+40*d+100<fe;exact OH units
 have t:∀(y:Str) (c:aG),(y,c)∈d4 (s.heap.objs.size+1) scope.names []->∃u,s'.heap.IsCell c u:=λ y c h=>by
  cases q:(d4 (s.heap.objs.size+1) scope.names []).lookup y with
  |none=>exact absurd h (λ h=>by have:=dK.mp q _ h;simp at this)
  |some c'=>exact ⟨_,x.cell y c (by rw[S,q,(mS Y q h)])⟩
 have R0:cS O ⟨(args++RI).map ah++bv (scope.names.length-pn.length) ai,J⟩ S₀ [] s':=by
  refine ⟨⟨_,x.toInCall.ns,λ i y k v a b=>?_⟩,λ i y c h=>t y c (l i y c h).2.2,λ p r=>(hM p r).mono (.refl _) λ b Z o e=>m b o e,?_,?_,?_,λ b o e=>⟨m _ _ (hS b o e).1,?_,.inl e⟩,⟨bL,λ p r=>(nomatch r)⟩,λ b o e Z=>m b o e,
   ⟨_,M▸x.toInCall.ns⟩,λ h=>?_,hKS,λ b o e=>⟨o,m b o e⟩,by rw[ZA];exact ⟨rfl,rfl,rfl⟩⟩
  ·have hi:i<(args++RI).length:=by
    refine b7 (pY i (args++RI).length) (λ h=>?_) λ h=>?_
    ·exact h
    ·rw[bH (by simpa using h)]at b;rw[lB]at b;split at b<;>cases b
   rw[c3 (by simpa using hi),aN]at b;refine b5 (bM.mp b) λ v' Zs e=>?_;cases e;have ZP:i<pn.length:=by rw[<-K,<-aF];exact hi
   refine b5 ((hU.append (ZU S₀)).get Zs) λ u hu hr=>?_;have hy:pn[i]? =ah y:=by
    have e2:(scope.names.map (·.1))[i]? =ah y:=by rw[((rj _ _).symm),aN,a];rfl
    rw[<-YB,g5,u5 ZP];exact e2
   have P:(y,u)∈pn.zip (us++xU):=v0 hy hu;cases k with
   |loc=>exact ⟨u,DA _ _ _ _ (by rw[hz];exact N) P (lk (vU _ _ _ _ a)),hr⟩
   |RJ c=>have:=l i y c a;exact ⟨u,(DB (ko:=env.kindOf) _ (λ Z=>ai) y u (by rw[hz];exact N) P this.1)▸x.cell y c this.2.1,hr⟩
   |glob=>refine b5 (Yy.kindAt hy) λ k' T B=>?_;rw[tf _ _ _ _ a]at T;cases T;rcases B with B|B<;>cases B
   |other=>refine b5 (Yy.kindAt hy) λ k' T B=>?_;exact absurd B (xA _ _ _ _ _ _ a T)
  ·show ((env.locals::(d4 (s.heap.objs.size+1) scope.names []).map (·.2))++addrs J).Nodup;rw[dt,bC,aV];refine ⟨λ h=>?_,X1,hN,λ a ha b g e=>?_⟩
   ·rw[M]at h;refine b7 (aM.mp h) (λ h=>?_) λ h=>?_
    ·refine b5 (aC.mp h) λ p r e=>?_;have:=x.above p.1 p.2 (by rw[S];exact r);rw[M,e]at this;exact absurd this (bB _)
    ·refine ze (lv _ h) λ o C=>?_;exact absurd (cq C) (bB _)
   ·refine b5 (aC.mp ha) λ p r e'=>?_;have:=x.above p.1 p.2 (by rw[S];exact r);refine ze (lv _ g) λ o C=>?_;rw[M,show p.2=b from e'.trans e]at this;exact bB _ (bD this (cq C))
  ·intro b g;refine b7 (aM.mp g) (λ g=>?_) λ g=>?_
   ·refine .inr (el ?_);refine b7 (aI.mp g) (λ F=>?_) λ g=>?_
    ·subst F;exact cu M.symm
    ·refine b5 (aC.mp g) λ p r SH=>?_;subst SH;have:=x.above p.1 p.2 (by rw[S];exact r);rw[M]at this;exact bc this
   ·exact .inl g
  ·intro b g;refine b7 (aM.mp g) (λ g=>?_) λ g=>?_
   ·refine b7 (aI.mp g) (λ F=>?_) λ g=>?_
    ·subst F;refine mN x.toInCall.ns λ o Z Z C Z=>?_;exact ⟨o,C⟩
    ·refine b5 (aC.mp g) λ p r SV=>?_;subst SV;refine hQ (t p.1 p.2 r) λ u o C Z=>?_;exact ⟨o,C⟩
   ·refine ze (lv b g) λ o C=>?_;exact ⟨o,m _ _ C⟩
  ·intro g;refine b7 (aM.mp g) (λ g=>?_) λ g=>?_
   ·have:=cq (hS b o e).1;refine b7 (aI.mp g) (λ F=>?_) λ g=>?_
    ·subst F;rw[show O.env.locals=_ from M]at this;exact bB _ this
    ·refine b5 (aC.mp g) λ p r SU=>?_;subst SU;have B:=x.above p.1 p.2 (by rw[S];exact r);rw[M]at B;exact bB _ (bD B this)
   ·exact (hS b o e).2 g
  ·refine ze (lv _ h) λ o C=>?_;exact absurd (cq C) (bB _)
 exact H O ok rfl rfl ⟨_,rfl⟩ (λ i y c h=>aC.mpr ⟨_,(l i y c h).2.2,rfl⟩) eS (by show env.builtins=_;rw[<-U];rfl) rfl rfl rfl rfl rfl rfl rfl rfl rfl (λ L e=>by rw[show env.frame=ah L from e]at eF;cases eF;exact el (aT _)) s' R0
theorem C_{G:GC}{d:Nat}{f:aG}{name qual:Str}{j:eM}{body:List Stmt}{scope:iH}{pn:List Str}{RI:List V}(Yy:cv G f name qual j body scope pn RI)
 (args:List V) (J:Mu) (t:args.length+RI.length=pn.length) {A q:Around} {base:Heap} {outer:List Env} {a:Env} {g:Heap} {C:aG} {s:aQ} {us:List Value} {S₀:b9} {m:Str->Option Value}
 {R:Except Value Flow->aQ->Prop}
 (B:Below q base outer g) (F:Fr g C s.heap m) (Q:A.frames=ah (a::outer)) (T:a.frame=ah C) (z:a.scope.kind=.function) (y:G.K.In g) (top:Top G.p G.loose G.Tg G.mg G.mb g)
 (r:A.handled=ai) (l:A.depth+(d+1)<900) (units:A.units+40*(d+1)+100<fe)
 (hS:∀b o,S₀ b o->s.heap.get? b=ah o/\b∉addrs J) (w:∀b o,G.K.lookup b=ah o->S₀ b o) (D:∀p∈J,MR G.w.params S₀ s.heap p) (X:(addrs J).Nodup) (K:∀b∈addrs J,g.get? b=ai/\b≠C) (P:dn G.w.params S₀ us args)
 (H:∀O:FC,O.Ok->O.G=G->O.dep=d->(∃n,O.ns=lV n scope.names)->(∀(i:Nat) (x:Str) (c:aG),O.ns[i]? =ah (x,NK.RJ c)->c∈O.own)->O.env.scope=scope->O.env.builtins=ff->
  O.A=A.deeper O.env->O.base=base->O.outer=a::outer->O.R2=O.env->O.h₀=s.heap->O.Se=addrs J->O.Sd=s->O.S₀=S₀->O.A₀=A->(∀L,O.env.frame=ah L->s.heap.get? L=ai)->
  ∀s',cS O ⟨(args++RI).map ah++bv (scope.names.length-pn.length) ai,J⟩ S₀ [] s'->aW (bn G.prog G.w) O.A (eL body O.env) (λ f h=>R (.ok (.ret (match f with|.ret v=>v|_=>.none))) h)
   (λ e s'=>aW (bn G.prog G.w) O.A (Ji O.env e) (λ Z h=>R (.error e) h) (λ S h=>R (.error S) h) s') s'):
 gi (bn G.prog G.w) A (.call (.ref f) ⟨us,[]⟩) R s:=by
 have W:∀b∈addrs J,∃o,s.heap.get? b=ah o:=λ b u=>by refine b5 (bX.mp u) λ p U u=>?_;exact (D p U).live b u
 refine b5 (Fj W K) λ E N k=>?_;refine w2 (groundX (R:=λ Z Z=>True) B F N Q T z) λ M I st Z=>?_;simp only[k]at M I st;exact Da Yy args J t I (y.keeps st) (top.keeps st) r l units hS w D X P H
theorem Db{G:GC}{d:Nat}{f:aG}{name qual:Str}{r:eM}{body:List Stmt}{scope:iH}{pn:List Str}{RI:List V}(Yy:cv G f name qual r body scope pn RI)
 (args:List V) (J:Mu) (post:V->Mu->Prop) (K:args.length+RI.length=pn.length) {A P:Around} {base:Heap} {outer:List Env} {k:Env} {g:Heap} {Y:aG} {s:aQ} {us:List Value} {S₀:b9} {m:Str->Option Value}
 {R:Except Value Flow->aQ->Prop}
 (B:Below P base outer g) (F:Fr g Y s.heap m) (hA:A.frames=ah (k::outer)) (hf:k.frame=ah Y) (XU:k.scope.kind=.function) (X:G.K.In g) (top:Top G.p G.loose G.Tg G.mg G.mb g)
 (Q:A.handled=ai) (E:A.depth+(d+1)<900) (units:A.units+40*(d+1)+100<fe)
 (hS:∀b o,S₀ b o->s.heap.get? b=ah o/\b∉addrs J) (U:∀b o,G.K.lookup b=ah o->S₀ b o) (hM:∀p∈J,MR G.w.params S₀ s.heap p) (hN:(addrs J).Nodup) (hg:∀b∈addrs J,g.get? b=ai/\b≠Y) (hU:dn G.w.params S₀ us args)
 (hR:∀x s',DT G S₀ J post s x s'->R x s')
 (H:∀O:FC,O.Ok->O.G=G->O.dep=d->(∃n,O.ns=lV n scope.names)->(∀(i:Nat) (x:Str) (c:aG),O.ns[i]? =ah (x,NK.RJ c)->c∈O.own)->O.env.scope=scope->O.env.builtins=ff->
  O.A=A.deeper O.env->O.base=base->O.outer=k::outer->O.R2=O.env->O.h₀=s.heap->O.Se=addrs J->O.Sd=s->O.S₀=S₀->O.A₀=A->(∀L,O.env.frame=ah L->s.heap.get? L=ai)->
  ∃Ex:Value->aQ->Prop,(∀e s',Ex e s'->aW (bn G.prog G.w) O.A (Ji O.env e) (λ Z j=>R (.error e) j) (λ e' j=>R (.error e') j) s')/\
   XF O Ex (eL body O.env) (AG J post) ⟨(args++RI).map ah++bv (scope.names.length-pn.length) ai,J⟩):
 gi (bn G.prog G.w) A (.call (.ref f) ⟨us,[]⟩) R s:=by
 refine C_ Yy args J K B F hA hf XU X top Q E units hS U hM hN hg hU λ O ok hG hd WH N Yv W q1 q2 q3 q4 M q6 q7 q8 q9 Xq s' R0=>?_;refine b5 (H O ok hG hd WH N Yv W q1 q2 q3 q4 M q6 q7 q8 q9 Xq) λ Ex hEx H'=>?_;subst hG;refine aY (H' S₀ [] s' R0) (λ fl j zf=>Pt.on zf λ b Y' z hle R' WN hq=>?_) λ e j h=>hEx e j h;refine hR _ _ ?_;have fin:∀u v,VR O.G.w.params z u v->Fin J post v Y'.mu->DT O.G S₀ J post s (.ok (.ret u)) j:=by
  rintro u v hv ⟨Vv,Wu,Uq,w,WI,V6,Yt,Zw,S⟩;obtain ⟨-, -,C,D,a, -,Zo, -,t, -, -, -,I,T⟩:=R';rw[M,q6]at a;rw[M,q6]at t;rw[M]at I;rw[q7]at T;rw[WI]at C D a;have mf:∀p∈Vv,MR O.G.w.params z j.heap p:=λ p S=>C p (aJ _ S);rw[cx]at D a;have q:=Yt.addrs;have y:=aV.mp ((aV.mp D).2.1);refine ⟨u,w,Uq,z.with j.heap (addrs Vv),rfl,T,λ b o e l=>t b o e l,I,hle.trans (b9.RK _ _ _),λ b o e=>?_,Yt.sound mf (λ p S=>C p (ax _ S)),q▸y.2.1,λ b l=>?_,ow.sound mf Zw hv,S⟩
  ·refine b7 e (λ e=>?_) λ zo=>?_
   ·refine jA (Zo b o e) λ h1 h2 h3=>?_;rw[M,q8]at h3;refine ⟨h1,λ l=>h2 ?_,h3⟩;rw[WI,cx];exact ax _ (ax _ (q▸l))
   ·obtain ⟨l,e⟩:=zo;refine ⟨e,λ Z0=>y.2.2 b l b (q▸Z0) rfl,?_⟩;refine b7 (a b (ax _ (aJ _ l))) (λ h=>?_) λ h=>?_
    ·exact absurd rfl (y.2.2 b l b (V6 b h))
    ·exact .inr h
  ·exact a b (ax _ (ax _ (q▸l)))
 cases WN with
 |next=>exact fin _ _ .none hq
 |ret hv=>exact fin _ _ hv hq
 |cont=>exact hq.elim
theorem NC{G:GC}{d:Nat}{f:aG}{name qual:Str}{j:eM}{body:List Stmt}{scope:iH}{pn:List Str}{RI:List V}(Yy:cv G f name qual j body scope pn RI)
 (args:List V) (J:Mu) (post:V->Mu->Prop) (o:args.length+RI.length=pn.length)
 (H:∀O:FC,O.Ok->O.G=G->O.dep=d->(∃n,O.ns=lV n scope.names)->(∀(i:Nat) (x:Str) (c:aG),O.ns[i]? =ah (x,NK.RJ c)->c∈O.own)->O.env.scope=scope->O.env.builtins=ff->
  XF O (λ Z Z=>False) (eL body O.env) (AG J post) ⟨(args++RI).map ah++bv (scope.names.length-pn.length) ai,J⟩):
 cF G (d+1) (.ref f) args J post:=by
 intro A g I s us S₀ D hS p v E w y;obtain ⟨⟨t,base,outer,u,m,B,F,z,C,r⟩,q,top,l,k,units⟩:=D;exact Db Yy args J post o B F z C r q top l k units hS p v E w y (λ Z Z h=>h)
  λ O a b c d e f g Z Z Z Z Z Z Z Z Z Z=>⟨_,λ Z Z h=>h.elim,H O a b c d e f g⟩
theorem MR.Uy{P:bS}{h:Heap}{p:aG×MO}(m:MR P S h p){b:aG}(c:b∈ch p){v:Option Value}:¬h.IsCell b v:=by
 have one:∀{a:aG} {o:Obj},h.get? a=ah o->o.data≠.cell v->¬h.IsCell a v:=λ e k i=>by refine b5 i λ o n l=>?_;exact k (Option.some.inj (e.symm.trans n)▸l)
 have f:∀{a d:aG} {o j:Obj},b∈[a,d]->h.get? a=ah o->h.get? d=ah j->o.data≠.cell v->j.data≠.cell v->¬h.IsCell b v:=λ c e g k k'=>(aI.mp c).elim (λ q=>q▸one e k) λ q=>aE.mp q▸one g k';cases m with
 |list e _=>exact aE.mp c▸one e λ q=>nomatch q
 |dict _ e _=>exact aE.mp c▸one e λ q=>nomatch q
 |inst e g _=>exact f c e g (λ q=>nomatch q) λ q=>nomatch q
 |S_ e=>exact aE.mp c▸one e λ q=>nomatch q
 |S9 e g _=>exact f c e g (λ q=>nomatch q) λ q=>nomatch q
theorem cS.site(R:cS O Y Kp Jj s)(ok:O.Ok):DN O.G O.dep O.A O.g O.fL s.heap:=
 ⟨let ⟨m,F⟩:=R.fr ok;⟨_,_,_,_,m,ok.below,F,ok.frames,ok.R7,ok.Tw⟩,ok.SA,ok.top,ok.hand,ok.depth,ok.units⟩
theorem cS.turned(R:cS O Y Kp Jj s)(ok:O.Ok){J1 J2 J':Mu}(WI:Y.mu=J1++J2){s':aQ}{S':b9}(st:gz s s')(g:∀b o,s.heap.get? b=ah o->b∉addrs J1->s'.heap.get? b=ah o)
 (al:∀b o,s.heap.get? b=ah o->∃E,s'.heap.get? b=ah E) (W:Kp.le S') (hS:∀b o,S' b o->s'.heap.get? b=ah o/\b∉addrs J'/\(Kp b o\/s.heap.get? b=ai))
 (N:∀p∈J',MR O.P S' s'.heap p) (T3:(addrs J').Nodup) (C:∀b∈addrs J',b∈addrs J1\/s.heap.get? b=ai):cS O ⟨Y.vals,J'++J2⟩ S' Jj s':=by
 obtain ⟨⟨m,ZL,U⟩,T,y,nd,G,lv,kp,V,H,⟨mf,hf⟩,A,Vd,P,F⟩:=R;rw[WI]at nd G lv kp V A y;simp only[cx]at nd G lv kp V A;have B:=aV.mp nd;have J:=aV.mp B.2.1;have I:∀b∈O.fp,b∉addrs J1:=λ b d h=>B.2.2 b d b (aJ _ h) rfl;have K:∀b∈addrs J2,b∉addrs J1:=λ b d h=>J.2.2 b h b d rfl;have S:∀{L:aG} {m:Str->Option Value},s.heap.Ns L m->L∉addrs J1->s'.heap.Ns L m:=λ hn hL=>by refine mN hn λ o es ep l r=>?_;exact ⟨o,es,ep,g _ _ l hL,r⟩
 have D:∀{c:aG} {u:Option Value},s.heap.IsCell c u->s'.heap.IsCell c u:=λ {c u} T=>by refine b5 (id T) λ o l z=>?_;refine ⟨o,g _ _ l (λ d=>?_),z⟩;refine b5 (bX.mp d) λ p w d=>?_;exact (y p (aJ _ w)).Uy d T
 have f:∀b,b∈O.fp++addrs J2->∃o,s.heap.get? b=ah o:=λ b d=>lv b (by
  refine b7 (aM.mp d) (λ h=>?_) λ h=>?_
  ·exact aJ _ h
  ·exact ax _ (ax _ h))
 have hL:O.env.locals∈O.fp:=by simp[FC.fp]
 have Q:∀b∈addrs J',b∉O.fp++addrs J2:=λ b d h=>by
  refine b7 (C b d) (λ q=>?_) λ q=>?_
  ·refine b7 (aM.mp h) (λ h=>?_) λ h=>?_
   ·exact I b h q
   ·exact K b h q
  ·refine ze (f b h) λ o t=>?_;rw[q]at t;cases t
 refine ⟨⟨m,S ZL (I _ hL),λ i x k v a b=>?_⟩,λ i x c e=>by refine ze (T i x c e) λ u hu=>?_;exact ⟨u,D hu⟩,λ p w=>?_,?_,λ b d=>?_,λ b d=>?_,λ b o e=>?_,⟨V.1,λ p w=>?_⟩,λ b o e n=>?_,⟨mf,S hf λ h=>A (aJ _ h)⟩,?_,λ b o e=>W _ _ (Vd b o e),λ b o e=>by refine ze (P b o e) λ E h=>?_;exact al _ _ h,?_⟩
 ·have:=U i x k v a b;cases k with
  |loc=>exact let ⟨u,l,z⟩:=this;⟨u,l,z.mono W⟩
  |RJ c=>exact let ⟨u,l,z⟩:=this;⟨u,D l,z.mono W⟩
  |glob=>exact this
  |other=>exact this
 ·refine b7 (aM.mp w) (λ w=>?_) λ w=>?_
  ·exact N p w
  ·exact (y p (ax _ w)).mono W λ b d o e=>g b o e (K b (dw w d))
 ·simp only[cx];rw[aV,aV];refine ⟨B.1,⟨T3,J.2.1,λ a X b d e=>Q a X (ax _ (e▸d))⟩,λ a X b d e=>?_⟩;refine b7 (aM.mp d) (λ h=>?_) λ h=>?_
  ·exact Q b h (aJ _ (e▸X))
  ·exact B.2.2 a X b (ax _ h) e
 ·simp only[cx]at d;refine b7 (aM.mp d) (λ d=>?_) λ d=>?_
  ·exact G b (aJ _ d)
  ·refine b7 (aM.mp d) (λ d=>?_) λ d=>?_
   ·refine b7 (C b d) (λ q=>?_) λ q=>?_
    ·exact G b (ax _ (aJ _ q))
    ·by_cases U:b∈O.Se
     ·exact .inl U
     ·cases hh:O.h₀.get? b with
      |none=>exact .inr rfl
      |some o=>have:=H b o hh U;rw[q]at this;cases this
   ·exact G b (ax _ (ax _ d))
 ·simp only[cx]at d;refine b7 (aM.mp d) (λ d=>?_) λ d=>?_
  ·refine ze (f b (aJ _ d)) λ o t=>?_;exact al _ _ t
  ·refine b7 (aM.mp d) (λ d=>?_) λ d=>?_
   ·refine b5 (bX.mp d) λ p w d=>?_;exact (N p w).live b d
   ·refine ze (f b (ax _ d)) λ o t=>?_;exact al _ _ t
 ·refine jA (hS b o e) λ l z j=>?_;refine ⟨l,λ d=>?_,?_⟩
  ·simp only[cx]at d;have M:b∈O.fp++addrs J2:=by
    refine b7 (aM.mp d) (λ h=>?_) λ h=>?_
    ·exact aJ _ h
    ·refine b7 (aM.mp h) (λ h=>?_) λ h=>?_
     ·exact absurd h z
     ·exact ax _ h
   refine b7 j (λ j=>?_) λ j=>?_
   ·refine (kp b o j).2.1 ?_;refine b7 (aM.mp M) (λ h=>?_) λ h=>?_
    ·exact aJ _ h
    ·exact ax _ (ax _ h)
   ·refine ze (f b M) λ E t=>?_;rw[j]at t;cases t
  ·refine b7 j (λ j=>?_) λ j=>?_
   ·exact (kp b o j).2.2
   ·cases hh:O.h₀.get? b with
    |none=>exact .inr rfl
    |some E=>refine ze (P b E hh) λ o'' h4=>?_;rw[j]at h4;cases h4
 ·refine w2 (V.2 p w) λ l z h2k h2o=>?_;have j:p.1∉addrs J1:=λ h=>z (ax _ (aJ _ h));refine ⟨g _ _ l j,λ d=>?_,λ E h'=>(hS _ _ h').2.2.elim (h2k E) λ q=>(by rw[l]at q;cases q),h2o⟩;simp only[cx]at d;refine b7 (aM.mp d) (λ h=>?_) λ h=>?_
  ·exact z (aJ _ h)
  ·refine b7 (aM.mp h) (λ h=>?_) λ h=>?_
   ·refine b7 (C _ h) (λ q=>?_) λ q=>?_
    ·exact j q
    ·rw[l]at q;cases q
   ·exact z (ax _ (ax _ h))
 ·refine g _ _ (H b o e n) λ d=>?_;refine b7 (G b (ax _ (aJ _ d))) (λ q=>?_) λ q=>?_
  ·exact n q
  ·rw[q]at e;cases e
 ·simp only[cx];intro h;refine b7 (aM.mp h) (λ h=>?_) λ h=>?_
  ·refine b7 (C _ h) (λ q=>?_) λ q=>?_
   ·exact A (aJ _ q)
   ·refine mN hf λ o Z Z t Z=>?_;rw[q]at t;cases t
  ·exact A (ax _ h)
 ·exact ⟨st.1.trans F.1,st.2.1.trans F.2.1,st.2.2.trans F.2.2⟩
noncomputable def cU(O:FC)(Ex:Value->aQ->Prop)(f:Value)(vs:List V)(Q:V->St->Prop)(Y:St):Prop:=
 ∀Kp Jj s us,cS O Y Kp Jj s->dn O.P Kp us vs->aW (bn O.G.prog O.G.w) O.A (call f us) (Pt O Jj Kp (VR O.P) Q) Ex s
theorem HH{f:Value}(J2:Mu){post:V->Mu->Prop}(ok:O.Ok)(h:cF O.G d f vs J1 post)(hd:d<=O.dep)(a:Y.mu=J1++J2)(q:∀v J',post v J'->Q v ⟨Y.vals,J'++J2⟩):cU O Ex f vs Q Y:=λ Kp Jj s us R m=>by
 have nd:=R.nd;rw[a,cx]at nd;have i:=aV.mp (aV.mp nd).2.1;have sub:∀b∈addrs J1,b∈O.fp++addrs Y.mu:=λ b c=>by rw[a,cx];exact ax _ (aJ _ c)
 refine jn (kr ((h.mono (post':=post) hd (λ Z Z x=>x)) O.A O.g O.fL s us Kp (R.site ok) (λ b o e=>⟨(R.kp b o e).1,λ c=>(R.kp b o e).2.1 (sub b c)⟩) R.Vd (λ p g=>R.mu p (by rw[a];exact aJ _ g)) i.1 (λ b c=>⟨?_,?_⟩) m) ?_)
 ·cases l:O.g.get? b with
  |none=>rfl
  |some o=>
   refine za (ok.SP b o l) λ j k=>?_;refine b7 (R.fresh b (sub b c)) (λ q=>?_) λ q=>?_
   ·exact absurd q k
   ·rw[q]at j;exact nomatch j
 ·rintro rfl;exact R.Y2 (by simp only[a,cx];exact aJ _ c)
 ·rintro r s' ⟨u,v,J',S',rfl,st,keep,al,le,hS,UA,T3,UJ,hv,g⟩;exact ⟨v,_,S',le,R.turned ok a st keep al le hS UA T3 UJ,hv,q v J' g⟩
section
variable{f:Value}{v w t:V}
theorem cU.one(h:∀Kp Jj s u,cS O Y Kp Jj s->VR O.P Kp u v->aW (bn O.G.prog O.G.w) O.A (call f [u]) (Pt O Jj Kp (VR O.P) Q) Ex s):cU O Ex f [v] Q Y:=λ Kp Jj s us R b=>b.TX λ u a=>h Kp Jj s u R a
theorem cU.two(h:∀Kp Jj s u c,cS O Y Kp Jj s->VR O.P Kp u v->VR O.P Kp c w->aW (bn O.G.prog O.G.w) O.A (call f [u,c]) (Pt O Jj Kp (VR O.P) Q) Ex s):cU O Ex f [v,w] Q Y:=λ Kp Jj s us R d=>d.U5 λ u c a b=>h Kp Jj s u c R a b
theorem cU.three(h:∀Kp Jj s u e d,cS O Y Kp Jj s->VR O.P Kp u v->VR O.P Kp e w->VR O.P Kp d t->aW (bn O.G.prog O.G.w) O.A (call f [u,e,d]) (Pt O Jj Kp (VR O.P) Q) Ex s):cU O Ex f [v,w,t] Q Y:=λ Kp Jj s us R g=>g.U6 λ u e d a b c=>h Kp Jj s u e d R a b c
end
noncomputable def Nu(v:V)(Q:List V->St->Prop):List V->St->Prop:=λ vs Y=>Q (v::vs) Y
noncomputable def Nv(O:FC)(Ex:Value->aQ->Prop)(rest:List Expr)(pos:gY)(Q:List V->St->Prop):V->St->Prop:=λ v Y=>XL O Ex (c7 (cO pos (bk rest O.env))) (Nu v Q) Y
noncomputable def PR(Q:List V->St->Prop):V->St->Prop:=λ v Y=>Q [v] Y
noncomputable def rE(O:FC)(Ex:Value->aQ->Prop)(f:Value)(Q:V->St->Prop):List V->St->Prop:=λ vs Y=>cU O Ex f vs Q Y
noncomputable def um(O:FC)(Ex:Value->aQ->Prop)(f:Value)(o:V)(Q:V->St->Prop):List V->St->Prop:=λ vs Y=>cU O Ex f (o::vs) Q Y
theorem cz{Q:List V->St->Prop}(h:Q [] Y):XL O Ex (c7 (cO pos (bk [] O.env))) Q Y:=λ Kp Jj s R=>az ⟨[],Y,Kp,.refl _,R,.nil,h⟩
theorem pg{a:List Expr}{Q:List V->St->Prop}(h:XV O Ex (bw e O.env) (Nv O Ex a pos Q) Y)(m:bk (e::a) O.env=(ao,bw e O.env)::bk a O.env):XL O Ex (c7 (cO pos (bk (e::a) O.env))) Q Y:=λ Kp Jj s R=>by rw[m];show aW _ _ (do let v <-bw e O.env;let b <-pure [v];return b++(<-kj b (c7 (cO pos (bk a O.env))))) _ _ _;refine aw (h.Rr R λ u l v j Kk l₁ f n h₁=>aw (az (aw (bE (h₁.Rr f λ us Rw vs c g l₂ d k i=>az ⟨_,c,g,l₁.trans l₂,d,.cons (n.mono l₂) k,i⟩)))))
noncomputable def nz(G:GC)(f:Value):Prop:=∀h,G.K.In h->∃k,(k=Keeper.frame\/k=Keeper.machine\/k=Keeper.boundFrame)/\Looks (bn G.prog G.w) h (keeperOf f) k
theorem iJ(G:GC)(id:String):nz G (.builtin id):=λ h Z=>⟨.machine,.inr (.inl rfl),Looks.of_pure rfl⟩
theorem gV(G:GC)(T:String):nz G (.type T):=λ h Z=>⟨.machine,.inr (.inl rfl),Looks.of_pure rfl⟩
theorem my{f:Value}(hk:m4 G.K f=aj):nz G f:=λ h X=>keeps_K hk h X
noncomputable abbrev DO(pos:gY)(args:List Expr)(env:Env):Prop:=(cO pos (bk args env)).any (·.1)=ao
noncomputable abbrev Hv(pos:gY)(args:List Expr)(env:Env):Prop:=wZ (args.length+0) (cO pos (bk args env)) []=aj
theorem jo{f:Value}{first:List V}{args:List Expr}{Q:V->St->Prop}{pos:gY}(ok:O.Ok)(hk:nz O.G f)(d:(cO pos (bk args O.env)).any (·.1)=ao)
 (h:XL O Ex (c7 (cO pos (bk args O.env))) (λ vs g=>cU O Ex f (first++vs) Q g) Y):
 ∀Kp Jj s us,cS O Y Kp Jj s->dn O.P Kp us first->aW (bn O.G.prog O.G.w) O.A (callWith pos f us (cO pos (bk args O.env)) []) (Pt O Jj Kp (VR O.P) Q) Ex s:=λ Kp Jj s us R n=>by
 refine Ep (P:=O.G.K.In) (by rw[d];rfl) hk ?_;have main:aW (bn O.G.prog O.G.w) O.A (c7 (cO pos (bk args O.env))) (λ vs c=>O.G.K.In c.heap/\aW (bn O.G.prog O.G.w) O.A (call f (us++vs) []) (Pt O Jj Kp (VR O.P) Q) Ex c) Ex s:=
  h.Rr R λ vs c ws g Kk l₁ i o h₁=>⟨i.SA ok,aY (h₁ Kk Jj c (us++vs) i ((dn.mono l₁ n).append o)) (λ Z Z x=>up l₁ x) λ Z Z e=>e⟩
 skip;cases k:cO pos (bk args O.env)with
 |nil=>rw[k]at main;show aW _ _ (c7 []>>=_) _ _ _;refine aw (aY main (λ vs c m=>?_) λ Z Z e=>e);exact aw (az (bE (aw (az (aw (az (az m)))))))
 |cons a l=>
  obtain ⟨b,x⟩:=a;rw[k]at main d;have j:b=ao:=by simpa using (zi.mp d).1
  subst j;show aW _ _ (c7 ((ao,x)::l)>>=_) _ _ _;refine aw (aY main (λ vs c m=>?_) λ Z Z e=>e);exact aw (az (bE (aw (az (aw (az (az m)))))))
theorem tL{x:Str}{v:Value}(i:Nat)(ok:O.Ok)(hi:O.ns[i]? =ah (x,.glob))(a:mM O.G.K b8 x=ah (ah v))(hd:iS x=aj)(R:cS O Y Kp Jj s){pos:gY}{Q:Value->aQ->Prop}(h:Q v s):
 aW (bn O.G.prog O.G.w) O.A (bw (.Name x pos) O.env) Q Ex s:=by
 refine ze (R.fr ok) λ m F=>?_;exact oJ ok.kind (ok.glob i x hi) (Jh ((bA ok.globals)▸ok.top.g.keeps F.keep) (mg_of ok.SA ok.top.g a) h) (by simpa[iS]using hd)
theorem u7{x:Str}{v:Value}(i:Nat)(ok:O.Ok)(a:O.env.builtins=ff)(hi:O.ns[i]? =ah (x,.glob))(c:mM O.G.K b8 x=ah ai)(b:so x=ah v)(d:x≠"__name__")(hd:iS x=aj)(R:cS O Y Kp Jj s){pos:gY}{Q:Value->aQ->Prop}(h:Q v s):
 aW (bn O.G.prog O.G.w) O.A (bw (.Name x pos) O.env) Q Ex s:=by
 refine ze (R.fr ok) λ m F=>?_;exact oJ ok.kind (ok.glob i x hi) (loadGlobal_builtin (by rw[ok.globals];exact ok.top.g.keeps F.keep) (mg_none_of ok.SA ok.top.g c) (by rw[a];exact ok.top.b.keeps F.keep) ((ok.top.builtins x d).trans b) h) (by simpa[iS]using hd)
theorem HL{x:Str}{u:Value}{v:V}{pos:gY}{Q:V->St->Prop}(i:Nat)(ok:O.Ok)(hi:O.ns[i]? =ah (x,.glob))(c:mM O.G.K b8 x=ah (ah u))(hd:iS x=aj)(a:VR O.P (λ b o=>O.G.K.lookup b=ah o) u v)(h:Q v Y):
 XV O Ex (bw (.Name x pos) O.env) Q Y:=λ Kp Jj s R=>tL i ok hi c hd R ⟨v,Y,Kp,.refl _,R,a.mono R.Vd,h⟩
theorem tM{f:Value}(i:Nat)(ok:O.Ok)(hi:O.ns[i]? =ah (x,.glob))(b:mM O.G.K b8 x=ah (ah f))(hd:iS x=aj)(hk:m4 O.G.K f=aj)(a:(cO pos (bk args O.env)).any (·.1)=ao)(h:XL O Ex (c7 (cO pos (bk args O.env))) (rE O Ex f Q) Y):XV O Ex (bw (.Call (.Name x np) args [] pos) O.env) Q Y:=λ Kp Jj s R=>tI (tL i ok hi b hd R (jo (first:=[]) ok (my hk) a h Kp Jj s [] R .nil))
theorem EE{f:Value}(i:Nat)(ok:O.Ok)(b:O.env.builtins=ff)(hi:O.ns[i]? =ah (x,.glob))(d:mM O.G.K b8 x=ah ai)(c:so x=ah f)(e:x≠"__name__")(hd:iS x=aj)(hk:nz O.G f)(a:(cO pos (bk args O.env)).any (·.1)=ao)(h:XL O Ex (c7 (cO pos (bk args O.env))) (rE O Ex f Q) Y):XV O Ex (bw (.Call (.Name x np) args [] pos) O.env) Q Y:=λ Kp Jj s R=>tI (u7 i ok b hi d c e hd R (jo (first:=[]) ok hk a h Kp Jj s [] R .nil))
noncomputable def nf(x:Str)(v:V):List (Str×V)->List (Str×V)
 |[]=>[(x,v)]
 |(y,w)::r=>if x==y then (y,v)::r else (y,w)::nf x v r
theorem tp(x y:Str)(t:Jm):(u0 y t).isStr x=(x==y):=by show decide (y=x)=decide (x=y);exact decide_eq_decide.mpr ⟨bA,bA⟩
theorem g_.noRef{P:bS}(h:g_ P S es fs):es.any (·.refKey)=ao:=h.ind rfl λ Z Z Z Z Z Z Z Z k=>k
noncomputable def DR(P:bS)(S:b9)(x:Str)(es:List bN):Option V->Prop
 |none=>es.find? (·.key.isStr x)=ai
 |some v=>∃e,es.find? (·.key.isStr x)=ah e/\VR P S e.val v
theorem g_.find{P:bS}(h:g_ P S es fs)(x:Str):DR P S x es (fs.lookup x):=
 h.ind rfl λ y t u es v fs a Z k=>by
  have e:(u0 y t).isStr x=(x==y):=tp x y t;have f:∀o,DR P S x es o->(x==y)=ao->DR P S x (⟨PySem.PyData.keyHash P y,.str y t,u⟩::es) o:=λ o h b=>by
   have c:(⟨PySem.PyData.keyHash P y,.str y t,u⟩::es:List bN).find? (·.key.isStr x)=es.find? (·.key.isStr x):=List.find?_cons_of_neg (by show ¬(u0 y t).isStr x=aj;rw[e,b];exact dj);cases o with
   |none=>exact c.trans h
   |some v=>exact let ⟨en,h1,h2⟩:=h;⟨en,c.trans h1,h2⟩
  rw[br];cases b:x==y with
  |true=>exact ⟨_,List.find?_cons_of_pos (e.trans b),a⟩
  |false=>exact f _ k b
theorem g_.get{P:bS}(h:g_ P S es fs){v:V}(e:fs.lookup x=ah v):∃e u,es.find? (·.key.isStr x)=ah e/\e.val=u/\VR P S u v:=by have:=h.find x;rw[e]at this;exact let ⟨en,a,b⟩:=this;⟨en,_,a,rfl,b⟩
theorem g_.absent{P:bS}(h:g_ P S es fs)(e:fs.lookup x=ai):es.find? (·.key.isStr x)=ai:=by have:=h.find x;rwa [e]at this
theorem g_.getL{P:bS}(h:g_ P S es fs){v:V}(e:fs.lookup x=ah v):∃u,W.getL x es=ah (ah u)/\VR P S u v:=by refine fx (h.get e) λ d u c a b=>?_;subst a;exact ⟨_,by unfold W.getL;rw[c],b⟩
theorem g_.SM{P:bS}(h:g_ P S es fs)(e:fs.lookup x=ai):W.getL x es=ah ai:=by unfold W.getL;rw[h.absent e,h.noRef];rfl
theorem g_.put{P:bS}{t:Jm}{v:V}(b:VR P S u v){es:List bN}(h:g_ P S es fs):g_ P S (putL x (PyData.keyHash P x) (.str x t) u es) (nf x v fs):=
 h.ind (.cons b .nil) λ y c d es w fs a r k=>by
  unfold putL;show g_ P S (if (u0 y c).isStr x then _ else _) (if x==y then _ else _);rw[tp];cases x==y with
  |true=>exact .cons b r
  |false=>exact .cons a k
theorem pp(x:Str)(h:Int)(k u:Value):∀es:List bN,(putL x h k u es).length<=es.length+1:=by
 intro es;induction es with
 |nil=>simp[putL]
 |cons e r a=>
  unfold putL;split
  ·simp
  ·have:=a;simp only[bj];exact dh ‹_›
theorem g_.length{P:bS}(h:g_ P S es fs):es.length=fs.length:=
 h.ind rfl λ y t u es v fs a Z k=>congrArg j8 k
theorem VR.handed{P:bS}{v:V}(h:VR P S u v):handedIn u=aj:=by cases h<;>rfl
set_option tactic.hygienic true in
theorem HG{a d:aG}{n:Nat}(ok:O.Ok)(R:cS O Y Kp Jj s)(i:s.heap.get? a=ah (io C d))(f:s.heap.get? d=ah (dictOf es n))(hk:j2 O.G.K C name=aj)(e:W.getL name es=ah (ah u))(g:handedIn u=aj){Q:Value->aQ->Prop}(h:Q u {s with toks:=s.toks+1}):aW (bn O.G.prog O.G.w) O.A (A6 (.ref a) name expr) Q Ex s:=by
 unfold j2 at hk;simp only[cZ]at hk;refine za hk λ c b=>?_;obtain ⟨j,hd⟩:=c;split at b
 ·rename_i attr ha;exact get_value (od:=ah (dictOf es n)) (R.SA ok) ⟨i,rfl,rfl,f⟩ (Eg j).1 (findObj_own hd ha b e) g h
 ·cases b
inductive sH(Y:St):V->aG->List (Str×V)->Prop
 |frozen {C:aG} {fs:List (Str×V)}:sH Y (.inst C fs) C fs
 |led {a C d:aG} {fs:List (Str×V)}:(a,.inst C d fs)∈Y.mu->sH Y (.ref a) C fs
inductive P7(P:bS)(S:b9)(h:Heap)(C:aG)(fs:List (Str×V)):Value->Prop
 |mk (a d:aG) (es:List bN) (n:Nat) (e:h.get? a=ah (io C d)) (e':h.get? d=ah (dictOf es n)) (r:g_ P S es fs):P7 P S h C fs (.ref a)
theorem sH.at{v:V}(I:sH Y v C fs)(R:cS O Y Kp Jj s){u:Value}:VR O.P Kp u v->P7 O.P Kp s.heap C fs u:=
 sH.rec (motive:=λ v C fs Z=>VR O.P Kp u v->P7 O.P Kp s.heap C fs u) (λ d=>d.instE λ Z Z Z Z a b c=>⟨_,_,_,_,(R.kp _ _ a).1,(R.kp _ _ b).1,c⟩) (λ f d=>d.RS ((R.mu _ f).instE λ Z Z e g r=>⟨_,_,_,_,e,g,r⟩)) I
noncomputable abbrev Js(o:Expr)(name:Str)(args:List Expr)(apos pos:gY)(env:Env):Prop:=bw (.Call (.Attribute o name apos) args [] pos) env=(do
 let ov <-bw o env
 i1 apos.atName
 gT o name apos pos env ov (args.length+0) (cO pos (bk args env)) [])
noncomputable abbrev Jv(value:Expr)(attr:Str)(pos:gY)(env:Env):Prop:=bw (.Attribute value attr pos) env=(do
 let o <-bw value env
 i1 pos.atName
 let r <-kj [o] (A6 o attr aj)
 w1 value o r
 pure r)
theorem HO(ok:O.Ok)(h:XV O Ex (bw value O.env) (λ o b=>∃C fs v,sH b o C fs/\j2 O.G.K C attr=aj/\fs.lookup attr=ah v/\Q v b) Y)(m:Jv value attr pos O.env):XV O Ex (bw (.Attribute value attr pos) O.env) Q Y:=λ Kp Jj s R=>Attribute_any_ (h.Rr R λ u f o b Kk l₁ c i h₁=>by refine qA h₁ λ C fs v I hk k l=>?_;obtain ⟨a,d,es,n,p,q,g⟩:=I.at c i;refine b5 (g.getL k) λ r j e=>?_;exact HG ok c p q hk j e.handed ⟨v,b,Kk,l₁,c.toks _,e,l⟩) m
noncomputable def rp(K:gb)(C:aG)(name:Str)(f:aG):Bool:=Eh K C name&&hP K (.ref C) name==ah (ah (.ref f))&&lO K (.ref f)==ah (.type "function")&&m4 K (.ref f)
theorem EC{o:Expr}{name:Str}{b pos:gY}{args:List Expr}{Q:V->St->Prop}(ok:O.Ok)(i:DO pos args O.env)
 (h:XV O Ex (bw o O.env) (λ ov c=>∃C fs f,sH c ov C fs/\rp O.G.K C name f=aj/\fs.lookup name=ai/\XL O Ex (c7 (cO pos (bk args O.env))) (λ vs j=>cU O Ex (.ref f) (ov::vs) Q j) c) Y)
 (E:Js o name args b pos O.env)
 (A:Hv pos args O.env) (z:(b.endLine==pos.line)=aj):
 XV O Ex (bw (.Call (.Attribute o name b) args [] pos) O.env) Q Y:=λ Kp Jj s R=>by
 rw[E];refine aw (h.Rr R λ u k ov c Kk l₁ g t h₁=>aw (et ?_));refine qA h₁ λ C fs f I hk B w=>?_;obtain ⟨a,d,es,n,D,y,l⟩:=I.at g t;unfold rp at hk;simp only[cZ,beq_iff_eq]at hk;refine za hk λ m q=>?_;obtain ⟨⟨r,p⟩,v⟩:=m;unfold gT;refine aw (bE ?_);unfold Eo;rw[A,if_pos rfl];refine method_fn (od:=ah (dictOf es n)) (g.SA ok) ⟨D,rfl,rfl,y⟩ (Eg r).1 (Eg r).2 p v (by show (qy name (dictOf es n)).map _=_;rw[lookIn_dict,l.SM B];rfl) ?_;show aW _ _ (d1 aj o O.env b pos>>=_) _ _ _;rw[(show d1 aj o O.env b pos=pure pos by unfold d1;rw[z];rfl)];refine aw (az ?_);exact aY (jo (first:=[ov]) ok (my q) i w Kk Jj k [.ref a] g (.cons t .nil)) (λ Z Z x=>up l₁ x) λ Z Z e=>e
theorem cS.Uw(R:cS O Y Kp Jj s)(ok:O.Ok){J1 J2:Mu}{p q:aG×MO}(n:Y.mu=J1++p::J2)(h:ch q=ch p){h':Heap}{tk:Nat}{a:aG}(H:a∈ch p)(D:Heap.SameBut a s.heap h')
 (L:∃o,h'.get? a=ah o) (I:MR O.P Kp h' q):cS O ⟨Y.vals,J1++q::J2⟩ Kp Jj {s with heap:=h',toks:=tk}:=by
 have nd:=R.nd;rw[n,cx]at nd;have v:∀{p:aG×MO} {l:Mu},addrs (p::l)=ch p++addrs l:=rfl;rw[v]at nd;have K:cS O ⟨Y.vals,p::(J1++J2)⟩ Kp Jj s:=by
  obtain ⟨a1,F,A,B,z,E,i,g,C,k,m,r,t,j⟩:=R;have w:(p::(J1++J2)).Perm Y.mu:=n▸eX.symm;have y:(addrs (p::(J1++J2))).Perm (addrs Y.mu):=kc _ w;have f:(O.fp++addrs (p::(J1++J2))).Perm (O.fp++addrs Y.mu):=y.append_left _;exact ⟨a1,F,λ x d=>A x (w.mem_iff.mp d),f.nodup_iff.mpr B,λ b c=>z b (f.mem_iff.mp c),λ b c=>E b (f.mem_iff.mp c),λ b o e=>⟨(i b o e).1,λ c=>(i b o e).2.1 (f.mem_iff.mp c),(i b o e).2.2⟩,
   ⟨g.1,λ x d=>⟨(g.2 x d).1,λ c=>(g.2 x d).2.1 (f.mem_iff.mp c),(g.2 x d).2.2⟩⟩,C,k,λ c=>m (y.mem_iff.mp c),r,t,j⟩
 have M:=K.turned (J1:=[p]) (J2:=J1++J2) (J':=[q]) (s':={s with heap:=h',toks:=tk}) (S':=Kp) ok rfl ⟨rfl,rfl,rfl⟩ (λ b o e c=>(D.2 b (λ u=>c (by rw[u,v];exact aJ _ H))).trans e)
  (λ b o e=>by
   by_cases u:b=a
   ·exact u▸L
   ·exact ⟨o,(D.2 b u).trans e⟩) (.refl _) (λ b o e=>?_) (λ x d=>by rw[aE.mp d];exact I) ?_ (λ b c=>.inl (by simpa[v,addrs,h]using c))
 ·obtain ⟨a1,F,A,B,z,E,i,g,C,k,m,r,t,j⟩:=M;have w:(J1++q::J2).Perm ([q]++(J1++J2)):=eX;have y:(addrs (J1++q::J2)).Perm (addrs ([q]++(J1++J2))):=kc _ w;have f:(O.fp++addrs (J1++q::J2)).Perm (O.fp++addrs ([q]++(J1++J2))):=y.append_left _;exact ⟨a1,F,λ x d=>A x (w.mem_iff.mp d),f.nodup_iff.mpr B,λ b c=>z b (f.mem_iff.mp c),λ b c=>E b (f.mem_iff.mp c),λ b o e=>⟨(i b o e).1,λ c=>(i b o e).2.1 (f.mem_iff.mp c),(i b o e).2.2⟩,
   ⟨g.1,λ x d=>⟨(g.2 x d).1,λ c=>(g.2 x d).2.1 (f.mem_iff.mp c),(g.2 x d).2.2⟩⟩,C,k,λ c=>m (y.mem_iff.mp c),r,t,j⟩
 ·have G:b∉ch p:=λ c=>(R.kp b o e).2.1 (by rw[n,cx,v];exact ax _ (ax _ (aJ _ c)));exact ⟨(D.2 b (λ u=>G (u▸H))).trans (R.kp b o e).1,λ c=>G (by simpa[v,addrs,h]using c),.inl e⟩
 ·have J:=(aV.mp (aV.mp (aV.mp nd).2.1).2.1).1;simpa[v,addrs,h]using J
theorem cS.perm(R:cS O Y Kp Jj s){J':Mu}(m:J'.Perm Y.mu):cS O ⟨Y.vals,J'⟩ Kp Jj s:=by
 obtain ⟨a1,t,u,p,v,r,h,f,q,j,g,k,l,i⟩:=R;have n:(addrs J').Perm (addrs Y.mu):=kc _ m;have c:(O.fp++addrs J').Perm (O.fp++addrs Y.mu):=n.append_left _;exact ⟨a1,t,λ x d=>u x (m.mem_iff.mp d),c.nodup_iff.mpr p,λ b a=>v b (c.mem_iff.mp a),λ b a=>r b (c.mem_iff.mp a),λ b o e=>⟨(h b o e).1,λ a=>(h b o e).2.1 (c.mem_iff.mp a),(h b o e).2.2⟩,
  ⟨f.1,λ x d=>⟨(f.2 x d).1,λ a=>(f.2 x d).2.1 (c.mem_iff.mp a),(f.2 x d).2.2⟩⟩,q,j,λ a=>g (n.mem_iff.mp a),k,l,i⟩
set_option tactic.hygienic true in
theorem HF{a d:aG}{v:V}(ok:O.Ok)(R:cS O Y Kp Jj s)(c:Y.mu=J1++(a,.inst C d fs)::J2)(hk:iN O.G.K C name=aj)(hz:fs.length<900)(z:VR O.P Kp u v){Q:Unit->aQ->Prop}(h:∀s',cS O ⟨Y.vals,J1++(a,.inst C d (nf name v fs))::J2⟩ Kp Jj s'->Q () s'):aW (bn O.G.prog O.G.w) O.A (setAttr (.ref a) name u) Q Ex s:=by
 unfold iN at hk;simp only[cZ,beq_iff_eq]at hk;refine za hk λ i A=>?_;obtain ⟨⟨k1,k2⟩,k3⟩:=i;have F:(a,MO.inst C d fs)∈Y.mu:=by rw[c];simp
 cases R.mu _ F with
 |inst g f r=>
  rename_i es n;have G:=R.fr ok;have nd:=R.nd;rw[c,cx]at nd;have p:d∈O.fp++addrs Y.mu:=by rw[c,cx];exact ax _ (ax _ (aJ _ (by simp[ch])))
  have x:O.g.get? d=ai:=by
   cases E:O.g.get? d with
   |none=>rfl
   |some o=>
    refine za (ok.SP d o E) λ t y=>?_;rcases R.fresh d p with q|q
    ·exact absurd q y
    ·rw[q]at t;cases t
  have X:=R.SA ok;refine set_plain X (show InstAt s.heap a (io C d) C (ah (dictOf es n))from ⟨g,rfl,rfl,f⟩) k1 (osa_open (od:=ah (dictOf es n)) (s:={s with toks:=s.toks+1}) X ⟨g,rfl,rfl,f⟩ k2 k3 λ b=>?_)
  refine b5 (any_some A) λ H B k=>?_;refine aw (az (aw (aw (fc g (aw (oF X B _ _ _ _ (λ Z Z e=>e) ?_))))));rw[k];refine az (a:=ah d) (aw (az (aw ?_)));unfold nsSet;refine aw (aw (wpAny_askSetting (az (aw (A4 (aw (fc f ?_)))))));have D:Gg name es.toArray=ao:=by rw[A_];rw[(show es.toArray.any (·.refKey)=ao by rw[i0];exact r.noRef),m3]
  dsimp only;rw[D];refine wpAny_updatePart f ?_;have w:=putName_dict name (PyData.keyHash O.P name) (.str name (s.toks+1)) u es n;have l:(s.heap.update d (Obj.putName name (PyData.keyHash O.P name) (.str name (s.toks+1)) u)).get? d=ah (dictOf (putL name (PyData.keyHash O.P name) (.str name (s.toks+1)) u es) (putN name es n)):=by rw[<-w];exact dc _ f (by rw[w];rfl)
  refine aw (wpAny_lookBehind l (pastItsLine_dict (by rw[bI,dE];exact Gz hz (pp name (PyData.keyHash O.P name) (.str name (s.toks+1)) u es) r.length)) ?_);refine az (h _ ?_);have j:=(aV.mp (aV.mp nd).2.1).2.1;have m:a≠d:=by have:(ch (a,MO.inst C d fs)).Nodup:=(aV.mp j).1;simp[ch]at this;exact this
  exact R.Uw (q:=(a,.inst C d (nf name v fs))) (a:=d) ok c rfl (by simp[ch]) (Heap.SameBut.update ..) ⟨_,l⟩ (.inst ((fG _ _ _ _ m).trans g) l (r.put z))
open Classical in
noncomputable def gE(v w:V):Bool:=decide (v=w)
theorem eN(v:V):gE v v=aj:=@decide_eq_true _ (_) rfl
theorem f6{v w:V}:gE v w=aj↔v=w:=@decide_eq_true_iff _ (_)
theorem iy{v w:V}(h:v≠w):gE v w=ao:=@decide_eq_false _ (_) h
theorem tO{v w:V}{b:Bool}(h:b=aj↔v=w):gE v w=b:=fh.mpr (f6.trans h.symm)
theorem k7(a b:Int):gE (.int a) (.int b)=(a==b):=tO ⟨λ h=>congrArg V.int (beq_iff_eq.mp h),λ h=>beq_iff_eq.mpr (V.int.inj h)⟩
theorem hY(a b:Str):gE (.str a) (.str b)=(a==b):=tO ⟨λ h=>congrArg V.str (beq_iff_eq.mp h),λ h=>beq_iff_eq.mpr (V.str.inj h)⟩
noncomputable def Qu:V->Bool:=vB aj ao aj aj
noncomputable def lU:Nat->V->Bool
 |0,v=>Qu v
 |n+1,v=>match v with
  |.tup xs=>xs.all (lU n)
  |.list xs=>xs.all (lU n)
  |v=>Qu v
inductive Pl:Nat->V->Prop
 |none (n:Nat):Pl n .none
 |int (n:Nat) (i:Int):Pl n (.int i)
 |str (n:Nat) (x:Str):Pl n (.str x)
 |tup {n:Nat} {xs:List V}:(∀x∈xs,lU n x=aj)->Pl (n+1) (.tup xs)
 |list {n:Nat} {xs:List V}:(∀x∈xs,lU n x=aj)->Pl (n+1) (.list xs)
theorem lT{n:Nat}{v:V}(h:lU n v=aj):Pl n v:=by cases n<;>cases v<;>first|exact .none _|exact .int _ _|exact .str _ _|exact .tup (cc.mp h)|exact .list (cc.mp h)|exact qu h
theorem fJ{p:V->Prop}(h:∀x∈xs,p x)(a:p .none):p (xs.getD j .none):=by
 simp only[aD];cases e:xs[j]? with
 |none=>exact a
 |some v=>exact h v (aX e)
theorem iR(n:Nat):lU n .none=aj:=by cases n<;>rfl
theorem Bt(x y:V)(xs ys:List V):gE (.tup (x::xs)) (.tup (y::ys))=(gE x y&&gE (.tup xs) (.tup ys)):=
 tO (dk.trans ⟨λ c=>by refine za c λ a b=>?_;exact by simp only[f6.mp a,V.tup.inj (f6.mp b)],λ h=>by
  injection h with h
  injection h with a b
  subst a b;exact ⟨eN _,eN _⟩⟩)
theorem nN:∀(xs ys:List V),((aZ (min xs.length ys.length)).all (λ j=>gE (xs.getD j .none) (ys.getD j .none))&&xs.length==ys.length)=gE (.tup xs) (.tup ys):=by
 intro xs;induction xs with
 |nil=>intro ys;cases ys with
  |nil=>exact (eN _).symm
  |cons y ys=>simp only[iy (v:=.tup []) (w:=.tup (y::ys)) λ h=>nomatch V.tup.inj h];rfl
 |cons x xs a=>intro ys;cases ys with
  |nil=>simp only[iy (v:=.tup (x::xs)) (w:=.tup []) λ h=>nomatch V.tup.inj h];rfl
  |cons y ys=>simp only[Bt,<-a ys,show min (x::xs).length (y::ys).length=min xs.length ys.length+1 from Nat.succ_min_succ ..,wT,u6,List.all_map,Bool.and_assoc,show ((x::xs).length==(y::ys).length)=(xs.length==ys.length)by simp];rfl
theorem Br(xs ys:List V):gE (.tup xs) (.tup ys)=gE (.list xs) (.list ys):=tO (f6.trans ⟨λ h=>congrArg V.tup (V.list.inj h),λ h=>congrArg V.list (V.tup.inj h)⟩)
section
variable{P:bS}{h:Heap}
noncomputable def IM(f:Value->V):Option Obj->V
 |some ⟨c,_,.seq Un _,_⟩=>if c=.type "tuple" then .tup (Un.toList.map f)else .list (Un.toList.map f)
 |_=>.none
noncomputable def ND(h:Heap)(f:Value->V):Value->V
 |.int i _=>.int i
 |.str x _=>.str x
 |.ref a=>IM f (h.get? a)
 |_=>.none
noncomputable def dec(h:Heap):Nat->Value->V
 |0=>ND h λ Z=>.none
 |n+1=>ND h (dec h n)
theorem Dh(hS:∀b o,S b o->h.get? b=ah o):∀{n:Nat} {u:Value} {v:V},lU n v=aj->VR P S u v->dec h n u=v:=by
 intro n;induction n with
 |zero=>
  intro u v c r;cases lT c with
  |none=>exact r.R1 rfl
  |int _ i=>exact r.RB λ Z=>rfl
  |str _ x=>exact r.RG λ Z=>rfl
 |succ n g=>
  have f:∀{us:List Value} {vs:List V},(∀v∈vs,lU n v=aj)->dn P S us vs->us.map (dec h n)=vs:=λ c r=>by
   revert c
   exact r.ind (λ Z=>rfl) λ Z Z Z Z a Z k c=>congr (congrArg List.cons (g (c _ (.head _)) a)) (k λ x d=>c x (.tail _ d))
  intro u v c r;cases lT c with
  |none=>exact r.R1 rfl
  |int _ i=>exact r.RB λ Z=>rfl
  |str _ x=>exact r.RG λ Z=>rfl
  |tup d=>refine r.RL λ a vs m e rs=>?_;show IM (dec h n) (h.get? a)=_;rw[hS _ _ e];exact congrArg V.tup (f d rs)
  |list d=>refine r.listE λ a vs m e rs=>?_;show IM (dec h n) (h.get? a)=_;rw[hS _ _ e];exact congrArg V.list (f d rs)
theorem VR.uniq(hS:∀b o,S b o->h.get? b=ah o)(n:Nat){u:Value}{v w:V}(d:lU n v=aj)(a:lU n w=aj)(r:VR P S u v)(c:VR P S u w):v=w:=(Dh hS d r).symm.trans (Dh hS a c)
theorem dn.getD(r:dn P S us vs){j:Nat}(a:j<us.length):VR P S us[j] (vs.getD j .none):=by refine b5 (r.get' (ay a)) λ v e b=>?_;simp only[aD,e];exact b
theorem QE{v w:V}(e:(v.ctorIdx==w.ctorIdx)=ao):v≠w:=λ h=>by rw[h,beq_self_eq_true]at e;exact qu e
theorem tx{a:Value}{v w:V}(k:EqAt A s u a ao)(e:(v.ctorIdx==w.ctorIdx)=ao):EqAt A s u a (gE v w):=by rw[iy (QE e)];exact k
section
variable(hS:∀b o,S b o->s.heap.get? b=ah o)
include hS
theorem D0{a:aG}{vs:List Value}{n:Nat}(e:S a (dZ vs.toArray n)):s.heap.IsTuple a vs.toArray:=⟨_,hS _ _ e,rfl,_,rfl⟩
theorem AU{a:aG}{vs:List Value}{n:Nat}(e:S a (listOf vs.toArray n)):s.heap.IsList a vs.toArray:=⟨_,hS _ _ e,rfl,_,rfl⟩
set_option tactic.hygienic true in
theorem yS(n:Nat):∀(A:Around) {u g:Value} {v w:V},lU n v=aj->lU n w=aj->VR P S u v->VR P S g w->A.units+n<fe->EqAt A s u g (gE v w):=by
 induction n using Nat.strongRecOn with
 |ind n I=>
  intro A u g v w H p r d G;have c:A.units<fe:=aR (b3 _ _) G;have t:∀{m},n=m+1->A.in1.units+m<fe:=λ {m} e=>by subst e;exact (show A.units+1+m<fe from JV G)
  have f:∀{g:Value},u=g->VR P S g w->EqAt A s u g (gE v w):=λ e d=>by subst e;rw[VR.uniq hS n H p r d,eN];exact EqAt.same _
  cases lT H with
  |none=>
   refine r.R1 ?_;cases lT p with
   |none=>rw[eN];exact d.R1 (EqAt.same _)
   |int _ i=>exact tx (d.RB λ Z=>EqAt.none_int _ _) rfl
   |str _ x=>exact tx (d.RG λ Z=>EqAt.none_str _ _) rfl
   |tup _=>exact tx (d.RL λ Z Z Z e Z=>EqAt.none_tuple (D0 hS e) c) rfl
   |list _=>exact tx (d.listE λ Z Z Z e Z=>EqAt.none_list (AU hS e) c) rfl
  |int _ i=>
   refine r.RB λ Z=>?_;cases lT p with
   |none=>exact tx (d.R1 (EqAt.int_none _ _)) rfl
   |int _ j=>rw[k7];exact d.RB λ Z=>EqAt.int_int _ _ _ _
   |str _ x=>exact tx (d.RG λ Z=>EqAt.int_str _ _ _ _) rfl
   |tup _=>exact tx (d.RL λ Z Z Z e Z=>EqAt.int_tuple _ _ (D0 hS e) c) rfl
   |list _=>exact tx (d.listE λ Z Z Z e Z=>EqAt.int_list _ _ (AU hS e) c) rfl
  |str _ x=>
   refine r.RG λ Z=>?_;cases lT p with
   |none=>exact tx (d.R1 (EqAt.str_none _ _)) rfl
   |int _ j=>exact tx (d.RB λ Z=>EqAt.str_int _ _ _ _) rfl
   |str _ y=>rw[hY];exact d.RG λ Z=>EqAt.str_str _ _ _ _
   |tup _=>exact tx (d.RL λ Z Z Z e Z=>EqAt.str_tuple _ _ (D0 hS e) c) rfl
   |list _=>exact tx (d.listE λ Z Z Z e Z=>EqAt.str_list _ _ (AU hS e) c) rfl
  |tup F=>
   rename_i m xs;refine VR.RL (Q:=λ u=>(∀{g:Value},u=g->VR P S g w->EqAt A s u g (gE (.tup xs) w))->EqAt A s u g (gE (.tup xs) w)) r (λ a vs Z e rs f=>?_) f;cases lT p with
   |none=>exact tx (d.R1 (EqAt.tuple_none (D0 hS e) c)) rfl
   |int _ j=>exact tx (d.RB λ Z=>EqAt.tuple_int _ _ (D0 hS e) c) rfl
   |str _ y=>exact tx (d.RG λ Z=>EqAt.tuple_str _ _ (D0 hS e) c) rfl
   |list _=>exact tx (d.listE λ Z Z Z o Z=>EqAt.tuple_list (D0 hS e) (AU hS o) c) rfl
   |tup E=>
    rename_i ys f;refine VR.RL (Q:=λ g=>VR P S g (.tup ys)->EqAt A s (.ref a) g (gE (.tup xs) (.tup ys))) d (λ b ws Z o l d=>?_) d;by_cases k:a=b
    ·exact f (congrArg eT k) d
    ·have q:=RcAt.tuples (A:=A) (e:=λ j=>gE (xs.getD j .none) (ys.getD j .none)) (D0 hS e) (D0 hS o) c λ j D C=>by rw[dL,dL];exact I m (ce m) A.in1 (fJ F (iR m)) (fJ E (iR m)) (rs.getD (by simpa using D)) (l.getD (by simpa using C)) (t rfl)
     rw[bI,bI,rs.length,l.length,nN]at q;exact EqAt.of_refs k q
  |list F=>
   rename_i m xs;refine VR.listE (Q:=λ u=>(∀{g:Value},u=g->VR P S g w->EqAt A s u g (gE (.list xs) w))->EqAt A s u g (gE (.list xs) w)) r (λ a vs Z e rs f=>?_) f;cases lT p with
   |none=>exact tx (d.R1 (EqAt.list_none (AU hS e) c)) rfl
   |int _ j=>exact tx (d.RB λ Z=>EqAt.list_int _ _ (AU hS e) c) rfl
   |str _ y=>exact tx (d.RG λ Z=>EqAt.list_str _ _ (AU hS e) c) rfl
   |tup _=>exact tx (d.RL λ Z Z Z o Z=>EqAt.list_tuple (AU hS e) (D0 hS o) c) rfl
   |list E=>
    rename_i ys f;refine VR.listE (Q:=λ g=>VR P S g (.list ys)->EqAt A s (.ref a) g (gE (.list xs) (.list ys))) d (λ b ws Z o l d=>?_) d;by_cases k:a=b
    ·exact f (congrArg eT k) d
    ·rw[<-Br];by_cases B:xs.length=ys.length
     ·have q:=RcAt.lists (A:=A) (e:=λ j=>gE (xs.getD j .none) (ys.getD j .none)) (AU hS e) (AU hS o) (by simp[rs.length,l.length,B]) c λ j D C=>by rw[dL,dL];exact I m (ce m) A.in1 (fJ F (iR m)) (fJ E (iR m)) (rs.getD (by simpa using D)) (l.getD (by simpa using C)) (t rfl)
      have z:=nN xs ys;rw[B,Nat.min_self,beq_self_eq_true,Bool.and_true]at z;rw[bI,rs.length,B,z]at q;exact EqAt.of_refs k q
     ·rw[iy λ h=>B (congrArg dB (V.tup.inj h))];exact EqAt.of_refs k (RcAt.lists_lengths (AU hS e) (AU hS o) (by simp[rs.length,l.length,B]) c)
end
end
noncomputable def FD:V->Bool:=vB ao ao aj aj
noncomputable def js:Nat->V->Bool
 |0,v=>FD v
 |n+1,v=>match v with
  |.tup xs=>xs.all (js n)
  |v=>FD v
theorem Qw{v}:js 0 v=(FD v):=rfl
theorem Hh{n v}:js (n+1) v=(match v with
 |.tup xs=>xs.all (js n)
 |v=>FD v):=rfl
inductive Kn:Nat->V->Prop
 |int (n:Nat) (i:Int):Kn n (.int i)
 |str (n:Nat) (x:Str):Kn n (.str x)
 |tup {n:Nat} {xs:List V}:(∀x∈xs,js n x=aj)->Kn (n+1) (.tup xs)
theorem jP{n:Nat}{v:V}(h:js n v=aj):Kn n v:=by cases n<;>cases v<;>first|exact .int _ _|exact .str _ _|exact .tup (cc.mp h)|exact qu h
theorem qk(n:Nat):∀v:V,js n v=aj->lU n v=aj:=by
 induction n with
 |zero=>intro v h;cases jP h<;>rfl
 |succ n a=>
  intro v h;cases jP h with
  |tup b=>exact cc.mpr λ x h=>a _ (b x h)
  |_=>rfl
mutual
noncomputable def i9:V->Nat
 |.tup xs=>m_ xs+1
 |_=>1
noncomputable def m_:List V->Nat
 |[]=>0
 |x::xs=>i9 x+m_ xs
end
theorem vc(P:bS)(xs:List V)(y:V):jX P (xs++[y])=jX P xs++[jI P y]:=by
 induction xs with
 |nil=>rfl
 |cons x xs a=>exact congrArg (jI P x::·) a
theorem vd(xs:List V)(y:V):m_ (xs++[y])=m_ xs+i9 y:=by
 induction xs with
 |nil=>exact ft ..
 |cons x xs a=>exact (congrArg (i9 x+·) a).trans (gf ..).symm
inductive Ph(P:bS)(S:b9)(xs:List V)(s:aQ):List Value->Array Int->aQ->Prop
 |mk (done left:List V) {rest:List Value} {b:Array Int} (e:xs=done++left) (r:dn P S rest left) (hb:b.toList=jX P done):Ph P S xs s rest b {s with toks:=s.toks+m_ done}
set_option tactic.hygienic true in
theorem qg(n:Nat):∀(A:Around) {s:aQ} {u:Value} {v:V} {Q:Int->aQ->Prop},(∀b o,S b o->s.heap.get? b=ah o)->js n v=aj->VR w.params S u v->A.units+n<fe->
 Q (jI w.params v) {s with toks:=s.toks+i9 v}->aW (bn prog w) A (pyHash u) Q E s:=by
 induction n generalizing E with
 |zero=>
  intro A s u v Q hS hk r f h;cases jP hk with
  |int _ i=>exact r.RB λ t=>wpAny_pyHash_int h
  |str _ x=>exact r.RG λ t=>wpAny_pyHash_str h
 |succ n m=>
  intro A s u v Q hS hk r f h;cases jP hk with
  |int _ i=>exact r.RB λ t=>wpAny_pyHash_int h
  |str _ x=>exact r.RG λ t=>wpAny_pyHash_str h
  |tup l=>
   rename_i xs;refine r.RL λ a vs k e rs=>?_;have g:=hS _ _ e;have d:s.TypeIs (.ref a) "tuple":=⟨_,g,rfl⟩;unfold pyHash
   first|unfold pyHashByItsType|skip
   first|refine aw (wpAny_cRoomFor_or (.inr (OG f)) ?_)|skip
   refine aw (il d F.slot_tuple_hash.lookup ?_);show aW _ _ (if (ah (nG "tuple.__hash__")==ah cV)=aj then _ else _) Q E s;rw[if_neg (by rw[beq_builtin_none];exact dj)];refine aw (il d F.slot_tuple_hash.lookup ?_);show aW _ _ (callSpecialIfBoundUnlessNone? (.ref a) "__hash__" _>>=_) Q E s;refine aw (wpAny_callSpecialIfBoundUnlessNone?_slot d F.slot_tuple_hash (dS F.slot_tuple_hash d F.entry_tuple_hash ?_ (F.args_tuple_hash_1 _)));show aW _ _ (Builtin.Tuple.tupleItemsOf (.ref a)>>=_) _ _ s;refine aw (wpAny_tupleItemsOf g rfl ?_);refine aw ?_;rw[<-AN];refine tH _ (Ph w.params S xs s) _ ?_ ?_ _ _ (.mk [] xs rfl rs rfl)
   ·rintro x rest b s' ⟨done,left,e,c,hb⟩;obtain ⟨v,ls,rfl⟩:∃v ls,left=v::ls:=by
     cases left with
     |nil=>exact c.RX (Qs:=λ us=>us=x::rest->_) (λ h=>nomatch h) rfl
     |cons v ls=>exact ⟨v,ls,rfl⟩
    have c:VR w.params S x v/\dn w.params S rest ls:=c.RC (Qs:=λ us=>us=x::rest->_) (λ u ws a r h=>by cases h;exact ⟨a,r⟩) rfl;refine aw (m A.in1 (s:={s with toks:=s.toks+m_ done}) hS (l v (by rw[e];exact ax _ (.head _))) c.1 (by show A.units+1+n<fe;exact JV f) ?_)
    have z:=Ph.mk (P:=w.params) (S:=S) (s:=s) (done++[v]) ls (b:=b.push (jI w.params v)) (e.trans (List.append_cons ..)) c.2 (by rw[vc,<-hb,A2]);rw[vd,<-gf]at z
    first
     |exact az z
     |exact aw (az (az z))
   ·rintro b s' ⟨done,left,e,c,hb⟩;rw[(ic.mp c.length.symm),cJ]at e;subst e;show aW _ _ (retInt (Builtin.Tuple.tupleHashOf b.toList)) _ _ _;rw[hb];refine wpAny_ret_mkInt ?_;have h':Q (Hz (Builtin.Tuple.tupleHashOf (jX w.params xs))) {s with toks:=s.toks+m_ xs+1}:=h
    show aW _ _ (if (decide (-(2:Int)^63<=Builtin.Tuple.tupleHashOf (jX w.params xs))&&decide (Builtin.Tuple.tupleHashOf (jX w.params xs)<2^63))=aj then _ else _) Q E _;unfold Hz at h';by_cases j:(decide (-(2:Int)^63<=Builtin.Tuple.tupleHashOf (jX w.params xs))&&decide (Builtin.Tuple.tupleHashOf (jX w.params xs)<2^63))=aj
    ·rw[if_pos j]at h' ⊢;exact az h'
    ·rw[if_neg j]at h' ⊢;exact aw (iq (az h'))
inductive Pq(P:bS)(S:b9)(n:Nat)(s:aQ){α:Type}:List Value->Option Bool×α->aQ->Prop
 |mk {rest:List Value} {x:α} (left:List V) (r:dn P S rest left) (h:∀v∈left,js n v=aj):Pq P S n s rest (ai,x) s
set_option tactic.hygienic true in
theorem xS(n:Nat):∀(m:Nat) (A:Around) {s:aQ} {u:Value} {v:V} {Q:Bool->aQ->Prop},n<=m->(∀b o,S b o->s.heap.get? b=ah o)->js n v=aj->VR w.params S u v->
 Q aj s->aW (bn prog w) A (eqIsQuiet m u) Q E s:=by
 induction n with
 |zero=>
  intro m A s u v Q g hS hk r h;cases jP hk with
  |int _ i=>exact r.RB λ t=>by rw[lK m rfl];exact az h
  |str _ x=>exact r.RG λ t=>by rw[lK m rfl];exact az h
 |succ n p=>
  intro m A s u v Q g hS hk r h;cases jP hk with
  |int _ i=>exact r.RB λ t=>by rw[lK m rfl];exact az h
  |str _ x=>exact r.RG λ t=>by rw[lK m rfl];exact az h
  |tup l=>
   rename_i xs;refine r.RL λ a vs k e rs=>?_;obtain ⟨m,rfl⟩:∃m',m=m'+1:=⟨m-1,OF g⟩;have f:=hS _ _ e;have j:s.TypeIs (.ref a) "tuple":=⟨_,f,rfl⟩;rw[eqIsQuiet];refine aw (il j F.slot_tuple_eq.lookup ?_);show aW _ _ (m5 (.ref a) (.type "tuple")>>=_) _ _ s;refine aw (jm j isSubtype_tuple_tuple ?_);dsimp only[g8,dG,if_false];refine aw (wpAny_seqItems f rfl ?_);refine aw ?_;show aW _ _ (forIn vs.toArray _ _) _ _ s;rw[<-AN];refine tH _ (Pq w.params S n s) _ ?_ ?_ _ _ (.mk xs rs l)
   ·rintro x rest r s' ⟨left,c,Wc⟩;obtain ⟨v,ls,rfl⟩:∃v ls,left=v::ls:=by
     cases left with
     |nil=>exact c.RX (Qs:=λ us=>us=x::rest->_) (λ h=>nomatch h) rfl
     |cons v ls=>exact ⟨v,ls,rfl⟩
    have c:VR w.params S x v/\dn w.params S rest ls:=c.RC (Qs:=λ us=>us=x::rest->_) (λ u ws a r h=>by cases h;exact ⟨a,r⟩) rfl;refine aw (p m A (cp ‹_›) hS (Wc _ (.head _)) c.1 ?_);simp only[g8,dG,if_false];exact az (.mk _ c.2 λ u d=>Wc u (.tail _ d))
   ·rintro r s' ⟨_,_,_⟩;exact az h
noncomputable def TS(h:Heap):b9:=λ b o=>h.get? b=ah o/\∃Un n,o=dZ Un n
theorem TS.get{h:Heap}:∀b o,TS h b o->h.get? b=ah o:=λ Z Z x=>x.1
theorem VR.toTS{P:bS}{h:Heap}(hS:∀b o,S b o->h.get? b=ah o)(n:Nat):∀{u:Value} {v:V},js n v=aj->VR P S u v->VR P (TS h) u v:=by
 induction n with
 |zero=>
  intro u v hk r;cases jP hk with
  |int _ i=>exact r.RB λ t=>.int i t
  |str _ x=>exact r.RG λ t=>.str x t
 |succ n d=>
  intro u v hk r;cases jP hk with
  |int _ i=>exact r.RB λ t=>.int i t
  |str _ x=>exact r.RG λ t=>.str x t
  |tup c=>
   refine r.RL λ a vs m e rs=>.tup ⟨hS _ _ e,_,_,rfl⟩ ?_;clear hk;revert c
   exact rs.ind (λ Z=>.nil) λ Z Z Z Z a Z k hk=>.cons (d (hk _ (.head _)) a) (k λ x c=>hk x (.tail _ c))
open Classical in
noncomputable def Bw(prog:kt)(w:uY):HeapKind prog w V where
 is h k a:=js 7 k=aj/\VR w.params (TS h) (.ref a) k
 hash k:=jI w.params k
 draws k:=i9 k
 room A:=A.units+40<fe
 inj hx hy:=VR.uniq TS.get 7 (qk _ _ hx.1) (qk _ _ hy.1) hx.2 hy.2
 keeps hx ho hd hs:=⟨hx.1,hx.2.mono λ b o e=>by refine ⟨(hs.2 b ?_).trans e.1,e.2⟩;rintro rfl;refine Of e λ e1 Un n SH=>?_;subst SH;rw[ho]at e1;cases e1;cases hd⟩
 pyHash hu hk h:=qg 7 _ TS.get hk.1 hk.2 (BY hu) h
 eqBool hu hx hy h:=yS TS.get 7 _ (qk _ _ hx.1) (qk _ _ hy.1) hx.2 hy.2 (BY hu) _ _ _ _ h
 quiet hk h:=xS 7 8 _ (bK _ _) TS.get hk.1 hk.2 h
noncomputable def kk:V->Nat
 |.int _=>1
 |.str _=>2
 |.tup xs=>(js 7 (.tup xs)).toNat*3
 |_=>0
theorem rB{v:V}(h:kk v≠0):js 7 v=aj:=by
 cases v with
 |int i=>rfl
 |str x=>rfl
 |tup xs=>
  cases hk:js 7 (.tup xs)with
  |true=>rfl
  |false=>exact absurd (by show (js 7 (.tup xs)).toNat*3=0;rw[hk];rfl) h
 |_=>exact absurd rfl h
structure f9(k:V)(kvs:List (V×V)):Prop where
 ne:kk k≠0
 same:∀p∈kvs,kk p.1=kk k
 nd:(kvs.map (·.1)).Nodup
inductive Yj(P:bS)(S:b9)(p:V×V)(en:bN):Prop
 |mk (h:en.hash=jI P p.1) (k:VR P S en.key p.1) (v:VR P S en.val p.2)
theorem ge.get{P:bS}(E:ge P S es kvs){i:Nat}{p:V×V}(e:kvs[i]? =ah p):∃c,es[i]? =ah c/\Yj P S p c:=
 ge.ind (M:=λ es kvs=>∀(i:Nat) (p:V×V),kvs[i]? =ah p->∃c,es[i]? =ah c/\Yj P S p c) E (λ Z Z e=>nomatch e) (λ Z Z Z Z Z Z a b Z k i p e=>by
  cases i with
  |zero=>cases Option.some.inj e;exact ⟨_,rfl,rfl,a,b⟩
  |succ i=>exact k i p e) i p e
theorem ge.mem{P:bS}(E:ge P S es kvs){c:bN}(d:c∈es):∃p∈kvs,Yj P S p c:=by
 refine ze (cL.mp d) λ i hi=>?_;have a:i<kvs.length:=by simp only[<-E.length];exact (bh.mp hi).1
 refine b5 (E.get (ay a)) λ f b e=>?_;rw[hi]at b;cases b;exact ⟨_,cI a,e⟩
theorem ge.findIdx{P:bS}{f:bN->Bool}{g:V×V->Bool}(E:ge P S es kvs):(∀c∈es,∀p∈kvs,VR P S c.key p.1->f c=g p)->es.findIdx? f=kvs.findIdx? g:=
 E.ind (λ Z=>rfl) λ Z Z Z Z Z Z a b Z k h=>by simp only[jW,jW,h _ (.head _) _ (.head _) a,k λ c d p e=>h c (.tail _ d) p (.tail _ e)]
section
variable{d:aG}{k:V}
theorem yl{P:bS}{i:Int}(h:VR P S u (.int i)):∃t,u=.int i t:=h.RB (Q:=λ u=>∃t,u=.int i t) λ t=>⟨t,rfl⟩
theorem yk{P:bS}(h:VR P S u (.str x)):∃t,u=.str x t:=h.RG (Q:=λ u=>∃t,u=.str x t) λ t=>⟨t,rfl⟩
theorem Gj{P:bS}(h:VR P S u (.tup xs)):∃a,u=.ref a:=h.RL (Q:=λ u=>∃a,u=.ref a) λ a Z Z Z Z=>⟨a,rfl⟩
theorem nt{v:V}(h:kk v=1):∃i,v=.int i:=by
 cases v with
 |int i=>exact ⟨i,rfl⟩
 |tup xs=>exact absurd h (by show (js 7 (.tup xs)).toNat*3≠_;exact OE)
 |_=>cases h
theorem xJ{v:V}(h:kk v=2):∃i,v=.str i:=by
 cases v with
 |str i=>exact ⟨i,rfl⟩
 |tup xs=>exact absurd h (by show (js 7 (.tup xs)).toNat*3≠_;exact OD)
 |_=>cases h
theorem CF{v:V}(h:kk v≠0)(a:kk v≠1)(b:kk v≠2):∃xs,v=.tup xs:=by
 cases v with
 |tup xs=>exact ⟨xs,rfl⟩
 |int _=>exact absurd rfl a
 |str _=>exact absurd rfl b
 |_=>exact absurd rfl h
open Classical in
theorem CP(hS:∀b o,S b o->s.heap.get? b=ah o){es:List bN}{kvs:List (V×V)}(E:ge w.params S es kvs):(∀p∈kvs,js 7 p.1=aj/\∃xs,p.1=.tup xs)->
 ∃xs:List (V×aG×Value),es=xs.map (entryOfKey (Bw prog w))/\xs.map (·.1)=kvs.map (·.1)/\∀x∈xs,(Bw prog w).is s.heap x.1 x.2.1:=
 E.ind (λ Z=>⟨[],rfl,rfl,λ Z h=>nomatch h⟩) λ ku u es k v kvs a b Z j h=>by refine eB (j λ p f=>h p (.tail _ f)) λ xs m g i=>?_;refine AR (h _ (.head _)) λ hk ys e=>?_;have e:k=.tup ys:=e;have l:=VR.toTS hS 7 hk a;rw[e]at a;refine ze (Gj a) λ c d=>?_;subst d;exact ⟨(k,c,u)::xs,congrArg _ m,congrArg _ g,jb.mpr ⟨⟨hk,l⟩,i⟩⟩
open Classical in
theorem k8(hS:∀b o,S b o->s.heap.get? b=ah o)(X:A.units+40<fe)(hd:s.heap.get? d=ah (dictOf es ep))(x:ge w.params S es kvs)(hk:f9 k kvs)(m:VR w.params S ku k)
 {Q:Option Nat->aQ->Prop} (h:Q (kvs.findIdx? λ p=>gE p.1 k) s):aW (bn prog w) A (dictFind d ku (jI w.params k)) Q E s:=by
 by_cases k1:kk k=1
 ·refine ze (nt k1) λ i L=>?_;subst L;refine ze (yl m) λ t G=>?_;subst G;refine Jc (knd:=ki prog w) (k:=i) (o:=dictOf es ep) (es:=es.toArray) (ep:=ep) (by simp[ki,x9]) hd rfl (λ e N=>?_) ?_
  ·obtain ⟨p,l,a,b,c⟩:=x.mem (eY.mp N);refine ze (nt ((hk.same p l).trans k1)) λ j f=>?_;rw[f]at a b;refine ze (yl b) λ B r=>?_;exact ⟨j,by rw[r];simp[ki,x9],a⟩
  ·rw[yd,x.findIdx (g:=λ p=>gE p.1 (.int i)) λ Y F p l b=>?_]
   ·exact h
   ·refine ze (nt ((hk.same p l).trans k1)) λ j f=>?_;rw[f]at b ⊢;refine ze (yl b) λ B r=>?_;rw[r,k7];simp only[ki,x9]
 ·by_cases k2:kk k=2
  ·refine ze (xJ k2) λ i K=>?_;subst K;refine ze (yk m) λ t D=>?_;subst D;refine Jc (knd:=PySem.strKind prog w) (k:=i) (o:=dictOf es ep) (es:=es.toArray) (ep:=ep) (by simp[PySem.strKind,uU]) hd rfl (λ e N=>?_) ?_
   ·obtain ⟨p,l,a,b,c⟩:=x.mem (eY.mp N);refine ze (xJ ((hk.same p l).trans k2)) λ j f=>?_;rw[f]at a b;refine ze (yk b) λ B r=>?_;exact ⟨j,by rw[r];simp[PySem.strKind,uU],a⟩
   ·rw[yd,x.findIdx (g:=λ p=>gE p.1 (.str i)) λ Y F p l b=>?_]
    ·exact h
    ·refine ze (xJ ((hk.same p l).trans k2)) λ j f=>?_;rw[f]at b ⊢;refine ze (yk b) λ B r=>?_;rw[r,hY];simp only[PySem.strKind,uU]
  ·refine ze (CF hk.ne k1 k2) λ ks C=>?_;subst C;have v:=rB hk.ne;refine eB (CP (prog:=prog) hS x λ p l=>⟨rB (by rw[hk.same p l];exact hk.ne),CF (by rw[hk.same p l];exact hk.ne) (by rw[hk.same p l];exact k1) (by rw[hk.same p l];exact k2)⟩) λ xs U z Z=>?_;have M:=VR.toTS hS 7 v m;refine ze (Gj m) λ a P=>?_;subst P
   ·have H:∀(j:Nat) (p:aG×Value),xs[j]? =ah (.tup ks,p)->∃q,kvs[j]? =ah (.tup ks,q):=λ j p f=>by have:=congrArg (·[j]?) z;simp only[aN,f,qs]at this;refine b5 (bM.mp this.symm) λ q n e=>?_;exact ⟨q.2,by rw[n,<-e]⟩
    have u:∀(j:Nat) (q:V),kvs[j]? =ah (.tup ks,q)->∃p,xs[j]? =ah (.tup ks,p):=λ j q f=>by have:=congrArg (·[j]?) z;simp only[aN,f,qs]at this;refine b5 (bM.mp this) λ q n e=>?_;exact ⟨q.2,by rw[n,<-e]⟩
    refine wpAny_dictFind_heap (knd:=Bw prog w) (k:=.tup ks) (xs:=xs) (o:=dictOf es ep) (es:=es.toArray) (ep:=ep) X ⟨v,M⟩ hd rfl (by simpa using U) Z (z▸hk.nd) (λ y=>?_) λ j p f=>?_
    ·have:kvs.findIdx? (λ p=>gE p.1 (.tup ks))=ai:=by
      rw[dv];intro p l;cases O:gE p.1 (.tup ks)with
      |false=>rfl
      |true=>refine ze (cL.mp l) λ j f=>?_;refine ze (u j p.2 (by rw[f,<-(f6.mp O)])) λ q n=>?_;exact absurd n (y j q)
     rw[this]at h;exact h
    ·refine ze (H j p f) λ q n=>?_;have:kvs.findIdx? (λ p=>gE p.1 (.tup ks))=ah j:=by
      rw[fb];have J:=(bh.mp n);refine ⟨J.1,by rw[J.2];exact eN _,λ T I=>?_⟩;intro O;have R:(kvs.map (·.1))[T]? =ah (.tup ks):=by rw[aN,ay (bD I J.1)];simp[(f6.mp O)]
      have W:(kvs.map (·.1))[j]? =ah (.tup ks):=by rw[aN,n];rfl
      have:=(fk (bh.mp R).1 hk.nd).mp (R.trans W.symm);exact absurd ‹_› (cm ‹_›)
     rw[this]at h;exact h
noncomputable def eE(kvs:List (V×V))(k:V):Option V:=(kvs.find? λ p=>gE p.1 k).map (·.2)
noncomputable def iw(k v:V):List (V×V)->List (V×V)
 |[]=>[(k,v)]
 |p::r=>if gE p.1 k=aj then (p.1,v)::r else p::iw k v r
theorem sO{k v:V}:iw k v []=([(k,v)]):=rfl
theorem nM{k v:V}{p r}:iw k v (p::r)=(if gE p.1 k=aj then (p.1,v)::r else p::iw k v r):=rfl
theorem ml{k v:V}:kvs.findIdx? (λ p=>gE p.1 k)=ai->iw k v kvs=kvs++[(k,v)]:=by
 induction kvs with
 |nil=>exact λ Z=>rfl
 |cons p r b=>intro h;have h:=dv.mp h;dsimp only[sO,nM];refine (if_neg (by rw[h p (.head _)];exact dj)).trans ?_;rw[b (dv.mpr λ q a=>h q (.tail _ a))];rfl
theorem zp{k v:V}:∀{i:Nat},kvs.findIdx? (λ p=>gE p.1 k)=ah i->iw k v kvs=kvs.modify i (λ p=>(p.1,v)):=by
 induction kvs with
 |nil=>exact λ h=>nomatch h
 |cons p r d=>
  intro i h;rw[jW]at h;dsimp only[sO,nM];by_cases b:gE p.1 k=aj
  ·rw[if_pos b]at h ⊢;cases h;rfl
  ·rw[if_neg b]at h ⊢;refine b5 (bM.mp h) λ j c a=>?_;subst a;rw[d c];rfl
theorem qH{k:V}:eE kvs k=((kvs.findIdx? λ p=>gE p.1 k).bind (kvs[·]?)).map (·.2):=by
 unfold eE;induction kvs with
 |nil=>rfl
 |cons p r a=>
  dsimp only[cX];rw[jW];cases gE p.1 k with
  |true=>rfl
  |false=>refine a.trans ?_;cases List.findIdx? (λ p=>gE p.1 k) r<;>rfl
theorem ge.modify{P:bS}{v:V}(c:VR P S u v){es:List bN}{kvs:List (V×V)}(E:ge P S es kvs):∀i,ge P S (es.modify i λ e=>{e with val:=u}) (kvs.modify i λ p=>(p.1,v)):=
 E.ind (λ i=>by cases i<;>exact .nil) λ Z Z Z Z Z Z a b r k i=>by
  cases i with
  |zero=>exact .cons rfl a c r
  |succ i=>exact .cons rfl a b (k i)
theorem sP(hS:∀b o,S b o->s.heap.get? b=ah o)(h:A.units+40<fe)(hd:s.heap.get? d=ah (dictOf es ep))(f:ge w.params S es kvs)(hk:f9 k kvs)(a:VR w.params S ku k)
 {Q:Option Value->aQ->Prop} (j:∀v u,eE kvs k=ah v->VR w.params S u v->Q (ah u) {s with toks:=s.toks+i9 k}) (e:eE kvs k=ai->Q ai {s with toks:=s.toks+i9 k}):
 aW (bn prog w) A (kq d ku) Q E s:=by
 unfold kq
 try with_reducible refine bE ?_
 refine aw (qg 7 A hS (rB hk.ne) a (BY h) (aw (k8 (s:={s with toks:=s.toks+i9 k}) hS h hd f hk a ?_)))
 rw[qH]at e;have c:=j;rw[qH]at c;cases hi:kvs.findIdx? (λ p=>gE p.1 k)with
 |none=>rw[hi]at e;exact az (e rfl)
 |some i=>
  have g:=(fb.mp hi).1;obtain ⟨n,m, -, -,l⟩:=f.get (ay g);refine aw (gD (s:={s with toks:=s.toks+i9 k}) hd rfl ?_)
  simp only[b6,m];exact az (c _ _ (by rw[hi];simp[ay g]) l)
theorem pD(es:List bN)(ep:Nat)(e:bN):(Obj.mapDictKeys (·.push e)) (dictOf es ep)=dictOf (es++[e]) (ep+1):=by dsimp only[Obj.mapDictKeys,W.dictOf];simp
theorem sD(es:List bN)(ep i:Nat)(u:Value):(Obj.mapDict (·.modify i λ e=>{e with val:=u})) (dictOf es ep)=dictOf (es.modify i λ e=>{e with val:=u}) ep:=by dsimp only[Obj.mapDict,W.dictOf];simp
theorem oL(hS:∀b o,S b o->s.heap.get? b=ah o)(g:A.units+40<fe)(hd:s.heap.get? d=ah (dictOf es ep))(c:ge w.params S es kvs)(hk:f9 k kvs)(a:VR w.params S ku k)
 {u:Value} {v:V} (j:VR w.params S u v) (hz:kvs.length<=eZ)
 {Q:Unit->aQ->Prop} (h:∀h' RY f tk,Heap.SameBut d s.heap h'->h'.get? d=ah (dictOf RY f)->ge w.params S RY (iw k v kvs)->Q () {s with heap:=h',toks:=tk}):
 aW (bn prog w) A (A8 d ku u) Q E s:=by
 unfold A8
 try with_reducible refine bE ?_
 refine aw (qg 7 A hS (rB hk.ne) a (BY g) ?_);dsimp only[dictSetHashed]
 try with_reducible refine bE ?_
 refine aw (k8 (s:={s with toks:=s.toks+i9 k}) hS g hd c hk a ?_)
 cases hi:kvs.findIdx? (λ p=>gE p.1 k)with
 |none=>
  refine aw (iq (Ed (hz:=by simp only[bI,c.length];exact hz) (s:={s with toks:=s.toks+i9 k}) hd rfl (h _ (es++[⟨jI w.params k,ku,u⟩]) (ep+1) _ (Heap.SameBut.update ..) ?_ ?_)))
  ·simp only[<-pD];exact dc _ hd (by rfl)
  ·simp only[ml hi];exact c.append (.cons rfl a j .nil)
 |some i=>
  refine aw (iq (aw (wpAny_updateDict (s:={s with toks:=s.toks+i9 k}) hd rfl (wpAny_point (h _ (es.modify i λ e=>{e with val:=u}) ep _ (Heap.SameBut.update ..) ?_ ?_)))))
  ·simp only[<-sD];exact dc _ hd (by rfl)
  ·simp only[zp hi];exact c.modify j i
theorem oK(hS:∀b o,S b o->s.heap.get? b=ah o)(m:A.units+40<fe)(hd:s.heap.get? d=ah (dictOf es ep))(f:ge w.params S es kvs)(hk:f9 k kvs)(a:VR w.params S ku k)
 {u:Value} {v:V} (r:VR w.params S u v) (hz:kvs.length<=eZ)
 {Q:Value->aQ->Prop} (t:∀j n,eE kvs k=ah j->VR w.params S n j->Q n {s with toks:=s.toks+i9 k})
 (h:eE kvs k=ai->∀h' RY g tk,Heap.SameBut d s.heap h'->h'.get? d=ah (dictOf RY g)->ge w.params S RY (kvs++[(k,v)])->Q u {s with heap:=h',toks:=tk}):
 aW (bn prog w) A (oG d ku u) Q E s:=by
 unfold oG
 try with_reducible refine bE ?_
 refine aw (qg 7 A hS (rB hk.ne) a (BY m) ?_);refine aw (k8 (s:={s with toks:=s.toks+i9 k}) hS m hd f hk a ?_)
 have e:=h;have c:=t;rw[qH]at e c;cases hi:kvs.findIdx? (λ p=>gE p.1 k)with
 |none=>
  refine aw (iq (aw (Ed (hz:=by simp only[bI,f.length];exact hz) (s:={s with toks:=s.toks+i9 k}) hd rfl (az (e (by rw[hi];rfl) _ (es++[⟨jI w.params k,ku,u⟩]) (ep+1) _ (Heap.SameBut.update ..) ?_ ?_)))))
  ·rw[<-pD];exact dc _ hd (by rfl)
  ·exact f.append (.cons rfl a r .nil)
 |some i=>
  have l:=(fb.mp hi).1;obtain ⟨y,q, -, -,x⟩:=f.get (ay l);refine aw (gD (s:={s with toks:=s.toks+i9 k}) hd rfl ?_)
  simp only[b6,q];exact aw (iq (az (c _ _ (by rw[hi];simp[ay l]) x)))
end
theorem cS.sub(R:cS O Y Kp Jj s):∀b o,Kp b o->s.heap.get? b=ah o:=λ b o e=>(R.kp b o e).1
theorem cS.R_(R:cS O Y Kp Jj s){a:aG}(h:s.heap.get? a=ai):a∉O.fp++addrs Y.mu/\O.h₀.get? a=ai:=by
 refine ⟨λ d=>?_,?_⟩
 ·refine ze (R.live a d) λ o b=>?_;rw[h]at b;cases b
 ·cases c:O.h₀.get? a with
  |none=>rfl
  |some o=>refine ze (R.alive a o c) λ e b=>?_;rw[h]at b;cases b
theorem cS.Uz(R:cS O Y Kp Jj s){h':Heap}{tk:Nat}{a:aG}{o:Obj}(k:∀b o,s.heap.get? b=ah o->h'.get? b=ah o)(c:s.heap.get? a=ai)(f:h'.get? a=ah o):
 cS O Y (Kp.add a o) Jj {s with heap:=h',toks:=tk}:=
 (R.keeps (tk:=tk) k).Wr f (R.R_ c).1 (R.R_ c).2 λ p d e=>by have:=(R.ghost.2 p d).1;rw[e,c]at this;exact nomatch this
theorem cS.Vc(R:cS O Y Kp Jj s)(ok:O.Ok){h':Heap}{tk:Nat}{p:aG×MO}(k:∀b o,s.heap.get? b=ah o->h'.get? b=ah o)(d:∀b∈ch p,s.heap.get? b=ai)(f:MR O.P Kp h' p)(nd:(ch p).Nodup):
 cS O ⟨Y.vals,p::Y.mu⟩ Kp Jj {s with heap:=h',toks:=tk}:=by
 have a:addrs [p]=ch p:=by simp[addrs]
 refine R.turned (J1:=[]) (J2:=Y.mu) (J':=[p]) (s':={s with heap:=h',toks:=tk}) (S':=Kp) ok rfl ⟨rfl,rfl,rfl⟩ (λ b o e Z=>k b o e) (λ b o e=>⟨o,k b o e⟩) (.refl _) (λ b o e=>⟨k _ _ (R.kp b o e).1,λ c=>?_,.inl e⟩) (λ q g=>(bA (aE.mp g))▸f) (by rw[a];exact nd) (λ b c=>.inr (d b (a▸c)))
 have:=d b (a▸c);rw[(R.kp b o e).1]at this;exact nomatch this
theorem cS.T2(R:cS O Y Kp Jj s)(ok:O.Ok){tk:Nat}{p:aG×MO}{o:Obj}(a:ch p=[s.heap.objs.size])(d:MR O.P Kp (s.heap.push o) p):
 cS O ⟨Y.vals,p::Y.mu⟩ Kp Jj {s with heap:=s.heap.push o,toks:=tk}:=
 R.Vc ok (λ b f e=>aL _ e) (λ b c=>by rw[a]at c;rw[aE.mp c];exact el (aT _)) d (by simp only[a];simp)
theorem cS.SO(R:cS O Y Kp Jj s)(ok:O.Ok):(s.heap.objs.size==dD)=ao:=by refine mN ok.top.g λ o Z Z a Z=>?_;have:=cq (R.old _ o (ok.SP _ _ a).1 (ok.SP _ _ a).2);simp only[beq_eq_false_iff_ne];intro e;rw[e]at this;exact absurd this (by decide)
theorem dm(h:Heap):h.get? h.objs.size=ai:=el (aT _)
theorem p9{elts:List Expr}{k:Nat}{pos:gY}{Q:V->St->Prop}(h:XL O Ex (c7 (cO pos (bk elts O.env))) (λ vs a=>vs.length<=eZ/\Q (.tup vs) a) Y):
 XV O Ex (bw (.Tuple elts k pos) O.env) Q Y:=λ Kp Jj s R=>wpAny_Tuple (h.Rr R λ us c vs a Kk l₁ d f g=>⟨by rw[f.length];exact g.1,by
 exact ⟨_,a,_,l₁.trans (b9.RN _ _ _),(d.Uz (tk:=c.toks) (h':=c.heap.push (dZ us.toArray 0)) (λ b o e=>aL _ e) (dm _) (bQ _ rfl)),.tup (b9.RO _ _ _) (f.mono (b9.RN _ _ _)),g.2⟩⟩)
theorem f5{elts:List Expr}{pos:gY}{Q:V->St->Prop}(h:XL O Ex (c7 (cO pos (bk elts O.env))) (λ vs a=>vs.length<=eZ/\Q (.list vs) a) Y):
 XV O Ex (bw (.List elts pos) O.env) Q Y:=λ Kp Jj s R=>wpAny_List (h.Rr R λ us c vs a Kk l₁ d f g=>⟨by rw[f.length];exact g.1,by
 exact ⟨_,a,_,l₁.trans (b9.RN _ _ _),(d.Uz (tk:=c.toks) (h':=c.heap.push (W.listOf us.toArray 0)) (λ b o e=>aL _ e) (dm _) (bQ _ rfl)),.list (b9.RO _ _ _) (f.mono (b9.RN _ _ _)),g.2⟩⟩)
theorem eC{elts:List Expr}{pos:gY}{Q:V->St->Prop}(ok:O.Ok)(h:XL O Ex (c7 (cO pos (bk elts O.env))) (λ vs b=>vs.length<=eZ/\∀a,Q (.ref a) ⟨b.vals,(a,.list vs)::b.mu⟩) Y):
 XV O Ex (bw (.List elts pos) O.env) Q Y:=λ Kp Jj s R=>wpAny_List (h.Rr R λ us c vs b Kk l₁ d e f=>⟨by rw[e.length];exact f.1,
 ⟨.ref c.heap.objs.size,_,Kk,l₁,d.T2 (p:=(c.heap.objs.size,.list vs)) (o:=W.listOf us.toArray 0) (tk:=c.toks) ok rfl (.list (n:=0) (bQ _ rfl) e),.ref _,f.2 _⟩⟩)
theorem hV(ok:O.Ok)(h:∀a,Q (.ref a) ⟨Y.vals,(a,.dict [])::Y.mu⟩):XV O Ex (bw (.Dict [] [] pos) O.env) Q Y:=λ Kp Jj s R=>wpAny_Dict_empty ⟨.ref s.heap.objs.size,_,Kp,.refl _,R.T2 (p:=(s.heap.objs.size,.dict [])) (o:=W.dictOf [] 0) (tk:=s.toks) ok rfl (.dict (n:=0) (es:=[]) (R.SO ok) (bQ _ rfl) .nil),.ref _,h _⟩
theorem qD(ok:O.Ok)(h:Q (.dict []) Y):XV O Ex (bw (.Dict [] [] pos) O.env) Q Y:=λ Kp Jj s R=>wpAny_Dict_empty ⟨.dict [],Y,_,b9.RN _ _ _,R.Uz (tk:=s.toks) (h':=s.heap.push (W.dictOf [] 0)) (λ b o e=>aL _ e) (dm _) (bQ _ rfl),.dict (R.SO ok) (b9.RO _ _ _) .nil,h⟩
inductive LV(Y:St):V->List V->Prop
 |frozen {xs:List V}:LV Y (.list xs) xs
 |led {a:aG} {xs:List V} (i:Nat):Y.mu[i]? =ah (a,.list xs)->LV Y (.ref a) xs
inductive DV(Y:St):V->List (V×V)->Prop
 |frozen {xs:List (V×V)}:DV Y (.dict xs) xs
 |led {a:aG} {xs:List (V×V)} (i:Nat):Y.mu[i]? =ah (a,.dict xs)->DV Y (.ref a) xs
inductive Oc(P:bS)(S:b9)(h:Heap)(xs:List V):Value->Prop
 |mk (a:aG) (vs:List Value) (n:Nat) (e:h.get? a=ah (W.listOf vs.toArray n)) (rs:dn P S vs xs):Oc P S h xs (.ref a)
inductive Qf(P:bS)(S:b9)(h:Heap)(xs:List (V×V)):Value->Prop
 |mk (a:aG) (es:List bN) (n:Nat) (e:h.get? a=ah (W.dictOf es n)) (rs:ge P S es xs) (q:(a==dD)=ao):Qf P S h xs (.ref a)
theorem LV.at{v:V}(L:LV Y v xs)(R:cS O Y Kp Jj s){u:Value}:VR O.P Kp u v->Oc O.P Kp s.heap xs u:=
 LV.rec (motive:=λ v xs Z=>VR O.P Kp u v->Oc O.P Kp s.heap xs u) (λ a=>a.listE λ Z Z Z e rs=>⟨_,_,_,R.sub _ _ e,rs⟩) (λ Z h a=>a.RS ((R.mu _ (aX h)).listE λ Z Z e rs=>⟨_,_,_,e,rs⟩)) L
theorem DV.at{v:V}{xs:List (V×V)}(L:DV Y v xs)(R:cS O Y Kp Jj s){u:Value}:VR O.P Kp u v->Qf O.P Kp s.heap xs u:=
 DV.rec (motive:=λ v xs Z=>VR O.P Kp u v->Qf O.P Kp s.heap xs u) (λ a=>a.R9 λ Z Z Z q e rs=>⟨_,_,_,R.sub _ _ e,rs,q⟩) (λ Z h a=>a.RS ((R.mu _ (aX h)).R9 λ Z Z q e rs=>⟨_,_,_,e,rs,q⟩)) L
theorem nR{p:α}:∀{i:Nat},l[i]? =ah p->l=l.take i++p::l.drop (i+1)/\∀q,l.set i q=l.take i++q::l.drop (i+1):=by
 induction l with
 |nil=>exact λ h=>nomatch h
 |cons x l a=>
  intro i h;cases i with
  |zero=>cases Option.some.inj h;exact ⟨rfl,λ Z=>rfl⟩
  |succ i=>exact ⟨congrArg (x::·) (a h).1,λ q=>congrArg (x::·) ((a h).2 q)⟩
theorem cS.SW(R:cS O Y Kp Jj s)(ok:O.Ok){i:Nat}{p q:aG×MO}(c:Y.mu[i]? =ah p)(b:ch q=ch p){h':Heap}{tk:Nat}{a:aG}(f:a∈ch p)(h:Heap.SameBut a s.heap h')
 (g:∃o,h'.get? a=ah o) (e:MR O.P Kp h' q):cS O ⟨Y.vals,Y.mu.set i q⟩ Kp Jj {s with heap:=h',toks:=tk}:=by
 have d:=nR c;rw[d.2];exact R.Uw ok d.1 b f h g e
inductive y5(Y:St):V->String->Prop
 |list {v:V} {xs:List V}:LV Y v xs->y5 Y v "list"
 |dict {v:V} {xs:List (V×V)}:DV Y v xs->y5 Y v "dict"
 |tup {xs:List V}:y5 Y (.tup xs) "tuple"
 |str {x:Str}:y5 Y (.str x) "str"
inductive I5(s:aQ)(T:String)(u:Value):Prop
 |mk (t:s.TypeIs u T) (h:∀a,u=.ref a->∃ob,s.heap.get? a=ah ob/\ob.dict=ai)
theorem H0{T:String}{a:aG}(e:s.heap.get? a=ah o)(h:o.cls=.type T)(d:o.dict=ai):I5 s T (.ref a):=⟨⟨_,e,h⟩,λ b c=>by cases c;exact ⟨_,e,d⟩⟩
theorem y5.at{v:V}{T:String}(h:y5 Y v T)(R:cS O Y Kp Jj s){u:Value}:VR O.P Kp u v->I5 s T u:=
 y5.rec (motive:=λ v T Z=>VR O.P Kp u v->I5 s T u) (λ L a=>by obtain ⟨_,_,_,e,_⟩:=L.at R a;exact H0 e rfl rfl) (λ L a=>by obtain ⟨_,_,_,e,_,_⟩:=L.at R a;exact H0 e rfl rfl) (λ a=>a.RL λ Z Z Z e Z=>H0 (R.sub _ _ e) rfl rfl) (λ a=>a.RG λ Z=>⟨rfl,λ Z h=>nomatch h⟩) h
theorem ED{o:Expr}{name:Str}{a pos:gY}{args:List Expr}{T id:String}{Q:V->St->Prop}(ok:O.Ok)(c:DO pos args O.env)
 (t:PlainAttrs T) (g:Slot T name id) (j:Hx (.builtin id)=pure (.type "method_descriptor"))
 (h:XV O Ex (bw o O.env) (λ ov b=>y5 b ov T/\XL O Ex (c7 (cO pos (bk args O.env))) (λ vs f=>cU O Ex (.builtin id) (ov::vs) Q f) b) Y)
 (r:Js o name args a pos O.env)
 (q:Hv pos args O.env) (p:(a.endLine==pos.line)=aj):
 XV O Ex (bw (.Call (.Attribute o name a) args [] pos) O.env) Q Y:=λ Kp Jj s R=>by
 rw[r];refine aw (h.Rr R λ u i ov b Kk l₁ d l h₁=>aw (et ?_));refine za h₁ λ n m=>?_;have k:=n.at d l;dsimp only[gT];refine aw (bE ?_);unfold Eo;rw[q];refine getMethod_builtin k.1 t g j k.2 ?_;show aW _ _ (d1 aj o O.env a pos>>=_) _ _ _;rw[(show d1 aj o O.env a pos=pure pos by unfold d1;rw[p];rfl)];refine aw (az ?_);exact aY (jo (first:=[ov]) ok (iJ _ id) c m Kk Jj i [u] d (.cons l .nil)) (λ Z Z x=>up l₁ x) λ Z Z e=>e
theorem wt{a:aG}{v:V}{xs:List V}{Q:V->St->Prop}(i:Nat)(ok:O.Ok)(hi:Y.mu[i]? =ah (a,.list xs))(hz:xs.length<=eZ)(h:Q .none ⟨Y.vals,Y.mu.set i (a,.list (xs++[v]))⟩):
 cU O Ex (.builtin "list.append") [.ref a,v] Q Y:=.two λ Kp Jj s u g R f c=>f.RS ((R.mu _ (aX hi)).listE λ vs n e rs=>append_at (hsz:=by simp only[bI,rs.length];exact hz) e λ h' d b=>⟨_,_,Kp,.refl _,R.SW (tk:=s.toks) (q:=(a,.list (xs++[v]))) ok hi rfl (a:=a) (.head _) d ⟨_,b⟩ (.list (vs:=vs++[g]) (n:=n+1) (by simpa[W.listOf]using b) (rs.snoc c)),.none,h⟩)
theorem NI{a:aG}{v:V}{xs:List V}{Q:V->St->Prop}(i:Nat)(ok:O.Ok)(hi:Y.mu[i]? =ah (a,.list (xs++[v])))(hz:xs.length<eZ)(h:Q v ⟨Y.vals,Y.mu.set i (a,.list xs)⟩):
 cU O Ex (.builtin "list.pop") [.ref a] Q Y:=.one λ Kp Jj s u R l=>l.RS ((R.mu _ (aX hi)).listE λ vs n e rs=>by
 have b:vs.length=xs.length+1:=rs.length.trans aF;refine b5 (rs.get (i:=xs.length) (v:=v) (by (refine (bH (aT _)).trans ?_;rw[eU]);rfl)) λ u f j=>?_;have d:dn O.P Kp (vs.take xs.length) xs:=by have:=rs.take xs.length;rwa [List.take_left]at this
 have hk:vs.toArray.size-1=xs.length:=by simp only[bI,b,j_]
 refine kZ PySem.F.slot_list_pop ⟨_,e,rfl⟩ PySem.F.entry_list_pop (PySem.F.args_list_pop_1 _) (PySem.MeetsSeq.list_pop_last a _ n u ?_ (by simp only[bI,b];exact hz)) ⟨e,?_⟩
 ·simp only[hk,b6];exact f
 ·have x:=PySem.IsL.update (h:=s.heap) e (λ x=>x.eraseIdxIfInBounds (vs.toArray.size-1));have k:vs.toArray.eraseIdxIfInBounds (vs.toArray.size-1)=(vs.take xs.length).toArray:=by rw[hk];have c:=(nR f).1;rw[lN (cu b)]at c;have g:=d.length;generalize vs.take xs.length=q at c g;subst c;simp only[<-g,kl_erase,cJ]
  rw[k]at x;exact ⟨v,_,Kp,.refl _,R.SW (tk:=s.toks) (q:=(a,.list xs)) ok hi rfl (a:=a) (.head _) (Heap.SameBut.update ..) ⟨_,x⟩ (.list x d),j,h⟩)
theorem w8{n:Nat}(h:n<2^20):Builtin.List.listTooLong n=ao:=by unfold Builtin.List.listTooLong;simp[dE];exact bc (aH ‹_› (by decide))
theorem Du{a:aG}{v:V}(i:Nat)(ok:O.Ok)(hi:Y.mu[i]? =ah (a,.list xs))(g:LV Y v ys)(hz:xs.length+ys.length<2^20)(h:Q .none ⟨Y.vals,Y.mu.set i (a,.list (xs++ys))⟩):cU O Ex (.builtin "list.extend") [.ref a,v] Q Y:=.two λ Kp Jj s u l R j f=>j.RS ((R.mu _ (aX hi)).listE λ vs n e rs=>by
 obtain ⟨b,ws,m,k,c⟩:=g.at R f;have l1:vs.toArray.size=xs.length:=rs.length;have l2:ws.toArray.size=ys.length:=c.length;have x:=PySem.IsL.update (h:=s.heap) e (λ x=>x++ws.toArray);have d:xs.length+ys.length<=eZ:=aA (bc hz) (by decide);refine kZ PySem.F.slot_list_extend ⟨_,e,rfl⟩ PySem.F.entry_list_extend (PySem.F.args_list_extend_2 _ _) (AutoSeq1.list_extend_list_list_0 a vs.toArray n b ws.toArray m ?_ ?_ ?_) ⟨e,k,?_⟩
 ·simp only[l1,l2,w8 hz,m3];exact dj
 ·rw[l1];exact aA (b3 _ _) d
 ·rw[l1,l2];exact c1 d
 ·exact ⟨.none,_,Kp,.refl _,R.SW (tk:=s.toks) (q:=(a,.list (xs++ys))) ok hi rfl (a:=a) (.head _) (Heap.SameBut.update ..) ⟨_,x⟩ (.list (vs:=vs++ws) (n:=if (vs.toArray++ws.toArray).size==vs.toArray.size then n else n+1) (by (refine x.trans ?_;rw[AL])) (rs.append c)),.none,h⟩)
section
theorem FC.Ok.u8(ok:O.Ok):O.A.units+1+8<fe:=by have:=ok.units;exact K1 this
theorem fin{R:b9->α->β->Prop}{Q:β->St->Prop}(u:α)(b:β)(r:cS O Y Kp Jj s)(h:R Kp u b)(q:Q b Y):Pt O Jj Kp R Q u s:=
 ⟨b,Y,Kp,.refl _,r,h,q⟩
theorem iF.ints{t:Value->Value->Sem Value}{a b:Int}(h:∀Kp Jj s d c,cS O Y Kp Jj s->aW (bn O.G.prog O.G.w) O.A (t (.int a d) (.int b c)) (Pt O Jj Kp (VR O.P) Q) Ex s):iF O Ex t (VR O.P) (.int a) (.int b) Q Y:=
 λ Kp Jj s i g R e f=>e.RB λ d=>f.RB λ c=>h Kp Jj s d c R
theorem iF.strs{t:Value->Value->Sem Value}{a b:Str}(h:∀Kp Jj s d c,cS O Y Kp Jj s->aW (bn O.G.prog O.G.w) O.A (t (.str a d) (.str b c)) (Pt O Jj Kp (VR O.P) Q) Ex s):iF O Ex t (VR O.P) (.str a) (.str b) Q Y:=
 λ Kp Jj s i g R e f=>e.RG λ d=>f.RG λ c=>h Kp Jj s d c R
section Xn
variable{a b:Int}
theorem M_(h:Q (.int (a+b)) Y):iF O Ex (dT .Add) (VR O.P) (.int a) (.int b) Q Y:=.ints λ Kp Jj s d c R=>add_int (fin _ _ (R.toks _) (.int _ _) h)
theorem Iq(h:Q (.int (a+b)) Y):iF O Ex (AQ .Add) (VR O.P) (.int a) (.int b) Q Y:=.ints λ Kp Jj s d c R=>iadd_int (fin _ _ (R.toks _) (.int _ _) h)
theorem M1(h:Q (.int (a-b)) Y):iF O Ex (dT .Sub) (VR O.P) (.int a) (.int b) Q Y:=.ints λ Kp Jj s d c R=>sub_int (fin _ _ (R.toks _) (.int _ _) h)
theorem M6(c:IntMulOk a b)(h:Q (.int (a*b)) Y):iF O Ex (dT .Mult) (VR O.P) (.int a) (.int b) Q Y:=.ints λ Kp Jj s e d R=>mul_int (fin _ _ (R.toks _) (.int _ _) h) c
theorem G9(c:b≠0)(h:Q (.int (a.fmod b)) Y):iF O Ex (dT .Mod) (VR O.P) (.int a) (.int b) Q Y:=.ints λ Kp Jj s e d R=>mod_int c (fin _ _ (R.toks _) (.int _ _) h)
theorem Is(c:b≠0)(d:b.natAbs<1073741824)(h:Q (.int (a.fdiv b)) Y):iF O Ex (dT .FloorDiv) (VR O.P) (.int a) (.int b) Q Y:=.ints λ Kp Jj s f e R=>floordiv_int c (fin _ _ (R.toks _) (.int _ _) h) (.inl (PyProof.noPylong_small d))
theorem M9(h:Q (.int (Builtin.bitAnd a b)) Y):iF O Ex (dT .BitAnd) (VR O.P) (.int a) (.int b) Q Y:=.ints λ Kp Jj s d c R=>and_int (fin _ _ (R.toks _) (.int _ _) h)
theorem M3(h:Q (.int (Builtin.bitOr a b)) Y):iF O Ex (dT .BitOr) (VR O.P) (.int a) (.int b) Q Y:=.ints λ Kp Jj s d c R=>or_int (fin _ _ (R.toks _) (.int _ _) h)
theorem B_(c:0<=b)(h:Q (.int (a.fdiv (2^b.toNat))) Y):iF O Ex (dT .RShift) (VR O.P) (.int a) (.int b) Q Y:=.ints λ Kp Jj s e d R=>rshift_int c (fin _ _ (R.toks _) (.int _ _) h)
theorem M2(e:0<=b)(d:b<=1000000)(c:a.natAbs<2^64)(h:Q (.int (a*2^b.toNat)) Y):iF O Ex (dT .LShift) (VR O.P) (.int a) (.int b) Q Y:=.ints λ Kp Jj s g f R=>lshift_int_small e d c (fin _ _ (R.toks _) (.int _ _) h)
theorem t4(h:Q (.bool (decide (a<b))) Y):iF O Ex (cK .Lt) (VR O.P) (.int a) (.int b) Q Y:=.ints λ Kp Jj s d c R=>lt_int (fin _ _ R (.bool _) h)
theorem Cc(h:Q (.bool (decide (b<a))) Y):iF O Ex (cK .Gt) (VR O.P) (.int a) (.int b) Q Y:=.ints λ Kp Jj s d c R=>gt_int (fin _ _ R (.bool _) h)
theorem Ir(h:Q (.bool (decide (b<=a))) Y):iF O Ex (cK .GtE) (VR O.P) (.int a) (.int b) Q Y:=.ints λ Kp Jj s d c R=>ge_int (fin _ _ R (.bool _) h)
theorem G_(h:Q (.bool (a==b)) Y):iF O Ex (cK .Eq) (VR O.P) (.int a) (.int b) Q Y:=.ints λ Kp Jj s d c R=>eq_int (fin _ _ R (.bool _) h)
theorem vR(h:Q (.bool (a !=b)) Y):iF O Ex (cK .NotEq) (VR O.P) (.int a) (.int b) Q Y:=.ints λ Kp Jj s d c R=>ne_int (fin _ _ R (.bool _) h)
theorem kF(h:Q (.int (-a)) Y):NS O Ex (unaryOp .USub) (VR O.P) (.int a) Q Y:=λ Kp Jj s c R b=>b.RB λ t=>neg_int (fin _ _ (R.toks _) (.int _ _) h)
end Xn
section Xm
variable{a b:Str}
theorem Cd(h:Q (.bool (a==b)) Y):iF O Ex (cK .Eq) (VR O.P) (.str a) (.str b) Q Y:=.strs λ Kp Jj s d c R=>SeqAt.RcAt.str_str a _ b _ _ _ Ex _ (fin _ _ R (.bool _) h)
theorem M5(h:Q (.bool (!(a==b))) Y):iF O Ex (cK .NotEq) (VR O.P) (.str a) (.str b) Q Y:=.strs λ Kp Jj s d c R=>SeqAt.RcNeAt.str_str a _ b _ _ _ Ex _ (fin _ _ R (.bool _) h)
theorem i5(hz:a.length+b.length<=2^24)(h:Q (.str (a++b)) Y):iF O Ex (dT .Add) (VR O.P) (.str a) (.str b) Q Y:=.strs λ Kp Jj s e c R=>add_str (λ d tk=>fin _ _ (R.toks _) (.str _ _) h) (by exact hz)
end Xm
noncomputable def PZ:V->Bool:=vB aj ao ao ao
theorem VR.isNone{P:bS}{v:V}(h:VR P S u v):(u==cV)=PZ v:=
 VR.rec (motive_1:=λ u v Z=>(u==cV)=PZ v) (motive_2:=λ Z Z Z=>True) (motive_3:=λ Z Z Z=>True) (motive_4:=λ Z Z Z=>True) rfl (λ Z=>rfl) (λ Z Z=>rfl) (λ Z Z=>rfl) (λ Z Z Z=>rfl) (λ Z Z Z=>rfl) (λ Z Z Z Z=>rfl)
  (λ Z Z Z Z=>rfl) (λ Z=>rfl) (λ Z=>rfl) trivial (λ Z Z Z Z=>trivial) trivial (λ Z Z Z Z Z Z Z=>trivial) trivial (λ Z Z Z Z=>trivial) h
theorem vS{v:V}(h:Q (.bool (!PZ v)) Y):iF O Ex (cK .IsNot) (VR O.P) v .none Q Y:=λ Kp Jj s c d R a b=>b.R1 (isNot_none (by show Pt _ _ _ _ _ (Value.bool (!(c==cV))) _;rw[a.isNone];exact fin _ _ R (.bool _) h))
theorem Qt{n:Nat}(hS:∀b o,S b o->s.heap.get? b=ah o){A:Around}{a b:aG}{P:bS}{vs:List Value}{xs:List V}{k:Nat}(i:s.heap.get? a=ah (W.listOf vs.toArray k))(h:s.heap.get? b=ah (W.listOf ws.toArray k'))(f:dn P S vs xs)(g:dn P S ws ys)(w:∀x∈xs,lU n x=aj)(u:∀x∈ys,lU n x=aj)(m:A.units+1+n<fe):RcAt A s (.ref a) (.ref b) (gE (.list xs) (.list ys))/\RcNeAt A s (.ref a) (.ref b) (!gE (.list xs) (.list ys)):=by
 have c:A.units<fe:=aR (aA (gA _) (b3 _ n)) m;by_cases d:xs.length=ys.length
 ·have q:∀(j:Nat) (r:j<vs.toArray.size) (l:j<ws.toArray.size),EqAt A.in1 s vs.toArray[j] ws.toArray[j] (gE (xs.getD j .none) (ys.getD j .none)):=λ j r l=>by simp only[dL,dL];exact yS hS n A.in1 (fJ w (iR n)) (fJ u (iR n)) (f.getD (by exact r)) (g.getD (by exact l)) m
  have z:=nN xs ys;rw[d,Nat.min_self,beq_self_eq_true,Bool.and_true,Br]at z;have v:(aZ vs.toArray.size).all (λ j=>gE (xs.getD j .none) (ys.getD j .none))=gE (.list xs) (.list ys):=by simp only[bI,f.length,d,z]
  have p:=RcAt.lists (A:=A) (s:=s) (items:=vs.toArray) (items2:=ws.toArray) (e:=λ j=>gE (xs.getD j .none) (ys.getD j .none)) ⟨_,i,rfl,_,rfl⟩ ⟨_,h,rfl,_,rfl⟩ (by simp[f.length,g.length,d]) c q;have t:=RcNeAt.lists (A:=A) (s:=s) (items:=vs.toArray) (items2:=ws.toArray) (e:=λ j=>gE (xs.getD j .none) (ys.getD j .none)) ⟨_,i,rfl,_,rfl⟩ ⟨_,h,rfl,_,rfl⟩ (by simp[f.length,g.length,d]) c q;simp only[v]at p t;exact ⟨p,t⟩
 ·rw[iy λ e=>d (congrArg dB (V.list.inj e))];exact ⟨RcAt.lists_lengths (items:=vs.toArray) (items2:=ws.toArray) ⟨_,i,rfl,_,rfl⟩ ⟨_,h,rfl,_,rfl⟩ (by simp[f.length,g.length,d]) c,
   RcNeAt.lists_lengths (items:=vs.toArray) (items2:=ws.toArray) ⟨_,i,rfl,_,rfl⟩ ⟨_,h,rfl,_,rfl⟩ (by simp[f.length,g.length,d]) c⟩
theorem Ce{v w:V}{xs ys:List V}{Q:V->St->Prop}(ok:O.Ok)(k:LV Y v xs)(j:LV Y w ys)(g:∀x∈xs,lU 8 x=aj)(d:∀x∈ys,lU 8 x=aj)(h:Q (.bool (gE (.list xs) (.list ys))) Y):
 iF O Ex (cK .Eq) (VR O.P) v w Q Y:=λ Kp Jj s o p R i f=>by
 obtain ⟨a,vs,n,e,rs⟩:=k.at R i;obtain ⟨b,ws,m,l,c⟩:=j.at R f;exact (Qt R.sub e l rs c g d ok.u8).1 _ _ Ex _ (fin _ _ R (.bool _) h)
theorem Ca{v w:V}{xs ys:List V}{Q:V->St->Prop}(ok:O.Ok)(k:LV Y v xs)(j:LV Y w ys)(g:∀x∈xs,lU 8 x=aj)(d:∀x∈ys,lU 8 x=aj)(h:Q (.bool (!gE (.list xs) (.list ys))) Y):
 iF O Ex (cK .NotEq) (VR O.P) v w Q Y:=λ Kp Jj s o p R i f=>by
 obtain ⟨a,vs,n,e,rs⟩:=k.at R i;obtain ⟨b,ws,m,l,c⟩:=j.at R f;exact (Qt R.sub e l rs c g d ok.u8).2 _ _ Ex _ (fin _ _ R (.bool _) h)
theorem Qr{n:Nat}(hS:∀b o,S b o->s.heap.get? b=ah o){A:Around}{a b:aG}{P:bS}{vs:List Value}{xs:List V}{k:Nat}(m:s.heap.get? a=ah (dZ vs.toArray k))(i:s.heap.get? b=ah (dZ ws.toArray k'))(g:dn P S vs xs)(f:dn P S ws ys)(u:∀x∈xs,lU n x=aj)(t:∀x∈ys,lU n x=aj)(h:A.units+1+n<fe):RcAt A s (.ref a) (.ref b) (gE (.tup xs) (.tup ys))/\RcNeAt A s (.ref a) (.ref b) (!gE (.tup xs) (.tup ys)):=by
 have c:A.units<fe:=aR (aA (gA _) (b3 _ n)) h;have q:∀(j:Nat) (p:j<vs.toArray.size) (d:j<ws.toArray.size),EqAt A.in1 s vs.toArray[j] ws.toArray[j] (gE (xs.getD j .none) (ys.getD j .none)):=λ j p d=>by simp only[dL,dL];exact yS hS n A.in1 (fJ u (iR n)) (fJ t (iR n)) (g.getD (by exact p)) (f.getD (by exact d)) h
 have l:=RcAt.tuples (A:=A) (s:=s) (items:=vs.toArray) (items2:=ws.toArray) (e:=λ j=>gE (xs.getD j .none) (ys.getD j .none)) ⟨_,m,rfl,_,rfl⟩ ⟨_,i,rfl,_,rfl⟩ c q;have r:=RcNeAt.tuples (A:=A) (s:=s) (items:=vs.toArray) (items2:=ws.toArray) (e:=λ j=>gE (xs.getD j .none) (ys.getD j .none)) ⟨_,m,rfl,_,rfl⟩ ⟨_,i,rfl,_,rfl⟩ c q;simp only[bI,g.length,f.length,(nN xs ys)]at l r;exact ⟨l,r⟩
theorem M4{xs ys:List V}{Q:V->St->Prop}(ok:O.Ok)(d:∀x∈xs,lU 8 x=aj)(b:∀x∈ys,lU 8 x=aj)(h:Q (.bool (!gE (.tup xs) (.tup ys))) Y):
 iF O Ex (cK .NotEq) (VR O.P) (.tup xs) (.tup ys) Q Y:=λ Kp Jj s i j R f c=>f.RL λ Z Z Z e rs=>c.RL λ Z Z Z g a=>(Qr R.sub (R.sub _ _ e) (R.sub _ _ g) rs a d b ok.u8).2 _ _ Ex _ (fin _ _ R (.bool _) h)
theorem mm{P:bS}{xs:List Str}{k:Str}{t:Jm}:∀{us:List Value},dn P S us (xs.map V.str)->(∀y,y∈us.toArray->EqAt A s y (.str k t) (isStrOf k y))/\us.any (isStrOf k)=xs.any (· ==k):=by
 induction xs with
 |nil=>exact λ r=>dn.RX (Qs:=λ us=>(∀y,y∈us.toArray->EqAt A s y (.str k t) (isStrOf k y))/\us.any (isStrOf k)=ao) r ⟨λ y c=>absurd (eY.mp c) ea,rfl⟩
 |cons x xs d=>exact λ r=>dn.RC (Qs:=λ us=>(∀y,y∈us.toArray->EqAt A s y (.str k t) (isStrOf k y))/\us.any (isStrOf k)=(x::xs).any (· ==k)) r λ u us a b=>VR.RG (Q:=λ u=>(∀y,y∈(u::us).toArray->EqAt A s y (.str k t) (isStrOf k y))/\(u::us).any (isStrOf k)=(x::xs).any (· ==k)) a λ f=>⟨λ y c=>(aI.mp (eY.mp c)).elim (λ e=>e▸(eqGives_str x k f t).at A s) λ c=>(d b).1 y (eY.mpr c),congrArg ((x==k)||·) (d b).2⟩
theorem Ip{v:V}{k:Str}{xs:List Str}(f:LV Y v (xs.map .str))(h:Q (.bool (xs.any (· ==k))) Y):iF O Ex (cK .In) (VR O.P) (.str k) v Q Y:=λ Kp Jj s i j R e d=>by refine e.RG λ t=>?_;obtain ⟨b,ws,m,g,a⟩:=f.at R d;have c:=mm (s:=s) (A:=O.A.in1) (k:=k) (t:=t) a;exact in_listAt (isStrOf k) ⟨_,g,rfl,_,rfl⟩ c.1 (by simp only[i0,c.2];exact fin _ _ R (.bool _) h)
theorem n0{v:V}{k:Str}{xs:List Str}(f:LV Y v (xs.map .str))(h:Q (.bool (!xs.any (· ==k))) Y):iF O Ex (cK .NotIn) (VR O.P) (.str k) v Q Y:=λ Kp Jj s i j R e d=>by refine e.RG λ t=>?_;obtain ⟨b,ws,m,g,a⟩:=f.at R d;have c:=mm (s:=s) (A:=O.A.in1) (k:=k) (t:=t) a;exact notIn_listAt (isStrOf k) ⟨_,g,rfl,_,rfl⟩ c.1 (by simp only[i0,c.2];exact fin _ _ R (.bool _) h)
theorem Io{k:Str}{xs:List Str}(h:Q (.bool (xs.any (· ==k))) Y):iF O Ex (cK .In) (VR O.P) (.str k) (.tup (xs.map .str)) Q Y:=λ Kp Jj s g f R c d=>by refine c.RG λ t=>d.RL λ Z Z Z e a=>?_;have b:=mm (s:=s) (A:=O.A.in1) (k:=k) (t:=t) a;exact in_tupleAt (isStrOf k) ⟨_,R.sub _ _ e,rfl,_,rfl⟩ b.1 (by simp only[i0,b.2];exact fin _ _ R (.bool _) h)
theorem oj{v:V}{k:Str}{xs:List Str}(o:LV Y v (xs.map .str))(hk:k∈xs)(hz:xs.length<2^60)(h:Q (.int (xs.idxOf k:Nat)) Y):cU O Ex (.builtin "list.index") [v,.str k] Q Y:=.two λ Kp Jj s u p R l f=>f.RG λ t=>by
 obtain ⟨b,ws,m,e,a⟩:=o.at R l;have n:=(mm (s:=s) (A:=O.A.in1) (k:=k) (t:=t) a).1;have c:ws.toArray.size=xs.length:=by (refine bI.trans ?_;refine a.length.trans ?_;rw[au])
 have hi:xs.idxOf k<xs.length:=g6.mpr hk;have at_:∀(i:Nat) (hi:i<ws.toArray.size),isStrOf k ws.toArray[i]=(xs[i]'(c▸hi)==k):=λ i hi=>by skip;have:=a.getD (j:=i) hi;simp only[aD,aN,ay (c▸hi)]at this;exact VR.RG (Q:=λ u=>isStrOf k u=(xs[i]'(c▸hi)==k)) this λ Z=>rfl
 refine kZ F.slot_list_index ⟨_,e,rfl⟩ F.entry_list_index (F.args_list_index_2 _ _) (list_indexAt b ws.toArray m ai #[] (.str k t) (isStrOf k) (xs.idxOf k) (c▸hi) (cY.mpr (bD (bD hi hz) (by decide):xs.idxOf k<2^63-1)) ?_ ?_) ⟨e,n,fin _ _ (R.toks _) (.int _ _) h⟩
 ·rw[at_,beq_iff_eq];exact oB hi
 ·intro i g d;refine (at_ i g).trans ?_;exact List.not_of_lt_findIdx d
end
theorem cS.UK(R:cS O Y Kp Jj s){h':Heap}{tk:Nat}{a:aG}{o:Obj}{v:V}{Q:V->St->Prop}(k:∀b o,s.heap.get? b=ah o->h'.get? b=ah o)(e:s.heap.get? a=ai)(c:h'.get? a=ah o)
 (d:VR O.P (Kp.add a o) (.ref a) v) (q:Q v Y):Pt O Jj Kp (VR O.P) Q (.ref a) {s with heap:=h',toks:=tk}:=
 ⟨v,Y,_,b9.RN _ _ _,R.Uz k e c,d,q⟩
theorem cS.X_(R:cS O Y Kp Jj s){h':Heap}{tk:Nat}{a:aG}{n:Nat}{us:List Value}{vs:List V}{Q:V->St->Prop}(k:∀b o,s.heap.get? b=ah o->h'.get? b=ah o)(e:s.heap.get? a=ai)(c:h'.get? a=ah (W.listOf us.toArray n))
 (d:dn O.P Kp us vs) (q:Q (.list vs) Y):Pt O Jj Kp (VR O.P) Q (.ref a) {s with heap:=h',toks:=tk}:=
 R.UK k e c (.list (b9.RO _ _ _) (d.mono (b9.RN _ _ _))) q
theorem cS.Wj(R:cS O Y Kp Jj s){h':Heap}{tk:Nat}{a:aG}{n:Nat}{us:List Value}{vs:List V}{Q:V->St->Prop}(k:∀b o,s.heap.get? b=ah o->h'.get? b=ah o)(e:s.heap.get? a=ai)(c:h'.get? a=ah (dZ us.toArray n))
 (d:dn O.P Kp us vs) (q:Q (.tup vs) Y):Pt O Jj Kp (VR O.P) Q (.ref a) {s with heap:=h',toks:=tk}:=
 R.UK k e c (.tup (b9.RO _ _ _) (d.mono (b9.RN _ _ _))) q
theorem cS.X9(R:cS O Y Kp Jj s)(ok:O.Ok){h':Heap}{tk:Nat}{a:aG}{n:Nat}{us:List Value}{vs:List V}{Q:V->St->Prop}(k:∀b o,s.heap.get? b=ah o->h'.get? b=ah o)(f:s.heap.get? a=ai)(d:h'.get? a=ah (W.listOf us.toArray n))
 (e:dn O.P Kp us vs) (q:∀a,Q (.ref a) ⟨Y.vals,(a,.list vs)::Y.mu⟩):Pt O Jj Kp (VR O.P) Q (.ref a) {s with heap:=h',toks:=tk}:=
 ⟨.ref a,_,Kp,.refl _,R.Vc (p:=(a,.list vs)) ok k (λ b c=>by simp[ch]at c;rw[c];exact f) (.list d e) (by simp[ch]),.ref _,q a⟩
inductive mQ(Q:V->St->Prop)(Y:St)(vs:List V):Prop
 |F:Q (.list vs) Y->mQ Q Y vs
 |M:(∀a,Q (.ref a) ⟨Y.vals,(a,.list vs)::Y.mu⟩)->mQ Q Y vs
theorem cS.Ta(R:cS O Y Kp Jj s)(ok:O.Ok){h':Heap}{tk:Nat}{a:aG}{n:Nat}{us:List Value}{vs:List V}{Q:V->St->Prop}(k:∀b o,s.heap.get? b=ah o->h'.get? b=ah o)(e:s.heap.get? a=ai)(c:h'.get? a=ah (W.listOf us.toArray n))
 (d:dn O.P Kp us vs) (q:mQ Q Y vs):Pt O Jj Kp (VR O.P) Q (.ref a) {s with heap:=h',toks:=tk}:=q.rec (λ q=>R.X_ k e c d q) λ q=>R.X9 ok k e c d q
theorem cS.TV(R:cS O Y Kp Jj s)(ok:O.Ok){tk:Nat}{us:List Value}{vs:List V}{Q:V->St->Prop}(a:dn O.P Kp us vs)(q:mQ Q Y vs):Pt O Jj Kp (VR O.P) Q (.ref s.heap.objs.size) {s with heap:=s.heap.push (W.listOf us.toArray 0),toks:=tk}:=
 R.Ta ok (λ b o e=>aL _ e) (dm _) (bQ _ rfl) a q
theorem mw{n:Nat}(h:n<2^62):(n:Int)<2^63:=cY.mpr (bD h (by decide):n<2^63)
theorem gP{n:Nat}(h:n<=2^20):n<=eZ:=aA h (by decide)
theorem dn.sz{P:bS}(h:dn P S us vs):us.toArray.size=vs.length:=h.length
theorem lq{v:V}(c:LV Y v xs)(hz:xs.length<2^62)(h:Q (.int xs.length) Y):cU O Ex (.builtin "len") [v] Q Y:=.one λ Kp Jj s u R b=>let ⟨a,vs,n,e,rs⟩:=c.at R b;call_len_list ⟨_,e,rfl,_,rfl⟩ ((bA rs.sz)▸mw hz) (by simp only[rs.sz];exact fin _ _ (R.toks _) (.int _ _) h)
theorem Dq(hz:xs.length<2^62)(h:Q (.int xs.length) Y):cU O Ex (.builtin "len") [.tup xs] Q Y:=.one λ Kp Jj s u R a=>a.RL λ Z Z Z e rs=>P.len_tuple (R.sub _ _ e) (by rw[rs.sz];exact Int.not_le.mpr (mw hz)) (by rw[rs.sz];exact fin _ _ (R.toks _) (.int _ _) h)
theorem uI{v:V}(ok:O.Ok)(d:LV Y v xs)(hz:xs.length<=2^20)(h:mQ Q Y xs):cU O Ex (.type "list") [v] Q Y:=.one λ Kp Jj s u R c=>let ⟨a,vs,n,e,rs⟩:=d.at R c;call_list_seq a (.inl rfl) e rfl rfl (λ h' f k b=>R.Ta (tk:=s.toks) ok k (dm _) b rs h) ((bA rs.sz)▸gP hz)
theorem FW(ok:O.Ok)(hz:xs.length<=2^20)(h:mQ Q Y xs):cU O Ex (.type "list") [.tup xs] Q Y:=.one λ Kp Jj s u R b=>b.RL λ Z Z Z e rs=>call_list_seq _ (.inr rfl) (R.sub _ _ e) rfl rfl (λ h' c k a=>R.Ta (tk:=s.toks) ok k (dm _) a rs h) ((bA rs.sz)▸gP hz)
theorem Ci{h:Heap}(k:∀b o,h.get? b=ah o->h'.get? b=ah o):h.get? h'.objs.size=ai:=by
 cases a:h.get? h'.objs.size with
 |none=>rfl
 |some o=>exact absurd (cq (k _ _ a)) (bB _)
theorem rS{v:V}(d:LV Y v xs)(hz:xs.length<=2^20)(h:Q (.tup xs) Y):cU O Ex (.type "tuple") [v] Q Y:=.one λ Kp Jj s u R c=>let ⟨a,vs,n,e,rs⟩:=d.at R c;call_tuple_list ⟨_,e,rfl,_,rfl⟩ (λ h' k=>R.Wj (tk:=s.toks) (n:=0) (λ b o e=>aL _ (k _ _ e)) (Ci k) (bQ _ rfl) rs h) ((bA rs.sz)▸gP hz)
theorem NJ{i:Int}(h:Q (.int i) Y):cU O Ex (.type "int") [.int i] Q Y:=.one λ Kp Jj s u R a=>a.RB λ Z=>call_int_int (fin _ _ R (.int _ _) h)
theorem NG{i:Int}(hi:i.natAbs<2^64)(h:Q (.str (toString i)) Y):cU O Ex (.type "str") [.int i] Q Y:=.one λ Kp Jj s u R b=>b.RB λ Z=>P.str_of_int (by
 by_cases a:i.natAbs=0
 ·simp only[a];decide+kernel
 ·exact bD ((Nat.log2_lt a).mpr hi) (by decide)) (fin _ _ (R.toks _) (.str _ _) h)
theorem EJ{P:bS}{xs:List Str}:∀{us:List Value},dn P S us (xs.map V.str)->Ba us xs:=by
 induction xs with
 |nil=>exact λ r=>dn.RX (Qs:=λ us=>Ba us []) r .nil
 |cons x xs c=>exact λ r=>dn.RC (Qs:=λ us=>Ba us (x::xs)) r λ u ws a b=>VR.RG (Q:=λ u=>Ba (u::ws) (x::xs)) a λ t=>.cons x t (c b)
theorem uK{v:V}{xs:List Str}(c:LV Y v (xs.map .str))(hz:(xs.map (·.length)).sum+xs.length*x.length<=16777216)(h:Q (.str (Txt.join x xs)) Y):cU O Ex (.builtin "str.join") [.str x,v] Q Y:=.two λ Kp Jj s u f R d b=>d.RG λ Z=>let ⟨a,vs,n,e,rs⟩:=c.at R b;join_list ⟨_,e,rfl,_,rfl⟩ (EJ rs) hz λ t k=>fin _ _ (R.toks _) (.str _ _) h
theorem HX{v:V}{Q:Bool->St->Prop}(d:LV Y v xs)(hz:xs.length<2^62)(h:Q (!xs.isEmpty) Y):NS O Ex Hy (λ Z u b=>u=b) v Q Y:=λ Kp Jj s f R c=>let ⟨a,vs,n,e,rs⟩:=d.at R c;wpAny_truthy_list ⟨_,e,rfl,_,rfl⟩ ((bA rs.sz)▸mw hz) (by simp only[show (!vs.toArray.isEmpty)=!xs.isEmpty from rs.ind rfl λ Z Z Z Z Z Z Z=>rfl];exact fin _ _ (R.toks _) rfl h)
theorem jp{b:Bool}{Q:Bool->St->Prop}(h:Q b Y):NS O Ex Hy (λ Z u b=>u=b) (.bool b) Q Y:=λ Kp Jj s c R a=>a.Wo (fE (fin _ _ R rfl h))
theorem ng{v w:V}(ok:O.Ok)(j:LV Y v xs)(i:LV Y w ys)(hz:xs.length+ys.length<=2^20)(h:mQ Q Y (xs++ys)):iF O Ex (dT .Add) (VR O.P) v w Q Y:=λ Kp Jj s k l R g f=>by obtain ⟨a,vs,n,e,rs⟩:=j.at R g;obtain ⟨b,ws,m,d,c⟩:=i.at R f;refine concat_meets ⟨_,e,rfl⟩ ⟨_,d,rfl⟩ noFill_list_add seq_list_add PySem.F.slot_list_add PySem.F.entry_list_add (PySem.F.args_list_add_2 _ _) (list_addW a b vs.toArray ws.toArray n m ai ai #[] #[] ((bA rs.sz)▸(bA c.sz)▸gP hz)) ⟨e,d,?_⟩;rw[AL];exact R.TV ok (rs.append c) h
theorem vi{n:Nat}(h:n<=2^20):Builtin.List.listTooLong n=ao:=by unfold Builtin.List.listTooLong;simp[dE];exact aA ‹_› (by decide)
theorem dn.rep1{P:bS}{v:V}(h:VR P S u v)(k:Nat):dn P S (bv k u) (bv k v):=by
 induction k with
 |zero=>exact .nil
 |succ k a=>exact .cons h a
theorem NA(u:α)(k:Nat):(bv k [u]).flatten=bv k u:=by
 induction k with
 |zero=>rfl
 |succ k a=>exact congrArg (u::·) a
theorem Cb{v:V}{x:V}(ok:O.Ok)(q:LV Y v [x])(hz:i<=2^20)(h:mQ Q Y (bv i x)):iF O Ex (dT .Mult) (VR O.P) v (.int i) Q Y:=λ Kp Jj s r t R p l=>l.RB λ u=>by
 obtain ⟨a,vs,n,e,rs⟩:=q.at R p;revert e
 refine dn.TX (Qs:=λ vs=>s.heap.get? a=ah (W.listOf vs.toArray n)->_) rs λ c j e=>?_;have hi:((i:Int).toNat)=i:=gp i;have f:¬(!Builtin.List.listFitsIndex (i:Int))=aj:=by rw[A7 (bs _) (Pk hz)];exact dj
 have d:¬#[c].size*(i:Int).toNat>(2^63-1)/8:=by show ¬1*i>_;exact Pj hz
 have g:¬Builtin.List.listTooLong (#[c].size*(i:Int).toNat)=aj:=by simp only[hi,show #[c].size*i=i from Nat.one_mul i,vi hz];exact dj
 refine wpAny_binaryOp_repeat_ref (T:="list") (U:="int") (rfl) ⟨_,e,rfl⟩ (λ s'=>typeIs_int s' i u) noFill_list_mul PySem.F.fills_int_mul PySem.F.slot_int_rmul repeat_list PySem.F.slot_int_index.lookup ?_;refine kZ PySem.F.slot_int_rmul (typeIs_int s i u) PySem.F.entry_int_rmul (PySem.F.args_int_rmul_2 _ _) (lm_int_rmul_list_any i u a #[c] n ai #[]) ⟨e,rfl,⟨_,e,rfl⟩,?_⟩;generalize k:(i:Int)=m at f d g hi ⊢;refine kZ PySem.F.slot_list_mul ⟨_,e,rfl⟩ PySem.F.entry_list_mul (PySem.F.args_list_mul_2 _ _) (lm_list_mul_any a #[c] n ai #[] m u f d g) ⟨e,?_⟩;rw[listMul_foldl_if,hi];refine R.Ta (tk:=s.toks) (n:=0) (us:=(bv i [c]).flatten) ok (λ b o e=>aL _ e) (dm _) (bQ _ rfl) ?_ h;rw[NA];exact .rep1 j i
noncomputable def NX(T:String):Prop:=∃id,typeLookup (.type T) "__getitem__"=pure (ah (.builtin id))
theorem y5.Wh{v:V}{T:String}(h:y5 Y v T):NX T:=y5.rec (motive:=λ Z T Z=>NX T) (λ Z=>⟨_,slot_list_getitem.lookup⟩) (λ Z=>⟨_,slot_dict_getitem.lookup⟩) ⟨_,slot_tuple_getitem.lookup⟩ ⟨_,PySem.F.slot_str_getitem.lookup⟩ h
inductive mU(O:FC)(Ex:Value->aQ->Prop)(Q:V->St->Prop)(o:V)(i:V)(Y:St):Prop
 |mk (t:∃T,y5 Y o T) (h:iF O Ex km (VR O.P) o i Q Y)
theorem JG(h:XV O Ex (bw value O.env) (kR O Ex slice (mU O Ex Q)) Y)(q:∀o i,subscripted slice ao o i=operate [o,i] (km o i)):XV O Ex (bw (.Subscript value slice pos) O.env) Q Y:=λ Kp Jj s R=>by skip;refine aw (h.Rr R λ t l o g Kk l₁ c n h₁=>aw (bE (h₁.Rr c λ v Rw i j d l₂ a hi f=>aw (et ?_))));obtain ⟨⟨T,m⟩,u⟩:=f;refine ze m.Wh λ id k=>?_;have b:=n.mono l₂;have p:=m.at a b;refine aw ?_;skip;refine aw (il p.1 k ?_);refine az ?_;rw[q];refine aw (wpAny_operating (aY (u d Jj Rw t v a b hi) (λ r RW x=>aw (Ee (az (up (l₁.trans l₂) x)))) λ Z Z e=>e))
theorem dQ{v:V}{r:V}(g:LV Y v xs)(hk:xs[k]? =ah r)(hz:k<2^62)(h:Q r Y):iF O Ex km (VR O.P) v (.int k) Q Y:=λ Kp Jj s i j R f d=>d.RB λ Z=>by obtain ⟨a,vs,n,e,rs⟩:=g.at R f;refine b5 (rs.get hk) λ u c b=>?_;exact wpAny_getItem_list ⟨_,e,rfl,_,rfl⟩ (bs _) (mw hz) (x:=u) (by rw[b6];exact c) (fin _ _ R b h)
theorem xL{v:V}{r:V}(j:LV Y v (xs++[r]))(hz:xs.length<2^60)(h:Q r Y):iF O Ex km (VR O.P) v (.int (-1)) Q Y:=λ Kp Jj s k l R g f=>f.RB λ Z=>by obtain ⟨a,vs,n,e,rs⟩:=j.at R g;have b:vs.toArray.size=xs.length+1:=rs.length.trans aF;refine b5 (rs.get (i:=xs.length) (v:=r) (by (refine (bH (aT _)).trans ?_;rw[eU]);rfl)) λ u d c=>?_;refine wpAny_getItem_list_neg ⟨_,e,rfl,_,rfl⟩ (by decide) (by rw[b];exact Pi) (by decide) (x:=u) ?_ (fin _ _ R c h);simp only[b,show (-1+((xs.length+1:Nat):Int)).toNat=xs.length from Pg,b6];exact d
theorem pA{r:V}(hk:xs[k]? =ah r)(hz:k<2^62)(h:Q r Y):iF O Ex km (VR O.P) (.tup xs) (.int k) Q Y:=λ Kp Jj s g i R f d=>d.RB λ Z=>f.RL λ a vs n e rs=>by refine b5 (rs.get hk) λ u c b=>?_;exact P.getItem_tuple (R.sub _ _ e) (Int.le_trans (by decide) (bs k)) (mw hz) (k:=k) (seqIndex_of (bs _) (by rw[rs.sz];exact cY.mpr (bh.mp hk).1)) (y:=u) (by (refine (b6).trans ?_);exact c) (fin _ _ R b h)
theorem uE{d:aG}{Q:Value->aQ->Prop}(a:s.TypeIs (.ref d) "dict")(h:aW (bn prog w) A.in1 (kq d ku) (λ r s'=>∃v,r=ah v/\Q v s') E s):aW (bn prog w) A (km (.ref d) ku) Q E s:=by
 dsimp only[km]
 try with_reducible refine bE ?_
 refine aw (sg a (rfl) ?_);refine aw (mL (name:=bo "__getitem__") a slot_dict_getitem
  (dS slot_dict_getitem a entry_dict_getitem ?_ (args_dict_getitem _ _)))
 show aW _ _ (kq d ku>>=_) _ _ s;refine aw (aY h (λ r s' b=>b5 b λ v e q=>?_) λ Z Z e=>e);subst e;exact az ⟨v,rfl,az q⟩
theorem FC.Ok.Tp(ok:O.Ok):O.A.in1.units+40<fe:=by have:=ok.units;show O.A.units+1+40<fe;exact Pf this
theorem jt{v k r:V}(ok:O.Ok)(c:DV Y v kvs)(hk:f9 k kvs)(b:eE kvs k=ah r)(h:Q r Y):iF O Ex km (VR O.P) v k Q Y:=λ Kp Jj s m o R j i=>let ⟨d,es,n,e,rs,_⟩:=c.at R j;uE ⟨_,e,rfl⟩ (sP R.sub ok.Tp e rs hk i (λ l u a f=>⟨u,rfl,fin _ _ (R.toks _) f (Option.some.inj (b.symm.trans a)▸h)⟩) λ g=>nomatch b.symm.trans g)
section
variable{d:aG}
theorem wl{Q:Bool->aQ->Prop}(a:s.TypeIs (.ref d) "dict")(hd:(d==dD)=ao)(h:aW (bn prog w) A.in1 (kq d ku) (λ r s'=>Q r.isSome s') E s):aW (bn prog w) A (contains (.ref d) ku) Q E s:=by
 dsimp only[contains]
 try with_reducible refine bE ?_
 refine aw (il a slot_dict_contains.lookup ?_);show aW _ _ (if (ah (nG "dict.__contains__")==ah cV)=aj then _ else _) _ E s;skip;refine aw (wpAny_callSpecialUnlessNone?_slot (name:=bo "__contains__") a slot_dict_contains
  (dS slot_dict_contains a entry_dict_contains ?_ (args_dict_contains _ _)))
 show aW _ _ (kq d ku>>=_) _ _ s;refine aw (aY h (λ r s' q=>?_) λ Z Z e=>e);cases r with
 |some p=>show aW _ _ (ret (.bool aj)) _ _ _;exact az ⟨_,rfl,fE q⟩
 |none=>show aW _ _ (Builtin.Dict.pendingKey? d ku>>=_) _ _ _;exact aw (wpAny_pendingKey_other hd (az ⟨_,rfl,fE q⟩))
theorem sC{Q:Value->aQ->Prop}(a:s.TypeIs (.ref d) "dict")(hd:(d==dD)=ao)(h:aW (bn prog w) A.in1 (kq d ku) (λ r s'=>Q (.bool r.isSome) s') E s):
 aW (bn prog w) A (cK .In ku (.ref d)) Q E s:=by
 show aW _ _ (do return .bool (<-contains (.ref d) ku)) Q E s;exact aw (wl a hd (aY h (λ Z Z q=>az q) λ Z Z e=>e))
theorem o_{Q:Value->aQ->Prop}(a:s.TypeIs (.ref d) "dict")(hd:(d==dD)=ao)(h:aW (bn prog w) A.in1 (kq d ku) (λ r s'=>Q (.bool (!r.isSome)) s') E s):
 aW (bn prog w) A (cK .NotIn ku (.ref d)) Q E s:=by
 show aW _ _ (do return .bool (!(<-contains (.ref d) ku))) Q E s;exact aw (wl a hd (aY h (λ Z Z q=>az q) λ Z Z e=>e))
theorem Ah{nL:Value}{Q:Value->aQ->Prop}(a:s.TypeIs (.ref d) "dict")(hd:(d==dD)=ao)(h:aW (bn prog w) A.in1 (kq d ku) (λ r s'=>Q (r.getD nL) s') E s):
 aW (bn prog w) A (call (.builtin "dict.get") [.ref d,ku,nL]) Q E s:=by
 refine dS PySem.F.slot_dict_get a PySem.F.entry_dict_get ?_ (PySem.F.args_dict_get_3 _ _ _);show aW _ _ (kq d ku>>=_) _ _ s;refine aw (aY h (λ r s' q=>?_) λ Z Z e=>e);cases r with
 |some v=>exact az ⟨v,rfl,q⟩
 |none=>show aW _ _ (Builtin.Dict.missed d ku>>=_) _ _ _;exact aw (wpAny_missed_other hd (az ⟨nL,rfl,q⟩))
theorem pQ{nL:Value}{Q:Value->aQ->Prop}(a:s.TypeIs (.ref d) "dict")(hd:(d==dD)=ao)(h:aW (bn prog w) A.in1 (oG d ku nL) Q E s):
 aW (bn prog w) A (call (.builtin "dict.setdefault") [.ref d,ku,nL]) Q E s:=by
 refine dS PySem.F.slot_dict_setdefault a PySem.F.entry_dict_setdefault ?_ (PySem.F.args_dict_setdefault_3 _ _ _);unfold Builtin.«dict.setdefault»;refine aw ?_;skip;refine aw (gx a ?_);show aW _ _ (pure (d,ku,ah nL)) _ _ s;refine az ?_;show aW _ _ (if (d==dD)=aj then _ else (oG d ku nL>>=_)) _ _ s;rw[if_neg ((bA hd)▸dj)];exact aw (aY h (λ r s' q=>az ⟨r,rfl,q⟩) λ Z Z e=>e)
theorem uD{Q:Unit->aQ->Prop}(a:s.TypeIs (.ref d) "dict")(h:aW (bn prog w) A.in1 (A8 d ku u) Q E s):aW (bn prog w) A (A5 (.ref d) ku u) Q E s:=by
 unfold A5
 try with_reducible refine bE ?_
 refine aw (sg a (rfl) ?_);refine aw (mL (name:=bo "__setitem__") a Jf
  (dS Jf a entry_dict_setitem ?_ (args_dict_setitem _ _ _)))
 show aW _ _ (Builtin.Dict.notOrdered "__setitem__" ⟨[.ref d,ku,u],[]⟩>>=_) _ _ s;refine aw (gx a ?_);show aW _ _ (A8 d ku u>>=_) _ _ s;exact aw (aY h (λ Z s' q=>az ⟨.none,rfl,az q⟩) λ Z Z e=>e)
theorem ud{l:aG}{items:List Value}{n:Nat}{t:Jm}{Q:Unit->aQ->Prop}(c:s.heap.get? l=ah (W.listOf items.toArray n))(i:j<items.length)(hz:j<2^62)(h:∀h' g,Heap.SameBut l s.heap h'->h'.get? l=ah (W.listOf (items.set j u).toArray g)->Q () {s with heap:=h'}):aW (bn prog w) A (A5 (.ref l) (.int j t) u) Q E s:=by
 have f:s.heap.IsList l items.toArray:=⟨_,c,rfl,_,rfl⟩;obtain ⟨k,hk⟩:∃k:Int,k=(j:Int):=⟨_,rfl⟩;have b:Builtin.List.listFitsIndex k=aj:=A7 (hk▸Int.le_trans (by decide) (bs j)) (hk▸mw hz);rw[<-hk];clear hz;unfold A5
 try with_reducible refine bE ?_
 first|refine aw (az ?_)|skip
 refine aw (sg f.typeIs (rfl) ?_);refine aw (mL (name:=bo "__setitem__") f.typeIs Je
  (dS Je f.typeIs entry_list_setitem ?_ (args_list_setitem _ _ _)))
 show aW _ _ (Builtin.List.listSubscript? (.int k t)>>=_) _ _ s;refine aw (wpAny_listSubscript_int b ?_);clear b;subst hk;have d:items.toArray[j]? =ah items[j]:=by exact (b6).trans (ay i)
 show aW _ _ ((seqItemAt l j>>=λ r=>pure (r.map (j,·)))>>=_) _ _ s;refine aw (aw (wpAny_seqItemAt c rfl (az ?_)));rw[d];show aW _ _ (setSeqItemAt l j u>>=_) _ _ s;have a:=PySem.IsL.update (h:=s.heap) c (·.setIfInBounds j u);refine aw (wpAny_setSeqItemAt c rfl ?_);have e:items.toArray.setIfInBounds j u=(items.set j u).toArray:=List.setIfInBounds_toArray ..;rw[e]at a
 first
  |exact aw (az (az ⟨.none,rfl,az (h _ _ (Heap.SameBut.update ..) a)⟩))
  |exact az ⟨.none,rfl,az (h _ _ (Heap.SameBut.update ..) a)⟩
end
theorem uw{k:V}(ok:O.Ok)(R:cS O Y Kp Jj s){d:aG}{es:List bN}{n:Nat}(e:s.heap.get? d=ah (W.dictOf es n))(rs:ge O.P Kp es kvs)(hk:f9 k kvs)(g:VR O.P Kp ku k){Q:Option Value->aQ->Prop}(h:∀r s',(∀v,eE kvs k=ah v->∃u,r=ah u/\VR O.P Kp u v)->(eE kvs k=ai->r=ai)->r.isSome=(eE kvs k).isSome->cS O Y Kp Jj s'->Q r s'):aW (bn O.G.prog O.G.w) O.A.in1 (kq d ku) Q Ex s:=
 sP R.sub ok.Tp e rs hk g (λ i u a f=>h _ _ (λ v b=>⟨u,rfl,Option.some.inj (a.symm.trans b)▸f⟩) (λ h=>nomatch a.symm.trans h) (by simp only[a];rfl) (R.toks _)) λ c=>h _ _ (λ v b=>nomatch c.symm.trans b) (λ Z=>rfl) (by simp only[c];rfl) (R.toks _)
theorem M7{v k:V}(ok:O.Ok)(a:DV Y v kvs)(hk:f9 k kvs)(h:Q (.bool (eE kvs k).isSome) Y):iF O Ex (cK .In) (VR O.P) k v Q Y:=λ Kp Jj s f g R c b=>let ⟨d,es,n,e,rs,hd⟩:=a.at R b;sC ⟨_,e,rfl⟩ hd (uw ok R e rs hk c λ r s' Z Z e R'=>(bA e)▸fin _ _ R' (.bool _) h)
theorem xy{v k:V}(ok:O.Ok)(a:DV Y v kvs)(hk:f9 k kvs)(h:Q (.bool (!(eE kvs k).isSome)) Y):iF O Ex (cK .NotIn) (VR O.P) k v Q Y:=λ Kp Jj s f g R c b=>let ⟨d,es,n,e,rs,hd⟩:=a.at R b;o_ ⟨_,e,rfl⟩ hd (uw ok R e rs hk c λ r s' Z Z e R'=>(bA e)▸fin _ _ R' (.bool _) h)
theorem yV{v k:V}(ok:O.Ok)(c:DV Y v kvs)(hk:f9 k kvs)(h:Q ((eE kvs k).getD nL) Y):cU O Ex (.builtin "dict.get") [v,k,nL] Q Y:=.three λ Kp Jj s j l m R i b g=>
 let ⟨d,es,n,e,rs,hd⟩:=c.at R i;Ah ⟨_,e,rfl⟩ hd (uw ok R e rs hk b λ r s' k1 k2 Z R'=>by
  cases a:eE kvs k with
  |some v=>refine b5 (k1 v a) λ u e f=>?_;rw[a]at h;rw[e];exact fin _ _ R' f h
  |none=>rw[a]at h;rw[k2 a];exact fin _ _ R' g h)
theorem uH{a:aG}{k:V}(i:Nat)(ok:O.Ok)(hi:Y.mu[i]? =ah (a,.dict kvs))(hk:f9 k kvs)(hz:kvs.length<=2^20)(h:match eE kvs k with|some v=>Q v Y|none=>Q nL ⟨Y.vals,Y.mu.set i (a,.dict (kvs++[(k,nL)]))⟩):cU O Ex (.builtin "dict.setdefault") [.ref a,k,nL] Q Y:=.three λ Kp Jj s p t w R m f c=>m.RS ((R.mu _ (aX hi)).R9 λ es n q e rs=>pQ ⟨_,e,rfl⟩ q (oK R.sub ok.Tp e rs hk f c (gP hz) (λ r u b g=>by simp only[b]at h;exact fin _ _ (R.toks _) g h) λ j h' RY o tk l hd d=>by simp only[j]at h;exact ⟨nL,_,Kp,.refl _,R.SW (q:=(a,.dict (kvs++[(k,nL)]))) ok hi rfl (a:=a) (.head _) l ⟨_,hd⟩ (.dict q hd d),c,h⟩))
noncomputable def wI(O:FC)(Ex:Value->aQ->Prop)(o i v:V)(Q:St->Prop)(Y:St):Prop:=
 ∀Kp Jj s uo ui uv,cS O Y Kp Jj s->VR O.P Kp uo o->VR O.P Kp ui i->VR O.P Kp uv v->aW (bn O.G.prog O.G.w) O.A (A5 uo ui uv) (λ Z s'=>∃Y',cS O Y' Kp Jj s'/\Q Y') Ex s
theorem xj{a:aG}{k v:V}{kvs:List (V×V)}{Q:St->Prop}(i:Nat)(ok:O.Ok)(hi:Y.mu[i]? =ah (a,.dict kvs))(hk:f9 k kvs)(hz:kvs.length<=2^20)(h:Q ⟨Y.vals,Y.mu.set i (a,.dict (iw k v kvs))⟩):
 wI O Ex (.ref a) k v Q Y:=λ Kp Jj s m o l R g c d=>g.RS ((R.mu _ (aX hi)).R9 λ es n q e rs=>
 uD ⟨_,e,rfl⟩ (oL R.sub ok.Tp e rs hk c d (gP hz) λ h' RY j tk f hd b=>⟨_,R.SW (q:=(a,.dict (iw k v kvs))) ok hi rfl (a:=a) (.head _) f ⟨_,hd⟩ (.dict q hd b),h⟩))
theorem Ia{a:aG}{v:V}{xs:List V}{j:Nat}{Q:St->Prop}(i:Nat)(ok:O.Ok)(hi:Y.mu[i]? =ah (a,.list xs))(f:j<xs.length)(hz:j<2^62)(h:Q ⟨Y.vals,Y.mu.set i (a,.list (xs.set j v))⟩):
 wI O Ex (.ref a) (.int j) v Q Y:=λ Kp Jj s m o l R g b c=>g.RS (b.RB λ Z=>(R.mu _ (aX hi)).listE λ vs n e rs=>
 ud e (by simp only[rs.length];exact f) hz λ h' k d hd=>⟨_,R.SW (q:=(a,.list (xs.set j v))) (tk:=s.toks) ok hi rfl (a:=a) (.head _) d ⟨_,hd⟩ (.list hd (rs.set c j)),h⟩)
noncomputable def QZ(O:FC)(Ex:Value->aQ->Prop)(v:V)(Q:Option (Option V)->St->Prop)(ov iv:V)(Y:St):Prop:=wI O Ex ov iv v (Q ai) Y
noncomputable def Np(O:FC)(Ex:Value->aQ->Prop)(o i:Expr)(Q:Option (Option V)->St->Prop)(v:V)(Y:St):Prop:=XV O Ex (bw o O.env) (kR O Ex i (QZ O Ex v Q)) Y
theorem Bi{o i:Expr}{Q:Option (Option V)->St->Prop}(h:XV O Ex (bw e O.env) (Np O Ex o i Q) Y)(z:eo e (ah (.Subscript o i pos')) pos.line O.env=pure ao):XF O Ex (gg (.Assign [.Subscript o i pos'] e pos) O.env) Q Y:=λ Kp Jj s R=>wpAny_Assign_Subscript (h.Rr R λ u x v m Kk l₁ f B h₁=>h₁.Rr f λ A Rw ov r w l₂ d y k=>k.Rr d λ C RW D p b a g hi l=>aY (l b Jj RW A C u g (y.mono a) hi (B.mono (l₂.trans a))) (λ Z t n=>by refine b5 n λ c j q=>?_;exact ⟨ai,c,b,(l₁.trans l₂).trans a,j,.next,q⟩) λ Z Z e=>e) z
noncomputable def l_(O:FC)(Ex:Value->aQ->Prop)(o l u:V)(Q:V->St->Prop)(Y:St):Prop:=
 ∀Kp Jj s uo ul uu sl,cS O Y Kp Jj s->VR O.P Kp uo o->VR O.P Kp ul l->VR O.P Kp uu u->s.heap.IsSliceOf sl ul uu .none->
  aW (bn O.G.prog O.G.w) O.A (km uo (.ref sl)) (Pt O Jj Kp (VR O.P) Q) Ex s
theorem oW(h:Q .none Y):XV O Ex (En ai O.env) Q Y:=λ Kp Jj s R=>by exact az (fin _ _ R .none h)
theorem oV(h:XV O Ex (bw e O.env) Q Y):XV O Ex (En (ah e) O.env) Q Y:=by exact h
inductive PJ(O:FC)(Ex:Value->aQ->Prop)(Q:V->St->Prop)(o l u:V)(Y:St):Prop
 |mk (t:∃T,y5 Y o T) (h:l_ O Ex o l u Q Y)
noncomputable def PK(O:FC)(Ex:Value->aQ->Prop)(upper:Option Expr)(Q:V->St->Prop)(o l:V)(Y:St):Prop:=XV O Ex (En upper O.env) (PJ O Ex Q o l) Y
noncomputable def Q0(O:FC)(Ex:Value->aQ->Prop)(lower upper:Option Expr)(Q:V->St->Prop)(o:V)(Y:St):Prop:=XV O Ex (En lower O.env) (PK O Ex upper Q o) Y
theorem me{value:Expr}{a d:Option Expr}{p pos:gY}{Q:V->St->Prop}
 (h:XV O Ex (bw value O.env) (Q0 O Ex a d Q) Y):
 XV O Ex (bw (.Subscript value (.Slice a d ai p) pos) O.env) Q Y:=λ Kp Jj s R=>by
 skip;refine aw (h.Rr R λ w E o t Kk l₁ j H h₁=>aw (bE (wpAny_Slice (h₁.Rr j λ B Rw l v C l₂ i I m=>m.Rr i λ A RW u g f c k J n=>?_))));obtain ⟨⟨T,z⟩,G⟩:=n;refine ze z.Wh λ id y=>?_;skip;refine az (aw (et ?_));have q:=H.mono (l₂.trans c);have D:cS O g f Jj {RW with heap:=RW.heap.push {cls:=.type "slice",data:=.fields #[B,A,.none]}}:=k.keeps (tk:=RW.toks) λ b o e=>aL _ e
 have F:=z.at D q;refine aw ?_;skip;refine aw (il F.1 y ?_);refine az ?_;show aW _ _ (operate [.ref _,w] (km w (.ref _))>>=_) _ _ _;refine aw (wpAny_operating (aY (G f Jj _ w B A RW.heap.objs.size D q (I.mono c) J (Heap.IsSliceOf.new ..)) (λ r RW x=>aw (Ee (az (up ((l₁.trans l₂).trans c) x)))) λ Z Z e=>e))
theorem wo(n a:Nat):m7 n (a:Int)=min a n:=by unfold m7;skip;exact Pe
theorem EO{v:V}(ok:O.Ok)(k:LV Y v xs)(hz:xs.length<=2^20)(h:mQ Q Y (xs.take b)):l_ O Ex v .none (.int b) Q Y:=λ Kp Jj s l c f sl R j g i d=>i.RB (Q:=λ f=>s.heap.IsSliceOf sl c f .none->_) (λ Z=>g.R1 (Q:=λ c=>s.heap.IsSliceOf sl c _ .none->_) λ d=>by
 obtain ⟨a,vs,n,e,rs⟩:=k.at R j;refine zj (lo:=ai) (hi:=ah (b:Int)) (st:=ai) ⟨_,e,rfl,_,rfl⟩ d .none (.int _ _) .none (λ h=>nomatch h) ?_ (by rw[rs.sz];exact gP hz);rw[slicePick_plain];rw[show ((vs.toArray.toList.drop (j7 ai 0 (m7 vs.toArray.size))).take (j7 (ah (b:Int)) vs.toArray.size (m7 vs.toArray.size)-j7 ai 0 (m7 vs.toArray.size)))=vs.take b by show D7 (m7 vs.length b-0) (List.drop 0 vs)=_;simp only[wo,Nat.sub_zero,List.drop_zero,List.take_eq_take_iff];exact Pd]
 exact R.TV ok (rs.take b) h) d
theorem EQ{v:V}(ok:O.Ok)(l:LV Y v xs)(hz:xs.length<=2^20)(h:mQ Q Y (xs.drop b)):l_ O Ex v (.int b) .none Q Y:=λ Kp Jj s m g f sl R k i j d=>i.RB (Q:=λ g=>s.heap.IsSliceOf sl g f .none->_) (λ Z=>j.R1 (Q:=λ f=>s.heap.IsSliceOf sl _ f .none->_) λ d=>by
 obtain ⟨a,vs,n,e,rs⟩:=l.at R k;refine zj (lo:=ah (b:Int)) (hi:=ai) (st:=ai) ⟨_,e,rfl,_,rfl⟩ d (.int _ _) .none .none (λ h=>nomatch h) ?_ (by rw[rs.sz];exact gP hz);rw[slicePick_plain];rw[show ((vs.toArray.toList.drop (j7 (ah (b:Int)) 0 (m7 vs.toArray.size))).take (j7 ai vs.toArray.size (m7 vs.toArray.size)-j7 (ah (b:Int)) 0 (m7 vs.toArray.size)))=vs.drop b by
  show D7 (vs.length-m7 vs.length b) (List.drop (m7 vs.length b) vs)=_;rw[wo,lL (cu fK)];rcases yb b vs.length with c|c
  ·rw[jx c]
  ·rw[r7 c,lN c,lN (aT _)]]
 exact R.TV ok (rs.drop b) h) d
theorem H8(l:1<=b)(k:b<=xs.length)(hz:xs.length<=2^20)(h:Q (.tup (xs.drop b)) Y):l_ O Ex (.tup xs) (.int b) .none Q Y:=λ Kp Jj s m f d sl R i g j c=>i.RL λ a vs n e rs=>g.RB (Q:=λ f=>s.heap.IsSliceOf sl f d .none->_) (λ Z=>j.R1 (Q:=λ d=>s.heap.IsSliceOf sl _ d .none->_) λ c=>getItem_tuple_from ⟨_,R.sub _ _ e,rfl,_,rfl⟩ c l (by simp only[rs.sz];exact k) (R.Wj (tk:=s.toks) (n:=0) (λ b o e=>aL _ e) (dm _) (bQ _ rfl) (rs.drop b) h) (by rw[rs.sz];exact gP hz)) c
theorem EP(d:x.length=1)(h:Q (.str x) Y):l_ O Ex (.str x) .none (.int 1) Q Y:=λ Kp Jj s i a c sl R f e g b=>f.RG λ t=>g.RB (Q:=λ c=>s.heap.IsSliceOf sl a c .none->_) (λ u=>e.R1 (Q:=λ a=>s.heap.IsSliceOf sl a _ .none->_) λ b=>by
 refine wpAny_getItem_str_slice (l:=ai) (u:=ah (1,u)) (st:=ai) b rfl ?_;rw[show sliceMade x t ai (ah (1,u)) ai=.val (.str x t)by unfold sliceMade;rw[show slicePicked x ai (ah (1,u)) ai=[0] by unfold slicePicked;rw[d];rfl,d];rfl]
 exact fin _ _ R (.str _ _) h) b
structure I7(O:FC)(Y:St)(Kp:b9)(Jj:List (aG×Obj))(I:aG)(s:aQ):Prop where
 gF:I∉O.fp++addrs Y.mu
 gK:∀o,¬Kp I o
 gJ:∀p∈Jj,p.1≠I
 gO:O.h₀.get? I=ai
 gL:I≠O.fL
 gC:∀u,¬s.heap.IsCell I u
theorem cS.off(R:cS O Y Kp Jj s)(Oo:I7 O Y Kp Jj I s){h':Heap}{tk:Nat}(k:∀b d,b≠I->s.heap.get? b=ah d->h'.get? b=ah d):cS O Y Kp Jj {s with heap:=h',toks:=tk}:=by
 obtain ⟨⟨m,t,Z⟩,hc,z,nd,Q,lv,C,gh,q,⟨K,S⟩,o,A,al,st⟩:=R;refine za gh λ T E=>?_;obtain ⟨X,N,V,J,W,M⟩:=Oo;have y:∀b∈O.fp++addrs Y.mu,b≠I:=λ b g e=>X (e▸g);have D:∀{L:aG} {m:Str->Option Value},L≠I->s.heap.Ns L m->h'.Ns L m:=λ P w=>by refine kw w λ d es ep f j r=>?_;exact ⟨d,es,ep,k _ _ P f,j,r⟩
 have F:∀{c:aG} {u:Option Value},s.heap.IsCell c u->h'.IsCell c u:=λ {c u} H=>by refine b5 (id H) λ d f j=>?_;refine ⟨d,k _ _ ?_ f,j⟩;rintro rfl;exact M _ H
 refine ⟨⟨m,D (y _ (by simp[FC.fp])) t,λ i x kk v a b=>?_⟩,λ i x c e=>by refine ze (hc i x c e) λ u U=>?_;exact ⟨u,F U⟩,λ p h=>(z p h).mono (.refl _) λ b g d e=>k b d (y b (ax _ (dw h g))) e,nd,Q,λ b g=>?_,λ b d e=>⟨k b d (λ l=>N d (l▸e)) (C b d e).1,(C b d e).2⟩,
  ⟨T,λ p h=>⟨k _ _ (V p h) (E p h).1,(E p h).2⟩⟩,λ b d e n=>k b d (λ l=>by rw[l,J]at e;exact nomatch e) (q b d e n),⟨K,D (Ne.symm W) S⟩,o,A,λ b d e=>?_,st⟩
 ·have:=Z i x kk v a b;cases kk with
  |loc=>exact this
  |RJ c=>exact let ⟨u,f,j⟩:=this;⟨u,F f,j⟩
  |glob=>exact this
  |other=>exact this
 ·refine ze (lv b g) λ d B=>?_;exact ⟨d,k b d (y b g) B⟩
 ·refine ze (al b d e) λ G f=>?_;exact ⟨G,k b G (λ l=>by rw[l,J]at e;exact nomatch e) f⟩
theorem cS.drop{p:aG×Obj}(R:cS O Y Kp (p::Jj) s):cS O Y Kp Jj s:={R with ghost:=⟨(bC.mp R.ghost.1).2,λ q a=>R.ghost.2 q (.tail _ a)⟩}
theorem cS.but(R:cS O Y Kp ((I,o)::Jj) s){h':Heap}{tk:Nat}(k:∀b d,b≠I->s.heap.get? b=ah d->h'.get? b=ah d):cS O Y Kp Jj {s with heap:=h',toks:=tk}:=by
 refine Oh (R.ghost.2 (I,o) ci) λ f l j n vs g=>?_;refine R.drop.off ⟨l,j,λ p h e=>(bC.mp R.ghost.1).1 (aC.mpr ⟨p,h,e⟩),n,λ e=>?_,λ u i=>b5 i λ d c a=>?_⟩ k
 ·refine yf R.frame λ m d es ep c a Z=>?_;simp only[<-e,f]at c;cases c;rw[g]at a;exact nomatch a
 ·rw[f]at c;cases c;rw[g]at a;exact nomatch a
theorem cS.T_{I:aG}{o d:Obj}{vs:Array Value}(R:cS O Y Kp ((I,o)::Jj) s){h':Heap}{tk:Nat}(j:Heap.SameBut I s.heap h')(i:h'.get? I=ah d)(hd:d.data=.fields vs):
 cS O Y Kp ((I,d)::Jj) {s with heap:=h',toks:=tk}:=by
 have R':=R.but (h':=h') (tk:=tk) (λ b k h e=>(j.2 b h).trans e);have g:=R.ghost;have a:=g.2 (I,o) ci;exact {R' with ghost:=⟨g.1,λ p c=>by
  refine b7 (aI.mp c) (λ f=>?_) λ c=>?_
  ·subst f;exact ⟨i,a.2.1,a.2.2.1,a.2.2.2.1,vs,hd⟩
  ·exact R'.ghost.2 p c⟩}
theorem cS.Ua(R:cS O Y Kp Jj s){o:Obj}{vs:Array Value}{tk:Nat}(hd:o.data=.fields vs):cS O Y Kp ((s.heap.objs.size,o)::Jj) {s with heap:=s.heap.push o,toks:=tk}:=by
 have R':cS O Y Kp Jj {s with heap:=s.heap.push o,toks:=tk}:=R.keeps λ b g e=>aL _ e
 have c:=dm s.heap;have f:(s.heap.push o).get? s.heap.objs.size=ah o:=bQ _ (Obj.isFreed_of_fields hd);exact {R' with ghost:=⟨by
  simp only[be,bC];refine ⟨λ h=>?_,R.ghost.1⟩;refine b5 (aC.mp h) λ p a e=>?_;have:=(R.ghost.2 p a).1;rw[e,c]at this;exact absurd this (by simp),λ p a=>by
  refine b7 (aI.mp a) (λ d=>?_) λ a=>?_
  ·subst d;exact ⟨f,(R.R_ c).1,λ i h=>(by have:=R.sub _ _ h;rw[c]at this;exact nomatch this),(R.R_ c).2,vs,hd⟩
  ·exact R'.ghost.2 p a⟩}
structure uQ(O:FC)(A:Around)(K_:b9)(it:Value)(n:Nat)(de:St->Prop)(xs:Nat->V)(TB:Nat->aG×Obj->Prop):Prop where
 next:∀i Y Kp Jj s g Q E,K_.le Kp->i<n->de Y->TB i g->cS O Y Kp (g::Jj) s->(∀u s' g',TB (i+1) g'->cS O Y Kp (g'::Jj) s'->VR O.P Kp u (xs i)->Q (ah u) s')->aW (bn O.G.prog O.G.w) A (wY it) Q E s
 done:∀Y Kp Jj s g Q E,K_.le Kp->de Y->TB n g->cS O Y Kp (g::Jj) s->(∀s',cS O Y Kp Jj s'->Q ai s')->aW (bn O.G.prog O.G.w) A (wY it) Q E s
 letGo:∀i Y Kp Jj s g t u Q E,TB i g->cS O Y Kp (g::Jj) s->Q () s->aW (bn O.G.prog O.G.w) A (nF t it u) Q E s
 self:∀i Y Kp Jj s g Q E,TB i g->cS O Y Kp (g::Jj) s->Q it s->aW (bn O.G.prog O.G.w) A (pyIter it) Q E s
noncomputable def i7(O:FC)(A:Around)(v:V)(n:Nat)(xs:Nat->V)(de:St->Prop)(Y:St):Prop:=
 ∀Ex Kp Jj s u Q,cS O Y Kp Jj s->VR O.P Kp u v->(∀it TB g s',(∀O':FC,O'.G=O.G->uQ O' A Kp it n de xs TB)->TB 0 g->(∀b o,s.heap.get? b=ah o->s'.heap.get? b=ah o)->s.heap.get? g.1=ai->cS O Y Kp (g::Jj) s'->Q it s')->aW (bn O.G.prog O.G.w) A (pyIter u) Q Ex s
theorem v2(h:i<xs.length):xs[i]? =ah (xs.getD i .none):=by rw[aD,ay h];rfl
theorem uQ.of{K_:b9}{n:Nat}{de:St->Prop}{xs:Nat->V}(D:Nat->Obj->Prop)(y:A.handled=ai)(next:∀i Y Kp Jj s o Q E,K_.le Kp->i<n->de Y->D i o->s.heap.get? I=ah o->cS O Y Kp ((I,o)::Jj) s->(∀u h' tk f vs,D (i+1) f->Heap.SameBut I s.heap h'->h'.get? I=ah f->f.data=.fields vs->VR O.P Kp u (xs i)->Q (ah u) {s with heap:=h',toks:=tk})->aW (bn O.G.prog O.G.w) A (wY (.ref I)) Q E s)(done:∀Y Kp Jj s o Q E,K_.le Kp->de Y->D n o->s.heap.get? I=ah o->cS O Y Kp ((I,o)::Jj) s->(∀h',(∀b p,b≠I->s.heap.get? b=ah p->h'.get? b=ah p)->Q ai {s with heap:=h'})->aW (bn O.G.prog O.G.w) A (wY (.ref I)) Q E s)(a:∀i s o t u Q E,D i o->s.heap.get? I=ah o->Q () s->aW (bn O.G.prog O.G.w) A (nF t (.ref I) u) Q E s)(c:∀i s o Q E,D i o->s.heap.get? I=ah o->Q (.ref I) s->aW (bn O.G.prog O.G.w) A (pyIter (.ref I)) Q E s):uQ O A K_ (.ref I) n de xs (λ i g=>g.1=I/\D i g.2):=by
 have at_:∀{Y Kp Jj s} {g:aG×Obj},g.1=I->cS O Y Kp (g::Jj) s->s.heap.get? I=ah g.2/\cS O Y Kp ((I,g.2)::Jj) s:=λ {Y Kp Jj s g} e R=>by subst e;exact ⟨(R.ghost.2 _ (.head _)).1,R⟩
 exact ⟨λ i Y Kp Jj s g Q E l hi j m R k=>by refine za m λ e hd=>?_;exact next i Y Kp Jj s g.2 Q E l hi j hd (at_ e R).1 (at_ e R).2 λ u h' tk f vs d v r q w=>k u _ (I,f) ⟨rfl,d⟩ ((at_ e R).2.T_ v r q) w,
  λ Y Kp Jj s g Q E l j h R k=>by refine za h λ e hd=>?_;exact done Y Kp Jj s g.2 Q E l j hd (at_ e R).1 (at_ e R).2 λ h' x=>k _ ((at_ e R).2.but (tk:=s.toks) x),
  λ i Y Kp Jj s g t u Q E ⟨e,hd⟩ R k=>a i s g.2 t u Q E hd (at_ e R).1 k,λ i Y Kp Jj s g Q E ⟨e,hd⟩ R k=>c i s g.2 Q E hd (at_ e R).1 k⟩
theorem i7.of{n:Nat}{xs:Nat->V}{de:St->Prop}{Q:Value->aQ->Prop}(D:Nat->Obj->Prop)(R:cS O Y Kp Jj s){o:Obj}{vs:Array Value}(j:o.data=.fields vs)(hd:D 0 o)(q:∀f c g s',(∀a:FC,a.G=O.G->uQ a A Kp f n de xs c)->c 0 g->(∀b o,s.heap.get? b=ah o->s'.heap.get? b=ah o)->s.heap.get? g.1=ai->cS O Y Kp (g::Jj) s'->Q f s')(h:∀a:FC,a.G=O.G->a.P=O.P->uQ a A Kp (.ref s.heap.objs.size) n de xs (λ i g=>g.1=s.heap.objs.size/\D i g.2)):Q (.ref s.heap.objs.size) {s with heap:=s.heap.push o}:=
 q _ _ (s.heap.objs.size,o) _ (λ a d=>h a d (congrArg (·.w.params) d)) ⟨rfl,hd⟩ (λ b o e=>aL _ e) (dm _) (R.Ua (tk:=s.toks) j)
noncomputable def Nx(T:String)(l:aG)(i:Nat)(o:Obj):Prop:=o.cls=.type T/\o.data=.fields #[.ref l,.int i 0]
theorem uQ.list{A:Around}{K_:b9}{I a:aG}{xs:List V}{de:St->Prop}(B:A.handled=ai)
 (e:∀Y Kp Jj s,K_.le Kp->de Y->cS O Y Kp Jj s->Oc O.P Kp s.heap xs (.ref a)):
 uQ O A K_ (.ref I) xs.length de (λ i=>xs.getD i .none) (λ i g=>g.1=I/\Nx "list_iterator" a i g.2):=
 .of (Nx "list_iterator" a) B (λ i Y' n J' s' o z E p hi m ⟨d,hd⟩ b R' k=>by
  obtain ⟨_,y,C,r,c⟩:=e _ _ _ _ p m R';refine b5 (c.get (v2 hi)) λ w D F=>?_;exact wpAny_pyNext_list_item (l:=a) (i:=i) ⟨_,b,d,hd⟩ ⟨_,r,rfl,_,rfl⟩ (x:=w) (by (refine (b6).trans ?_);exact D) λ h' ⟨H,v,q,j⟩ G=>k w h' s'.toks H _ ⟨q,j⟩ G v j F)
  (λ Y' n J' s' o z E p m ⟨d,hd⟩ b R' k=>by obtain ⟨_,y,C,r,c⟩:=e _ _ _ _ p m R';exact wpAny_pyNext_list_end B (l:=a) (i:=xs.length) ⟨_,b,d,hd⟩ ⟨_,r,rfl,_,rfl⟩ (by (refine (b6).trans ?_);exact bl (cu c.length)) k)
  (λ i s' o t u z E h b k=>by refine za h λ d hd=>?_;exact letGo_listiter (i:=i) ⟨_,b,d,hd⟩ k) λ i s' o z E f b k=>by refine za f λ d hd=>?_;exact wpAny_pyIter_listiter (i:=i) ⟨_,b,d,hd⟩ k
theorem k6(c:A.handled=ai):i7 O A (.list xs) xs.length (λ i=>xs.getD i .none) (λ Z=>True) Y:=λ Ex Kp Jj s u Q R d q=>d.listE λ a vs n e rs=>Jb ⟨_,R.sub _ _ e,rfl,_,rfl⟩ (i7.of (Nx "list_iterator" a) R rfl ⟨rfl,rfl⟩ q λ g j h=>uQ.list c λ Y' f J' s' b Z R'=>⟨_,_,_,R'.sub _ _ (b _ _ e),(h▸rs:dn g.P Kp vs xs).mono b⟩)
theorem p_{a:aG}(b:A.handled=ai)(g:(a,MO.list xs)∈Y.mu):i7 O A (.ref a) xs.length (λ i=>xs.getD i .none) (λ Y=>(a,MO.list xs)∈Y.mu) Y:=λ Ex Kp Jj s u Q R c q=>c.RS ((R.mu _ g).listE λ vs n e rs=>Jb ⟨_,e,rfl,_,rfl⟩ (i7.of (Nx "list_iterator" a) R rfl ⟨rfl,rfl⟩ q λ k h l=>uQ.list b λ Y' f J' s' j d R'=>(R'.mu _ d).listE λ vs n e rs=>⟨_,_,_,e,rs⟩))
theorem u_(v:A.handled=ai):i7 O A (.tup xs) xs.length (λ i=>xs.getD i .none) (λ Z=>True) Y:=λ Ex Kp Jj s u Q R C q=>C.RL λ a vs n e rs=>by
 have j:∀{r:FC} {Y' c J' s'},Kp.le c->cS r Y' c J' s'->s'.heap.IsTuple a vs.toArray:=λ f R'=>⟨_,R'.sub _ _ (f _ _ e),rfl,_,rfl⟩;refine Hw (j (.refl _) R) (i7.of (Nx "tuple_iterator" a) R rfl ⟨rfl,rfl⟩ q λ r H G=>.of _ v (λ i Y' c J' s' o p E f hi y ⟨d,hd⟩ b R' k=>?_) (λ Y' c J' s' o p E f y ⟨d,hd⟩ b R' k=>?_)
  (λ i s' o t u p E ⟨d,hd⟩ b k=>letGo_tupleiter (i:=i) ⟨_,b,d,hd⟩ k) λ i s' o p E ⟨d,hd⟩ b k=>wpAny_pyIter_tupleiter (i:=i) ⟨_,b,d,hd⟩ k)
 ·refine b5 (rs.get (v2 hi)) λ w z B=>?_;exact AO (t:=a) (i:=i) ⟨_,b,d,hd⟩ (j f R') (x:=w) (by (refine (b6).trans ?_);exact z) λ h' g D=>by refine eB g λ F m l h=>?_;exact k w h' s'.toks F _ ⟨l,h⟩ D m h (G▸B.mono f)
 ·exact A3 v (t:=a) (i:=xs.length) ⟨_,b,d,hd⟩ (j f R') (by (refine (b6).trans ?_);exact bl (cu rs.length)) k
theorem z6{prog:kt}{w:uY}{A:Around}{E:Value->aQ->Prop}{target:Expr}{I:aG}{x l st:Int}{v:Value}{b:Unit->aQ->Prop}{s':aQ}(a:IsRangeIter s'.heap I x l st)(h:b () s'):
 aW (bn prog w) A (nF target (.ref I) v) b E s':=by
 skip;cases target<;>first
  |exact az h
  |(cases v<;>first
   |exact az h
   |(refine aw (wpAny_load a ?_);exact az h))
theorem vK(a b:Int):Builtin.Range.rangeSize a b 1=((b-a).toNat:Int):=by
 show (if a<b then (b-a-1)/1+1 else 0)=_;by_cases h:a<b
 ·refine (if_pos h).trans ?_;rw[Int.ediv_one];exact Pc h
 ·refine (if_neg h).trans ?_;exact Pb h
theorem qe{x:Int}(a: -10000000<x)(b:x<10000000):Builtin.Range.rangeFitsLong x=aj:=by unfold Builtin.Range.rangeFitsLong;simp only[cZ,decide_eq_true_eq];exact Pa a b
theorem zI{a b:Int}(hz: -1000000<a/\a<1000000/\ -1000000<b/\b<1000000):Builtin.Range.small a b 1=aj:=by unfold Builtin.Range.small;rw[vK,qe (x:=a) (O_ hz) (O9 hz),qe (x:=b) (O8 hz) (O7 hz),qe (x:=((b-a).toNat:Int)) (bs _) (O6 hz),if_pos (by decide),qe (x:=b+(1-1)) (O5 hz) (O4 hz)];rw[Bool.or_true];rfl
noncomputable def zJ(a l:Int)(i:Nat)(o:Obj):Prop:=o={cls:=.type "range_iterator",data:=.fields #[i2 (a+i),i2 (l-i),i2 1]}
theorem Gi{a b:Int}(h:A.handled=ai)(hz: -1000000<a/\a<1000000/\ -1000000<b/\b<1000000):i7 O A (.Tf a b) (b-a).toNat (λ i=>.int (a+i)) (λ Z=>True) Y:=λ Ex Kp Jj s u Q R n q=>n.Xp λ r t v j e=>by
 refine wpAny_pyIter_range (R.sub _ _ e) (zI hz) ?_;rw[vK];refine i7.of (zJ a ((b-a).toNat:Int)) R rfl (by unfold zJ;(dsimp only[Int.natCast_zero];rw[gM,Int.sub_zero])) q λ w x y=>.of _ h (λ i Y' f J' s' o g E m hi l hd c R' k=>?_) (λ Y' f J' s' o g E m l hd c R' k=>?_) (λ i s' o t u g E hd c k=>?_) λ i s' o g E hd c k=>?_
 ·unfold zJ at hd;subst hd;refine wpAny_pyNext_range_item c (O3 hi) λ h' d p=>k _ h' _ _ _ ?_ p d rfl (.int _ _);show _=_;simp only[Int.natCast_succ,wQ,Int.sub_sub]
 ·unfold zJ at hd;subst hd;exact wpAny_pyNext_range_end h c O2 k
 ·unfold zJ at hd;subst hd;exact z6 c k
 ·unfold zJ at hd;subst hd;exact wpAny_pyIter_rangeiter c k
theorem jv{n:Int}(h:Q (.Tf 0 n) Y):cU O Ex (.type "range") [.int n] Q Y:=.one λ Kp Jj s u R a=>a.RB λ Z=>call_range_1 (R.UK (λ b o e=>aL _ e) (dm _) (bQ _ rfl) (.Tf (b9.RO _ _ _)) h)
theorem Dp{a b:Int}(h:Q (.Tf a b) Y):cU O Ex (.type "range") [.int a,.int b] Q Y:=.two λ Kp Jj s u f R d c=>d.RB λ Z=>c.RB λ Z=>call_range_2 (R.UK (λ b o e=>aL _ e) (dm _) (bQ _ rfl) (.Tf (b9.RO _ _ _)) h)
theorem FF{P:bS}(E:ge P S es kvs):(∀p∈kvs,kk p.1=1)->
 ∃rows:List (Int×Value),PySem.Pairs (ki prog w) es rows/\rows.map (λ r=>V.int r.1)=kvs.map (·.1)/\∀e∈es,∃k,(ki prog w).is k e.key=aj/\e.hash=hashInt k:=
 E.ind (λ Z=>⟨[],.nil,rfl,λ Z h=>nomatch h⟩) λ ku u es k v kvs a b Z j h=>by refine eB (j λ p d=>h p (.tail _ d)) λ rows l f g=>?_;refine ze (nt (h _ (.head _))) λ i e=>?_;subst e;refine ze (yl a) λ t c=>?_;subst c;exact ⟨(i,u)::rows,.cons (beq_self_eq_true i) rfl l,congrArg _ f,jb.mpr ⟨⟨i,beq_self_eq_true i,rfl⟩,g⟩⟩
theorem un{P:bS}{S:b9}{prog:kt}{w:uY}{h:Heap}{d:aG}{es:List bN}{ep:Nat}{kvs:List (V×V)}(hd:h.get? d=ah (W.dictOf es ep))(E:ge P S es kvs)(hk:∀p∈kvs,kk p.1=1)(nd:(kvs.map (·.1)).Nodup):
 ∃rows:List (Int×Value),h.DictAt (ki prog w) d rows ep/\rows.map (λ r=>V.int r.1)=kvs.map (·.1)/\rows.length=kvs.length:=by
 refine eB (FF (prog:=prog) (w:=w) E hk) λ rows g a c=>?_;refine ⟨rows,⟨_,es.toArray,hd,⟨rfl,rfl,rfl⟩,rfl,λ e f=>c e (eY.mp f),g,?_⟩,a,by have:=congrArg dB a;rwa [au,au]at this⟩;simp only[<-a]at nd;rw[aO,bU]at nd ⊢;exact nd.imp λ b e=>b (by exact congrArg _ e)
noncomputable def PF(d:aG)(n ep i:Nat)(o:Obj):Prop:=o.cls=.type "dict_keyiterator"/\o.data=.fields #[.ref d,.int i 0,.int n 0,.int ep 0]
theorem Bn(F:A.handled=ai)(hk:∀p∈kvs,kk p.1=1)(nd:(kvs.map (·.1)).Nodup):i7 O A (.dict kvs) kvs.length (λ i=>(kvs.map (·.1)).getD i .none) (λ Z=>True) Y:=λ Ex Kp Jj s u Q R I q=>I.R9 λ d es ep J e rs=>by
 have y:∀{n:FC} {Y' c J' s'},Kp.le c->cS n Y' c J' s'->∃rows:List (Int×Value),s'.heap.DictAt (ki n.G.prog n.G.w) d rows ep/\rows.map (λ r=>V.int r.1)=kvs.map (·.1)/\rows.length=kvs.length:=λ j R'=>un (R'.sub _ _ (j _ _ e)) rs hk nd;refine eB (y (.refl _) R) λ rows h w a=>?_;refine wpAny_pyIter_dict J h ?_;rw[a];clear h w a rows;refine i7.of (PF d kvs.length ep) R rfl ⟨rfl,rfl⟩ q λ n L M=>.of _ F (λ i Y' c J' s' o D E j hi G ⟨g,hd⟩ b R' k=>?_) (λ Y' c J' s' o D E j G ⟨g,hd⟩ b R' k=>?_) (λ i s' o t u D E ⟨g,hd⟩ b k=>letGo_keyiter (i:=i) ⟨_,b,g,hd⟩ k) λ i s' o D E ⟨g,hd⟩ b k=>wpAny_pyIter_keyiter (i:=i) ⟨_,b,g,hd⟩ k
 ·refine eB (y j R') λ rows h w a=>?_;have l:i<rows.length:=a▸hi;refine wpAny_pyNext_dict_item (i:=i) (k:=rows[i].1) (v:=rows[i].2) (kvs:=rows) ⟨_,b,g,by rw[a];exact hd⟩ h (ay l) λ H h' m ⟨K,B,z,f⟩ x=>?_;rw[a]at f;refine k _ h' s'.toks K _ ⟨z,f⟩ x B f ?_;refine ze (AW m) λ t C=>?_;subst C;simp only[<-w,aD,aN,ay l];exact .int _ _
 ·refine eB (y j R') λ rows h w a=>?_;exact wpAny_pyNext_dict_end F (kvs:=rows) (i:=kvs.length) ⟨_,b,g,by rw[a];exact hd⟩ h (bl (cu a)) k
noncomputable def XA(O:FC)(Ex:Value->aQ->Prop)(t:Value->Sem Unit)(v:V)(Q:St->Prop)(Y:St):Prop:=
 ∀Kp Jj s u,cS O Y Kp Jj s->VR O.P Kp u v->aW (bn O.G.prog O.G.w) O.A (t u) (λ Z s'=>∃Y',cS O Y' Kp Jj s'/\Q Y') Ex s
noncomputable def NT(O:FC)(Ex:Value->aQ->Prop)(ts:List (Value->Sem Unit))(vs:List V)(Q:St->Prop)(Y:St):Prop:=
 ∀Kp Jj s us,cS O Y Kp Jj s->dn O.P Kp us vs->aW (bn O.G.prog O.G.w) O.A (assignInOrder ts us) (λ Z s'=>∃Y',cS O Y' Kp Jj s'/\Q Y') Ex s
theorem DM{v:V}{Q:St->Prop}(i:Nat)(ok:O.Ok)(b:nx O i x)(h:Q (Y.set i v)):XA O Ex (ec (.Name x pos) O.env) v Q Y:=λ Kp Jj s u R a=>Jd (qC ok b R a λ s' R'=>⟨_,R',h⟩)
theorem x0{Q:St->Prop}(h:Q Y):NT O Ex [] [] Q Y:=λ Kp Jj s us R a=>by cases a;exact az ⟨_,R,h⟩
noncomputable def Q9(O:FC)(Ex:Value->aQ->Prop)(ts:List (Value->Sem Unit))(vs:List V)(Q:St->Prop)(Y:St):Prop:=NT O Ex ts vs Q Y
theorem jS{t:Value->Sem Unit}{a:List (Value->Sem Unit)}{v:V}{Q:St->Prop}(h:XA O Ex t v (Q9 O Ex a vs Q) Y):NT O Ex (t::a) (v::vs) Q Y:=λ Kp Jj s us R d=>by
 cases d with
 |cons f c=>show aW _ _ (kj _ (t _)>>=λ Z=>assignInOrder a _) _ _ _;exact aw (bE (aY (h Kp Jj s _ R f) (λ Z s' b=>by refine b5 b λ Y' R' q=>?_;exact q Kp Jj s' _ R' c) λ Z Z e=>e))
theorem cS.Ub(R:cS O Y Kp Jj s){h':Heap}{tk:Nat}(a:Heap.ExtBut s.heap.objs.size s.heap h'):cS O Y Kp Jj {s with heap:=h',toks:=tk}:=
 R.keeps λ b o e=>a b o (λ c=>by have:=cq e;rw[c]at this;exact bB _ this) e
theorem Hs{b:List (Value->Sem Unit)}{Q:St->Prop}(ok:O.Ok)(c:(d3 elts O.env).map (·.2)=b)(g:(d3 elts O.env).length=vs.length)(a:(d3 elts O.env).findIdx? (·.1)=ai)(h:NT O Ex b vs Q Y):XA O Ex (ec (.Tuple elts k pos) O.env) (.tup vs) Q Y:=λ Kp Jj s u R d=>by
 cases d with
 |tup e rs=>refine wpAny_assign_Tuple ok.hand ⟨_,R.sub _ _ e,rfl,_,rfl⟩ (by simp only[g,bI,rs.length]) a λ h' f=>?_;simp only[c];exact h Kp Jj _ _ (R.Ub (tk:=s.toks) f) rs
theorem I3{v:V}{c:List (Value->Sem Unit)}{Q:St->Prop}(ok:O.Ok)(j:LV Y v vs)(i:(d3 elts O.env).map (·.2)=c)(g:(d3 elts O.env).length=vs.length)(b:(d3 elts O.env).findIdx? (·.1)=ai)(h:NT O Ex c vs Q Y):XA O Ex (ec (.Tuple elts k pos) O.env) v Q Y:=λ Kp Jj s u R d=>by obtain ⟨a,us,n,e,rs⟩:=j.at R d;skip;refine aw (et ?_);unfold unpack;rw[(show (d3 elts O.env).length=us.toArray.size by simp only[g,bI,rs.length]),b];refine aw (bE (kun_itemsOf ok.hand ⟨_,e,rfl,_,rfl⟩ λ h' f=>?_));simp only[i];exact h Kp Jj _ _ (R.Ub (tk:=s.toks) f) rs
noncomputable def Nm(O:FC)(Ex:Value->aQ->Prop)(target:Expr)(Q:Option (Option V)->St->Prop)(v:V)(Y:St):Prop:=XA O Ex (ec target O.env) v (Q ai) Y
theorem zm{Q:Option (Option V)->St->Prop}(h:XV O Ex (bw e O.env) (Nm O Ex (.Tuple elts k pos') Q) Y)(j:eo e (ah (.Tuple elts k pos')) pos.line O.env=pure ao)(i:swappedStores [.Tuple elts k pos'] e O.env=pure ai):XF O Ex (gg (.Assign [.Tuple elts k pos'] e pos) O.env) Q Y:=λ Kp Jj s R=>wpAny_Assign_stores (h.Rr R λ u d v g Kk l₁ c l h₁=>by show aW _ _ (assignAll u [ec (.Tuple elts k pos') O.env]) _ _ _;exact aY (h₁ Kk Jj d u c l) (λ Z Rw f=>by refine b5 f λ a b q=>?_;exact ⟨ai,a,Kk,l₁,b,.next,q⟩) λ Z Z e=>e) j i
noncomputable def Nb(O:FC)(Ex:Value->aQ->Prop):Value->aQ->Prop:=
 notedBy (bn O.G.prog O.G.w) O.A O.env λ e s'=>HC (bn O.G.prog O.G.w) O.A O.env Ex e s'
theorem X.exc{a:Value->aQ->Prop}{t:Sem α}{R:b9->α->β->Prop}{Q:β->St->Prop}(b:∀e s,a e s->Ex e s)(h:X O a t R Q Y):X O Ex t R Q Y:=λ Kp Jj s r=>aY (h Kp Jj s r) (λ Z Z q=>q) b
noncomputable def oz(Q:Option (Option V)->St->Prop)(Jn:St->Prop)(fl:Option (Option V))(Y:St):Prop:=match fl with|some (ah r)=>Q (ah (ah r)) Y|_=>Jn Y
inductive Hj(n:Nat)(I:Nat->St->Prop)(Y:St):Prop
 |mk (m:Nat) (h:m<n) (q:I m Y)
noncomputable def PG(O:FC)(Ex:Value->aQ->Prop)(body:List Stmt)(Q:Option (Option V)->St->Prop)(Jn:St->Prop)(b:Bool)(Y:St):Prop:=if b=aj then XF O Ex (eL body O.env) (oz Q Jn) Y else Q ai Y
noncomputable def ql(O:FC)(Ex:Value->aQ->Prop)(body:List Stmt)(Q:Option (Option V)->St->Prop)(Y:St):Prop:=XF O Ex (eL body O.env) Q Y
inductive PV(O:FC)(Ex:Value->aQ->Prop)(target:Expr)(body:List Stmt)(I:Nat->St->Prop)(Q:Option (Option V)->St->Prop)(v:V)(Y:St):Prop
 |mk (n:Nat) (xs:Nat->V) (de:St->Prop) (W:i7 O O.A v n xs de Y) (h0:I 0 Y) (hG:∀i Y,i<=n->I i Y->de Y)
  (step:∀i Y,i<n->I i Y->XA O Ex (ec target O.env) (xs i) (ql O Ex body (oz Q (I (i+1)))) Y) (fin:∀Y,I n Y->Q ai Y)
theorem i7.as{v:V}{n:Nat}{xs:Nat->V}{de:St->Prop}(W:i7 O A v n xs de Y)(f:Nat->V)(h:∀i,i<n->xs i=f i):i7 O A v n f de Y:=λ Ex Kp Jj s u Q R p k=>W Ex Kp Jj s u Q R p λ r m g s' j=>k r m g s' λ l e=>⟨λ i Y Kp Jj s g Q E a hi b c d q=>(j l e).next i Y Kp Jj s g Q E a hi b c d λ u s' o x y z=>q u s' o x y (h i hi▸z),(j l e).done,(j l e).letGo,(j l e).self⟩
theorem p8{Q:Option (Option V)->St->Prop}(I:Nat->St->Prop)(v:∀e s,ExB e s->Nb O Ex e s)(step:∀n Y,I n Y->XB O ExB (ez test O.env (bw test O.env)) (PG O ExB body Q (Hj n I)) Y)(n:Nat)(h:I n Y):XF O Ex (gg (.While test body [] pos) O.env) Q Y:=λ Kp Jj s R=>by
 refine wpAny_While (codeAny_whileLoop (λ n s=>∃Y K',Kp.le K'/\cS O Y K' Jj s/\I n Y) (λ n p t=>fx t λ l K_ d o r=>?_) n ⟨Y,Kp,.refl _,R,h⟩);refine aY (X.exc v (step n l r) K_ Jj p o) (λ b Rw t=>Pt.on t λ c i Kk l₁ k e q=>?_) λ Z Z e=>e;cases e;cases b with
 |false=>exact az ⟨ai,i,Kk,d.trans l₁,k,.next,q⟩
 |true=>
  refine aY (X.exc v (show XF O ExB (eL body O.env) (oz Q (Hj n I)) i from q) Kk Jj Rw k) (λ f RW t=>Pt.on t λ c a j l₂ g w q=>?_) λ Z Z e=>e;cases w with
  |next=>obtain ⟨m,u,r⟩:=q;exact ⟨m,u,a,j,(d.trans l₁).trans l₂,g,r⟩
  |cont=>obtain ⟨m,u,r⟩:=q;exact ⟨m,u,a,j,(d.trans l₁).trans l₂,g,r⟩
  |ret x=>exact ⟨_,a,j,(d.trans l₁).trans l₂,g,.ret x,q⟩
inductive P8(O:FC)(Jj:List (aG×Obj))(Kk:b9)(n:Nat)(TB:Nat->aG×Obj->Prop)(I:Nat->St->Prop)(k:Nat)(s:aQ):Prop
 |mk (i:Nat) (Y:St) (K:b9) (g:aG×Obj) (hk:i+k=n) (l:Kk.le K) (hc:TB i g) (R:cS O Y K (g::Jj) s) (q:I i Y)
theorem lw{Q:Option (Option V)->St->Prop}(I:Nat->St->Prop)(hE:∀e s,ExB e s->Nb O Ex e s)(h:XV O Ex (bw iter O.env) (PV O ExB target body I Q) Y)(hs:∀x,eK iter O.env x=pure x):XF O Ex (gg (.For target iter body [] pos) O.env) Q Y:=λ Kp Jj s R=>by
 refine wpAny_For (h.Rr R λ u L v A Kk l₁ F hv h₁=>?_) hs;obtain ⟨n,xs,de,W,X7,hG,C,E⟩:=h₁;refine W Ex Kk Jj L u _ F hv λ it P g Rw S J Z Z D=>?_;have It:=S O rfl;refine codeAny_forLoop_any (P8 O Jj Kk n P I) (λ k RW K=>?_) n ⟨0,A,Kk,g,cQ n,.refl _,J,D,X7⟩;obtain ⟨i,a,d,y,hk,b,hc,z,N⟩:=K;cases k with
 |succ k=>
  have B:i<n:=hk▸ig (cr k);refine It.next i a d Jj RW y _ _ b B (hG i a (bc B) N) hc z λ u' p j m o T=>?_;refine It.letGo (i+1) a d Jj p j target u' _ _ m o ?_;refine aY (C i a B N d (j::Jj) p u' o T) (λ Z H K=>b5 K λ U M q=>?_) hE;refine aY (q d (j::Jj) H M) (λ f Y8 K=>Pt.on K λ c l w t r hf q=>?_) hE;have G:i+1+k=n:=(cT i 1 k).trans hk;cases hf with
  |next=>exact ⟨k,ce k,i+1,l,w,j,G,b.trans t,m,r,q⟩
  |cont=>exact ⟨k,ce k,i+1,l,w,j,G,b.trans t,m,r,q⟩
  |ret X=>exact ⟨_,l,w,(l₁.trans b).trans t,r.drop,.ret X,q⟩
 |zero=>subst hk;exact It.done a d Jj RW y _ _ b (hG i a (aT _) N) hc z λ p o=>az ⟨ai,a,d,l₁.trans b,o,.next,E a N⟩
noncomputable def Dn(look:Str->aG):List (Str×NameKind)->List (Str×aG)->List (Str×aG)
 |[],acc=>acc
 |(n,k)::r,acc=>Dn look r (if k==.free then (n,look n)::acc else acc)
theorem NE{a:Str->aG}{acc}:Dn a [] acc=(acc):=rfl
theorem IQ{a:Str->aG}{n k r acc}:Dn a ((n,k)::r) acc=(Dn a r (if k==.free then (n,a n)::acc else acc)):=rfl
theorem mW(h:∀x,(x,NameKind.free)∈scope.names->∃c,env.cells.lookup x=ah c):closureFor scope env=pure (Dn (λ x=>(env.cells.lookup x).getD 0) scope.names []):=by
 dsimp only[closureFor];generalize scope.names=l at h
 suffices H:∀(acc:List (Str×aG)),(forIn l acc (λ (x:Str×NameKind) (r:List (Str×aG))=>(if (x.2==NameKind.free)=aj then (do let a <-cellOf env x.1;pure (ForInStep.yield ((x.1,a)::r)))else pure (ForInStep.yield r):Sem _)):Sem (List (Str×aG)))=pure (Dn (λ x=>(env.cells.lookup x).getD 0) l acc)by
  have:=H []
  first
   |exact this
   |(show (forIn l [] _>>=λ r=>pure r)=_;rw[this];rfl)
 induction l with
 |nil=>intro acc;rfl
 |cons p r b=>
  intro acc;obtain ⟨n,k⟩:=p;simp only[jl];have b:=b λ x f=>h x (b_ _ f);by_cases hk:k=.free
  ·subst hk;refine ze (h n ci) λ c d=>?_;dsimp only[NE,IQ,beq_self_eq_true,if_true];rw[(show cellOf env n=pure c by unfold cellOf;rw[d])];rw[d];exact b _
  ·have e:(k==NameKind.free)=ao:=by simpa using hk
   simp only[IQ,e,dG,if_false];exact b _
theorem xV{a:Str->aG}:∀{l:List (Str×NameKind)} {acc:List (Str×aG)} {x:Str},(l.map (·.1)).Nodup->(x,NameKind.free)∈l\/(x∉l.map (·.1)/\acc.lookup x=ah (a x))->(Dn a l acc).lookup x=ah (a x):=by
 intro l;induction l with
 |nil=>
  intro acc x Z h;rcases h with h|h
  ·exact nomatch h
  ·exact h.2
 |cons b r g=>
  obtain ⟨n,k⟩:=b;intro acc x d h;simp only[be,bC]at d;dsimp only[NE,IQ];refine g d.2 ?_;rcases h with h|⟨c,f⟩
  ·rcases aI.mp h with e|h
   ·cases e;exact .inr ⟨d.1,by simp⟩
   ·exact .inl h
  ·simp only[be,aI,not_or]at c;refine .inr ⟨c.2,?_⟩;split
   ·simp only[br,beq_eq_false_iff_ne.mpr c.1];exact f
   ·exact f
noncomputable def Nl(a:aG)(k:NameKind):NK:=NameKind.casesOn k .loc .other (.RJ a) .other .glob
theorem FE{a:aG}{k:NameKind}(h:Nl a k=.loc):k=.local:=by cases k<;>first|rfl|cases h
theorem CI{a:aG}{k:NameKind}(h:Nl a k=.glob):k=.globalImplicit:=by cases k<;>first|rfl|cases h
theorem yM{a c:aG}{k:NameKind}(h:Nl a k=.RJ c):k=.free/\c=a:=by cases k<;>cases h;exact ⟨rfl,rfl⟩
noncomputable def Ha(look:Str->aG)(l:List (Str×NameKind)):List (Str×NK):=l.map λ p=>(p.1,Nl (look p.1) p.2)
theorem zR(a:Str->aG)(l:List (Str×NameKind)):(Ha a l).map (·.1)=l.map (·.1):=bu
theorem t6{a:Str->aG}{l:List (Str×NameKind)}{q:NK}(h:(Ha a l)[i]? =ah (x,q)):∃k,l[i]? =ah (x,k)/\Nl (a x) k=q:=by refine b5 (bM.mp (aN.symm.trans h)) λ p b c=>?_;cases p;cases c;exact ⟨_,b,rfl⟩
theorem Fi{a:Str->aG}{l:List (Str×NameKind)}(h:(Ha a l)[i]? =ah (x,.loc)):l[i]? =ah (x,.local):=by refine b5 (t6 h) λ k b c=>?_;rw[<-FE c];exact b
theorem Cg{a:Str->aG}{l:List (Str×NameKind)}(h:(Ha a l)[i]? =ah (x,.glob)):l[i]? =ah (x,.globalImplicit):=by refine b5 (t6 h) λ k b c=>?_;rw[<-CI c];exact b
theorem qi{a:Str->aG}{l:List (Str×NameKind)}{c:aG}(h:(Ha a l)[i]? =ah (x,.RJ c)):l[i]? =ah (x,.free)/\c=a x:=by refine b5 (t6 h) λ k d b=>?_;rw[<-(yM b).1];exact ⟨d,(yM b).2⟩
noncomputable def oh(on:List Str)(vals:List (Option V))(cn:List (Str×NameKind)):List (Option V):=cn.map λ p=>if p.2==.free then (vals[on.idxOf p.1]?).join else ai
theorem ru(hk:env.scope.kind=.function):∀{a:List (Str×NameKind)} {i:Nat} {x:Str} {k:NameKind},(a.map (·.1)).Nodup->a[i]? =ah (x,k)->(k=.free->env.kindOf x=ah .cell)->
 (a.map λ (n,k)=>if (k==NameKind.free&&env.scope.kind==.function&&env.kindOf n==ah .cell)then (n,NameKind.cell)else (n,k)).lookup x=ah (if k=.free then .cell else k):=by
 intro a i x k d hi b;have c:(a.map λ (p:Str×NameKind)=>if (p.2==NameKind.free&&env.scope.kind==.function&&env.kindOf p.1==ah .cell)then (p.1,NameKind.cell)else (p.1,p.2))[i]? =ah (x,if k=.free then .cell else k):=by
  simp only[aN,hi];by_cases h:k=.free
  ·subst h;simp[hk,b rfl]
  ·have e:(k==NameKind.free)=ao:=by simpa using h
   simp[h]
 refine fW ?_ c;have:(a.map λ (p:Str×NameKind)=>if (p.2==NameKind.free&&env.scope.kind==.function&&env.kindOf p.1==ah .cell)then (p.1,NameKind.cell)else (p.1,p.2)).map (·.1)=a.map (·.1):=by refine bu.trans ?_;apply bF;intro p _;dsimp only[Function.comp];split<;>rfl
 simp only[this];exact d
structure uT(O O':FC)(scope:iH):Prop where
 ok:O'.Ok
 G:O'.G=O.G
 A:O'.A=O.A
 dep:O'.dep=O.dep
 ns:∃look,O'.ns=Ha look scope.names
 bi:O'.env.builtins=O.env.builtins
 sk:O'.env.scope.kind=.function
 en:∃cl C env,O'.env=compEnvC scope cl C env
theorem Ai{R:qz->aQ->Prop}{l acc:Value}(I:Nat->aQ->Prop)(k:∀n s,I n s->aW (bn prog w) A (wY l) (λ r b=>match r with
 |none=>R (.ok .next) b
 |some v=>aW (bn prog w) A (nF target l v) (λ Z a=>aW (bn prog w) A (ec target env v) (λ Z Rw=>
  aW (bn prog w) A (forIn ifs aj λ c r=>if r=aj then do let ok <-ez c env (bw c env);pure (ForInStep.yield ok)else pure (ForInStep.yield r)) (λ ok RW=>
   if ok=aj then aW (bn prog w) A (bw elt env) (λ x d=>aW (bn prog w) A (call (.builtin "list.append") [acc,x]) (λ Z f=>∃m,m<n/\I m f) (λ Z Z=>False) d) (λ Z Z=>False) RW
   else ∃m,m<n/\I m RW) (λ Z Z=>False) Rw) (λ Z Z=>False) a) (λ Z Z=>False) b) (λ Z Z=>False) s) (n:Nat) (h:I n s):gi (bn prog w) A (.compLoop (.ListComp elt [⟨target,iter,ifs,0⟩] scope pos) 0 l acc env) R s:=by
 refine codeAny_loop rfl I (λ n s o=>?_) n h;show aW _ A ((compTurn (.ListComp elt [⟨target,iter,ifs,0⟩] scope pos) 0 l acc env).onRaise (λ x=>do kW x env;theTreesLotGoes x)) _ _ s;refine wpAny_noted ?_;rw[compTurn_list];refine aw (et (aw (aY (k n s o) (λ r b h₁=>?_) λ Z Z h'=>h'.elim)));cases r with
 |none=>exact az h₁
 |some v=>
  refine aw (aY h₁ (λ Z a h₁=>?_) λ Z Z h'=>h'.elim);refine aw (aY h₁ (λ Z Rw j=>aw (aY j (λ ok RW e=>?_) λ Z Z h'=>h'.elim)) λ Z Z h'=>h'.elim);cases ok with
  |false=>exact az ⟨rfl,e⟩
  |true=>exact aw (aw (aY e (λ x d i=>aw (aY i (λ Z f g=>az (az ⟨rfl,g⟩)) λ Z Z h'=>h'.elim)) λ Z Z h'=>h'.elim))
noncomputable def XT(O:FC)(ifs:List Expr)(Q:Bool->St->Prop)(Y:St):Prop:=
 X O (λ Z Z=>False) (forIn ifs aj λ c r=>if r=aj then do let ok <-ez c O.env (bw c O.env);pure (ForInStep.yield ok)else pure (ForInStep.yield r)) (λ Z u b=>u=b) Q Y
theorem gy{Q:Bool->St->Prop}(h:Q aj Y):XT O [] Q Y:=λ Kp Jj s R=>az ⟨_,Y,Kp,.refl _,R,rfl,h⟩
theorem HE{c:Expr}{Q:Bool->St->Prop}(h:XB O (λ Z Z=>False) (ez c O.env (bw c O.env)) Q Y):XT O [c] Q Y:=λ Kp Jj s R=>by rw[jl];show aW _ _ ((ez c O.env (bw c O.env)>>=λ ok=>pure (ForInStep.yield ok))>>=_) _ _ _;refine aw (aw (aY (h Kp Jj s R) (λ b s' x=>az ?_) λ Z Z e=>e));exact az x
theorem wn{scope:iH}{d:St}{Kk:b9}{r Rw:aQ}{h₁:Heap}{g:aG×Obj}{tk:Nat}(ok:O.Ok)(E:scope.kind=.function)(J:(scope.names.map (·.1)).Nodup)
 (M:∀x,(x,NameKind.free)∈scope.names->∃(i:Nat) (c:aG),O.ns[i]? =ah (x,NK.RJ c))
 (w:cS O d Kk Jj r) (G:∀b o,r.heap.get? b=ah o->Rw.heap.get? b=ah o) (hg:r.heap.get? g.1=ai) (f:cS O d Kk (g::Jj) Rw)
 (U:h₁.Ns (Rw.heap.objs.size+1) (λ Z=>ai)) (Q:Heap.SameBut (Rw.heap.objs.size+1) ((Rw.heap.push (W.listOf #[] 0)).push {cls:=.type "dict",data:=.dict #[]}) h₁):
 ∃z:FC,uT O z scope/\z.env=compEnvC scope (Dn (λ x=>(O.env.cells.lookup x).getD 0) scope.names []) (Rw.heap.objs.size+1) O.env/\z.h₀=r.heap/\z.S₀=Kk/\z.Se=addrs d.mu/\z.Sd=O.Sd/\z.fp=[Rw.heap.objs.size+1]/\
  cS z ⟨oh (O.ns.map (·.1)) d.vals scope.names,(Rw.heap.objs.size,.list [])::d.mu⟩ Kk [g] {Rw with heap:=h₁,toks:=tk}:=by
 have s:∀b o,Rw.heap.get? b=ah o->h₁.get? b=ah o:=λ b o e=>by have l:=cq e;exact (Q.2 b (cm (cD l))).trans (aL _ (aL _ e))
 have hD:h₁.get? Rw.heap.objs.size=ah (W.listOf #[] 0):=(Q.2 _ (cm (ce _))).trans (aL _ (bQ _ rfl));have n1:∀a,Rw.heap.objs.size<=a->r.heap.get? a=ai:=λ a ha=>by
  cases hh:r.heap.get? a with
  |none=>rfl
  |some o=>exact absurd (cq (G _ _ hh)) (bT.mpr ha)
 let t:Str->aG:=λ x=>(O.env.cells.lookup x).getD 0
 have F:∀x,(x,NameKind.free)∈scope.names->∃i:Nat,O.ns[i]? =ah (x,NK.RJ (t x))/\O.env.kindOf x=ah .cell:=λ x hx=>by obtain ⟨i,c,h⟩:=M x hx;obtain ⟨D,N⟩:=ok.RJ i x c h;exact ⟨i,by show _=ah (x,NK.RJ ((O.env.cells.lookup x).getD 0));rw[N];exact h,D⟩
 let z:FC:={O with env:=compEnvC scope (Dn t scope.names []) (Rw.heap.objs.size+1) O.env,h₀:=r.heap,S₀:=Kk,Se:=addrs d.mu,ns:=Ha t scope.names,own:=[]}
 have kd:∀{i x k},scope.names[i]? =ah (x,k)->z.env.kindOf x=ah (if k=.free then .cell else k):=λ {i x k} hi=>by show (relabel scope O.env).names.lookup x=_;exact ru ok.kind J hi λ hk=>(F x (hk▸aX hi)).elim λ Z h=>h.2
 have Zc:z.Ok:=by
  refine ⟨ok.below,ok.SA,ok.top,ok.frames,ok.R7,ok.Tw,ok.above,λ b o e=>?_,λ b o e=>⟨(w.kp b o e).1,λ l=>(w.kp b o e).2.1 (ax _ l)⟩,ok.hand,ok.depth,ok.units,E,ok.globals,
   λ i x h=>by have:=kd (Fi h);simpa using this,λ i x c h=>?_,λ i x h=>by have:=kd (Cg h);simpa using this,by rw[show z.ns.map (·.1)=_ from zR t _];exact J,λ i j x y c h h'=>?_⟩
  ·obtain ⟨a,b'⟩:=ok.SP b o e;refine ⟨w.old b o a b',λ l=>?_⟩;refine b7 (w.fresh b (ax _ l)) (λ q=>?_) λ q=>?_
   ·exact b' q
   ·rw[q]at a;cases a
  ·obtain ⟨D,rfl⟩:=qi h;have:=kd D;exact ⟨by simpa using this,xV J (.inl (aX D))⟩
  ·obtain ⟨D,rfl⟩:=qi h;obtain ⟨N,e⟩:=qi h';obtain ⟨p,C, -⟩:=F x (aX D);obtain ⟨q,hq, -⟩:=F y (aX N);have:=ok.cells p q x y _ C (e▸hq);subst this;rw[C]at hq;have exy:x=y:=by cases hq;rfl
   subst exy;have R:(scope.names.map (·.1))[i]? =ah x:=by rw[aN,D];rfl
   exact (fk (bh.mp R).1 J).mp (R.trans (show (scope.names.map (·.1))[j]? =ah x by rw[aN,N];rfl).symm)
 have A:z.fp=[Rw.heap.objs.size+1]:=rfl;have P:addrs ((Rw.heap.objs.size,MO.list [])::d.mu)=Rw.heap.objs.size::addrs d.mu:=rfl;have lv:∀b∈addrs d.mu,∃o,Rw.heap.get? b=ah o:=λ b l=>f.live b (ax _ l);have T:∀b∈addrs d.mu,b<Rw.heap.objs.size:=λ b l=>by obtain ⟨o,H⟩:=lv b l;exact cq H
 refine ⟨z,⟨Zc,rfl,rfl,rfl,⟨t,rfl⟩,rfl,E,⟨_,_,_,rfl⟩⟩,rfl,rfl,rfl,rfl,rfl,A,?_⟩;have X:=f.ghost.2 g ci;have I:=cq X.1;refine ⟨⟨_,U,λ i x k v a b=>?_⟩,λ i x c e=>?_,λ p C=>?_,?_,?_,?_,λ b o e=>⟨s _ _ (f.kp b o e).1,?_,.inl e⟩,⟨by simp,λ p C=>?_⟩,λ b o e Z=>s _ _ (G _ _ e),?_,λ h=>?_,w.Vd,λ b o e=>⟨o,s _ _ (G _ _ e)⟩,f.st⟩
 ·simp only[oh,aN]at b;refine b5 (t6 a) λ kk D N=>?_;rw[D]at b;simp only[qs,Option.some.injEq]at b;by_cases hk:kk=.free
  ·subst hk;simp only[beq_self_eq_true,if_true]at b;obtain ⟨p,C, -⟩:=F x (aX D);have Y:(O.ns.map (·.1)).idxOf x=p:=by
    have R:(O.ns.map (·.1))[p]? =ah x:=by rw[aN,C];rfl
    have V:x∈O.ns.map (·.1):=aX R;have hl:=g6.mpr V;exact ((fk hl ok.names).mp ((show (O.ns.map (·.1))[(O.ns.map (·.1)).idxOf x]? =ah x by rw[ay hl,oB hl]).trans R.symm))
   rw[Y]at b;obtain ⟨o,H,e⟩:=kX.mp b|>λ h=>(⟨ah v,h,rfl⟩:∃o,d.vals[p]? =ah o/\o=ah v);subst e;obtain ⟨m,_,V⟩:=f.vars;subst N;obtain ⟨u,⟨ob,L,K⟩,hr⟩:=(V p x _ v C H);exact ⟨u,⟨ob,s _ _ L,K⟩,hr⟩
  ·have l:(kk==NameKind.free)=ao:=by simpa using hk
   rw[l]at b;cases b
 ·obtain ⟨D,rfl⟩:=qi e;obtain ⟨p,C, -⟩:=F x (aX D);obtain ⟨u,ob,L,K⟩:=f.Ui p x _ C;exact ⟨u,ob,s _ _ L,K⟩
 ·refine b7 (aI.mp C) (λ B=>?_) λ C=>?_
  ·subst B;exact .list (vs:=[]) (n:=0) hD .nil
  ·exact (f.mu p C).mono (.refl _) λ b Z o e=>s b o e
 ·rw[A,P,d5,bC,bC];refine ⟨λ h=>?_,λ h=>bB _ (T _ h),((aV.mp f.nd).2.1)⟩;refine b7 (aI.mp h) (λ h=>?_) λ h=>?_
  ·exact absurd h (fo (ce _))
  ·exact absurd (bD (ce _) (T _ h)) (bB _)
 ·intro b l;rw[A,P,d5]at l;refine b7 (aI.mp l) (λ B=>?_) λ l=>?_
  ·subst B;exact .inr (n1 _ (gA _))
  ·refine b7 (aI.mp l) (λ B=>?_) λ l=>?_
   ·subst B;exact .inr (n1 _ (aT _))
   ·exact .inl l
 ·intro b l;rw[A,P,d5]at l;refine b7 (aI.mp l) (λ B=>?_) λ l=>?_
  ·subst B;obtain ⟨o,_,_,H,_⟩:=U;exact ⟨o,H⟩
  ·refine b7 (aI.mp l) (λ B=>?_) λ l=>?_
   ·subst B;exact ⟨_,hD⟩
   ·obtain ⟨o,H⟩:=lv b l;exact ⟨o,s _ _ H⟩
 ·intro l;rw[A,P,d5]at l;have S:=cq (f.kp b o e).1;refine b7 (aI.mp l) (λ B=>?_) λ l=>?_
  ·subst B;exact absurd (bD (ce _) S) (bB _)
  ·refine b7 (aI.mp l) (λ B=>?_) λ l=>?_
   ·subst B;exact absurd S (bB _)
   ·exact (f.kp b o e).2.1 (ax _ l)
 ·rw[aE.mp C];refine ⟨s _ _ X.1,λ l=>?_,X.2.2.1,hg,X.2.2.2.2⟩;rw[A,P,d5]at l;refine b7 (aI.mp l) (λ h=>?_) λ l=>?_
  ·rw[h]at I;exact absurd (bD (ce _) I) (bB _)
  ·refine b7 (aI.mp l) (λ h=>?_) λ l=>?_
   ·rw[h]at I;exact absurd I (bB _)
   ·exact X.2.1 (ax _ l)
 ·obtain ⟨m,V⟩:=f.frame;exact ⟨m,V.keeps s⟩
 ·rw[P]at h;refine b7 (aI.mp h) (λ h=>?_) λ h=>?_
  ·obtain ⟨m,o,_,_,H,_⟩:=f.frame;have:=cq H;rw[h]at this;exact absurd this (bB _)
  ·exact f.Y2 h
theorem gz.of{a b:aQ}{c:aQ}(h:a.gens=c.gens/\a.drawn=c.drawn/\a.os=c.os)(h':b.gens=c.gens/\b.drawn=c.drawn/\b.os=c.os):gz a b:=
 ⟨h'.1.trans h.1.symm,h'.2.1.trans h.2.1.symm,h'.2.2.trans h.2.2.symm⟩
inductive Wt(O:FC)(Jj:List (aG×Obj))(Kk:b9)(C D:aG)(Q:V->St->Prop)(s:aQ):Prop
 |mk (v:V) (Y:St) (K:b9) (l:Kk.le K) (R:cS O Y K Jj s) (hv:VR O.P K (.ref D) v) (q:Q v Y) (o:I7 O Y K Jj C s) (m:Str->Option Value) (n:s.heap.Ns C m)
theorem Dj{g:FC}{a:St}{Kk K':b9}{d s':aQ}{G:List (Option V)}{J:Mu}{acc:List V}{C D:aG}{Q:V->St->Prop}(ok:O.Ok)(f:cS O a Kk Jj d)(X:Kk.le K')(R':cS g ⟨G,(D,.list acc)::J⟩ K' [] s')
 (eG:g.G=O.G) (eh:g.h₀=d.heap) (eS:g.S₀=Kk) (em:g.Se=addrs a.mu) (es:g.Sd=O.Sd) (P:g.fp=[C]) (N:d.heap.get? C=ai) (hD:d.heap.get? D=ai) (q:mQ Q ⟨a.vals,J⟩ acc):
 Wt O Jj Kk C D Q s':=by
 have Y:g.P=O.P:=congrArg (·.w.params) eG;have S:addrs ((D,MO.list acc)::J)=D::addrs J:=rfl;obtain ⟨-, -,x,I,c, -,s, -,i, -, -, -,z,A⟩:=id R';refine b5 R'.vars λ mC r Z=>?_;have hL:g.env.locals=C:=by have:g.env.locals::g.own=[C]:=P;exact (List.cons.inj this).1
 rw[hL]at r;rw[P,S,d5]at I c;rw[eh]at c i z;rw[em]at c i;simp only[P,S,d5,eS,eh]at s;rw[es]at A;have st:gz d s':=gz.of f.st A;have j:=bC.mp I;have K:=bC.mp j.2;have v:∀{k:St} {l:b9},k.mu=J\/k.mu=(D,MO.list acc)::J->(∀o,¬l C o)->I7 O k l Jj C s':=λ {k l} hm hk=>by
  have R:C∉addrs k.mu:=by
   rcases hm with h|h
   ·rw[h];exact (λ h=>j.1 (b_ _ h))
   ·rw[h,S];exact j.1
  refine ⟨λ h=>?_,hk,λ p L e=>?_,?_,λ e=>?_,λ u=>?_⟩
  ·rcases aM.mp h with h|h
   ·refine ze (f.live C (aJ _ h)) λ o t=>?_;rw[N]at t;cases t
   ·exact R h
  ·have:=(f.ghost.2 p L).1;rw[e,N]at this;cases this
  ·cases hh:O.h₀.get? C with
   |none=>rfl
   |some o=>refine ze (f.alive C o hh) λ o' t=>?_;rw[N]at t;cases t
  ·refine Oe f.frame λ m o Z Z t Z=>?_;rw[<-e,N]at t;cases t
  ·intro T;refine b5 T λ o H B=>?_;refine kw r λ o' es ep y h4 Z=>?_;rw[H]at y;cases y;rw[B]at h4;cases h4
 have kC:∀o,¬K' C o:=λ o h=>(s C o h).2.1 ci;have base:∀{J':Mu} {S':b9},(∀b∈addrs J',b=D\/b∈addrs J)->K'.le S'->(∀b o,S' b o->s'.heap.get? b=ah o/\b∉addrs J'/\(Kk b o\/d.heap.get? b=ai))->(∀p∈J',MR O.P S' s'.heap p)->(addrs J').Nodup->
  cS O ⟨a.vals,J'⟩ S' Jj s':=λ {J' S'} E U hS hM TJ=>by
  have:=f.turned (J1:=a.mu) (J2:=[]) (J':=J') (s':=s') (S':=S') ok (by simp) st (λ b o e w=>i b o e w) (λ b o e=>z b o e) (X.trans U) hS hM TJ (λ b w=>?_)
  ·simpa using this
  ·rcases E b w with rfl|h
   ·exact .inr hD
   ·exact c b (b_ _ (b_ _ h))
 refine (x _ ci).listE λ us n eD rs=>?_;rw[Y]at rs;cases q with
 |F q=>
  refine ⟨.list acc,⟨a.vals,J⟩,K'.add D (W.listOf us.toArray n),X.trans (b9.RN _ _ _),base (λ b w=>.inr w) (b9.RN _ _ _) (λ b o e=>?_) (λ p L=>?_) K.2,.list (b9.RO _ _ _) (rs.mono (b9.RN _ _ _)),q,v (.inl rfl) (λ o h=>?_),mC,r⟩
  ·rcases e with e|⟨rfl,rfl⟩
   ·refine jA (s b o e) λ H B y=>?_;exact ⟨H,λ h=>B (b_ _ (b_ _ h)),y⟩
   ·exact ⟨eD,K.1,.inr hD⟩
  ·have:=x p (b_ _ L);rw[Y]at this;exact this.mono (b9.RN _ _ _) λ Z Z Z e=>e
  ·rcases h with h|⟨e, -⟩
   ·exact kC o h
   ·exact j.1 (e▸ci)
 |M q=>
  refine ⟨.ref D,⟨a.vals,(D,.list acc)::J⟩,K',X,base (λ b w=>?_) (.refl _) (λ b o e=>?_) (λ p L=>?_) j.2,.ref _,q D,v (.inr rfl) kC,mC,r⟩
  ·rcases aI.mp w with h|h
   ·exact .inl h
   ·exact .inr h
  ·refine jA (s b o e) λ H B y=>?_;exact ⟨H,λ h=>B (b_ _ h),y⟩
  ·have:=x p L;rw[Y]at this;exact this
inductive Nt(D:aG)(acc:List V)(J:Mu)(I:List (Option V)->List V->Mu->Prop)(y:V)(Y:St):Prop
 |mk (J':Mu) (e:Y.mu=J'++(D,.list acc)::J) (h:I Y.vals (acc++[y]) (J'++J))
inductive Hi(D:aG)(acc:List V)(J:Mu)(I:List (Option V)->List V->Mu->Prop)(Y:St):Prop
 |mk (J':Mu) (e:Y.mu=J'++(D,.list acc)::J) (h:I Y.vals acc (J'++J))
noncomputable def PP(O:FC)(elt:Expr)(D:aG)(acc:List V)(J:Mu)(I:List (Option V)->List V->Mu->Prop)(b:Bool)(Y:St):Prop:=
 if b=aj then XV O (λ Z Z=>False) (bw elt O.env) (Nt D acc J I) Y else Hi D acc J I Y
noncomputable def Nn(O:FC)(ifs:List Expr)(elt:Expr)(D:aG)(acc:List V)(J:Mu)(I:List (Option V)->List V->Mu->Prop)(Y:St):Prop:=XT O ifs (PP O elt D acc J I) Y
inductive mG(O:FC)(elt target:Expr)(ifs:List Expr)(scope:iH)(Q:V->St->Prop)(v:V)(To:St):Prop
 |mk (n:Nat) (xs:Nat->V) (de:St->Prop) (W:i7 O O.A v n xs de To) (hn:n<=2^20) (I:Nat->List (Option V)->List V->Mu->Prop) (h0:I 0 (oh (O.ns.map (·.1)) To.vals scope.names) [] To.mu)
  (hg:∀i vals acc J,i<=n->I i vals acc J->acc.length<=i/\∀D,de ⟨vals,(D,.list acc)::J⟩)
  (step:∀O',uT O O' scope->∀i vals acc J D,i<n->I i vals acc J->XA O' (λ Z Z=>False) (ec target O'.env) (xs i) (Nn O' ifs elt D acc J (I (i+1))) ⟨vals,(D,.list acc)::J⟩)
  (fin:∀vals acc J,I n vals acc J->mQ Q ⟨To.vals,J⟩ acc)
inductive N4(O:FC)(D:aG)(Kk:b9)(n:Nat)(TB:Nat->aG×Obj->Prop)(I:Nat->List (Option V)->List V->Mu->Prop)(k:Nat)(s:aQ):Prop
 |mk (i:Nat) (vals:List (Option V)) (acc:List V) (J:Mu) (K:b9) (g:aG×Obj) (hk:i+k=n) (l:Kk.le K) (hc:TB i g) (R:cS O ⟨vals,(D,.list acc)::J⟩ K [g] s) (q:I i vals acc J)
theorem tB{elt target iter:Expr}{ifs:List Expr}{scope:iH}{pos:gY}{v:V}{p:St}{Kk:b9}{j:aQ}{u:Value}{Q:V->St->Prop}(ok:O.Ok)(t:scope.kind=.function)(TJ:(scope.names.map (·.1)).Nodup)(Wa:∀y∈scope.names,y.2≠.cell)
 (V9:∀x,(x,NameKind.free)∈scope.names->∃(i:Nat) (c:aG),O.ns[i]? =ah (x,NK.RJ c)) (H:mG O elt target ifs scope Q v p) (w:cS O p Kk Jj j) (hu:VR O.P Kk u v) {RR:Value->aG->qz->aQ->Prop}
 (hRR:∀D C s',Wt O Jj Kk C D Q s'->RR (.ref D) C (.ok .next) s'):
 aW (bn O.G.prog O.G.w) O.A (pyIter u) (λ it Rw=>aW (bn O.G.prog O.G.w) O.A (newList []) (λ acc RW=>aW (bn O.G.prog O.G.w) O.A (newFunctionEnv scope O.env.globals (Dn (λ x=>(O.env.cells.lookup x).getD 0) scope.names []) [] O.env.qual ai .none (ah O.env)) (λ Wm Xi=>
  gi (bn O.G.prog O.G.w) O.A (.compStart (.ListComp elt [⟨target,iter,ifs,0⟩] scope pos) 0 it acc {Wm with scope:=relabel scope O.env}) (RR acc Wm.locals) Xi) Ex RW) Ex Rw) Ex j:=by
 obtain ⟨n,xs,de,W,hn,I,X7,hIg,VX,XY⟩:=H;refine W Ex Kk Jj j u _ w hu λ it TB g Rw hit T N hg Yg=>?_;refine sj (wpAny_newFunctionEnv Wa (by intro y hy;simp at hy) (λ h₁ f h=>?_) t);have hsz:(Rw.heap.push ({cls:=.type "list",data:=.seq ([]:List Value).toArray}:Obj)).objs.size=Rw.heap.objs.size+1:=Heap.size_push _ _;dsimp only at f h ⊢;rw[hsz]at f h ⊢;refine Od (wn (tk:=Rw.toks+([]:List (Str×Value)).length) ok t TJ V9 w N hg Yg f h) λ O' l ZT eh eS em es ef S=>?_;have It:=hit O' l.G;have n1:∀a,Rw.heap.objs.size<=a->j.heap.get? a=ai:=λ a ha=>by
  cases hh:j.heap.get? a with
  |none=>rfl
  |some o=>exact absurd (cq (N _ _ hh)) (bT.mpr ha)
 have eA:=l.A;have loop:gi (bn O.G.prog O.G.w) O.A (.compLoop (.ListComp elt [⟨target,iter,ifs,0⟩] scope pos) 0 it (.ref Rw.heap.objs.size) O'.env) (RR (.ref Rw.heap.objs.size) (Rw.heap.objs.size+1)) {Rw with heap:=h₁,toks:=Rw.toks+([]:List (Str×Value)).length}:=by
  rw[<-l.G,<-eA];rw[<-eA]at It;refine Ai (N4 O' Rw.heap.objs.size Kk n TB I) (λ k M K=>?_) n ⟨0,_,[],p.mu,Kk,g,cQ n,.refl _,T,S,X7⟩;obtain ⟨i,P,acc,J,K',g',hk,l',YS,R',hI⟩:=K;refine za (hIg i P acc J (hk▸b3 i k) hI) λ Wd z=>?_;cases k with
  |succ k=>
   have V6:i<n:=hk▸ig (cr k);have YJ:i+1+k=n:=(cT i 1 k).trans hk;refine It.next i _ K' [] M g' _ _ l' V6 (z _) YS R' λ u' G d m s Zu=>?_;refine It.letGo (i+1) _ K' [] G d target u' _ _ m s ?_;refine aY (VX O' l i P acc J Rw.heap.objs.size V6 hI K' [d] G u' s Zu) (λ Z Xh K=>b5 K λ Yk Ye q=>?_) λ Z Z e=>e;refine aY (q K' [d] Xh Ye) (λ b Xg K=>Pt.on K λ c VM R L U e q=>?_) λ Z Z e=>e;subst e;cases b with
   |false=>obtain ⟨J',XC,X⟩:=(show Hi _ _ _ _ _ from q);exact ⟨k,ce k,i+1,VM.vals,acc,J'++J,R,d,YJ,l'.trans L,m,U.perm (XC▸eX.symm),X⟩
   |true=>refine aY ((show XV _ _ _ (Nt _ _ _ _) _ from q) R [d] Xg U) (λ y Xf K=>Pt.on K λ yv r Yh Xu Yd hy zg=>?_) λ Z Z e=>e;obtain ⟨J',XC,X⟩:=zg;refine aY ((wt (O:=O') (Ex:=λ Z Z=>False) (Y:=⟨r.vals,(Rw.heap.objs.size,.list acc)::(J'++J)⟩) (a:=Rw.heap.objs.size) (v:=yv) (xs:=acc) (Q:=λ Z Y=>Y=⟨r.vals,(Rw.heap.objs.size,.list (acc++[yv]))::(J'++J)⟩) 0 l.ok rfl (gP (aA Wd (aA (bc V6) hn))) rfl) Yh [d] Xf [.ref Rw.heap.objs.size,y] (Yd.perm (XC▸eX.symm)) (.cons (.ref _) (.cons hy .nil))) (λ Z Ww K=>Pt.on K λ Z VN F A B Z e=>?_) λ Z Z e=>e;subst e;exact ⟨k,ce k,i+1,r.vals,acc++[yv],J'++J,F,d,YJ,((l'.trans L).trans Xu).trans A,m,B,X⟩
  |zero=>subst hk;exact It.done _ K' [] M g' _ _ l' (z _) YS R' λ G s=>hRR _ _ _ (Dj ok w l' s l.G eh eS em es ef (n1 _ (gA _)) (n1 _ (aT _)) (XY _ _ _ hI))
 have hE:({newEnv scope (Rw.heap.objs.size+1) O.env.globals (Dn (λ x=>(O.env.cells.lookup x).getD 0) scope.names []) O.env.qual ai .none (ah O.env) ff with scope:=relabel scope O.env}:Env)=O'.env:=by rw[ZT];rfl
 have E:=hE▸loop;refine codeAny_compStart_list E ?_;have sf:=λ Q' E'=>It.self 0 _ Kk [] _ g Q' E' T S;simp only[l.G]at sf;exact sf _ _ E
theorem HN(ok:O.Ok)(a:scope.kind=.function)(l:(scope.names.map (·.1)).Nodup)(f:∀y∈scope.names,y.2≠.cell)(d:∀x,(x,NameKind.free)∈scope.names->∃(i:Nat) (c:aG),O.ns[i]? =ah (x,NK.RJ c))(h:XV O Ex (bw iter O.env) (mG O elt target ifs scope Q) Y)(G:∀x,eK iter O.env x=pure x):XV O Ex (bw (.ListComp elt [⟨target,iter,ifs,0⟩] scope pos) O.env) Q Y:=λ Kp Jj s R=>by
 skip;refine zk (use:=ai) rfl G (mW λ x r=>(d x r).elim λ i h=>h.elim λ c h=>⟨c,(ok.RJ i x c h).2⟩) a (λ x r z=>by obtain ⟨i,hi⟩:=cL.mp r;obtain ⟨y,k⟩:=x;simp only at z;subst z;exact fW l hi) (h.Rr R λ u A v p Kk l₁ j I h₁=>?_)
 refine tB (RR:=λ acc C=>compPost (bn O.G.prog O.G.w) O.A Ex ai (Pt O Jj Kp (VR O.P) Q) acc C) ok a l f d h₁ j I λ D C s' F=>?_;obtain ⟨w,t,n,l₂,g,E,q,J,m,H⟩:=F;exact ⟨m,H,λ h' o=>⟨w,t,n,l₁.trans l₂,g.off (tk:=s'.toks) J λ b K B e=>(o.2 b B).trans e,E,q⟩⟩
theorem I7.set{v:V}(a:I7 O Y Kp Jj I s)(b:∀u,¬h'.IsCell I u):I7 O (Y.set i v) Kp Jj I {s with heap:=h',toks:=tk}:=⟨a.gF,a.gK,a.gJ,a.gO,a.gL,b⟩
theorem tN{y:Str}{Q:Option (Option V)->St->Prop}(j:Nat)(ok:O.Ok)(S:O.ns[j]? =ah (y,NK.loc))(d:scope.kind=.function)(E:(scope.names.map (·.1)).Nodup)(t:∀y∈scope.names,y.2≠.cell)(f:∀x,(x,NameKind.free)∈scope.names->∃(i:Nat) (c:aG),O.ns[i]? =ah (x,NK.RJ c))(h:XV O Ex (bw iter O.env) (mG O elt target ifs scope (we j Q)) Y)(I:eo (.ListComp elt [⟨target,iter,ifs,0⟩] scope pos) (ah (.Name y py)) TP.line O.env=pure aj)(hs:∀x,eK iter O.env x=pure x):XF O Ex (gg (.Assign [.Name y py] (.ListComp elt [⟨target,iter,ifs,0⟩] scope pos) TP) O.env) Q Y:=λ Kp Jj s R=>by
 rw[exec_Assign_Name_used _ _ _ _ I];refine aw (et (aw ?_));show aW _ _ (do let _ <-comprehension (.ListComp elt [⟨target,iter,ifs,0⟩] scope pos) scope O.env _ (newList []) ao (bw iter O.env) (ah (ec (.Name y py) O.env))) _ _ s;refine aw (aY (zk (use:=ah (ec (.Name y py) O.env)) (Q:=λ Z=>Pt O Jj Kp (tG O.P) Q .next) rfl hs (mW λ x J=>(f x J).elim λ i h=>h.elim λ c h=>⟨c,(ok.RJ i x c h).2⟩) d (λ x J P=>by refine ze (cL.mp J) λ i hi=>?_;obtain ⟨y,k⟩:=x;simp only at P;subst P;exact fW E hi) (h.Rr R λ u U v G Kk l₁ A hv h₁=>?_)) (λ Z s' hq=>az (az hq)) λ Z Z e=>e)
 refine tB (RR:=λ acc C=>compPost (bn O.G.prog O.G.w) O.A Ex (ah (ec (.Name y py) O.env)) (λ Z=>Pt O Jj Kp (tG O.P) Q .next) acc C) ok d E t f h₁ A hv λ D C s' H=>?_;obtain ⟨w,L,p,l₂,n,hw,q,W,m,hm⟩:=H;show aW _ _ (ec (.Name y py) O.env (.ref D)) _ _ _;refine b5 (id n.vars) λ m0 F K=>?_;refine Jd (nJ (ok.loc j y S) F (λ B z g=>?_) (by rw[ok.kind];rfl));have l:=hm.sameBut g (λ e=>W.gF (by simp only[e];simp[FC.fp]));refine ⟨m,l,λ N r=>?_⟩;refine ⟨ai,_,p,l₁.trans l₂,?_,.next,q⟩;have O':I7 O (L.set j w) p Jj C {s' with heap:=B,toks:=s'.toks+1}:=W.set λ u H=>b5 H λ o a b=>by refine kw l λ o' es ep T M Z=>?_;rw[a]at T;cases T;rw[b]at M;cases M
 exact (n.TQ (tk:=s'.toks+1) S hw ok F K z g).off (tk:=s'.toks+1) O' λ b ob X e=>(r.2 b X).trans e
noncomputable abbrev Ky:=List Int
noncomputable abbrev Ky.lt(a b:Ky):Prop:=LT.lt (α:=List Int) a b
theorem Ky.tr{a b c:Ky}(d:¬b.lt a)(e:¬c.lt b):¬c.lt a:=List.le_trans (α:=Int) d e
theorem Ky.ir(a:Ky):¬a.lt a:=List.lt_irrefl (α:=Int) a
theorem Ky.as{a b:Ky}(h:a.lt b):¬b.lt a:=List.le_of_lt (α:=Int) h
theorem Ky.Xv{a b c:Ky}(d:a.lt b)(e:¬c.lt b):a.lt c:=Classical.byContradiction λ h=>Ky.tr e h d
theorem Ky.eq{a b:Ky}(c:¬b.lt a)(d:¬a.lt b):a=b:=List.le_antisymm (α:=Int) c d
inductive j6{α:Type}(r:Nat->Ky)(n:Nat)(P:α->Prop):KasT α->Prop
 |ret {a:α}:P a->j6 r n P (.ret a)
 |ask {i j:Nat} {k:Bool->KasT α}:i<n->j<n->j6 r n P (k (decide ((r i).lt (r j))))->j6 r n P (.ask i j k)
theorem j6.bind{r:Nat->Ky}{n:Nat}{P:α->Prop}{b:β->Prop}{f:α->KasT β}{t:KasT α}(h:j6 r n P t)(c:∀a,P a->j6 r n b (f a)):j6 r n b (t.bind f):=
 h.rec (c _) λ hi d Z e=>.ask hi d e
theorem CK{n:Nat}{r:Nat->Ky}{P:aQ->Prop}{e:α->Prop}{b:Nat->Nat->(Bool->aQ->Prop)->aQ->Prop}(l:∀i j C s,i<n->j<n->P s->(∀s',P s'->C (decide ((r i).lt (r j))) s')->b i j C s){t:KasT α}{Q:α->aQ->Prop}{s:aQ}(h:j6 r n e t)(d:P s)(k:∀a s',e a->P s'->Q a s'):t.kasWp b Q s:=by
 induction h generalizing s with
 |ret h=>exact k _ _ h d
 |ask hi f _ g=>exact l _ _ _ s hi f d λ s' c=>g c
section evs
variable{r:Nat->Ky}{n:Nat}
noncomputable def Pm(n:Nat)(p:Array Nat):Prop:=p.Perm (dr (aZ n))
theorem Pm.of{p:Array Nat}(h:Pm n p)(h':p'.Perm p):Pm n p':=h'.trans h
theorem Pm.size{p:Array Nat}(h:Pm n p):p.size=n:=by exact (Array.Perm.size_eq h).trans (bI.trans bf)
theorem Pm.lt{p:Array Nat}(h:Pm n p){i:Nat}(hi:i<n):p.getD i 0<n:=by have hi:=h.size.symm▸hi;rw[show p.getD i 0=p[i] from dif_pos hi];exact bP.mp (eY.mp ((Array.Perm.mem_iff h).mp (Array.getElem_mem hi)))
variable(r) in
noncomputable def qv(p:Array Nat)(i:Nat):Ky:=r (p.getD i 0)
theorem j6.two{P:α->Prop}{p:Array Nat}(a:Pm n p){i j:Nat}(hi:i<n)(c:j<n){k:Bool->KasT α}(d:(qv r p i).lt (qv r p j)->j6 r n P (k aj))(b:¬(qv r p i).lt (qv r p j)->j6 r n P (k ao)):j6 r n P (.ask (p.getD i 0) (p.getD j 0) k):=
 .ask (a.lt hi) (a.lt c) (by
  by_cases h:(qv r p i).lt (qv r p j)
  ·exact decide_eq_true h▸d h
  ·exact decide_eq_false h▸b h)
variable(r) in
noncomputable def D4(p:Array Nat)(k:Nat):Prop:=∀i j,i<=j->j<k->¬(qv r p j).lt (qv r p i)
variable(r) in
noncomputable def r6(p:Array Nat)(k:Nat):Prop:=∀i j,i<=j->j<k->¬(qv r p i).lt (qv r p j)
theorem qY{p:Array Nat}(h:p[i]? =p'[j]?):qv r p i=qv r p' j:=by unfold qv;simp only[se,se,h]
theorem y2(p:Array Nat){k:Nat}(h:k<=1):D4 r p k:=λ i j a b=>by obtain rfl:i=j:=O1 a b h;exact Ky.ir _
theorem Gv{C:Nat->Nat->Prop}(d:∀i,C i i)(b:∀{i j l},C i j->C j l->C i l){k:Nat}(h:∀i j,i<=j->j<k->C i j)(hk:0<k->C (k-1) k)(i j:Nat)(a:i<=j)(c:j<k+1):C i j:=
 (cH.mp c).elim (h i j a) λ e=>(pf a).elim (λ hi=>b (h i (k-1) (jh (e▸hi)) (AH (e▸hi))) (e▸hk (D5 (e▸hi)))) λ f=>f▸d i
theorem D4.snoc{p:Array Nat}(h:D4 r p k)(hk:0<k->¬(qv r p k).lt (qv r p (k-1))):D4 r p (k+1):=Gv (C:=λ i j=>¬(qv r p j).lt (qv r p i)) (λ i=>Ky.ir _) (λ a b=>Ky.tr a b) h hk
theorem r6.snoc{p:Array Nat}(h:r6 r p k)(hk:0<k->¬(qv r p (k-1)).lt (qv r p k)):r6 r p (k+1):=Gv (C:=λ i j=>¬(qv r p i).lt (qv r p j)) (λ i=>Ky.ir _) (λ a b=>Ky.tr b a) h hk
variable(r n) in
inductive Qh(p:Array Nat)(m:Nat):Prop
 |mk (h1:1<=m) (le:m<=n) (a:D4 r p m) (lt:m<n->(qv r p m).lt (qv r p (m-1)))
variable(r n) in
inductive P6(x:Nat×Array Nat):Prop
 |mk (h1:1<=x.1) (le:x.1<=n) (a:D4 r x.2 x.1) (p:Pm n x.2)
variable(r n) in
inductive DS(N:Nat)(x:Array Nat×Nat×Nat):Prop
 |mk (perm:Pm n x.1) (desc:r6 r x.1 x.2.1) (eqs:∀i,x.2.1-1-x.2.2<=i->i<x.2.1->qv r x.1 i=qv r x.1 (x.2.1-1)) (q:x.2.2+1<=x.2.1) (lo:N<=x.2.1) (hi:x.2.1<=n)
theorem Gm{p:Array Nat}(d:Pm n p)(f:Nat):∀m,m+f=n->1<=m->D4 r p m->j6 r n (Qh r n p) (kas_asc p f m):=by
 induction f with
 |zero=>exact λ m e b h=>.ret ⟨b,cu e,h,λ h=>absurd (e▸h) (bB _)⟩
 |succ f g=>intro m e b h;have a:m<n:=Il e;exact .two d a (aR (pc _ _) a) (λ c=>.ret ⟨b,bc a,h,λ Z=>c⟩) λ c=>g (m+1) (J0 e) (bK _ _) (h.snoc λ Z=>c)
theorem Pm.rev{p:Array Nat}(h:Pm n p)(i j:Nat):Pm n (kas_rev p i j):=h.of (mirror_perm _ _ _ _)
theorem xp{p:Array Nat}(a:Pm n p){i j:Nat}(b:j<=n)(k:Nat):qv r (kas_rev p i j) k=if i<=k/\k<j then qv r p (i+j-1-k)else qv r p k:=by
 have:=getElem?_mirror_all (xs:=p) (i:=i) (a.size.symm▸b) k;split
 ·rename_i h;rw[if_pos h]at this;exact qY this
 ·rename_i h;rw[if_neg h]at this;exact qY this
theorem qX{p:Array Nat}(a:Pm n p){i j:Nat}(b:j<=n)(h:∀k,i<=k->k<j->qv r p k=qv r p (j-1))(k:Nat):qv r (kas_rev p i j) k=qv r p k:=by
 rw[xp a b];split
 ·rename_i hk;simp only[h k hk.1 hk.2,h (i+j-1-k) (O0 hk) (OZ hk)]
 ·rfl
theorem r6.same{p:Array Nat}(h:r6 r p k)(e:∀k,qv r p' k=qv r p k):r6 r p' k:=λ i j a b=>by simp only[e];exact h i j a b
theorem H4(f:Nat):∀(p:Array Nat) m q,m+f=n->DS r n N (p,m,q)->j6 r n (DS r n N) (kas_desc f p m q):=by
 induction f with
 |zero=>exact λ p m q Z h=>.ret h
 |succ f u=>
  intro p m q e h;obtain ⟨d,hd,o,t,l,c⟩:=h;dsimp only at d hd o t l c;have c:m<n:=Il e;have j:m-1<n:=aR (pc _ _) c;have v:m+1+f=n:=J0 e;refine .two d c j (λ s=>?_) λ s=>.two d j c (λ g=>.ret ⟨d,hd,o,t,l,bc c⟩) λ g=>?_
  ·have one:∀p':Array Nat,∀i,m+1-1-0<=i->i<m+1->qv r p' i=qv r p' (m+1-1):=λ p' i a b=>congrArg _ (gd (cp b) a);show j6 r n _ (if q>0 then _ else _);split
   ·have w:=qX d (i:=m-(q+1)) (bc c) λ k a b=>o k (JZ a) b;exact u _ _ _ v ⟨d.rev _ _,(hd.same w).snoc λ Z=>by simp only[w];exact Ky.as s,one _,bK _ _,c1 l,c⟩
   ·exact u _ _ _ v ⟨d,hd.snoc λ Z=>Ky.as s,one _,bK _ _,c1 l,c⟩
  ·refine u _ _ _ v ⟨d,hd.snoc λ Z=>g,λ i a b=>?_,ee t,c1 l,c⟩;rcases cH.mp b with b|rfl
   ·exact (o i (by dsimp only at a;exact OY a) b).trans (Ky.eq s g)
   ·rfl
theorem BA{p:Array Nat}(f:Pm n p){m:Nat}(o:1<=m)(g:m<=n)(h:r6 r p m):j6 r n (P6 r n) (kas_tail3 m n p):=
 (Gm (f.rev 0 m) (n-m) m (kY g) o λ i j e k=>by rw[xp f g,xp f g,if_pos ⟨bg _,k⟩,if_pos ⟨bg _,aR e k⟩];exact h _ _ (OX e) (OW k)).bind λ x l=>by obtain ⟨a,b,c,d⟩:=l;exact .ret ⟨a,b,c,f.rev 0 m⟩
theorem qL{p:Array Nat}(j:Pm n p){m:Nat}(l:1<=m)(f:m<n)(h:r6 r p (m+1)):j6 r n (P6 r n) (kas_descPart m n p):=
 (H4 (N:=1) (n-(m+1)) p (m+1) 0 (kY f) ⟨j,h,λ i a b=>congrArg _ (gd (cp b) a),bK _ _,bK _ _,f⟩).bind λ x ⟨a,b,c,d,e,g⟩=>by
  split
  ·exact BA (a.rev _ _) e g (b.same (qX a g λ k u v=>c k (JZ u) v))
  ·exact BA a e g b
theorem EH{p:Array Nat}(f:Pm n p)(s:1<=n):j6 r n (P6 r n) (kas_count n p):=
 (Gm f (n-1) 1 (kY s) (aT _) (y2 p (aT _))).bind λ m ⟨a,b,c,d⟩=>by
  split
  ·exact .ret ⟨a,b,c,f⟩
  ·rename_i UC;have h:m<n:=j9 b λ e=>UC (beq_iff_eq.mpr e);split
   ·refine .two f s (aR (pc _ _) h) (λ Z=>.ret ⟨a,b,c,f⟩) λ t=>?_;have o:∀k,0<=k->k<m->qv r p k=qv r p (m-1):=λ k Z hk=>Ky.eq (c _ _ (jh hk) (AH hk)) (Ky.tr t (c 0 k (bg _) hk));have q:=qX f b o;exact qL (f.rev _ _) a h (((show r6 r p m from λ i j g l=>by simp only[o i (bg _) (aR g l),o j (bg _) l];exact Ky.ir _).same q).snoc λ Z=>by simp only[q];exact Ky.as (d h))
   ·obtain rfl:m=1:=gd (bT.mp ‹_›) a;exact qL f a h (r6.snoc (λ i j g l=>by obtain rfl:i=j:=OV g l;exact Ky.ir _) λ Z=>Ky.as (d h))
variable(r) in
inductive Rg(p:Array Nat)(k l:Nat):Prop
 |mk (le:l<=k) (lo:∀i,i<l->¬(qv r p k).lt (qv r p i)) (hi:∀i,l<=i->i<k->(qv r p k).lt (qv r p i))
theorem QS{l u f:Nat}(h:l<u)(a:u-l<=f+1):l<=(l+u)/2/\(l+u)/2<u/\(l+u)/2-l<=f/\u-((l+u)/2+1)<=f:=OU h a
theorem EG{p:Array Nat}(v:Pm n p)(hk:k<n)(t:D4 r p k)(f:Nat):∀l u,l<=u->u<=k->u-l<=f->(∀i,i<l->¬(qv r p k).lt (qv r p i))->(∀i,u<=i->i<k->(qv r p k).lt (qv r p i))->j6 r n (Rg r p k) (kas_place p k f l u):=by
 induction f with
 |zero=>exact λ l u m c j d e=>.ret ⟨aA m c,d,λ i a=>e i (aA (Nat.sub_eq_zero_iff_le.mp (r_.mp j)) a)⟩
 |succ f s=>
  intro l u m c j d e;dsimp only[kas_place];split
  ·rename_i h;exact .ret ⟨aA m c,d,λ i a=>e i (aA h a)⟩
  ·rename_i h;have b:=QS (pe.mp h) j;have g:=aH b.2.1 c;exact .two v hk (bD g hk) (λ o=>s _ _ b.1 (bc g) b.2.2.1 d λ i hi q=>Ky.Xv o (t _ _ hi q)) λ o=>s _ _ b.2.1 c b.2.2.2 (λ i hi=>Ky.tr (t i _ (cp hi) g) o) e
noncomputable def mv(l k i:Nat):Nat:=if i=l then k else if l<i/\i<=k then i-1 else i
theorem yK{l:Nat}(h:i<l):mv l k i=i:=by (dsimp only[mv];rw[if_neg (cm h),if_neg λ a=>Nat.lt_asymm h a.1])
theorem He{l:Nat}(h:l<i)(a:i<k+1):mv l k i=i-1:=by (dsimp only[mv];rw[if_neg (fo h),if_pos ⟨h,cp a⟩])
theorem Iv{q:Nat->Ky}{l:Nat}(h:∀i j,i<=j->j<k->¬(q j).lt (q i))(a:l<=k)(b:∀i,i<l->¬(q k).lt (q i))(c:∀i,l<=i->i<k->(q k).lt (q i))(i j:Nat)(d:i<=j)(g:j<k+1):¬(q (mv l k j)).lt (q (mv l k i)):=by
 have n:mv l k l=k:=if_pos rfl;rcases pX j l with e|rfl|e
 ·rw[yK e,yK (aR d e)];exact h i j d (aH e a)
 ·rw[n];rcases pf d with e|rfl
  ·rw[yK e];exact b i e
  ·rw[n];exact Ky.ir _
 ·have m:j-1<k:=Nat.sub_one_lt_of_le (D5 e) (cp g);rw[He e g];rcases pX i l with f|rfl|f
  ·rw[yK f];exact h _ _ (aA (bc f) (jh e)) m
  ·rw[n];exact Ky.as (c _ (jh e) m)
  ·rw[He f (aR d g)];exact h _ _ (Nat.sub_le_sub_right d 1) m
variable(r n) in
inductive I6(p:Array Nat):Prop
 |mk (a:D4 r p n) (p:Pm n p)
theorem JO(f:Nat):∀(p:Array Nat) k,k+f=n->Pm n p->D4 r p k->j6 r n (I6 r n) (kas_bin f p k):=by
 induction f with
 |zero=>exact λ p k e d h=>.ret ⟨e▸h,d⟩
 |succ f s=>
  intro p k e d h;have hk:k<n:=Il e;refine (EG d hk h k 0 k (bg _) (aT _) (aT _) (λ i hi=>absurd hi (c9 _)) λ i t m=>absurd m (bT.mpr t)).bind λ l ⟨a,b,c⟩=>s _ _ (by rw[cT];exact e) (d.of (bubble_perm _ _ _)) λ i j g q=>?_;have o:∀i,qv r (bubble p k (k-l)) i=qv r p (mv l k i):=λ i=>by
   have:=getElem?_bubble (xs:=p) (src:=k) (d.size.symm▸hk) (k-l) (pc _ _) i;rw[Nat.sub_sub_self a]at this;refine qY (this.trans ?_);unfold mv;split
   ·rfl
   ·split<;>rfl
  simp only[o];exact Iv h a b c i j g q
theorem H3(f:1<=n):j6 r n (I6 r n) (kas_sort n):=
 (EH (.refl _) f).bind λ x ⟨a,b,c,d⟩=>by
  split
  ·have e:max x.1 1=x.1:=OT a;simp only[e];exact JO _ _ _ (kY b) d c
  ·exact .ret ⟨(show x.1=n from gd ‹_› (bT.mp ‹_›))▸c,d⟩
end evs
noncomputable def tS(x:Str):Ky:=x.cps.toList.map nI
noncomputable def N9(v:V)(l:Ky):Ky:=match v with
 |.int i=>i::l
 |.str x=>tS x
 |_=>l
noncomputable def ky(v:V):Ky:=match v with
 |.tup xs=>xs.foldr N9 []
 |v=>N9 v []
noncomputable def QI(k:Nat)(i j:Int)(x:Str):V:=match k with
 |0=>.int i
 |1=>.str x
 |2=>.tup [.int i,.int j]
 |_+3=>.tup [.int i,.int j,.str x]
inductive Sh(k:Nat)(v:V):Prop
 |mk (i j:Int) (x:Str) (e:v=QI k i j x)
theorem Sh.int(i:Int):Sh 0 (.int i):=⟨i,i,⟨#[]⟩,rfl⟩
theorem Sh.str(x:Str):Sh 1 (.str x):=⟨0,0,x,rfl⟩
theorem Sh.pair(i j:Int):Sh 2 (.tup [.int i,.int j]):=⟨i,j,⟨#[]⟩,rfl⟩
theorem Sh.Yl(i j:Int)(x:Str):Sh 3 (.tup [.int i,.int j,.str x]):=⟨i,j,x,rfl⟩
theorem vm{y:Str}(h:tS x=tS y):x=y:=
 congrArg Str.mk (DX.mp ((oA λ a b e=>nI.inj e).mp h))
theorem ym{y:Str}:(tS x).lt (tS y)↔x.cps.toList<y.cps.toList:=
 ⟨λ h=>Classical.byContradiction λ n=>(List.le_iff_lt_or_eq.mp (List.not_lt.mp n)).elim (λ g=>Ky.as h (List.map_lt (λ Z Z=>cY.mpr) g)) λ g=>by rw[show tS x=tS y from congrArg (zc nI) g.symm]at h;exact Ky.ir _ h,List.map_lt λ Z Z=>cY.mpr⟩
theorem Iy{a b:V}(d:Sh k a)(e:Sh k b)(h:ky a=ky b):a=b:=by
 obtain ⟨i,j,x,rfl⟩:=d;obtain ⟨g,f,l,rfl⟩:=e;cases k with
 |zero=>exact congrArg V.int (List.cons.inj h).1
 |succ k=>
  cases k with
  |zero=>exact congrArg V.str (vm h)
  |succ k=>
   cases k with
   |zero=>simp only[(List.cons.inj h).1,((List.cons.inj (List.cons.inj h).2).1)];rfl
   |succ k=>have c:=List.cons.inj (List.cons.inj h).2;simp only[(List.cons.inj h).1,c.1,vm c.2]
noncomputable def dA(l:List V):Prop:=l.Pairwise λ a b=>¬(ky b).lt (ky a)
theorem dA.uniq{a b:List V}(c:a.Perm b)(d:∀x∈a,Sh k x)(g:dA a)(e:dA b):a=b:=
 List.Perm.eq_of_pairwise (λ x y h f l m=>Iy (d x h) (d y (c.mem_iff.mpr f)) (Ky.eq l m)) g e c
theorem dA.map{f:α->V}{r:α->α->Prop}(h:l.Pairwise r)(k:∀{a b},r a b->¬(ky (f b)).lt (ky (f a))):dA (l.map f):=by unfold dA;rw[bU];exact h.imp k
theorem CJ{a b:Int}{l m:Ky}(h:a<b):Ky.lt (a::l) (b::m):=iY.mpr (.inl h)
theorem zx{a:aG}{vs:List Value}{n:Nat}{P:PySem.Fin->aQ->Prop}(t:sq)(r:Nat->Ky)(u:s.heap.get? a=ah (wW "list" #[] n))(q:vs.length<64)
 (hk:2<=vs.length->∀(z:Value->aQ->Prop) (x:sq->aQ->Prop),x t s->aW (bn prog w) A (Ej vs.toArray) x z s)
 (H:∀(i j:Nat) (C:Bool->aQ->Prop),i<vs.length->j<vs.length->C (decide ((r i).lt (r j))) s->aW (bn prog w) A (keyLt' t (vs.getD i cV) (vs.getD j cV)) C (λ Z Z=>False) s)
 (h:∀p:Array Nat,I6 r vs.length p->P (.done (.ret .none)) {s with heap:=s.heap.update a (Obj.mapSeq λ Z=>dr (p.toList.map λ i=>vs.getD i cV))}):
 aW (bn prog w) A (do
  let k <-if vs.toArray.size<2 then pure general' else Ej vs.toArray
  let ((),s) <-(if vs.toArray.size<2 then pure ()else sortRuns').run (SortSt.mk' k (vs.toArray.zip vs.toArray) #[] 7 ai)
  let d:=(arrOf s).map (·.2)
  let b:=(<-seqEpoch a) !=n
  Builtin.List.listUpdate (.ref a) λ Z=>d
  if let ah e:=El s then rule "list.sort.comparison-raised";throw e
  if b then rule "list.sort.modified";raiseError "ValueError" "list modified during sort"
  ret .none) P E s:=by
 have fin:∀(c:SortSt) (p:Array Nat),I6 r vs.length p->(arrOf c).map (·.2)=dr (p.toList.map λ i=>vs.getD i cV)->El c=ai->aW (bn prog w) A (do
  let d:=(arrOf c).map (·.2)
  let b:=(<-seqEpoch a) !=n
  Builtin.List.listUpdate (.ref a) λ Z=>d
  if let ah e:=El c then rule "list.sort.comparison-raised";throw e
  if b then rule "list.sort.modified";raiseError "ValueError" "list modified during sort"
  ret .none) P E s:=λ c p g e m=>by
  dsimp only;simp only[e,m];refine aw (seqEpoch_at u rfl (aw (listUpdate_at u rfl ?_ (bg _) ?_)))
  ·rw[bne_self_eq_false];exact az (h p g)
  ·simp only[bI,au,nE,g.2.size,dE];exact bc (aH ‹_› (by decide))
 by_cases f:vs.toArray.size<2
 ·rw[if_pos f,if_pos f];refine aw (az (aw (az (fin _ (dr (aZ vs.length)) ⟨y2 _ (cp f),.refl _⟩ ?_ rfl))));show (vs.toArray.zip vs.toArray).map (·.2)=_
  match vs,f with
  |[],_=>simp
  |[v],_=>simp
  |_::_::_,f=>exact absurd f (bT.mpr (bK _ _))
 ·rw[if_neg f,if_neg f];have f:2<=vs.length:=bT.mp f;refine aw (hk f _ _ (aw (aY (kat_run (ks:=vs) (Q:=λ c s'=>∃p:Array Nat,(arrOf c=p.map (kas_item (vs.toArray.zip vs.toArray))/\El c=ai)/\s'=s/\I6 r vs.length p)
   rfl f q (λ p' c s' a1 F B D=>⟨p',⟨F,B⟩,D⟩) (CK (r:=r) (P:=λ s'=>s'=s) (λ i j C s' hi G o y=>o▸H i j C hi G (y _ rfl)) (H3 (iG f)) rfl λ p s' g o=>⟨o,g⟩)) ?_ λ Z Z e=>e)))
  rintro ⟨⟨⟩,c⟩ s' ⟨p,⟨l,m⟩,rfl,g⟩;exact fin c p g (kat_snds (ks:=vs) (vs:=vs) rfl l) m
theorem wa{a:aG}{vs:List Value}{n:Nat}{P:PySem.Fin->aQ->Prop}(k:sq)(r:Nat->Ky)(g:s.heap.get? a=ah (wW "list" vs.toArray n))(c:vs.length<64)
 (hk:2<=vs.length->∀(s':aQ) (l:Value->aQ->Prop) (f:sq->aQ->Prop),(∀b o,b≠a->s.heap.get? b=ah o->s'.heap.get? b=ah o)->f k s'->aW (bn prog w) A (Ej vs.toArray) f l s')
 (t:∀(s':aQ) (i j:Nat) (C:Bool->aQ->Prop),(∀b o,b≠a->s.heap.get? b=ah o->s'.heap.get? b=ah o)->i<vs.length->j<vs.length->C (decide ((r i).lt (r j))) s'->aW (bn prog w) A (keyLt' k (vs.getD i cV) (vs.getD j cV)) C (λ Z Z=>False) s')
 (h:∀p:Array Nat,I6 r vs.length p->P (.done (.ret .none)) {s with heap:=sortedHeap s.heap a vs (dr (p.toList.map λ i=>vs.getD i cV))}):
 aW (bn prog w) A (Builtin.«list.sort» ⟨[.ref a],[]⟩) P E s:=by
 rw[list_sort_plain];have hz:∀n,n<64->n<=eZ:=λ n h=>by exact bc (aH ‹_› (by decide))
 have d:=get?_update_seq g (λ Z=>(#[]:Array Value));have sub:∀b o,b≠a->s.heap.get? b=ah o->(((s.heap.update a (Obj.mapSeq λ Z=>#[])).push (wW "tuple" vs.toArray 0)).push (wW "list" #[] 0)).get? b=ah o:=λ b o q e=>aL _ (aL _ ((fG _ _ _ _ q).trans e))
 exact aw (listItems_at g rfl (aw (listUpdate_at g rfl (aw (seqEpoch_at d rfl (aw (wpAny_newTuple (aw (wpAny_newList (bE (zx k r (aL _ (aL _ d)) c (λ m l f=>hk m _ l f sub) (λ i j C=>t _ i j C sub) h)) (bg _))) (hz _ c))))) (hz _ c) (bg _))))
theorem zw{P:bS}{S:b9}{vs:List Value}{ks:List V}(r:dn P S vs ks){p:Array Nat}(h:I6 (λ i=>ky (ks.getD i .none)) vs.length p):
 ∃ys,dn P S (p.toList.map λ i=>vs.getD i cV) ys/\ys.Perm ks/\dA ys:=by
 obtain ⟨f,b⟩:=h;have g:=r.length;have a:∀i∈p.toList,i<vs.length:=λ i hi=>bP.mp (eY.mp ((Array.Perm.mem_iff b).mp (Array.mem_toList_iff.mp hi)));refine ⟨p.toList.map λ i=>ks.getD i .none,?_,?_,?_⟩
 ·clear f b;generalize p.toList=l at a;induction l with
  |nil=>exact .nil
  |cons i l m=>have hi:=a i (.head _);refine .cons ?_ (m λ j c=>a j (.tail _ c));show VR P S (vs.getD i cV) _;rw[show vs.getD i cV=vs[i] by (refine (aD).trans ?_;rw[ay hi]);rfl];exact (r.getD hi)
 ·refine ((Array.perm_iff_toList_perm.mp b).map _).trans ?_;rw[show (zc (λ i=>ks.getD i V.none) (aZ vs.length).toArray.toList)=ks from ?_];rw[g];exact List.ext_getElem (by simp only[au,bf]) λ i e k=>by rw[bY,jV,aD,ay k];rfl
 ·unfold dA;rw[bU,kf];intro i j hi c d;have hz:∀{i} (hi:i<p.toList.length),p.getD i 0=p.toList[i]:=λ {i} hi=>dif_pos (by rwa [nE]at hi);have e:=f i j (bc d) (by rwa [nE,Pm.size b]at c);unfold qv at e;rwa [hz hi,hz c]at e
noncomputable def PM(k:Nat):sq:=match k with
 |0=>oneType'
 |1=>oneType'
 |_+2=>tuples' aj
theorem EU{P:bS}{ks:List V}(r:dn P S us ks):(∀x∈ks,Sh 0 x)->∃ns,IntsAre us ns:=
 r.ind (λ Z=>⟨[],.nil⟩) λ u us v vs a Z d h=>by obtain ⟨i,_,_,e⟩:=h _ (.head _);subst e;obtain ⟨ns,c⟩:=d λ x b=>h x (.tail _ b);exact a.RB λ t=>⟨_,.cons i t c⟩
theorem ET{P:bS}{ks:List V}(r:dn P S us ks):(∀x∈ks,Sh 1 x)->∃ns,Ba us ns:=
 r.ind (λ Z=>⟨[],.nil⟩) λ u us v vs a Z d h=>by obtain ⟨_,_,i,e⟩:=h _ (.head _);subst e;obtain ⟨ns,c⟩:=d λ x b=>h x (.tail _ b);exact a.RG λ t=>⟨_,.cons i t c⟩
theorem H9{P:bS}(hS:∀b o,S b o->H.get? b=ah o){us:List Value}{ks:List V}(r:dn P S us ks):(∀x∈ks,Sh (k+2) x)->∃fs,KatTups H us fs/\fs.length=us.length/\∀f∈fs,∃i t,f=Value.int i t:=
 r.ind (λ Z=>⟨[],.nil,rfl,λ Z h=>nomatch h⟩) λ u us v vs a Z m h=>by
  refine eB (m λ x g=>h x (.tail _ g)) λ fs p c d=>?_;obtain ⟨i,j,x,e⟩:=h _ (.head _);obtain ⟨l,e⟩:∃l,v=.tup (.int i::l):=by cases k<;>exact ⟨_,e⟩
  cases e;exact a.RL λ q ws n e rs=>rs.RC (Qs:=λ ws=>H.get? q=ah (dZ ws.toArray n)->_) (λ w ws b Z=>b.RB λ t e=>⟨.int i t::fs,.cons e rfl rfl rfl p,congrArg j8 c,jb.mpr ⟨⟨i,t,rfl⟩,d⟩⟩) (hS _ _ e)
theorem FB{P:bS}{vs:List Value}{ks:List V}{Q:sq->aQ->Prop}(hS:∀b o,S b o->s.heap.get? b=ah o)(r:dn P S vs ks)(c:∀x∈ks,Sh k x)(a:2<=vs.length)(q:Q (PM k) s):aW (bn prog w) A (Ej vs.toArray) Q E s:=by
 cases k with
 |zero=>
  refine ze (EU r c) λ ns f=>?_;clear r c;cases vs with
  |nil=>exact absurd a (by decide)
  |cons d vs=>
   cases vs with
   |nil=>exact absurd a (nB 1)
   |cons e vs=>simp only[keyKind_ints f];exact az q
 |succ k=>
  cases k with
  |zero=>
   refine ze (ET r c) λ ns f=>?_;clear r c;cases vs with
   |nil=>exact absurd a (by decide)
   |cons d vs=>
    cases vs with
    |nil=>exact absurd a (nB 1)
    |cons e vs=>simp only[keyKind_strs f];exact az q
  |succ k=>refine eB (H9 hS r c) λ fs j h m=>?_;exact kat_kind (T:=Value.type "int") j (h.symm▸aH Nat.two_pos a) (λ v l=>by refine Jy (m v l) λ i t g=>?_;subst g;exact Looks.of_pure rfl) rfl q
inductive Hu:List V->List V->Prop
 |nil:Hu [] []
 |int (a c:Int) {xs ys:List V}:Hu xs ys->Hu (.int a::xs) (.int c::ys)
 |str (x y:Str):Hu [.str x] [.str y]
theorem Fw{b:Bool}{a c:Int}{t u:Jm}{C:Bool->aQ->Prop}(h:C (decide (a<c)) s):aW (bn prog w) A (oneLt' b (.int a t) (.int c u)) C E s:=by
 cases b with
 |false=>exact kat_one _ _ (lt_int h)
 |true=>exact oneLt_int h
theorem Fv{b:Bool}{a c:Str}{t u:Jm}{C:Bool->aQ->Prop}(h:C (decide (a.cps.toList<c.cps.toList)) s):aW (bn prog w) A (oneLt' b (.str a t) (.str c u)) C E s:=by
 cases b with
 |false=>exact kat_one _ _ (PyProof.Rows.lt_str h)
 |true=>exact kas_lt_str h
theorem rO{p q:Prop}{c:Decidable p}{d:Decidable q}(h:p↔q):decide p=decide q:=by
 by_cases a:p
 ·refine (decide_eq_true a).trans ?_;rw[decide_eq_true (h.mp a)]
 ·refine (decide_eq_false a).trans ?_;rw[decide_eq_false λ b=>a (h.mpr b)]
theorem FU{P:bS}{b fin:Bool}(f:fin=ao){xs:List V}{C:Bool->aQ->Prop}(R:Hu xs ys):∀{us vs:List Value} {i:Nat},dn P S us xs->dn P S vs ys->C (decide ((xs.foldr N9 []).lt (ys.foldr N9 []))) s->KatLex prog w A b fin C (us.zip vs) i s:=by
 induction R with
 |nil=>exact λ r d h=>r.RX (d.RX (kat_nil (f▸h)))
 |@int a c xs ys R k=>
  exact λ r d h=>r.RC λ u us x r=>d.RC λ v vs y d=>x.RB λ t=>y.RB λ j=>kat_cons (wpAny_eqBool_int (by
   by_cases e:a=c
   ·rw[beq_iff_eq.mpr e];exact kat_yes (k r d (rO (iY.trans (or_iff_right (e▸Int.lt_irrefl a) |>.trans (and_iff_right e)))▸h))
   ·rw[beq_eq_false_iff_ne.mpr e];exact kat_no (Fw (rO (iY.trans (or_iff_left λ g=>e g.1))▸h))))
 |str x y=>
  exact λ r d h=>r.TX λ u a=>d.TX λ v l=>a.RG λ t=>l.RG λ j=>kat_cons (wpAny_eqBool_str (by
   have h:C (decide ((tS x).lt (tS y))) s:=h;by_cases e:x=y
   ·rw[decide_eq_true e];subst e;rw[decide_eq_false (Ky.ir _)]at h;exact kat_yes (kat_nil (f▸h))
   ·rw[decide_eq_false e];exact kat_no (Fv (rO ym▸h))))
theorem Hu.len(R:Hu xs ys):xs.length=ys.length:=by
 induction R with
 |nil=>rfl
 |int _ _ _ k=>exact congrArg j8 k
 |str=>rfl
theorem yU{P:bS}{v:Value}{C:Bool->aQ->Prop}(hS:∀b o,S b o->s.heap.get? b=ah o)(d:VR P S u (.tup xs))(g:VR P S v (.tup ys))(R:Hu xs ys)(h:C (decide ((ky (.tup xs)).lt (ky (.tup ys)))) s):aW (bn prog w) A (keyLt' (tuples' aj) u v) C E s:=
 d.RL λ a us n e rs=>g.RL λ k f j i c=>kat_lt (hS _ _ e) rfl (hS _ _ i) rfl (FU (decide_eq_false (by simp only[bI,bI,rs.length,c.length,R.len];exact bB _)) R rs c h)
theorem IP{P:bS}{v:Value}{x y:V}{C:Bool->aQ->Prop}(hS:∀b o,S b o->s.heap.get? b=ah o)(e:VR P S u x)(f:VR P S v y)(l:Sh k x)(i:Sh k y)(h:C (decide ((ky x).lt (ky y))) s):aW (bn prog w) A (keyLt' (PM k) u v) C E s:=by
 obtain ⟨a,b,x,rfl⟩:=l;obtain ⟨c,d,y,rfl⟩:=i;cases k with
 |zero=>exact e.RB λ t=>f.RB λ j=>oneLt_int (rO (iY.trans (or_iff_left λ g=>List.not_lt_nil ([]:List Int) g.2))▸h)
 |succ k=>
  cases k with
  |zero=>exact e.RG λ t=>f.RG λ j=>kas_lt_str (rO ym▸h)
  |succ k=>
   cases k with
   |zero=>exact yU hS e f (.int _ _ (.int _ _ .nil)) h
   |succ k=>exact yU hS e f (.int _ _ (.int _ _ (.str _ _))) h
theorem EN{k:Nat}{S:b9}{a:aG}{vs:List Value}{ks:List V}{n:Nat}{P:PySem.Fin->aQ->Prop}(hS:∀b o,S b o->b≠a/\s.heap.get? b=ah o)(m:s.heap.get? a=ah (wW "list" vs.toArray n))(d:vs.length<64)(r:dn w.params S vs ks)(f:∀x∈ks,Sh k x)
 (h:∀out ys,dn w.params S out ys->ys.Perm ks->dA ys->P (.done (.ret .none)) {s with heap:=sortedHeap s.heap a vs out.toArray}):
 aW (bn prog w) A (Builtin.«list.sort» ⟨[.ref a],[]⟩) P E s:=
 wa (PM k) (λ i=>ky (ks.getD i .none)) m d (λ t s' B z c u=>FB (λ b o e=>c b o (hS b o e).1 (hS b o e).2) r f t u)
  (λ s' i j C c hi g q=>by
   have at_:∀{i:Nat},i<vs.length->VR w.params S (vs.getD i cV) (ks.getD i .none)/\Sh k (ks.getD i .none):=λ {i} hi=>by
    have e:vs.getD i cV=vs[i]:=by (refine (aD).trans ?_;rw[ay hi]);rfl
    exact ⟨e▸r.getD hi,by simp only[aD,ay (r.length▸hi)];exact f _ (cI _)⟩
   exact IP (λ b o e=>c b o (hS b o e).1 (hS b o e).2) (at_ hi).1 (at_ g).1 (at_ hi).2 (at_ g).2 q)
  λ p l=>by refine eB (zw r l) λ ys a1 v y=>?_;exact h _ ys a1 v y
theorem qO{k:Nat}{S:b9}{u:Value}{ks:List V}{Q:Value->aQ->Prop}(hS:∀b o,S b o->s.heap.get? b=ah o)(g:ks.length<64)(n:∀x∈ks,Sh k x)
 (i:∀(E:Value->aQ->Prop) (R:List Value->aQ->Prop),(∀h' tk vs,(∀b o,s.heap.get? b=ah o->h'.get? b=ah o)->dn w.params S vs ks->R vs {s with heap:=h',toks:=tk})->aW (bn prog w) A.in1 (collect u) R E s)
 (h:∀a h' tk out ys c,(∀b o,s.heap.get? b=ah o->h'.get? b=ah o)->s.heap.get? a=ai->h'.get? a=ah (W.listOf out.toArray c)->dn w.params S out ys->ys.Perm ks->dA ys->Q (.ref a) {s with heap:=h',toks:=tk}):
 aW (bn prog w) A (call (.builtin "sorted") [u]) Q E s:=by
 refine Calls.call_function_entry kind_sorted plain_sorted entry_sorted (args_sorted1 _) ?_;unfold Builtin.«sorted»;refine aw (m:=checkCount "sorted" 1 1 _) (az ?_);refine aw (i _ _ λ h₁ tk vs hk r=>?_);have j:=r.length;refine aw (wpAny_newList ?_ (by exact JY j g));have d:(h₁.push (wW "list" vs.toArray 0)).get? h₁.objs.size=ah (wW "list" vs.toArray 0):=bQ _ rfl;refine aw (bE (dS slot_list_sort ⟨_,d,rfl⟩ entry_list_sort (EN (λ b o e=>⟨cm (cq (hk b o (hS b o e))),aL _ (hk b o (hS b o e))⟩) d (OS j g) r n λ out ys a1 p q=>⟨_,rfl,?_⟩) (args_list_sort _)));refine ze (sortedHeap_at (vs:=vs) (out:=out.toArray) d) λ c i=>?_;refine az ⟨_,rfl,h _ _ tk out ys c (λ b o e=>?_) ?_ i a1 p q⟩
 ·have f:b<h₁.objs.size:=cq (hk b o e);exact (sortedHeap_old (cm f) (by simp only[size_push'];exact cD f)).trans (aL _ (hk b o e))
 ·cases l:s.heap.get? h₁.objs.size with
  |none=>rfl
  |some o=>exact absurd (cq (hk _ _ l)) (bB _)
theorem kK{v:V}(ok:O.Ok)(i:LV Y v xs)(d:xs.length<64)(f:∀x∈xs,Sh k x)(h:∀ys,ys.Perm xs->dA ys->mQ Q Y ys):cU O Ex (.builtin "sorted") [v] Q Y:=.one λ Kp Jj s u R g=>by obtain ⟨a,vs,n,e,rs⟩:=i.at R g;refine qO R.sub d f (λ E R' q=>collect_list ⟨_,e,rfl,_,rfl⟩ (q _ s.toks _ (λ b o e=>?_) (rs.mono (.refl _))) (by rw[rs.length];exact bc (aH ‹_› (by decide)))) λ a h' tk out ys c k1 k2 k3 a1 j l=>R.Ta (tk:=tk) ok k1 k2 k3 a1 (h ys j l);exact (fG _ _ _ _ (cm (cq e))).trans (aL _ e)
theorem wc{P:bS}{rows:List (Int×Value)}{acc:Array Value}(h:ItemsOf (λ i v=>∃k x,rows[i]? =ah (k,x)/\(ki prog w).is k v=aj) acc rows.length):dn P S acc.toList (rows.map λ r=>V.int r.1):=by refine dn.SG (by simp[h.1]) λ i u v c b=>?_;refine hQ (h.2 i u (by simpa using c)) λ k x d hk=>?_;simp[d]at b;refine ze (AW hk) λ t a=>?_;subst a;subst b;exact .int _ _
theorem kL{v:V}(ok:O.Ok)(m:DV Y v kvs)(g:kvs.length<64)(l:∀p∈kvs,kk p.1=1)(nd:(kvs.map (·.1)).Nodup)(h:∀ys,ys.Perm (kvs.map (·.1))->dA ys->mQ Q Y ys):cU O Ex (.builtin "sorted") [v] Q Y:=.one λ Kp Jj s u R o=>by
 obtain ⟨a,es,n,e,rs,lo⟩:=m.at R o;refine eB (un (prog:=O.G.prog) (w:=O.G.w) e rs l nd) λ rows y B d=>?_;refine qO (k:=0) (ks:=kvs.map (·.1)) R.sub (by simpa using g) (λ x z=>?_) (λ E R' q=>?_) λ b h' tk out ys c k1 k2 k3 a1 C r=>R.Ta (tk:=tk) ok k1 k2 k3 a1 (h ys C r)
 ·refine b5 (aC.mp z) λ p t j=>?_;subst j;refine ze (nt (l p t)) λ i e=>?_;simp only[e];exact .int i
 ·refine kdu_collect (A:=O.A.in1) (kdl_dict (knd:=ki O.G.prog O.G.w) (kvs:=rows) (ep:=n) lo) ok.hand y (by exact JY d g) λ h' tk acc hk f=>q h' tk _ hk ?_;simp only[<-B];exact wc f
theorem FX{v:V}(ok:O.Ok)(g:DV Y v kvs)(hz:kvs.length<=2^20)(i:∀p∈kvs,kk p.1=1)(nd:(kvs.map (·.1)).Nodup)(h:mQ Q Y (kvs.map (·.1))):cU O Ex (.type "list") [v] Q Y:=.one λ Kp Jj s u R l=>by obtain ⟨a,es,n,e,rs,lo⟩:=g.at R l;refine eB (un (prog:=O.G.prog) (w:=O.G.w) e rs i nd) λ rows f j d=>?_;refine kdl_call (kdl_dict (knd:=ki O.G.prog O.G.w) (kvs:=rows) (ep:=n) lo) ok.hand f (by exact OR d hz) λ h' tk acc c hk k b=>?_;refine R.Ta (tk:=tk) (us:=acc.toList) (n:=c) ok hk (dm _) (by exact k) ?_ h;simp only[<-j];exact wc b
theorem Ak(ok:O.Ok)(hz:x.cps.size<=2^20)(h:mQ Q Y (x.cps.toList.map λ c=>V.str ⟨#[c]⟩)):cU O Ex (.type "list") [.str x] Q Y:=.one λ Kp Jj s u R l=>by refine ze (yk l) λ t d=>?_;subst d;refine call_list_str ok.hand x t (λ h' tk acc c hk j a=>?_) (by exact aA ‹_› (by decide));refine R.Ta (tk:=tk) (us:=acc.toList) (n:=c) ok hk (dm _) (by exact j) ?_ h;refine dn.SG (by simp[a.1]) λ i u v f e=>?_;refine hQ (a.2 i u (by simpa using f)) λ k t g b=>?_;subst b;simp[g]at e;subst e;exact .str _ _
set_option maxRecDepth 8000 in
theorem w7{a:aG}{vs:Array Value}{Q:Option Value->aQ->Prop}(l:s.heap.get? a=ah (dZ vs k))(u:A.handled=ai)(h:∀h' tk,(∀b o,s.heap.get? b=ah o->h'.get? b=ah o)->Q ai {s with heap:=h',toks:=tk}):aW (bn prog w) A (getAttr? (.ref a) "keys") Q E s:=by
 obtain ⟨p,g,d,tk,os⟩:=s;have n:∀f,(⟨p,g,d,f,os⟩:aQ).TypeIs (.ref a) "tuple":=λ Z=>⟨_,l,rfl⟩;have m:=sub_AttributeError;have x:=F.slot_tuple_getattribute.lookup;have y:=F.slot_tuple_getattribute.bind (.ref a);have v:=am_tuple_getattr_none;unfold getAttr? getAttrBy? getAttrBy
 repeat (any_goals (first|assumption|exact n _|((with_reducible show aW _ _ (call (nG "tuple.__getattribute__") _ _) _ _ _);refine kZ F.slot_tuple_getattribute (n _) am_entry_tuple_getattribute (F.args_tuple_getattribute_2 _ _) (meets_getattribute_miss_tuple a vs k #[] "keys" _ (am_miss_of_fast (by decide+kernel)) (by decide+kernel)) ⟨l,u,λ h' f e c=>?_⟩)|wp_step))
 refine fx c.of.there λ o r t q Z=>?_;have j:∀i,(⟨h',g,d,i,os⟩:aQ).TypeIs (.ref e) "AttributeError":=λ Z=>⟨_,t,q⟩;show aW _ _ (getattributeRaised _ _ _ _ _ _ _) _ _ _;skip;refine aw (jm (j _) m ?_);skip
 repeat (any_goals (first|assumption|exact j _|(with_reducible refine aw (jm (j _) m ?_))|wp_step))
 exact h _ _ c.of.keeps
theorem VR.pair{P:bS}{x y:V}(h:VR P S u (.tup [x,y])):∃a m v w,u=.ref a/\S a (dZ (dr [v,w]) m)/\VR P S v x/\VR P S w y:=
 h.RL (Q:=λ u=>∃a m v w,u=.ref a/\S a (dZ (dr [v,w]) m)/\VR P S v x/\VR P S w y) λ a vs m e r=>r.U5 (Qs:=λ vs=>S a (dZ (dr vs) m)->∃b m v w,eT a=.ref b/\S b (dZ (dr [v,w]) m)/\VR P S v x/\VR P S w y) (λ v w p q e=>⟨a,m,v,w,rfl,e,p,q⟩) e
theorem ty:entryFor table "dict.update.loop"=ah Builtin.«dict.update.loop»:=entryFor_of_tree (by kernel_rfl)
theorem mq:plainId "dict.update.loop"=aj:=by decide+kernel
theorem Bp{k v:V}(hk:kk k=1)(c:∀p∈kvs,kk p.1=1)(d:k∉kvs.map (·.1)):iw k v kvs=kvs++[(k,v)]:=by refine ml (dv.mpr λ p b=>?_);refine ze (nt (c p b)) λ i e=>?_;refine ze (nt hk) λ j a=>?_;subst a;rw[e,k7];refine decide_eq_false λ q=>d ?_;simp only[<-q,<-e];exact bq b
theorem Ag{R:qz->aQ->Prop}{S:b9}{d I a:aG}{vs:List Value}{n:Nat}{ps:List (V×V)}{h₀:Heap}(hS:∀b o,S b o->h₀.get? b=ah o)(hA:A.handled=ai)(hu:A.units+60<fe)(hsz:vs.length<=1000)
 (z:d≠I) (ZV:h₀.get? d=ai) (C:h₀.get? I=ai) (ha:h₀.get? a=ah (dZ vs.toArray n)) (hv:dn w.params S vs (ps.map λ p=>V.tup [p.1,p.2])) (hk:∀p∈ps,kk p.1=1) (nd:(ps.map (·.1)).Nodup):
 ∀(k i:Nat) (s:aQ) (es:List bN) (ep:Nat),i+k=vs.length->s.heap.get? d=ah (W.dictOf es ep)->ge w.params S es (ps.take i)->s.heap.IsTupleIter I a i->
  (∀b o,h₀.get? b=ah o->s.heap.get? b=ah o)->
  (∀h' tk RY t,(∀b o,h₀.get? b=ah o->h'.get? b=ah o)->h'.get? d=ah (W.dictOf RY t)->ge w.params S RY ps->R (.ok (.ret .none)) {s with heap:=h',toks:=tk})->
  gi (bn prog w) A (.builtin "dict.update.loop" ⟨[.ref d,.ref I,.int i 0,.none],[]⟩) R s:=by
 have h:ps.length=vs.length:=(au _).symm.trans hv.length.symm;have L:A.units+41<fe:=aR (jz (by decide) _) hu;intro k;induction k with
 |zero=>intro i s es ep j hd F Q f hR;have U:i=vs.length:=j;refine codeAny_builtin ty ?_;rw[Around.under_plainId mq _];show aW _ A.in1 (wY (.ref I)>>=_) _ _ s;refine aw (A3 hA Q ⟨_,f _ _ ha,rfl,_,rfl⟩ (by rw[b6];exact bl (cu (bA ‹_›))) λ h' he=>?_);refine aw (az ?_);refine az (hR h' s.toks es ep (λ b o e=>he b o (λ q=>by rw[q,C]at e;cases e) (f b o e)) (he _ _ z hd) ?_);rw[lL (cu (h.trans U.symm))]at F;exact F
 |succ k ih=>
  intro i s es ep j hd F Q f hR;have g:i<ps.length:=h▸j▸ig (cr k);refine b5 (hv.get (i:=i) (v:=.tup [ps[i].1,ps[i].2]) (by simp[g])) λ u H K=>?_;refine codeAny_builtin ty ?_;rw[Around.under_plainId mq _];show aW _ A.in1 (wY (.ref I)>>=_) _ _ s;refine aw (AO Q ⟨_,f _ _ ha,rfl,_,rfl⟩ (x:=u) (by rw[b6];exact H) λ h' Z hs=>?_);have k1:∀b o,h₀.get? b=ah o->h'.get? b=ah o:=λ b o e=>(hs.2 b (λ q=>by rw[q,C]at e;cases e)).trans (f b o e);refine Bc K.pair λ c m O N Y e r1 r2=>?_;subst Y;have hc:h'.get? c=ah (dZ [O,N].toArray m):=k1 _ _ (hS _ _ e);refine aw (bE ?_);refine aw (wpAny_tryCatch ?_);unfold Builtin.Dict.pairItems;refine aw (wpAny_typeOf (T:="tuple") ⟨_,hc,rfl⟩ ?_);rw[if_pos (by decide)];refine aw (wpAny_seqItems hc rfl ?_);refine az ?_;show aW _ _ (kj [O,N] (A8 d O N)) _ _ _;refine bE ?_;have G:=hk ps[i] (cI g);have r:∀p∈ps.take i,kk p.1=1:=λ p P=>hk p (cG P);have y:((ps.take (i+1)).map (·.1)).Nodup:=by rw[g5];exact nd.sublist (fj _ _)
  rw[aS g,aK,aV]at y;have E:ps[i].1∉(ps.take i).map (·.1):=λ q=>y.2.2 _ q _ (by simp) rfl;refine oL (s:={s with heap:=h'}) (λ b o e=>k1 b o (hS b o e)) L ((hs.2 d z).trans hd) F (k:=ps[i].1) ⟨λ e=>absurd (G.symm.trans e) (by decide),λ p P=>(r p P).trans G.symm,y.1⟩ r1 r2 (gP (aA (List.length_take_le _ _) (aA (bc (h▸g)) (aA hsz (by decide))))) λ M RY t tk sb B l=>?_
  rw[Bp G r E,<-aS g]at l;show aW _ _ (again _) _ _ _;refine az ⟨plainId_quiet mq _,?_⟩;refine eB Z λ oI X J D=>?_;exact ih (i+1) {s with heap:=M,toks:=tk} RY t ((cT i 1 k).trans j) B l ⟨oI,(sb.2 I (Ne.symm z)).trans X,J,D⟩ (λ b o e=>(sb.2 b (λ q=>by rw[q,ZV]at e;cases e)).trans (k1 b o e)) hR
theorem pS{S:b9}{a:aG}{vs:List Value}{n:Nat}{ps:List (V×V)}{Q:Value->aQ->Prop}(hS:∀b o,S b o->s.heap.get? b=ah o)(u:A.handled=ai)(x:A.units+80<fe)(hsz:vs.length<=1000)
 (v:s.heap.get? a=ah (dZ vs.toArray n)) (y:dn w.params S vs (ps.map λ p=>V.tup [p.1,p.2])) (hk:∀p∈ps,kk p.1=1) (nd:(ps.map (·.1)).Nodup)
 (h:∀h' tk RY j,(∀b o,s.heap.get? b=ah o->h'.get? b=ah o)->h'.get? s.heap.objs.size=ah (W.dictOf RY j)->ge w.params S RY ps->Q (.ref s.heap.objs.size) {s with heap:=h',toks:=tk}):
 aW (bn prog w) A (call (.type "dict") [.ref a]) Q E s:=by
 refine callType_codes (Q₁:=λ l g=>l=.ref s.heap.objs.size/\g={s with heap:=s.heap.push {cls:=.type "dict",data:=.dict #[]}}) F.kt_called_dict (F.kt_typeCall_dict_1 _) F.entry_dict_init (kt_code_dict_new _ ⟨rfl,rfl⟩) ?_
 rintro l g ⟨rfl,rfl⟩;have f:(s.heap.push {cls:=.type "dict",data:=.dict #[]}).get? s.heap.objs.size=ah (W.dictOf [] 0):=bQ _ rfl;have i:(s.heap.push {cls:=.type "dict",data:=.dict #[]}).get? a=ah (dZ vs.toArray n):=aL _ v;refine ⟨⟨_,f,rfl⟩,F.args_dict_init_2 _ _,?_⟩;unfold Builtin.«dict.__init__»;refine aw ?_;dsimp only[Builtin.Dict.selfAndRest];refine aw (gx ⟨_,f,rfl⟩ ?_);show aW _ _ (pure (s.heap.objs.size,[eT a])) _ _ _;refine az ?_;show aW _ _ (Builtin.Dict.updateFrom "dict.__init__" s.heap.objs.size (.ref a) [] .none) _ _ _;dsimp only[Builtin.Dict.updateFrom];refine aw (wpAny_typeOf (T:="tuple") ⟨_,i,rfl⟩ ?_);skip;refine aw (w7 (s:={s with heap:=s.heap.push {cls:=.type "dict",data:=.dict #[]}}) i (by first|exact u|simpa using u) λ h₁ r c=>?_)
 refine wpAny_ite_split (λ Z=>?_) (λ q=>absurd rfl q);refine aw (iq ?_);refine aw (Hw (t:=a) (items:=vs.toArray) ⟨_,c _ _ i,rfl,_,rfl⟩ ?_);have m:=c _ _ f;have k:s.heap.objs.size<h₁.objs.size:=cq m;refine az ⟨plainId_quiet mq _,?_⟩;refine Ag (A:=A.in1) (S:=S) (d:=s.heap.objs.size) (I:=h₁.objs.size) (a:=a) (vs:=vs) (n:=n) (ps:=ps) (h₀:=s.heap) hS u (by show A.units+1+60<fe;exact OQ x) hsz (cm k) (dm _) (el (bc k)) v y hk nd
  vs.length 0 _ [] 0 (cQ _) (aL _ m) .nil ⟨_,bQ _ rfl,rfl,rfl⟩ (λ b o e=>aL _ ((λ b o e=>c _ _ (aL _ e)) b o e)) λ h' tk RY j k1 k2 k3=>⟨rfl,h h' tk RY j k1 k2 k3⟩
theorem wq{ps:List (V×V)}(ok:O.Ok)(hz:ps.length<=1000)(hk:∀p∈ps,kk p.1=1)(nd:(ps.map (·.1)).Nodup)(h:∀a,Q (.ref a) ⟨Y.vals,(a,.dict ps)::Y.mu⟩):cU O Ex (.type "dict") [.tup (ps.map λ p=>V.tup [p.1,p.2])] Q Y:=λ Kp Jj s us R d=>by cases d with|cons h1 h2=>cases h2;cases h1 with|tup e rs=>exact pS (S:=Kp) R.sub ok.hand (by have:=ok.units;exact OP this) (by rw[rs.length];simpa using hz) (R.sub _ _ e) rs hk nd λ h' tk RY f k1 k2 k3=>⟨.ref _,_,Kp,.refl _,R.Vc (p:=(_,.dict ps)) ok k1 (λ b c=>by simp[ch]at c;rw[c];exact dm _) (.dict (R.SO ok) k2 k3) (by simp[ch]),.ref _,h _⟩
noncomputable def rI(kb:List (V×V))(p:V×V):Bool:=match eE kb p.1 with|some y=>gE p.2 y|none=>ao
noncomputable def Dg(ka kb:List (V×V)):Bool:=ka.length==kb.length&&ka.all (rI kb)
theorem Aa{p:V×V}(h:kb.findIdx? (λ q=>gE q.1 p.1)=ai):rI kb p=ao:=by unfold rI;rw[(show eE kb p.1=ai by unfold eE;rw[List.find?_eq_none.mpr λ q a=>by simpa using dv.mp h q a];rfl)]
theorem z_{p:V×V}(h:kb.findIdx? (λ q=>gE q.1 p.1)=ah j):∃d:j<kb.length,rI kb p=gE p.2 kb[j].2:=by
 refine QC (fb.mp h) λ a b c=>?_;have:eE kb p.1=ah kb[j].2:=by unfold eE;rw[show kb.find? (λ q=>gE q.1 p.1)=ah kb[j] from List.find?_eq_some_iff_getElem.mpr ⟨b,j,a,rfl,λ k hk=>by simpa using c k hk⟩];rfl
 exact ⟨a,by unfold rI;rw[this]⟩
inductive Rf(ka kb:List (V×V))(s:aQ)(rest:List Nat)(q:Option Bool×Unit)(s':aQ):Prop
 |mk (i k:Nat) (e:s'=s) (eq:q=(ai,())) (er:rest=List.range' i k) (hk:i+k=ka.length) (h:(ka.drop i).all (rI kb)=ka.all (rI kb))
theorem vf{N:String}{a b:aG}{RY:List bN}{C:Nat}{Q:Bool->aQ->Prop}(hS:∀b o,S b o->s.heap.get? b=ah o)(J:A.units+60<fe)(T:(a==dD)=ao)(v:(b==dD)=ao)(d:s.heap.get? a=ah (W.dictOf es ep))(m:s.heap.get? b=ah (W.dictOf RY C))(H:ge w.params S es ka)(y:ge w.params S RY kb)(X:c≠0)(F:∀p∈ka,kk p.1=c/\lU 8 p.2=aj)(t:∀p∈kb,kk p.1=c/\lU 8 p.2=aj)(nd:(kb.map (·.1)).Nodup)(h:Q (Dg ka kb) s):aW (bn prog w) A (Builtin.Dict.samePairs N a b) Q E s:=by
 have r:=H.length;have G:=y.length;unfold Dg at h;rw[<-r,<-G]at h;unfold Builtin.Dict.samePairs Builtin.Dict.showsAll;rw[if_neg (show ¬(a==dD)=aj by rw[T];exact dj),if_neg (show ¬(b==dD)=aj by rw[v];exact dj)];refine aw (az (aw (az ?_)));refine aw (gD d rfl ?_);dsimp only;refine aw (gD m rfl ?_);rw[bI,bI];by_cases hsz:es.length=RY.length
 case neg=>rw[if_pos (by simpa using hsz)];rw[(show (es.length==RY.length)=ao by simpa using hsz),Bool.false_and]at h;exact aw (iq (az h))
 case pos=>
  rw[if_neg (by rw[hsz];simp)];have h':Q (ka.all (rI kb)) s:=by simpa[hsz]using h
  refine aw (wpAny_dictEpoch d rfl ?_);refine aw ?_;rw[Std.Legacy.Range.forIn_eq_forIn_range'];simp only[Std.Legacy.Range.size,Nat.sub_zero,j_,Nat.div_one];refine tH _ (Rf ka kb s) _ ?_ ?_ _ _ ⟨0,es.length,rfl,rfl,by simp,by rw[r];exact cQ _,rfl⟩
  ·intro x M q s' ⟨i,k,u,n,e,hk,S8⟩;subst u;subst n;cases k with
   |zero=>cases e
   |succ k=>
   rw[D8]at e;refine za (List.cons.inj e) λ B e=>?_;subst B;have l:x<ka.length:=hk▸ig (cr k);refine aw (gD d rfl ?_);obtain ⟨K,u,n,R,V⟩:=H.get (ay l);rw[b6,u];rw[kh l,u6]at S8;have z:=F _ (cI l);show aW _ _ (kj [K.key,K.val] _>>=_) _ _ _;rw[n];have I:rI kb ka[x]=ao->Q ao s':=λ D=>by rw[D,Bool.false_and]at S8;rw[<-S8]at h';exact h'
   refine aw (bE (aw (k8 hS (OO J) m y ⟨by rw[z.1];exact X,λ p P=>(t p P).1.trans z.1.symm,nd⟩ R ?_)));cases L:kb.findIdx? λ p=>gE p.1 ka[x].1 with
   |none=>refine az ?_;show aW _ _ (if (!ao)=aj then _ else _) _ _ _;rw[if_pos (by decide)];exact az (az (I (Aa L)))
   |some j=>
    refine zd (z_ L) λ g D=>?_;obtain ⟨f,O,Y,Z,U⟩:=y.get (ay g);refine aw (gD m rfl ?_);rw[b6,O];refine bE (yS hS 8 A z.2 (t _ (cI g)).2 V U (ON J) prog w _ _ ?_);rw[<-D];cases v:rI kb ka[x]with
    |false=>show aW _ _ (if (!ao)=aj then _ else _) _ _ _;rw[if_pos (by decide)];exact az (az (I v))
    |true=>rw[v,Bool.true_and]at S8;show aW _ _ (if (!aj)=aj then _ else _) _ _ _;rw[if_neg (by decide)];refine aw (wpAny_dictEpoch d rfl ?_);rw[if_neg (by simp)];exact az ⟨x+1,k,rfl,rfl,e,(cT x 1 k).trans hk,S8⟩
  ·intro q s' ⟨i,k,u,n,e,hk,S8⟩;subst u;subst n;cases k with
   |succ k=>rw[D8]at e;exact nomatch e
   |zero=>refine az ?_;rw[show i=ka.length from hk,iZ]at S8;rw[<-S8]at h';exact h'
theorem Bv{a b:aG}{es RY:List bN}{ep e:Nat}{r:Bool}{Q:Value->aQ->Prop}(d:s.heap.get? a=ah (W.dictOf es ep))(c:s.heap.get? b=ah (W.dictOf RY e))(i:A.units<fe)
 (j:∀g Q E,Q r s->aW (bn prog w) A.in1 (Builtin.Dict.samePairs g a b) Q E s) (h:Q (.bool r) s):
 aW (bn prog w) A (cK .Eq (.ref a) (.ref b)) Q E s:=by
 have f:s.TypeIs (.ref a) "dict":=⟨_,d,rfl⟩;refine wR (op:=.Eq) f ⟨_,c,rfl⟩ PySem.F.slot_dict_eq (dS PySem.F.slot_dict_eq f PySem.F.entry_dict_eq ?_ (PySem.F.args_dict_eq_2 _ _)) i;show aW _ _ (Builtin.Dict.dictSlotArgs "__eq__" ⟨[.ref a,.ref b],[]⟩>>=_) _ _ s;refine aw ?_;skip;refine aw (gx f ?_);show aW _ _ (pure (eT a,eT b)) _ _ s;refine az ?_;refine aw (jm (T:="dict") ⟨_,c,rfl⟩ PySem.F.sub_dict_dict ?_);simp only[g8,dG,if_false];refine aw (az (aw (az ?_)));refine aw (j _ _ _ ?_);exact az ⟨_,rfl,(λ x=>nomatch x),by simpa using h⟩
theorem Bu{a b:aG}{es RY:List bN}{ep e:Nat}{r:Bool}{Q:Value->aQ->Prop}(d:s.heap.get? a=ah (W.dictOf es ep))(c:s.heap.get? b=ah (W.dictOf RY e))(i:A.units<fe)
 (j:∀g Q E,Q r s->aW (bn prog w) A.in1 (Builtin.Dict.samePairs g a b) Q E s) (h:Q (.bool (!r)) s):
 aW (bn prog w) A (cK .NotEq (.ref a) (.ref b)) Q E s:=by
 have f:s.TypeIs (.ref a) "dict":=⟨_,d,rfl⟩;refine wR (op:=.NotEq) f ⟨_,c,rfl⟩ PySem.F.slot_dict_ne (dS PySem.F.slot_dict_ne f PySem.F.entry_dict_ne ?_ (PySem.F.args_dict_ne_2 _ _)) i;show aW _ _ (Builtin.Dict.dictSlotArgs "__ne__" ⟨[.ref a,.ref b],[]⟩>>=_) _ _ s;refine aw ?_;skip;refine aw (gx f ?_);show aW _ _ (pure (eT a,eT b)) _ _ s;refine az ?_;refine aw (jm (T:="dict") ⟨_,c,rfl⟩ PySem.F.sub_dict_dict ?_);simp only[g8,dG,if_false];refine aw (az (aw (az ?_)));refine aw (j _ _ _ ?_);exact az ⟨_,rfl,(λ x=>nomatch x),by simpa using h⟩
inductive N2(O:FC)(ka kb:List (V×V))(s:aQ)(ua ub:Value):Prop
 |mk (a b:aG) (es RY:List bN) (ep ep':Nat) (e:ua=.ref a) (e':ub=.ref b) (h1:s.heap.get? a=ah (W.dictOf es ep)) (h2:s.heap.get? b=ah (W.dictOf RY ep')) (h3:∀nm Q E,Q (Dg ka kb) s->aW (bn O.G.prog O.G.w) O.A.in1 (Builtin.Dict.samePairs nm a b) Q E s)
theorem tA{v w:V}(ok:O.Ok)(l:DV Y v ka)(u:DV Y w kb)(x:c≠0)(g:∀p∈ka,kk p.1=c/\lU 8 p.2=aj)(f:∀p∈kb,kk p.1=c/\lU 8 p.2=aj)(nd:(kb.map (·.1)).Nodup)(R:cS O Y Kp Jj s){i j:Value}(t:VR O.P Kp i v)(o:VR O.P Kp j w):N2 O ka kb s i j:=by obtain ⟨a,es,n,e,rs,q⟩:=l.at R t;obtain ⟨b,RY,m,k,d,r⟩:=u.at R o;exact ⟨a,b,es,RY,n,m,rfl,rfl,e,k,λ y Q E h=>vf R.sub (by have:=ok.units;show O.A.units+1+60<fe;exact OM this) q r e k rs d x g f nd h⟩
theorem M8{v w:V}(ok:O.Ok)(g:DV Y v ka)(m:DV Y w kb)(o:c≠0)(e:∀p∈ka,kk p.1=c/\lU 8 p.2=aj)(d:∀p∈kb,kk p.1=c/\lU 8 p.2=aj)(nd:(kb.map (·.1)).Nodup)(h:Q (.bool (Dg ka kb)) Y):iF O Ex (cK .Eq) (VR O.P) v w Q Y:=λ Kp Jj s q r R k i=>by obtain ⟨a,b,es,RY,ep,n,rfl,rfl,l,f,j⟩:=tA ok g m o e d nd R k i;exact Bv l f (by have:=ok.units;exact JX this) j (fin _ _ R (.bool _) h)
theorem G8{v w:V}(ok:O.Ok)(g:DV Y v ka)(m:DV Y w kb)(o:c≠0)(e:∀p∈ka,kk p.1=c/\lU 8 p.2=aj)(d:∀p∈kb,kk p.1=c/\lU 8 p.2=aj)(nd:(kb.map (·.1)).Nodup)(h:Q (.bool (!Dg ka kb)) Y):iF O Ex (cK .NotEq) (VR O.P) v w Q Y:=λ Kp Jj s q r R k i=>by obtain ⟨a,b,es,RY,ep,n,rfl,rfl,l,f,j⟩:=tA ok g m o e d nd R k i;exact Bu l f (by have:=ok.units;exact JX this) j (fin _ _ R (.bool _) h)
theorem yj{l r:Expr}(h:XV O Ex (bw l O.env) (kR O Ex r (Jq O Ex (cK op) Q)) Y)(p:zl op r=ao):XV O Ex (bw (.Compare l [op] [r] pos) O.env) Q Y:=λ Kp Jj s R=>wpAny_Compare1 (h.Rr R λ n k a i Kk l₁ d q h₁=>h₁.Rr d λ o Rw b j f l₂ c m g=>aY (g f Jj Rw n o c (q.mono l₂) m) (λ Z Z x=>up (l₁.trans l₂) x) λ Z Z e=>e) p
theorem HP{x y:Expr}{pos:gY}{Q:V->St->Prop}(h:XV O Ex (bw x O.env) (λ v c=>∃b,v=.bool b/\if b=aj then XV O Ex (bw y O.env) Q c else Q v c) Y):
 XV O Ex (bw (.BoolOp .And [x,y] pos) O.env) Q Y:=λ Kp Jj s R=>wpAny_And2 (h.Rr R λ i f a c Kk l₁ d g h₁=>by
 obtain ⟨b,rfl,h₁⟩:=h₁;cases g;refine fE ?_;cases b with
 |true=>exact aY (h₁ Kk Jj f d) (λ Z Z x=>up l₁ x) λ Z Z e=>e
 |false=>exact ⟨_,c,Kk,l₁,d,.bool _,h₁⟩)
theorem yi{k v:Expr}{pos:gY}{Q:V->St->Prop}(ok:O.Ok)
 (h:∀a,XV O Ex (bw k O.env) (λ m f=>XV O Ex (bw v O.env) (λ y c=>kk m≠0/\∃i:Nat,c.mu[i]? =ah (a,.dict [])/\Q (.ref a) ⟨c.vals,c.mu.set i (a,.dict [(m,y)])⟩) f) ⟨Y.vals,(a,.dict [])::Y.mu⟩):
 XV O Ex (bw (.Dict [ah k] [v] pos) O.env) Q Y:=λ Kp Jj s R=>by
 refine wpAny_Dict_any rfl rfl (by simp) (by simp) ?_;refine pairTrees_cons_walk ((h _).Rr (R.T2 (p:=(s.heap.objs.size,.dict [])) (o:=W.dictOf [] 0) (tk:=s.toks) ok rfl (.dict (n:=0) (es:=[]) (R.SO ok) (bQ _ rfl) .nil)) λ B r a f Kk l₁ g z h₁=>h₁.Rr g λ C Rw b c l l₂ d t j=>pairTrees_nil_walk ?_);refine Ev j λ hk i hi q=>?_;unfold storeAll;rw[jl];cases d.mu _ (aX hi)with
 |dict A e rs=>refine aw (aw (oL d.sub (by have:=ok.units;exact Pn this) e rs ⟨hk,(λ Z h=>nomatch h),bL⟩ (z.mono l₂) t (by simp) λ h' RY u tk x hd w=>az ?_));show aW _ _ (forIn [] PUnit.unit _) _ _ _;rw[List.forIn_nil];exact az ⟨.ref _,_,l,l₁.trans l₂,d.SW (q:=(s.heap.objs.size,.dict [(a,b)])) ok hi rfl (a:=s.heap.objs.size) (by simp[ch]) x ⟨_,hd⟩ (.dict A hd w),.ref _,q⟩
noncomputable def Around.made(A:Around):Around:={A with depth:=A.depth+1,units:=A.units+1}
theorem qI(C:aG)(r:List Value)(A:Around):A.under (.builtin "type.__call__" ⟨.ref C::r,[]⟩)=Around.made A:=by have a:=A;kernel_rfl
theorem DN.made{g:Heap}{l:aG}{h:Heap}(S:DN G (d+1) A g l h){h':Heap}(k:∀b o,h.get? b=ah o->h'.get? b=ah o):DN G d (Around.made A) g l h':=by obtain ⟨⟨c,base,outer,e,m,B,F,p,n,j⟩,i,top,f,a,units⟩:=S;exact ⟨⟨c,base,outer,e,m,B,F.keeps k,p,n,j⟩,i,top,f,by show A.depth+1+d<900;exact JW a,by show A.units+1+40*d+100<fe;exact OL units⟩
theorem n4{args:List V}(hm:makesIn G.K C=aj)(hi:hP G.K (.ref C) "__init__"=ah (ah (.ref fI)))(P:lO G.K (.ref fI)=ah (.type "function"))(H:∀x dx,cF G d (.ref fI) (.ref x::args) ((x,.inst C dx [])::J) (λ v J'=>v=.none/\post (.ref x) J')):cF G (d+1) (.ref C) args J post:=by
 intro A g S s us S₀ Q hS M R hN U Y;have i:G.K.In s.heap:=by obtain ⟨⟨z,base,outer,E,m,B,F,hA,P,O⟩,i,_⟩:=Q;exact i.keeps F.keep
 obtain ⟨c,g',d',t,os⟩:=s;have k:∀b o,c.get? b=ah o->((c.push tJ).push (io C c.objs.size)).get? b=ah o:=λ b o e=>aL _ (aL _ e);have I:c.get? c.objs.size=ai:=dm _;have L:c.get? (c.objs.size+1)=ai:=el (gA _);have j:∀b,c.get? b=ai->g.get? b=ai/\b≠S:=λ b e=>by
  obtain ⟨⟨z,base,outer,E,m,B,F,hA,P,O⟩,_⟩:=Q;constructor
  ·cases q:g.get? b with
   |none=>rfl
   |some o=>rw[F.keep _ _ q]at e;cases e
  ·rintro rfl;refine mN F.ns λ o Z Z w Z=>?_;rw[w]at e;cases e
 have K:addrs ((c.objs.size+1,MO.inst C c.objs.size [])::J)=[c.objs.size+1,c.objs.size]++addrs J:=rfl;have y:∀b∈addrs J,∃o,c.get? b=ah o:=λ b f=>by refine b5 (bX.mp f) λ p l f=>?_;exact (R p l).live b f
 refine make_core (makes_of i hm) (g9 i hi) (λ D=>bind_fn i D P) (.inl rfl) ?_;rw[qI];have hx:((c.push tJ).push (io C c.objs.size)).get? (c.objs.size+1)=ah (io C c.objs.size):=by heap_get
 have hd:((c.push tJ).push (io C c.objs.size)).get? c.objs.size=ah tJ:=by heap_get
 refine kr (H (c.objs.size+1) c.objs.size (Around.made A) g S ⟨(c.push tJ).push (io C c.objs.size),g',d',t,os⟩ (.ref (c.objs.size+1)::us) S₀ (Q.made k) (λ b o e=>⟨k _ _ (hS b o e).1,λ f=>?_⟩) M (λ p l=>?_) ?_ (λ b f=>?_) (.cons (.ref _) Y)) ?_
 ·rw[K]at f;rcases aM.mp f with h|h
  ·have:=(hS b o e).1;rcases aI.mp h with h|h
   ·rw[h,L]at this;cases this
   ·rw[aE.mp h,I]at this;cases this
  ·exact (hS b o e).2 h
 ·rcases aI.mp l with rfl|l
  ·exact .inst (es:=[]) (n:=0) hx hd .nil
  ·exact (R p l).mono (.refl _) λ b Z o e=>k b o e
 ·rw[K,aV];refine ⟨by simp,hN,λ a ha b f e=>?_⟩;subst e;refine ze (y a f) λ o w=>?_;rcases aI.mp ha with h|h
  ·rw[h,L]at w;cases w
  ·rw[aE.mp h,I]at w;cases w
 ·rw[K]at f;rcases aM.mp f with h|h
  ·rcases aI.mp h with h|h
   ·rw[h];exact j _ L
   ·rw[aE.mp h];exact j _ I
  ·exact U b h
 ·rintro r s' ⟨u,v,J',S',rfl,st,keep,al,le,VI,UA,T3,UJ,hv,rfl,l⟩;cases hv;refine ⟨rfl,_,.ref (c.objs.size+1),J',S',rfl,st,λ b o e W=>keep b o (k b o e) ?_,λ b o e=>al b o (k b o e),le,λ b o e=>?_,UA,T3,λ b f=>?_,.ref _,l⟩
  ·rw[K];intro f;rcases aM.mp f with h|h
   ·rcases aI.mp h with h|h
    ·rw[h,L]at e;cases e
    ·rw[aE.mp h,I]at e;cases e
   ·exact W h
  ·refine jA (VI b o e) λ X T h3=>?_;refine ⟨X,T,h3.imp id λ q=>?_⟩;cases N:c.get? b with
   |none=>rfl
   |some o'=>rw[k _ _ N]at q;cases q
  ·rcases UJ b f with h|h
   ·rw[K]at h;rcases aM.mp h with h|h
    ·rcases aI.mp h with h|h
     ·rw[h];exact .inr L
     ·rw[aE.mp h];exact .inr I
    ·exact .inl h
   ·refine .inr ?_;cases N:c.get? b with
    |none=>rfl
    |some o'=>rw[k _ _ N]at h;cases h
theorem cF.frozen{f:Value}{args:List V}(h:cF G d f args J post)(k:∀v J',post v J'->Fin J post' v J'):cF G d f args J post':=by
 intro A g E s us S₀ z hS m t H x y;refine kr (h A g E s us S₀ z hS m t H x y) ?_;rintro r s' ⟨u,v,J',S',rfl,st,keep,al,le,VI,UA,T3,UJ,hv,q⟩;obtain ⟨c,D,i,w,rfl,hk,ss,B,F⟩:=k v J' q;have n:∀p∈c,MR G.w.params S' s'.heap p:=λ p k=>UA p (aJ _ k);rw[cx]at T3;have nd:=aV.mp T3;refine ⟨u,w,i,S'.with s'.heap (addrs c),rfl,st,keep,al,le.trans (b9.RK _ _ _),λ b o e=>?_,dI.sound n ss (λ p k=>UA p (ax _ k)),?_,λ b a=>?_,B.sound n hv,F⟩
 ·rw[ss.addrs];rcases e with e|⟨j,l⟩
  ·refine jA (VI b o e) λ j l C=>?_;exact ⟨j,λ a=>l (by rw[cx];exact ax _ a),C⟩
  ·refine ⟨l,λ a=>nd.2.2 b j b a rfl,.inr ?_⟩;rcases UJ b (by rw[cx];exact aJ _ j)with q|q
   ·exact absurd rfl (nd.2.2 b j b (hk b q))
   ·exact q
 ·rw[ss.addrs];exact nd.2.1
 ·rw[ss.addrs]at a;exact UJ b (by rw[cx];exact ax _ a)
inductive No(K:gb)(name:Str)(Q:Option (Option V)->St->Prop)(v ov:V)(Y:St):Prop
 |mk (i:Nat) (a C d:aG) (fs:List (Str×V)) (e:ov=.ref a) (h:Y.mu[i]? =ah (a,.inst C d fs)) (s:iN K C name=aj) (z:fs.length<900) (q:Q ai ⟨Y.vals,Y.mu.set i (a,.inst C d (nf name v fs))⟩)
theorem HI{o:Expr}{Q:Option (Option V)->St->Prop}(ok:O.Ok)(h:XV O Ex (bw e O.env) (kR O Ex o (No O.G.K name Q)) Y)(p:eo e (ah (.Attribute o name pos')) pos.line O.env=pure ao):XF O Ex (gg (.Assign [.Attribute o name pos'] e pos) O.env) Q Y:=λ Kp Jj s R=>
 sM (h.Rr R λ u l v j Kk l₁ c q h₁=>X.Rr h₁ c λ r Rw ov k g l₂ b n f=>by
  cases f with
  |mk i a C d fs e hi hk hz m=>subst e;cases n;have sp:=nR hi;exact HF ok b sp.1 hk hz (q.mono l₂) λ s' R'=>⟨ai,_,g,l₁.trans l₂,sp.2 _▸R',.next,m⟩) p
theorem Au:entryFor table "BaseException.__getattribute__"=ah Builtin.«object.__getattribute__»:=
 entryFor_alias (id':="object.__getattribute__") (by kernel_rfl) (by first|rfl|decide+kernel) (by decide+kernel) (by kernel_rfl)
theorem wx:builtinKind "BaseException.__getattribute__"=ah .slot:=by decide+kernel
theorem Ar:splitId "BaseException.__getattribute__"=ah ("BaseException","__getattribute__"):=by decide+kernel
theorem As:plainId "BaseException.__getattribute__"=aj:=by decide+kernel
theorem Av:(Manifest.canonical "BaseException.__getattribute__" !="object.__getattribute__")=ao:=by decide+kernel
theorem DC(a:Value):Er (.builtin "BaseException.__getattribute__") a=pure (.builtin "BaseException.__getattribute__",[a]):=by dsimp only[Er,Hx,builtinType,(show withoutEnding? "BaseException.__getattribute__" "#opaque"=ai by decide+kernel),(show withoutEnding? "BaseException.__getattribute__" "#data"=ai by decide+kernel),wx];rfl
theorem DD(a b:Value):argsOk "BaseException.__getattribute__" ⟨[a,b],[]⟩:=by kernel_rfl
section
variable{R:qz->aQ->Prop}{K:gb}{x:aG}{ox:Obj}{od:Option Obj}
theorem o5(h:o9 K C=aj):hP K (.ref C) "__getattribute__"=ah (ah (.builtin "BaseException.__getattribute__"))/\hP K (.ref C) "__getattr__"=ah ai/\Jg K C (.type "BaseException")=ah aj:=by dsimp only[o9]at h;simp only[cZ,beq_iff_eq]at h;exact ⟨h.1.1,h.1.2,h.2⟩
theorem wg(X:K.In s.heap)(I:InstAt s.heap x ox C od){b:Value}(a:Jg K C b=ah aj):Looks M s.heap (m5 (.ref x) b) aj:=I.type.andThen (Ei X a)
theorem IJ{v:Value}{tk:Jm}(X:K.In s.heap)(I:InstAt s.heap x ox C od)(c:Jg K C (.type "BaseException")=ah aj)(b:findObj K C od name=ah (.value v))(h:R (.ok (.ret v)) s):
 gi (bn prog w) A (.call (.builtin "BaseException.__getattribute__") ⟨[.ref x,.str name tk],[]⟩) R s:=by
 refine oH As Au (@HB (bn prog w) _ _ s "BaseException.__getattribute__" "BaseException" "__getattribute__" (.ref x) [.str name tk] [] _ wx Ar (wg X I c) (DD _ _) ?_);unfold Builtin.«object.__getattribute__»;refine aw (wpAny_of_eq (a:=(.ref x,[.str name tk])) (by kernel_rfl) ?_);refine aw (wpAny_of_eq (a:=name) (by kernel_rfl) ?_);refine aw (I.type.here ?_);refine aw ((looks_find X I b).here ?_);exact az h
theorem FP{v:Value}{Q:Value->aQ->Prop}(X:K.In s.heap)(I:InstAt s.heap x ox C od)(hk:o9 K C=aj)(b:findObj K C od name=ah (.value v))(c:handedIn v=aj)(h:Q v {s with toks:=s.toks+1}):aW (bn prog w) A (A6 (.ref x) name expr) Q E s:=by
 have a:=o5 hk;skip;refine aw (A4 (bE (aw (I.type.here (s:={s with toks:=s.toks+1}) (aw ((g9 X a.1).here (s:={s with toks:=s.toks+1}) ?_))))))
 show aW _ _ (getAttrByItsOwn _ _ _ _ _ _) _ _ _;dsimp only[getAttrByItsOwn,callGetattribute,boundAndCalled];refine aw ((g9 X a.2.1).here (s:={s with toks:=s.toks+1}) (aw (wpAny_attempt (bE ?_))))
 rw[show (expr&&onTheHeap (nG "BaseException.__getattribute__"))=ao from m3 expr,DC];refine aw (az (jn (IJ (s:={s with toks:=s.toks+1}) (tk:=s.toks) X I a.2.2 b ?_)))
 show aW _ _ (handedOut v) _ _ _;rw[handedOut_of c];exact az h
theorem xO{f:aG}{g:Sem Bool}{Q:Value×List Value->aQ->Prop}(X:K.In s.heap)(I:InstAt s.heap x ox C od)(hk:o9 K C=aj)(d:hP K (.ref C) name=ah (ah (.ref f)))(i:lO K (.ref f)=ah (.type "function"))
 (j:shadowIn od name=ah ao) (h:Q (.ref f,[.ref x]) s):aW (bn prog w) A (getMethod (.ref x) name g) Q E s:=by
 have c:=o5 hk;dsimp only[getMethod,specialOf];refine aw (aw (I.type.here ((g9 X c.1).here ?_)));dsimp only;rw[Av];refine aw (aw (I.type.here ((g9 X c.2.1).here ?_)));refine aw (aw (I.type.here ((g9 X d).here (aw ((looks_typeIn X i).here ?_)))));skip;refine aw (fc I.at_ ?_);have hd:=I.dict;cases e:ox.dict with
 |none=>exact aw (iq (az h))
 |some k=>
  cases od with
  |none=>rw[e]at hd;exact hd.elim
  |some o=>simp only[e]at hd;refine b5 (bM.mp j) λ r a b=>?_;refine aw (aw (fc hd ?_));simp only[nsLook_of a];refine az ?_;rw[b];exact aw (iq (az h))
end
noncomputable abbrev fz(l:List Env):List aG:=l.filterMap (·.frame)
inductive Qa(H:Heap)(C e:aG)(h:Heap):Prop
 |mk (oe:Obj) (vs:Array Value) (D:aG) (oD:Obj) (a1:h.get? e=ah oe) (a2:oe.cls=.ref C) (a3:oe.data=.fields vs) (a4:1<vs.size) (a5:oe.dict=ah D) (a6:H.get? D=ai) (a7:h.get? D=ah oD) (a8:qy "at" oD=ah (ah .none)) (a9:qy "told" oD=ah ai)
inductive P9(H:Heap)(fl:Value)(e:aG)(h:Heap):Prop
 |mk (oe:Obj) (vs:Array Value) (T:aG) (oT:Obj) (ts:Array Value) (a1:h.get? e=ah oe) (a2:oe.data=.fields vs) (a3:vs[1]? =ah (.ref T)) (a4:T≠e) (a5:H.get? T=ai) (a6:h.get? T=ah oT) (a7:oT.data=.fields ts) (a8:ts[3]? =ah fl)
structure Pre(H:Heap)(l:List Env)(C e:aG)(h:Heap):Prop where
 keep:∀b o,H.get? b=ah o->b∉fz l->h.get? b=ah o
 slot:H.UpToSlots h
 fn:h.FunFrames (sn H (fz l)) l
 new:H.get? e=ai
 exc:Qa H C e h
structure y9(H:Heap)(l:List Env)(C:aG)(fl:Value)(e:aG)(h:Heap):Prop extends Pre H l C e h where
 tr:P9 H fl e h
theorem xG{r:Option Value}(h:qy x o=ah r):∀vs,o.data≠.fields vs:=λ vs e=>by unfold qy at h;rw[e]at h;cases h
theorem tt{h B c:Heap}:∀{l:List Env},h.FunFrames B l->(∀b∈fz l,c.get? b=ai)->h.FunFrames c l:=by
 intro l;induction l with
 |nil=>exact λ Z Z=>trivial
 |cons env l m=>intro g d;obtain ⟨hk,⟨L,o,a,_,f,hd⟩,i⟩:=g;exact ⟨hk,⟨L,o,a,d L (eb.mpr ⟨env,.head _,a⟩),f,hd⟩,m i λ b j=>by refine b5 (eb.mp j) λ x k e=>?_;exact d b (eb.mpr ⟨x,.tail _ k,e⟩)⟩
section
variable{l outer:List Env}{e L:aG}{fl:Value}{Q:Unit->aQ->Prop}
theorem Pre.step{h:Heap}(K:Pre H l C e h)(k:∀b o,h.get? b=ah o->(∀vs,o.data≠.fields vs)->∃sl,h'.get? b=ah {o with slots:=sl})(kk:∀b o,H.get? b=ah o->b∉fz l->h.get? b=ah o->h'.get? b=ah o)(v:∀d vs,h.get? e=ah d->d.data=.fields vs->∃a c,h'.get? e=ah a/\a.cls=d.cls/\a.dict=d.dict/\a.data=.fields c/\c.size=vs.size):Pre H l C e h':=by
 obtain ⟨k1,k2,k3,z,d,vs,D,w,a1,x,y,i,A,u,p,g,q⟩:=K;refine ⟨λ b o e n=>kk b o e n (k1 b o e n),λ b o e n=>?_,k3.of_keeps λ b o e n=>?_,z,?_⟩
 ·refine ze (k2 b o e n) λ sl f=>?_;exact let ⟨Za,e2⟩:=k b _ f n;⟨Za,e2⟩
 ·refine ze (k b o e n) λ sl f=>?_;exact ⟨_,f,rfl⟩
 ·refine Jx (v d vs a1 y) λ a c j r t s m=>?_;refine ze (k D w p (xG g)) λ sl f=>?_;exact ⟨a,c,D,_,j,r.trans x,s,by simp only[m];exact i,t.trans A,u,f,g,q⟩
theorem Pre.TZ{h:Heap}(K:Pre H l C e h):e∉fz l:=λ c=>by obtain ⟨i,vs,D,f,a1,g,d,_⟩:=K.exc;refine Ev (K.fn.mem c) λ Z o b a=>?_;rw[a1]at b;cases b;exact a vs d
theorem Ix{h:Heap}{a:aG}{o:Obj}{vs:Array Value}(f:Array Value->Array Value)(c:h.get? a=ah o)(hd:o.data=.fields vs):
 ∃b,(h.update a (Obj.mapFields f)).get? a=ah b/\b.cls=o.cls/\b.dict=o.dict/\b.data=.fields (f vs):=
 ⟨_,dc _ c (Obj.isFreed_of_fields (Obj.data_mapFields hd f)),Obj.cls_mapFields _ _,by obtain ⟨_,_,d,_⟩:=o;subst hd;rfl,Obj.data_mapFields hd f⟩
theorem HW{h:Heap}{a:aG}{o:Obj}{vs:Array Value}(f:Array Value->Array Value)(d:h.get? a=ah o)(hd:o.data=.fields vs){b:aG}{p:Obj}(c:h.get? b=ah p)(n:∀vs,p.data≠.fields vs):
 (h.update a (Obj.mapFields f)).get? b=ah p:=by
 refine (f2 _ _ λ q=>?_).trans c;subst q;rw[d]at c;cases c;exact n vs hd
theorem Pre.fields{h:Heap}(K:Pre H l C e h){a:aG}{o:Obj}{vs:Array Value}(f:Array Value->Array Value)(k:∀vs,(f vs).size=vs.size)(g:h.get? a=ah o)(hd:o.data=.fields vs)(v:H.get? a=ai):Pre H l C e (h.update a (Obj.mapFields f)):=by
 refine K.step (λ b p c n=>⟨p.slots,HW f g hd c n⟩) (λ b p c Z j=>(f2 _ _ λ q=>by subst q;rw[v]at c;cases c).trans j) λ w ws i d=>?_;by_cases q:a=e
 ·subst q;rw[g]at i;cases i;refine k4 (Ix f g hd) λ u m s t r=>?_;rw[hd]at d;cases d;exact ⟨u,_,m,s,t,r,k _⟩
 ·exact ⟨w,ws,(f2 _ _ q).trans i,rfl,rfl,d,rfl⟩
theorem vW(k:A.frames=ah (env::outer))(G:env.frame=ah L)(K:Pre H (env::outer) C e s.heap){head:Value}{J:Bool}(q:∀h',y9 H (env::outer) C (i2 L) e h'->Q () {s with heap:=h'}):
 aW M A (do let a <-frameOf env;let i <-entryPlaceOf L J;let b <-EntryCells.newEntry head a .none (i2 L) .none i;setField (.ref e) 1 b) Q E s:=by
 have d:=K.TZ;refine aw (wpAny_frameOf_fun k K.fn G λ h₁ c=>aw (wpAny_entryPlaceOf λ i l=>?_));skip;refine aw (sj ?_ (l.sizeOk5 _ _ _ _ _));refine ze (show ∃f:Array Value,([head,.ref L,.none,i2 L,.none]++(if i.isEmpty then bv 6 cV else i)).toArray=f from ⟨_,rfl⟩) λ f h=>?_;simp only[h];have w:Pre H (env::outer) C e (h₁.push {cls:=.type "traceback",data:=.fields f}):=K.step
  (λ b o m n=>by refine ze (c.2.2 b o m) λ sl v=>?_;exact ⟨sl,aL _ v⟩)
  (λ b o Z n m=>aL _ ((c.2.1 b n).trans m))
  λ x vs N hd=>⟨x,vs,aL _ ((c.2.1 e d).trans N),rfl,rfl,hd,rfl⟩
 obtain ⟨x,vs,D,P,a1,S,r,y,_⟩:=id w.exc;have g:h₁.objs.size≠e:=by obtain ⟨B,_,_,_,j,_⟩:=K.exc;exact fo (cq ((c.2.1 e d).trans j))
 have p:H.get? h₁.objs.size=ai:=by
  cases F:H.get? h₁.objs.size with
  |none=>rfl
  |some o=>
   exfalso
   by_cases u:h₁.objs.size∈fz (env::outer)
   ·refine Ev (K.fn.mem u) λ Z z t Z=>?_;refine ze (c.2.2 _ _ t) λ Z v=>?_;exact bB _ (cq v)
   ·exact bB _ (cq ((c.2.1 _ u).trans (K.keep _ _ F u)))
 refine oE a1 r y (q _ ⟨w.fields (λ a=>a.setIfInBounds 1 (eT h₁.objs.size)) (λ Z=>gX ..) a1 r K.new,?_⟩);refine k4 (Ix (λ a=>a.setIfInBounds 1 (eT h₁.objs.size)) a1 r) λ z j R O I=>?_;exact ⟨z,_,h₁.objs.size,_,f,j,I,by exact mK y,g,p,(f2 _ _ (Ne.symm g)).trans (bQ h₁ (o:={cls:=.type "traceback",data:=.fields f}) rfl),rfl,(by rw[<-h];rfl)⟩
theorem xB(a:A.frames=ah (env::outer))(d:env.frame=ah L)(K:Pre H (env::outer) C e s.heap)(b:∃c vs,s.heap.get? e=ah c/\c.data=.fields vs/\vs[1]? =ah .none)(q:∀h',y9 H (env::outer) C (i2 L) e h'->Q () {s with heap:=h'}):
 aW M A (kW (.ref e) env) Q E s:=by
 refine fx b λ c vs f hd b=>?_;unfold kW;rw[d];refine aw (gR f hd b ?_);skip;exact vW a d K q
theorem zS(b:A.frames=ah (env::outer))(g:env.frame=ah L)(K:y9 H (env::outer) C .none e s.heap)(q:∀h',y9 H (env::outer) C (i2 L) e h'->Q () {s with heap:=h'}):
 aW M A (kW (.ref e) env) Q E s:=by
 obtain ⟨n,vs,T,l,m,a1,h,i,k,j,d,c,f⟩:=K.tr;unfold kW;rw[g];refine aw (gR a1 h i ?_);skip;refine aw (gR d c f ?_);skip;refine aw (oE d c (jG.mp f).1 ?_);exact vW b g (K.toPre.fields (λ a=>a.setIfInBounds 3 .none) (λ Z=>gX ..) d c j) q
theorem rn(b:env.frame=ah L)(K:y9 H l C (i2 L) e s.heap)(q:Q () s):aW M A (kW (.ref e) env) Q E s:=by obtain ⟨k,vs,T,i,j,a1,f,g,h,m,d,c,a⟩:=K.tr;unfold kW;rw[b];refine aw (gR a1 f g ?_);skip;refine aw (gR d c a ?_);rw[if_pos (show (i2 L==i2 L)=aj by simp[i2])];exact az q
theorem k_(K:y9 H l C fl e s.heap)(b:Option aG)(q:∀h',y9 H l C (b.elim .none λ f=>i2 f) e h'->Q () {s with heap:=h'}):aW M A (setFlight (.ref e) b) Q E s:=by obtain ⟨p,vs,T,r,v,a1,h,i,g,j,d,c,k⟩:=K.tr;have hsz:=(jG.mp k).1;skip;refine aw (gR a1 h i ?_);skip;refine oE d c hsz (q _ ⟨K.toPre.fields (λ a=>a.setIfInBounds 3 (b.elim .none λ f=>i2 f)) (λ Z=>gX ..) d c j,?_⟩);refine k4 (Ix (λ a=>a.setIfInBounds 3 (b.elim .none λ f=>i2 f)) d c) λ o m t u n=>?_;exact ⟨p,vs,T,o,_,(f2 _ _ g).trans a1,h,i,g,j,m,n,by exact mK hsz⟩
theorem y9.leave{h:Heap}(K:y9 H (env::outer) C fl e h)(c:env.frame=ah L)(j:H.get? L=ai):y9 H outer C fl e h:=by
 obtain ⟨⟨k1,k2,⟨_,⟨p,s,t,k,l,u⟩,k3⟩,i,g⟩,a⟩:=K;have d:∀b o,H.get? b=ah o->b≠L:=λ b o q r=>by subst r;rw[j]at q;exact nomatch q
 refine ⟨⟨λ b o q n=>k1 b o q (by rw[(show fz (env::outer)=L::fz outer by unfold fz;simp only[AJ,c])];exact λ m=>(aI.mp m).elim (d b o q) n),k2,?_,i,g⟩,a⟩;exact tt k3 λ b f=>sm _ f
end
section
open PySem PySem.W PySem.Calls PyProof.Rows Builtin Builtin.ObjectAttr
theorem xP(X:String):∀{l:List Value},rL l=aj->l.contains (.type X)=F3.contains (.type X):=by
 intro l;induction l with
 |nil=>intro h;cases h
 |cons v l b=>
  intro h;cases v with
  |ref a=>rw[A1,b h];rfl
  |_=>rw[show _::l=F3 from eq_of_beq h]
theorem wh(b:Value):∀{l:List Value},rL l=aj->refuseLoop b "__setattr__" l=pure ():=by
 intro l;induction l with
 |nil=>intro h;cases h
 |cons v l c=>
  intro h;cases v with
  |ref a=>rw[refuseLoop_ref];exact c h
  |_=>rw[show _::l=F3 from eq_of_beq h];exact PySem.F.store_Exception.passes b
inductive I_(h:Heap)(C:aG):Prop
 |mk (oc:Value) (od:Option aG) (cd:ClassData) (sl:Array (Option Value)) (a:h.get? C=ah ⟨oc,od,.cls cd,sl⟩) (b:cd.hasDel=ao) (c:cd.hasDict=aj) (e:cd.mro.isEmpty=ao)
structure x5(M:Model)(h:Heap)(C:aG):Prop where
 obj:I_ h C
 made:Looks M h (Bind.madeBy (.ref C)) (ah "Exception.__new__")
 base:Looks M h (Bind.staticBase (.ref C)) (.ref C)
 self:Looks M h (isSubtype (.ref C) (.ref C)) aj
 sub:∀X,Looks M h (isSubtype (.ref C) (.type X)) (F3.contains (.type X))
 call:Looks M h (specialOf (.ref C) "__call__") (ah (.builtin "type.__call__"))
 typ:Looks M h (m5 (.ref C) (.type "type")) aj
theorem NR{o:Option α}{p:α->Bool}(h:o.any p=aj):∃a,o=ah a/\p a=aj:=by cases o with
 |none=>cases h
 |some a=>exact ⟨a,rfl,h⟩
theorem FV{d:Data}{c:ClassData}(h:NF d=ah c):d=.cls c:=by cases d<;>cases h<;>rfl
set_option tactic.hygienic true in
theorem mr{K:gb}{h:Heap}(X:K.In h){C:aG}(e:h9 K C=aj):x5 M h C/\∃a,clsIn K C=ah a/\a.hasDict=aj/\rL a.mro=aj/\a.mro.isEmpty=ao:=by
 refine b5 (NR e) λ o d e=>b5 (NR e) λ a hd e=>?_;cases o with|mk oc od da sl=>
  cases FV hd;simp only[cZ,pO,beq_iff_eq]at e;refine za e λ f r=>?_;obtain ⟨⟨⟨⟨t,n⟩,u⟩,w,m⟩,p⟩:=f;have i:clsIn K C=ah a:=by unfold clsIn;rw[d]
  have j:Looks M h (mroOf (.ref C)) a.mro:=(oF X i).andThen .now;refine ze (List.head?_eq_some_iff.mp w) λ l c=>?_;have g:a.mro.isEmpty=ao:=by rw[c];rfl
  have b:Looks M h (Bind.madeBy (.ref C)) (ah "Exception.__new__"):=by intro A Q E s k q;unfold Bind.madeBy;refine aw (j A _ E s k ?_);rw[c,jl];refine aw (aw (aw (aw (fc (k _ _ (X _ _ d)) (az ?_)))));dsimp only;rw[<-Array.getElem?_toList,u];exact az (az (az q))
  have mi:∀v,Jg K C v=ah (a.mro.contains v):=λ v=>by unfold Jg;rw[i,pK,if_neg (by rw[g];decide)]
  refine ⟨⟨⟨oc,od,a,sl,X _ _ d,t,n,g⟩,b,?_,Ei X ?_,λ T=>Ei X ?_,looks_specialIn X p,looks_instIn X r⟩,a,i,n,m,g⟩
  ·intro A Q E s k q;unfold Bind.staticBase;refine aw (j A _ E s k ?_);rw[c,jl];exact aw (aw (aw (b A _ E s k (az (az (az q))))))
  ·rw[mi,c,A1];simp
  ·rw[mi,xP T m]
noncomputable abbrev lg(C t:aG):Obj:={cls:=.ref C,data:=.fields #[.ref t,.none,.none,.none,.bool ao,.none]}
section
variable{K:gb}{R:qz->aQ->Prop}{h:Heap}{g:Array GenState}{d:Drawn}{t:Nat}
theorem Iu{a:List Value}(Yy:x5 (bn prog w) h C)(c:a.length<=eZ)
 (m:R (.ok (.ret (.ref (h.objs.size+1)))) ⟨(h.push (dZ a.toArray 0)).push (lg C h.objs.size),g,d,t,os⟩):
 gi (bn prog w) A (.call (.builtin "Exception.__new__") ⟨.ref C::a,[]⟩) R ⟨h,g,d,t,os⟩:=by
 obtain ⟨⟨s,od,r,sl,j,n,v,u⟩,f,base,i,sub,e,k⟩:=Yy;have F:=PySem.F.excBase_Exception;have l:=sub "Exception";have o:=sub "AttributeError";have q:=sub "NameError";rw[show F3.contains (.type "Exception")=aj by decide+kernel]at l;rw[show F3.contains (.type "AttributeError")=ao by decide+kernel]at o;rw[show F3.contains (.type "NameError")=ao by decide+kernel]at q;refine codeAny_call_builtin_code (Code.quiet_builtin _ F.quiet) ?_;unfold checkBuiltinCall;rw[F.newKind,F.newSplit,F.newRow];dsimp only;rw[if_pos (show ("__new__"=="__new__")=aj from rfl)];rw[(show Bind.checkArgs "Exception.__new__" ⟨.any,"Exception","Exception",.cls,[⟨"args",.varPos,ao⟩,⟨"kwargs",.varKw,ao⟩]⟩ ⟨.ref C::a,[]⟩=pure ()from by kernel_rfl)]
 repeat (first|simp only[bne_self_eq_false,dG,if_false,g8]|lk)
 refine codeAny_builtinAt F.entry ?_;unfold Builtin.«BaseException.__new__»;refine PySem.wpAt_bind ?_;show PySem.wpAt _ _ _ (stack>>=_) _ _ _;refine PySem.wpAt_bind (PySem.wpAt_stack λ p b=>PySem.wpAt_of_wpAny ?_);dsimp only;rw[if_pos F.ends];refine az (PySem.wpAt_of_wpAny ?_);rw[F.owner]
 repeat (first|simp only[bne_self_eq_false,dG,if_false,g8]|lk)
 rw[if_neg (by rw[bI];exact bT.mpr ‹_›)];unfold newObjAsIs;refine aw (Ef (az (aw ?_)));show aW _ _ (newObj (.ref C) (.fields #[.ref h.objs.size,.none,.none,.none,.bool ao,.none])) _ _ _;unfold newObj;dsimp only;rw[if_neg (show ¬(#[eT h.objs.size,cV,cV,cV,Value.bool ao,cV].size>eZ+2)from by show ¬(6>eZ+2);rw[dE];decide)];unfold newObjAsIs classHasDel;refine aw (Ef (aw (aw (wpAny_load (aL (lg C h.objs.size) (aL (dZ a.toArray 0) j)) (az ?_)))));rw[n];refine az (az ?_);show R _ _;rw[Heap.size_push];exact m
theorem xE{c:List Value}{init:Value}(Yy:x5 (bn prog w) h C)(i:c.length<=eZ)(hi:Looks (bn prog w) h (typeLookup (.ref C) "__init__") (ah init))
 (q:∀f,Looks (bn prog w) h (Er init f) (init,[f]))
 (s:gi (bn prog w) (A.under (.builtin "type.__call__" ⟨.ref C::c,[]⟩)) (.call init ⟨.ref (h.objs.size+1)::c,[]⟩) (InitBack (h.objs.size+1) R) ⟨(h.push (dZ c.toArray 0)).push (lg C h.objs.size),g,d,t,os⟩):
 gi (bn prog w) A (.call (.ref C) ⟨c,[]⟩) R ⟨h,g,d,t,os⟩:=by
 have Y':=Yy;obtain ⟨⟨x,od,p,sl,m,F,G,u⟩,n,base,f,sub,j,l⟩:=Yy;refine codeAny_of_tree ?_;show aW _ _ (callAny (.ref C) _) _ _ _;refine nd_load m ?_;show aW _ _ (callAny.viaDunder (.ref C) _) _ _ _;unfold callAny.viaDunder;refine aw (j.at ?_);dsimp only;rw[tc_bind];refine aw (az (aw (az ?_)));refine az (a:=Fin.again (.call (.builtin "type.__call__") ⟨.ref C::c,[]⟩)) (And.intro rfl ?_);refine codeAny_call_builtin_at (Code.quiet_builtin _ (by decide+kernel)) entry_typeCall (HB tc_kind tc_split l (tc_args _ _ _) ?_);unfold Builtin.«type.__call__»;have D:Looks (bn prog w) h (mroOf (.ref C)) p.mro:=((Looks.ld (part:=ai) m).andThen .now).andThen .now
 repeat (first|simp only[u,dG,if_false]|with_reducible refine jn ?_|lk)
 refine Iu Y' i ?_;have k:∀b o,h.get? b=ah o->((h.push (dZ c.toArray 0)).push (lg C h.objs.size)).get? b=ah o:=λ b o e=>aL _ (aL _ e);have t1:Looks (bn prog w) ((h.push (dZ c.toArray 0)).push (lg C h.objs.size)) (Hx (.ref (h.objs.size+1))) (.ref C):=(Looks.ld (by heap_get)).andThen .now;have y:=f.keeps k;have B:=hi.keeps k;have E:=(q (.ref (h.objs.size+1))).keeps k;unfold m5 callSpecial? specialOf
 repeat (first|with_reducible refine jn ?_|lk)
 refine kr s λ r s' z=>?_;rcases r with e|(v|_|_|_)<;>first|exact z|exact z.elim|skip;obtain ⟨rfl,z⟩:=z;exact az (az z)
end
section
variable{K:gb}{x:aG}{R:qz->aQ->Prop}
theorem Fh{ox:Obj}{od:Option Obj}{name:Str}{tk:Jm}{v:Value}(X:K.In s.heap)(I:InstAt s.heap x ox C od)(g:h9 K C=aj)(k:takerIn K C name=ah ai)
 (h:∀b,aW (bn prog w) A.in1 (storeInOwnDict (.ref x) (.ref C) (.str name tk) name v b)
  (λ fin s'=>match fin with|.done f=>R (.ok f) s'|.again c'=>c'.quiet=aj/\gi (bn prog w) A c' R s') (λ e s'=>R (.error e) s') s):
 gi (bn prog w) A (.call (.builtin "object.__setattr__") ⟨[.ref x,.str name tk,v],[]⟩) R s:=by
 have c:=PySem.F.store_object;refine Gh (mr (M:=bn prog w) X g) λ Yy j o hd i p=>?_;have sub:Looks (bn prog w) s.heap (m5 (.ref x) (.type "object")) aj:=I.type.andThen (by have:=Yy.sub "object";rw[show F3.contains (.type "object")=aj by decide+kernel]at this;exact this)
 refine oH c.slot.plain c.entry (@HB (bn prog w) _ _ s "object.__setattr__" "object" "__setattr__" (.ref x) [.str name tk,v] [] _ c.kind c.split sub (c.args (.ref x) (.str name tk) v) ?_);refine b5 (dg.mp k) λ attr n d=>?_;have m:Looks (bn prog w) s.heap (storeTaker? attr) ai:=by
  cases attr with
  |none=>exact .now
  |some a=>
   refine b5 (bM.mp d) λ b l d=>?_;refine (looks_takesIn X l).andThen ?_;cases b
   ·exact .now
   ·cases d
 rw[osa_eq,refuse_eq];refine aw (aw (I.type.here (aw ((show Looks (bn prog w) s.heap (mroOf (.ref C)) j.mro from (oF X o).andThen .now).here ?_))));rw[wh _ i];refine az (aw (I.type.here (aw ((g9 X n).here (aw (m.here ?_))))));exact h _
end
end
section
open PySem PySem.W PySem.Calls PyProof.Rows Builtin Builtin.ObjectAttr
theorem uz(K:gb):findCls K (.type "Exception") (.type "type") "__init__"=ah (.val (.builtin "Exception.__init__")):=by kernel_rfl
theorem FO:Hx (.type "Exception")=pure (.type "type"):=by kernel_rfl
theorem C8:Manifest.isStub "Exception"=ao:=by decide+kernel
section
variable{K:gb}{x:aG}{R:qz->aQ->Prop}
theorem uB{ox:Obj}{od:Option Obj}{vs:Array Value}{t0:Value}{a:List Value}(X:K.In s.heap)(I:InstAt s.heap x ox C od)(l:h9 K C=aj)(hd:ox.data=.fields vs)(j:vs[0]? =ah t0)(c:a.length<=eZ)
 (h:R (.ok (.ret .none)) {s with heap:=(s.heap.push (dZ a.toArray 0)).update x (Obj.mapFields (·.setIfInBounds 0 (.ref s.heap.objs.size)))}):
 gi (bn prog w) A (.call (.builtin "Exception.__init__") ⟨.ref x::a,[]⟩) R s:=by
 have F:=PySem.F.excBase_Exception;have e:=mr (M:=bn prog w) X l;have sub:Looks (bn prog w) s.heap (m5 (.ref x) (.type "Exception")) aj:=I.type.andThen (by skip;exact (e.1.sub "Exception"))
 refine oH F.init.plain F.initEntry ?_;have k:=I.at_;dsimp only[checkBuiltinCall,F.initKind,F.initSplit,F.initRow];refine aw (sub.here ?_);simp only[g8,dG,if_false];obtain ⟨⟨p,o,d,sl,f, -, -, -⟩, -⟩:=e.1;obtain ⟨i,g,q,tk,os⟩:=s;dsimp only at k f X sub h;have n:Looks (bn prog w) i (Bind.printed "*" aj ⟨.positional,"*","Exception",.self,[⟨"args",.varPos,ao⟩]⟩ (ah (.ref x))) d.name.toString:=by skip;exact I.type.andThen ((((Looks.ld (part:=ai) f).andThen .now).andThen .now).andThen .now)
 unfold Bind.checkArgs;dsimp only;refine aw (m:=Bind.printed "*" aj _ _) (n.at ?_);refine aw (m:=Bind.printed "Exception" ao _ _) (printed_name (rfl) ?_);refine wpAny_onRaise ?_;show aW _ _ (Bind.check _ _ _ _ []) _ _ _;rw[check_varPos];refine az ?_;unfold Builtin.«BaseException.__init__»;dsimp only;skip;skip;have b:=aL (h:=i) (dZ a.toArray 0) k;refine aw (sj (aw (aw (gR b hd j (aw (oE b hd ((jG.mp j).1) ?_))))) (by show a.toArray.size<=eZ;exact c));cases t0<;>first|exact wpAny_letGo (az h)|exact az (az h)|exact az h
end
inductive Qb(P:bS)(S:b9)(h:Heap)(a C d:aG)(vs:Array Value)(fs:List (Str×V)):Prop
 |mk (es:List bN) (n:Nat) (e1:h.get? a=ah {cls:=.ref C,dict:=ah d,data:=.fields vs}) (e2:h.get? d=ah (dictOf es n)) (hf:g_ P S es fs)
theorem MR.Tx{P:bS}{h:Heap}{a d:aG}{vs:Array Value}(m:MR P S h (a,.exc C (ah d) vs fs)):Qb P S h a C d vs fs:=by
 cases m with
 |S9 x y z=>exact ⟨_,_,x,y,z⟩
theorem MR.Wi{P:bS}{h:Heap}{a:aG}{vs:Array Value}(m:MR P S h (a,.exc C ai vs [])):h.get? a=ah {cls:=.ref C,data:=.fields vs}:=by
 cases m with
 |S_ x=>exact x
theorem Al{a:aG}{vs:Array Value}{t0:Value}{v:V}(ok:O.Ok)(d:Y.mu=J1++(a,.exc C ai vs [])::J2)(hk:h9 O.G.K C=aj)(i:vs[0]? =ah t0)(q:∀c:Array Value,c.size=vs.size->c[1]? =vs[1]?->Q .none ⟨Y.vals,J1++(a,.exc C ai c [])::J2⟩):cU O Ex (.builtin "Exception.__init__") [.ref a,v] Q Y:=.two λ Kp Jj s h u R j k=>j.RS (Q:=λ h=>aW _ _ (call _ [h,u]) _ _ _)<|by
 have g:=(R.mu _ (d▸ax _ (.head _))).Wi;refine jn (uB (R.SA ok) (od:=ai) ⟨g,rfl,rfl,trivial⟩ hk rfl i (by simp only[dE];simp) ?_);have f:((s.heap.push (dZ #[u] 0)).update a (Obj.mapFields λ w=>w.setIfInBounds 0 (eT s.heap.objs.size))).get? a=ah {cls:=.ref C,data:=.fields (vs.setIfInBounds 0 (eT s.heap.objs.size))}:=dc _ (aL (dZ #[u] 0) g) rfl;exact ⟨.none,_,Kp,.refl _,(R.keeps (h':=s.heap.push (dZ #[u] 0)) (tk:=s.toks) λ b o e=>aL _ e).Uw (q:=(a,.exc C ai (vs.setIfInBounds 0 (eT s.heap.objs.size)) [])) (a:=a) (tk:=s.toks) ok d rfl (by simp[ch]) (Heap.SameBut.update ..) ⟨_,f⟩ (.S_ f),.none,
  q _ (gX ..) (Array.getElem?_setIfInBounds_ne (by decide))⟩
theorem vO{p:aG×MO}:(p::(J1++J2)).Perm (J1++p::J2):=eX.symm
theorem cS.Wg(R:cS O Y Kp Jj s)(ok:O.Ok){J1 J2:Mu}{p q:aG×MO}(f:Y.mu=J1++p::J2){s':aQ}(st:gz s s')(i:∀b o,s.heap.get? b=ah o->b∉ch p->s'.heap.get? b=ah o)
 (al:∀b o,s.heap.get? b=ah o->∃k,s'.heap.get? b=ah k) (m:MR O.P Kp s'.heap q) (nd:(ch q).Nodup) (j:∀b∈ch q,b∈ch p\/s.heap.get? b=ai):cS O ⟨Y.vals,J1++q::J2⟩ Kp Jj s':=by
 have c:∀p:aG×MO,addrs [p]=ch p:=λ p=>cJ _;have g:cS O ⟨Y.vals,p::(J1++J2)⟩ Kp Jj s:=R.perm (f▸vO);refine (g.turned (J1:=[p]) (J2:=J1++J2) (J':=[q]) (S':=Kp) ok rfl st (λ b o e a=>i b o e (c p▸a)) al (.refl _) (λ b o e=>?_) (λ x l=>(bA (aE.mp l))▸m) (c q▸nd) λ b a=>by rw[c]at a ⊢;exact j b a).perm vO.symm;have d:=g.kp b o e;have a:b∉ch p:=λ a=>d.2.1 (ax _ (aJ _ a));refine ⟨i b o d.1 a,λ h=>?_,.inl e⟩;rw[c]at h;rcases j b h with h|h
 ·exact a h
 ·rw[d.1]at h;cases h
theorem sS{a d:aG}{vs:Array Value}{v:V}{tk:Jm}{Q:PySem.Fin->aQ->Prop}(ok:O.Ok)(R:cS O Y Kp Jj s)(b:Y.mu=J1++(a,.exc C (ah d) vs fs)::J2)(hz:fs.length<900)(o:VR O.P Kp u v)(h:∀s',cS O ⟨Y.vals,J1++(a,.exc C (ah d) vs (nf name v fs))::J2⟩ Kp Jj s'->Q (.done (.ret .none)) s'):aW (bn O.G.prog O.G.w) A (storeInDict d (.str name tk) name u) Q E s:=by
 have l:(a,MO.exc C (ah d) vs fs)∈Y.mu:=by rw[b];simp
 obtain ⟨es,n,m,c,e⟩:=(R.mu _ l).Tx;have nd:=R.nd;simp only[b,cx]at nd;have f:=(aV.mp (aV.mp nd).2.1).2.1;have i:a≠d:=by have:(ch (a,MO.exc C (ah d) vs fs)).Nodup:=(aV.mp f).1;simp[ch]at this;exact this
 skip;refine aw (az (aw ?_));unfold nsSet;refine aw (aw (wpAny_askSetting (az (aw (A4 (aw (fc c ?_)))))));have k:Gg name es.toArray=ao:=by rw[A_];simp only[(show es.toArray.any (·.refKey)=ao by (refine i0.trans ?_);exact e.noRef),m3]
 dsimp only;rw[k];refine wpAny_updatePart c ?_;have j:=putName_dict name (PyData.keyHash O.P name) (.str name s.toks) u es n;have g:(s.heap.update d (Obj.putName name (PyData.keyHash O.P name) (.str name s.toks) u)).get? d=ah (dictOf (putL name (PyData.keyHash O.P name) (.str name s.toks) u es) (putN name es n)):=by rw[<-j];exact dc _ c (by rw[j];rfl)
 refine aw (wpAny_lookBehind g (pastItsLine_dict (by simp only[bI,dE];exact Gz hz (pp name (PyData.keyHash O.P name) (.str name s.toks) u es) e.length)) ?_);refine az (h _ ?_);exact R.Uw (q:=(a,.exc C (ah d) vs (nf name v fs))) (a:=d) ok b rfl (by simp[ch]) (Heap.SameBut.update ..) ⟨_,g⟩ (.S9 ((fG _ _ _ _ i).trans m) g (e.put o))
set_option tactic.hygienic true in
theorem Ez{a:aG}{x:Option aG}{vs:Array Value}{v:V}(ok:O.Ok)(R:cS O Y Kp Jj s)(g:Y.mu=J1++(a,.exc C x vs fs)::J2)(hk:sw O.G.K C name=aj)(hz:fs.length<900)(y:VR O.P Kp u v){Q:Unit->aQ->Prop}(h:∀D s',cS O ⟨Y.vals,J1++(a,.exc C (ah D) vs (nf name v fs))::J2⟩ Kp Jj s'->Q () s'):aW (bn O.G.prog O.G.w) O.A (setAttr (.ref a) name u) Q Ex s:=by
 unfold sw at hk;simp only[cZ,beq_iff_eq]at hk;refine za hk λ m k3=>?_;obtain ⟨k1,k2⟩:=m;have X:=R.SA ok;refine Gh (mr (M:=bn O.G.prog O.G.w) X k2) λ Z P z hd Z Z=>?_;have L:(a,MO.exc C x vs fs)∈Y.mu:=by rw[g];simp
 have main:∀(j:aQ) (od:Option Obj) (ox:Obj),InstAt s.heap a ox C od->(∀A c E,(∀D s',cS O ⟨Y.vals,J1++(a,.exc C (ah D) vs (nf name v fs))::J2⟩ Kp Jj s'->c (.done (.ret .none)) s')->aW (bn O.G.prog O.G.w) A (storeInOwnDict (.ref a) (.ref C) (.str name s.toks) name u aj) c E {s with toks:=s.toks+1})->
  (∀A c E,(∀D s',cS O ⟨Y.vals,J1++(a,.exc C (ah D) vs (nf name v fs))::J2⟩ Kp Jj s'->c (.done (.ret .none)) s')->aW (bn O.G.prog O.G.w) A (storeInOwnDict (.ref a) (.ref C) (.str name s.toks) name u ao) c E {s with toks:=s.toks+1})->
  aW (bn O.G.prog O.G.w) O.A (setAttr (.ref a) name u) Q Ex s:=λ j od ox I K B=>by
  refine set_plain X I k1 (Fh (s:={s with toks:=s.toks+1}) X (by exact ⟨I.at_,I.cls,I.no,I.dict⟩) k2 k3 λ b=>?_)
  cases b
  ·exact B _ _ _ λ D s' R'=>h D s' R'
  ·exact K _ _ _ λ D s' R'=>h D s' R'
 cases R.mu _ L with
 |S_ f=>
  have k:∀b A c E,(∀D s',cS O ⟨Y.vals,J1++(a,.exc C (ah D) vs (nf name v []))::J2⟩ Kp Jj s'->c (.done (.ret .none)) s')->aW (bn O.G.prog O.G.w) A (storeInOwnDict (.ref a) (.ref C) (.str name s.toks) name u b) c E {s with toks:=s.toks+1}:=λ b A c E r=>by
   refine aw (az (aw (aw (fc f (aw (oF X z _ _ _ _ (λ Z Z e=>e) ?_))))));rw[hd];refine aw (Ef (aw (wpAny_update (aL _ f) ?_)));refine az (a:=ah s.heap.objs.size) (aw (az ?_));have i:a≠s.heap.objs.size:=cm (cq f);have t:((s.heap.push {cls:=.type "dict",data:=.dict #[]}).update a λ o=>{cls:=o.cls,dict:=ah s.heap.objs.size,data:=o.data,slots:=o.slots}).get? a=ah {cls:=.ref C,dict:=ah s.heap.objs.size,data:=.fields vs}:=
    dc _ (aL _ f) rfl
   have F:((s.heap.push {cls:=.type "dict",data:=.dict #[]}).update a λ o=>{cls:=o.cls,dict:=ah s.heap.objs.size,data:=o.data,slots:=o.slots}).get? s.heap.objs.size=ah (dictOf [] 0):=
    (fG _ _ _ _ i.symm).trans (Heap.get?_push_at rfl rfl)
   have w:∀b o,s.heap.get? b=ah o->b≠a->((s.heap.push {cls:=.type "dict",data:=.dict #[]}).update a λ o=>{cls:=o.cls,dict:=ah s.heap.objs.size,data:=o.data,slots:=o.slots}).get? b=ah o:=
    λ b o e G=>(fG _ _ _ _ G).trans (aL _ e)
   have J:=R.Wg (q:=(a,.exc C (ah s.heap.objs.size) vs [])) (s':={s with heap:=(s.heap.push {cls:=.type "dict",data:=.dict #[]}).update a λ o=>{cls:=o.cls,dict:=ah s.heap.objs.size,data:=o.data,slots:=o.slots},toks:=s.toks+1}) ok g ⟨rfl,rfl,rfl⟩
    (λ b o e p=>w b o e λ l=>p (by simp[ch,l])) (λ b o e=>by
     by_cases l:b=a
     ·subst l;exact ⟨_,t⟩
     ·exact ⟨_,w b o e l⟩) (.S9 t F .nil) (by simp[ch,i]) (λ b p=>by
     rcases aI.mp p with h|h
     ·exact .inl (by rw[h];exact aE.mpr rfl)
     ·exact .inr (by rw[aE.mp h];exact dm _))
   exact sS (tk:=s.toks) ok J rfl (by decide) y λ s' R'=>r _ s' R'
  exact main s ai _ ⟨f,rfl,rfl,trivial⟩ (k aj) (k ao)
 |S9 f H N=>
  rename_i d es n;have k:∀b A c E,(∀D s',cS O ⟨Y.vals,J1++(a,.exc C (ah D) vs (nf name v fs))::J2⟩ Kp Jj s'->c (.done (.ret .none)) s')->aW (bn O.G.prog O.G.w) A (storeInOwnDict (.ref a) (.ref C) (.str name s.toks) name u b) c E {s with toks:=s.toks+1}:=λ b A c E r=>by refine aw (az (aw (aw (fc f (aw (oF X z _ _ _ _ (λ Z Z e=>e) ?_))))));rw[hd];refine az (a:=ah d) (aw (az ?_));exact sS (tk:=s.toks) ok (R.toks (s.toks+1)) g hz y λ s' R'=>r _ s' R'
  exact main s (ah (dictOf es n)) _ ⟨f,rfl,rfl,H⟩ (k aj) (k ao)
inductive PI(K:gb)(name:Str)(Q:Option (Option V)->St->Prop)(v ov:V)(Y:St):Prop
 |mk (a C:aG) (dd:Option aG) (vs:Array Value) (fs:List (Str×V)) (J1 J2:Mu) (e:ov=.ref a) (h:Y.mu=J1++(a,.exc C dd vs fs)::J2) (s:sw K C name=aj) (z:fs.length<900) (q:∀D,Q ai ⟨Y.vals,J1++(a,.exc C (ah D) vs (nf name v fs))::J2⟩)
theorem HJ{o:Expr}{Q:Option (Option V)->St->Prop}(ok:O.Ok)(h:XV O Ex (bw e O.env) (kR O Ex o (PI O.G.K name Q)) Y)(n:eo e (ah (.Attribute o name pos')) pos.line O.env=pure ao):XF O Ex (gg (.Assign [.Attribute o name pos'] e pos) O.env) Q Y:=λ Kp Jj s R=>
 sM (h.Rr R λ u k v g Kk l₁ c p h₁=>X.Rr h₁ c λ q Rw ov j f l₂ b m d=>by
  cases d with
  |mk a C r vs fs J1 J2 e i hk hz l=>subst e;cases m;exact Ez ok b i hk hz (p.mono l₂) λ D s' R'=>⟨ai,_,f,l₁.trans l₂,R',.next,l D⟩) n
theorem EB{x:Str}{i:Nat}{np a pos:gY}{args:List Expr}{Q:V->St->Prop}(ok:O.Ok)(d:O.env.builtins=ff)(hi:O.ns[i]? =ah (x,.glob))(k:mM O.G.K b8 x=ah ai)(j:so x=ah (.type "Exception"))(l:x≠"__name__")(hd:iS x=aj)
 (b:DO pos args O.env) (h:XL O Ex (c7 (cO pos (bk args O.env))) (λ vs c=>cU O Ex (.builtin "Exception.__init__") vs Q c) Y)
 (n:bw (.Call (.Attribute (.Name x np) "__init__" a) args [] pos) O.env=(do
  let ov <-bw (.Name x np) O.env
  i1 a.atName
  gT (.Name x np) "__init__" a pos O.env ov (args.length+0) (cO pos (bk args O.env)) []))
 (g:Hv pos args O.env) (f:(a.endLine==pos.line)=aj):
 XV O Ex (bw (.Call (.Attribute (.Name x np) "__init__" a) args [] pos) O.env) Q Y:=λ Kp Jj s R=>by
 rw[n];refine aw (u7 i ok d hi k j l hd R (aw (et ?_)));dsimp only[gT];refine aw (bE ?_);dsimp only[Eo];rw[g,if_pos rfl];refine ze (R.fr ok) λ m F=>?_;refine method_type F ok.SA FO C8 (uz _) rfl ?_;show aW _ _ (d1 aj (.Name x np) O.env a pos>>=_) _ _ _;rw[(show d1 aj (.Name x np) O.env a pos=pure pos by dsimp only[d1];rw[f];rfl)];refine aw (az ?_);exact aY (jo (first:=[]) ok (iJ _ _) b h Kp Jj _ [] (R.toks _) .nil) (λ Z Z x=>x) λ Z Z e=>e
end
noncomputable def mO(sc:iH)(look:Str->aG):List (Str×NK):=lV (look "") sc.names
structure f_(O:FC)(G:GC)(d:Nat)(T:(Str->aG)->List (Str×NK)):Prop where
 ok:O.Ok
 g:O.G=G
 dep:O.dep=d
 ns:∃look,O.ns=T look
 bt:O.env.builtins=ff
noncomputable def dP:Value->aQ->Prop:=λ Z Z=>False
theorem l7{G:GC}{d:Nat}{f:aG}{name qual:Str}{a:eM}{body:List Stmt}{scope:iH}{pn:List Str}{RI:List V}(Yy:cv G f name qual a body scope pn RI)
 (args:List V) (J:Mu) (post:V->Mu->Prop) (b:args.length+RI.length=pn.length)
 (H:∀O:FC,f_ O G d (mO scope)->(∀(i:Nat) (x:Str) (c:aG),O.ns[i]? =ah (x,NK.RJ c)->c∈O.own)->XF O dP (eL body O.env) (AG J post) ⟨(args++RI).map ah++bv (scope.names.length-pn.length) ai,J⟩):
 cF G (d+1) (.ref f) args J post:=
 NC Yy args J post b λ O ok j hd e g l h=>by refine ze e λ n k=>?_;exact H O ⟨ok,j,hd,⟨λ Z=>n,k⟩,h⟩ g
theorem di{G:GC}{d:Nat}{f:aG}{name qual:Str}{a:eM}{body:List Stmt}{scope:iH}{pn:List Str}{RI:List V}(Yy:cv G f name qual a body scope pn RI)
 (args:List V) (J:Mu) (post:V->Mu->Prop) (b:args.length+RI.length=pn.length)
 (H:∀O:FC,f_ O G d (mO scope)->XF O dP (eL body O.env) (AG J post) ⟨(args++RI).map ah++bv (scope.names.length-pn.length) ai,J⟩):
 cF G (d+1) (.ref f) args J post:=l7 Yy args J post b λ O I Z=>H O I
theorem uT.S7{b:FC}(I:f_ O G d T)(C:uT O b sc):f_ b G d (λ a=>Ha a sc.names):=
 ⟨C.ok,C.G.trans I.g,C.dep.trans I.dep,C.ns,C.bi.trans I.bt⟩
theorem f_.at(I:f_ O G d T)(i:Nat){x:Str}{k:NK}(h:∀n,(T n)[i]? =ah (x,k)):O.ns[i]? =ah (x,k):=by refine ze I.ns λ n e=>?_;rw[e];exact h n
noncomputable def Jr(O:FC):Prop:=∀(i:Nat) (x:Str) (c:aG),O.ns[i]? =ah (x,NK.RJ c)->c∈O.own
theorem f_.cell(I:f_ O G d T)(i:Nat){x:Str}(h:∀n,∃c,(T n)[i]? =ah (x,.RJ c)):∃c,O.ns[i]? =ah (x,.RJ c):=by refine ze I.ns λ n e=>?_;rw[e];exact h n
theorem f_.own(I:f_ O G d T)(a:Jr O)(i:Nat){x:Str}(h:∀n,∃c,(T n)[i]? =ah (x,.RJ c)):nx O i x:=
 by refine ze (I.cell i h) λ c e=>?_;exact .RJ e (a i x c e)
theorem f_.cnm(I:f_ O G d T)(i:Nat){x:Str}(h:∀n,∃c,(T n)[i]? =ah (x,.RJ c)):r5 O i x:=by refine ze (I.cell i h) λ c e=>?_;exact .RJ e
theorem nl(I:f_ O G d T)(i:Nat){x:Str}{pos:gY}{v:V}{Q:V->St->Prop}(a:Y.vals[i]? =ah (ah v))(h:Q v Y)(b:autoParam (∀n,(T n)[i]? =ah (x,.loc)) rf)(hd:autoParam (iS x=aj) rf):
 XV O Ex (bw (.Name x pos) O.env) Q Y:=Bk i I.ok (.loc (I.at i b)) a h hd
theorem nc(I:f_ O G d T)(i:Nat){x:Str}{pos:gY}{v:V}{Q:V->St->Prop}(a:Y.vals[i]? =ah (ah v))(h:Q v Y)(b:autoParam (∀n,∃c,(T n)[i]? =ah (x,.RJ c)) rx)(hd:autoParam (iS x=aj) rf):
 XV O Ex (bw (.Name x pos) O.env) Q Y:=Bk i I.ok (I.cnm i b) a h hd
theorem sl(I:f_ O G d T)(i:Nat){x:Str}{e:Expr}{Q:Option (Option V)->St->Prop}(h:XV O Ex (bw e O.env) (we i Q) Y)(b:autoParam (∀n,(T n)[i]? =ah (x,.loc)) rf)(a:autoParam (eo e (ah (.Name x pos')) pos.line O.env=pure ao) rf):XF O Ex (gg (.Assign [.Name x pos'] e pos) O.env) Q Y:=
 u9 i I.ok (.loc (I.at i b)) h a
theorem DZ(I:f_ O G d T)(a:Jr O)(i:Nat){x:Str}{e:Expr}{Q:Option (Option V)->St->Prop}(h:XV O Ex (bw e O.env) (we i Q) Y)(f:autoParam (∀n,∃c,(T n)[i]? =ah (x,.RJ c)) rx)(b:autoParam (eo e (ah (.Name x pos')) pos.line O.env=pure ao) rf):XF O Ex (gg (.Assign [.Name x pos'] e pos) O.env) Q Y:=
 u9 i I.ok (I.own a i f) h b
theorem al(I:f_ O G d T)(i:Nat){x:Str}{v:V}{Q:St->Prop}(h:Q (Y.set i v))(a:autoParam (∀n,(T n)[i]? =ah (x,.loc)) rf):XA O Ex (ec (.Name x pos) O.env) v Q Y:=
 DM i I.ok (.loc (I.at i a)) h
theorem ac(I:f_ O G d T)(a:Jr O)(i:Nat){x:Str}{v:V}{Q:St->Prop}(h:Q (Y.set i v))(b:autoParam (∀n,∃c,(T n)[i]? =ah (x,.RJ c)) rx):XA O Ex (ec (.Name x pos) O.env) v Q Y:=
 DM i I.ok (I.own a i b) h
theorem ag(I:f_ O G d T)(i:Nat){x:Str}{op:Operator}{e:Expr}{v:V}{Q:Option (Option V)->St->Prop}(b:Y.vals[i]? =ah (ah v))(h:XV O Ex (bw e O.env) (Jq O Ex (AQ op) (we i Q) v) Y)(a:autoParam (∀n,(T n)[i]? =ah (x,.loc)) rf):XF O Ex (gg (.AugAssign (.Name x pos') op e pos) O.env) Q Y:=
 JI i I.ok (.loc (I.at i a)) (.loc (I.at i a)) b h
theorem sb(h:XV O Ex (bw value O.env) (kR O Ex slice (mU O Ex Q)) Y)(a:autoParam (∀o i,subscripted slice ao o i=operate [o,i] (km o i)) rf):XV O Ex (bw (.Subscript value slice pos) O.env) Q Y:=JG h a
theorem a1{Q:List V->St->Prop}(h:XV O Ex (bw e O.env) (PR Q) Y)(a:autoParam (bk [e] O.env=(ao,bw e O.env)::bk [] O.env) rf):XL O Ex (c7 (cO pos (bk [e] O.env))) Q Y:=
 pg (h.mono λ Z Z q=>cz q) a
theorem an{a:List Expr}{Q:List V->St->Prop}(h:XV O Ex (bw e O.env) (Nv O Ex a pos Q) Y)(b:autoParam (bk (e::a) O.env=(ao,bw e O.env)::bk a O.env) rf):XL O Ex (c7 (cO pos (bk (e::a) O.env))) Q Y:=pg h b
theorem tv{Q:Bool->St->Prop}(h:XV O Ex (bw e O.env) (kT O Ex Q) Y)(a:autoParam (∀whole,ez e O.env whole=(do let v <-whole;i1 e.pos;kj [v] (Hy v))) rf):XB O Ex (ez e O.env (bw e O.env)) Q Y:=JM h a
theorem tq{l r:Expr}{Q:Bool->St->Prop}(h:XV O Ex (bw l O.env) (kR O Ex r (Jq O Ex (cK op) (kB Q))) Y)(a:autoParam (zl op r=ao) rf):XB O Ex (ez (.Compare l [op] [r] pos) O.env whole) Q Y:=JN h a
noncomputable def QY(Q:V->St->Prop)(v:V)(Y:St):Prop:=Q (.tup [v]) Y
noncomputable def QX(Q:V->St->Prop)(v w:V)(Y:St):Prop:=Q (.tup [v,w]) Y
noncomputable def QW(Q:V->St->Prop)(u v w:V)(Y:St):Prop:=Q (.tup [u,v,w]) Y
noncomputable def PH(O:FC)(Ex:Value->aQ->Prop)(c:Expr)(Q:V->St->Prop)(u v:V)(Y:St):Prop:=XV O Ex (bw c O.env) (QW Q u v) Y
noncomputable def Q5(Q:V->St->Prop)(v:V)(Y:St):Prop:=Q (.list [v]) Y
theorem t1{a:Expr}{k:Nat}{pos:gY}{Q:V->St->Prop}(h:XV O Ex (bw a O.env) (QY Q) Y)(b:autoParam (bk [a] O.env=(ao,bw a O.env)::bk [] O.env) rf):
 XV O Ex (bw (.Tuple [a] k pos) O.env) Q Y:=p9 (a1 (h.mono λ Z Z q=>⟨by simp only[dE];simp,q⟩) b)
theorem t2{a b:Expr}(h:XV O Ex (bw a O.env) (kR O Ex b (QX Q)) Y)(c:autoParam (bk [a,b] O.env=(ao,bw a O.env)::bk [b] O.env) rf)(d:autoParam (bk [b] O.env=(ao,bw b O.env)::bk [] O.env) rf):XV O Ex (bw (.Tuple [a,b] k pos) O.env) Q Y:=p9 (an (h.mono λ Z Z h=>a1 (h.mono λ Z Z q=>⟨by simp only[dE];simp,q⟩) d) c)
theorem t3{a b c:Expr}(h:XV O Ex (bw a O.env) (kR O Ex b (PH O Ex c Q)) Y)(f:autoParam (bk [a,b,c] O.env=(ao,bw a O.env)::bk [b,c] O.env) rf)(e:autoParam (bk [b,c] O.env=(ao,bw b O.env)::bk [c] O.env) rf)(d:autoParam (bk [c] O.env=(ao,bw c O.env)::bk [] O.env) rf):XV O Ex (bw (.Tuple [a,b,c] k pos) O.env) Q Y:=
 p9 (an (h.mono λ Z Z h=>an (h.mono λ Z Z h=>a1 (h.mono λ Z Z q=>⟨by simp only[dE];simp,q⟩) d) e) f)
theorem l1{a:Expr}{pos:gY}{Q:V->St->Prop}(h:XV O Ex (bw a O.env) (Q5 Q) Y)(b:autoParam (bk [a] O.env=(ao,bw a O.env)::bk [] O.env) rf):
 XV O Ex (bw (.List [a] pos) O.env) Q Y:=f5 (a1 (h.mono λ Z Z q=>⟨by simp only[dE];simp,q⟩) b)
structure QA(G:GC)(x qual:Str)(st:Stmt)(pn:List Str)(RI:List V)(f:aG):Prop where
 g:mM G.K b8 x=ah (ah (.ref f))
 k:m4 G.K (.ref f)=aj
 y:cv G f x qual (cP st) (cA st) (bG st) pn RI
noncomputable abbrev Fn(G:GC)(x qual:Str)(st:Stmt)(pn:List Str)(RI:List V):Prop:=∃f,QA G x qual st pn RI f
section
variable{st:Stmt}
noncomputable def Fn.f(F:Fn G x qual st pn RI):aG:=F.choose
theorem Fn.p(F:Fn G x qual st pn RI):QA G x qual st pn RI F.f:=F.choose_spec
theorem Fn.y(F:Fn G x qual st pn RI):cv G F.f x qual (cP st) (cA st) (bG st) pn RI:=F.p.y
end
structure fC(G:GC)(x:Str)(v:Value):Prop where
 n:mM G.K b8 x=ah ai
 b:so x=ah v
 ne:x≠"__name__"
 k:nz G v
theorem cg(I:f_ O G d T)(i:Nat){x:Str}{st:Stmt}(F:Fn G x qual st pn RI){Q:V->St->Prop}(h:XL O Ex (c7 (cO pos (bk args O.env))) (rE O Ex (.ref F.f) Q) Y)(hi:autoParam (∀n,(T n)[i]? =ah (x,.glob)) rf)(hd:autoParam (iS x=aj) rf)(a:autoParam (DO pos args O.env) rf):XV O Ex (bw (.Call (.Name x np) args [] pos) O.env) Q Y:=
 tM i I.ok (I.at i hi) (by rw[I.g];exact F.p.g) hd (by rw[I.g];exact F.p.k) a h
theorem cb(I:f_ O G d T)(i:Nat){x:Str}{v:Value}(F:fC G x v){Q:V->St->Prop}(h:XL O Ex (c7 (cO pos (bk args O.env))) (rE O Ex v Q) Y)(hi:autoParam (∀n,(T n)[i]? =ah (x,.glob)) rf)(hd:autoParam (iS x=aj) rf)(a:autoParam (DO pos args O.env) rf):XV O Ex (bw (.Call (.Name x np) args [] pos) O.env) Q Y:=
 EE i I.ok I.bt (I.at i hi) ((bA I.g)▸F.n) F.b F.ne hd (by rw[I.g];exact F.k) a h
theorem sp(I:f_ O G d T){f:Value}{vs:List V}{Q:V->St->Prop}{J1:Mu}(J2:Mu){post:V->Mu->Prop}(h:cF G d' f vs J1 post)(hd:d'<=d)(a:Y.mu=J1++J2)(q:∀v J',post v J'->Q v ⟨Y.vals,J'++J2⟩):cU O Ex f vs Q Y:=
 HH J2 I.ok ((bA I.g)▸h) (by simp only[I.dep];exact hd) a q
theorem i6{v:V}(h:post v J):Fin J post v J:=⟨[],J,J,v,rfl,λ Z h=>h,dI.refl _ _,.refl v,h⟩
theorem LV.of{v:V}(h:LV Y v xs)(e:autoParam (Y.mu=Y'.mu) rf):LV Y' v xs:=by
 cases h with
 |frozen=>exact .frozen
 |led i hi=>exact .led i (e▸hi)
noncomputable abbrev V.nat(n:Nat):V:=.int n
theorem tD(a b:Nat):Builtin.bitOr (a:Int) (b:Int)=((a|||b:Nat):Int):=by
 have e:∀n:Nat,Builtin.bitNot (n:Int)=sd n:=λ n=>by cases n<;>rfl
 have c:∀n:Nat,Builtin.bitNot (sd n)=(n:Int):=λ n=>Int.add_sub_cancel n 1;dsimp only[Builtin.bitOr,Builtin.bitAnd];rw[e,e];have d:decide (0<=sd a)=ao:=by simp
 simp only[d,(show decide (0<=sd b)=ao by simp)];simp only[c,gp];simp only[e,c]
theorem dY{f:α->V}{xs:List α}(h:i<xs.length)(d:α):(xs.map f)[i]? =ah (f (xs.getD i d)):=by simp only[aN,ay h,aD];rfl
theorem fR{f:α->V}{xs:List α}(h:i<xs.length)(d:α):(xs.map f).getD i .none=f (xs.getD i d):=by refine (aD).trans ?_;rw[dY h d];rfl
theorem jj{xs:List α}(h:i<xs.length)(d:α):xs.drop i=xs.getD i d::xs.drop (i+1):=by simp only[kh h,aD,ay h];rfl
theorem bd{xs:List α}(h:i<xs.length)(d:α):xs.getD i d∈xs:=by simp only[aD,ay h];exact cI h
theorem QG{n:Nat}(h:n<=16):n<=eZ:=by exact aA ‹_› (by decide)
inductive At{A:Type}(st:A->St)(I:A->Prop)(Y:St):Prop
 |mk (a:A) (e:Y=st a) (h:I a)
inductive Ju{A:Type}(n:Nat)(st:A->St)(I:Nat->A->Prop)(Y:St):Prop
 |mk (m:Nat) (l:m<n) (a:A) (e:Y=st a) (h:I m a)
theorem At.on{A:Type}{st:A->St}{I:A->Prop}{g:Prop}(h:At st I Y)(k:∀a,Y=st a->I a->g):g:=by cases h;exact k _ ‹_› ‹_›
inductive Hk(O:FC)(Ex:Value->aQ->Prop)(target:Expr)(body:List Stmt){A:Type}(st:A->St)(In:Nat->A->Prop)(Q:Option (Option V)->St->Prop)(v:V)(Y:St):Prop
 |mk (n:Nat) (xs:Nat->V) (de:St->Prop) (W:i7 O O.A v n xs de Y) (a:A) (e:Y=st a) (h0:In 0 a) (hG:∀i a,i<=n->In i a->de (st a))
  (step:∀i a,i<n->In i a->XA O Ex (ec target O.env) (xs i) (ql O Ex body (oz Q (At st (In (i+1))))) (st a)) (fin:∀a,In n a->Q ai (st a))
section
variable{f:aG}
theorem iL{A:Type}{Q:Option (Option V)->St->Prop}(st:A->St)(g:Nat->A->Prop)(h:XV O Ex (bw iter O.env) (Hk O dP target body st g Q) Y)(k:autoParam (∀x,eK iter O.env x=pure x) rf):XF O Ex (gg (.For target iter body [] pos) O.env) Q Y:=
 lw (ExB:=dP) (λ i=>At st (g i)) (λ Z Z h=>h.elim) (h.mono λ Z Z c=>by obtain ⟨n,xs,de,W,a,e,j,l,step,fin⟩:=c;exact ⟨n,xs,de,W,⟨a,e,j⟩,λ i Z hi d=>by obtain ⟨a,e,h⟩:=d;exact e▸l i a hi h,
  λ i Z hi b=>by obtain ⟨a,e,h⟩:=b;exact e▸step i a hi h,λ Z f=>by obtain ⟨a,e,h⟩:=f;exact e▸fin a h⟩) k
theorem tK{A:Type}{Q:Option (Option V)->St->Prop}(st:A->St)(d:Nat->A->Prop)(n:Nat)(a:A)(e:Y=st a)(h:d n a)(step:∀n a,d n a->XB O dP (ez test O.env (bw test O.env)) (PG O dP body Q (Ju n st d)) (st a)):XF O Ex (gg (.While test body [] pos) O.env) Q Y:=
 p8 (ExB:=dP) (λ n=>At st (d n)) (λ Z Z h=>h.elim) (λ n Z g=>At.on g λ a e h=>by
  cases e;refine (step n a h).mono λ b c q=>?_;cases b with
  |false=>exact q
  |true=>
   refine X.mono (show XF O dP (eL body O.env) (oz Q (Ju n st d)) c from q) λ fl f q=>?_
   match fl,q with
   |some (ah r),q=>exact q
   |none,⟨m,l,a,e,h⟩=>exact ⟨m,l,a,e,h⟩
   |some ai,⟨m,l,a,e,h⟩=>exact ⟨m,l,a,e,h⟩) n ⟨a,e,h⟩
end
theorem rK(a b:Nat):Int.fdiv (a:Int) (b:Int)=((a/b:Nat):Int):=by refine (Int.fdiv_eq_ediv_of_nonneg _ (bs b)).trans ?_;rfl
theorem C3(a b:Nat):Int.fmod (a:Int) (b:Int)=((a%b:Nat):Int):=by refine (Int.fmod_eq_emod_of_nonneg _ (bs b)).trans ?_;rfl
theorem xn{i:Int}(n:Nat)(h:Q (.nat n) Y)(e:autoParam (i=(n:Int)) rf):XV O Ex (bw (.Constant (.int i) k pos) O.env) Q Y:=dN ((bA e)▸h)
theorem fQ(h:Q (.nat (a+b)) Y):iF O Ex (dT .Add) (VR O.P) (.nat a) (.nat b) Q Y:=M_ h
theorem Fm(h:Q (.nat (a+1)) Y):iF O Ex (AQ .Add) (VR O.P) (.nat a) (.int 1) Q Y:=Iq h
theorem yJ(c:b<=a)(h:Q (.nat (a-b)) Y):iF O Ex (dT .Sub) (VR O.P) (.nat a) (.nat b) Q Y:=M1 (by rwa [show (a:Int)-b=((a-b:Nat):Int)from MF c])
theorem Cn(d:0<b)(c:b<2^20)(h:Q (.nat (a/b)) Y):iF O Ex (dT .FloorDiv) (VR O.P) (.nat a) (.nat b) Q Y:=Is (G0 d) (aH ‹_› (by decide)) (by rwa [rK])
theorem Cm(c:0<b)(h:Q (.nat (a%b)) Y):iF O Ex (dT .Mod) (VR O.P) (.nat a) (.nat b) Q Y:=G9 (G0 c) (by rwa [C3])
theorem Ck(h:Q (.nat (a|||b)) Y):iF O Ex (dT .BitOr) (VR O.P) (.nat a) (.nat b) Q Y:=M3 (by rwa [tD])
theorem Hc(c:Builtin.Int.intBits (a:Int)<=64)(h:Q (.nat (a*b)) Y):iF O Ex (dT .Mult) (VR O.P) (.nat a) (.nat b) Q Y:=M6 (.of_left c) h
theorem t8(h:Q (.bool (decide (a<b))) Y):iF O Ex (cK .Lt) (VR O.P) (.nat a) (.nat b) Q Y:=t4 (by rwa [show decide ((a:Int)<b)=decide (a<b)by simp])
theorem zV(h:Q (.bool (a==b)) Y):iF O Ex (cK .Eq) (VR O.P) (.nat a) (.nat b) Q Y:=G_ (by rwa [show ((a:Int)==b)=(a==b)by rw[fh];simp;exact GZ])
theorem Fl(h:Q (.bool (a !=b)) Y):iF O Ex (cK .NotEq) (VR O.P) (.nat a) (.nat b) Q Y:=vR (by rwa [show ((a:Int) !=b)=(a !=b)by rw[fh];simp;exact ME])
noncomputable def eH(nul:List Bool)(fs:List Nat):Nat->List Nat->Nat×Bool
 |m,[]=>(m,aj)
 |m,s::r=>if nul.getD s ao=aj then eH nul fs (m|||fs.getD s 0) r else (m|||fs.getD s 0,ao)
theorem n9{a:List Bool}{fs:List Nat}{m}:eH a fs m []=((m,aj)):=rfl
theorem l5{a:List Bool}{fs:List Nat}{m s r}:eH a fs m (s::r)=(if a.getD s ao=aj then eH a fs (m|||fs.getD s 0) r else (m|||fs.getD s 0,ao)):=rfl
theorem qU{G:GC}{d:Nat}{f:aG}{name qual:Str}(Yy:cv G f name qual (cP (top 17)) (cA (top 17)) (bG (top 17)) ["symbols","nullables","firsts"] []){J:Mu}{l:V}(a:List Nat)(b:List Bool)(fs:List Nat)
 (p:LV ⟨[],J⟩ l (fs.map V.nat)) (r:∀s∈a,s<b.length/\s<fs.length/\s<2^62):
 cF G (d+1) (.ref f) [.tup (a.map V.nat),.list (b.map .bool),l] J (λ v J'=>v=.tup [.nat (eH b fs 0 a).1,.bool (eH b fs 0 a).2]/\J'=J):=by
 refine di Yy _ J _ rfl λ O I=>?_;let Z:Nat->St->Prop:=λ i Y=>∃m o,Y=⟨[ah (.tup (a.map V.nat)),ah (.list (b.map .bool)),ah l,ah (.nat m),o],J⟩/\eH b fs m (a.drop i)=eH b fs 0 a
 refine aB (sl I 3 (dN (aB (lw (ExB:=dP) Z (λ Z Z h=>h.elim) (nl I 0 rfl ⟨_,_,_,u_ I.ok.hand,⟨0,ai,rfl,rfl⟩,λ Z Z Z Z=>trivial,λ i Y hi=>?_,?_⟩) λ Z=>rfl))))
 ·intro k;refine hQ k λ m o n e=>?_;subst n;simp only[au]at hi;have c:=r _ (bd hi 0);simp only[fR hi 0];refine al I 4 (aB (sl I 3 (bx (nl I 3 rfl (sb (nl I 2 rfl (nl I 4 rfl ⟨⟨_,.list p.of⟩,dQ p.of (dY c.2.1 0) c.2.2 (M3 ?_)⟩)))))));rw[tD];refine aB (e4 (sR (tv (sb (nl I 1 rfl (nl I 4 rfl ⟨⟨_,.list .frozen⟩,dQ .frozen (dY c.1 ao) c.2.2 (jp ?_)⟩))))));rw[jj hi 0]at e;cases q:b.getD (a.getD i 0) ao with
  |true=>exact bm (bm ⟨_,_,rfl,by (rw[<-e];dsimp only[n9,l5];rw[if_pos q])⟩)
  |false=>exact aB (dF (t2 (nl I 3 rfl (i3 (i6 ⟨by (rw[<-e];dsimp only[n9,l5];rw[if_neg (by rw[q];decide)]),rfl⟩)))))
 ·intro Y g;refine hQ g λ m o j e=>?_;subst j;rw[au,iZ]at e;exact aB (dF (t2 (nl I 3 rfl (i3 (i6 ⟨by rw[<-e];rfl,rfl⟩)))))
noncomputable def tj(tc:Nat)(l:List Nat):Int:=l.foldl (λ f s=>if s<tc then (s:Int)else f) (-1)
theorem xI{l:List Nat}(hi:i<l.length):tj tc (l.take (i+1))=if l.getD i 0<tc then ((l.getD i 0:Nat):Int)else tj tc (l.take i):=by unfold tj;rw[aS hi,fm,aD,ay hi];rfl
theorem pP{G:GC}{d:Nat}{f:aG}{name qual:Str}(Yy:cv G f name qual (cP (top 12)) (cA (top 12)) (bG (top 12)) ["right","terminal_count"] []){J:Mu}(l:List Nat)(tc:Nat):
 cF G (d+1) (.ref f) [.tup (l.map V.nat),.nat tc] J (λ v J'=>v=.int (tj tc l)/\J'=J):=by
 refine di Yy _ J _ rfl λ O I=>?_;let Z:Nat->St->Prop:=λ i Y=>∃o,Y=⟨[ah (.tup (l.map V.nat)),ah (.nat tc),ah (.int (tj tc (l.take i))),o],J⟩
 refine aB (sl I 2 (iu (dN (kF (aB (lw (ExB:=dP) Z (λ Z Z h=>h.elim) (nl I 0 rfl ⟨_,_,_,u_ I.ok.hand,⟨ai,rfl⟩,λ Z Z Z Z=>trivial,λ i Y hi=>?_,?_⟩) λ Z=>rfl))))))
 ·intro b;obtain ⟨o,rfl⟩:=b;simp only[au]at hi;rw[fR hi 0];refine al I 3 (aB (e4 (tq (nl I 3 rfl (nl I 1 rfl (t4 ⟨_,rfl,?_⟩))))));have h:=xI (tc:=tc) hi;by_cases a:l.getD i 0<tc
  ·rw[if_pos a]at h;refine iD (by simpa using a) ?_;exact aB (sl I 2 (nl I 3 rfl (bm (bm ⟨_,by rw[h];rfl⟩))))
  ·rw[if_neg a]at h;refine fX (by simpa using a) ?_;exact bm (bm ⟨_,by rw[h];rfl⟩)
 ·intro Y c;obtain ⟨o,rfl⟩:=c;rw[au,a0];exact aB (dF (nl I 2 rfl (i6 ⟨rfl,rfl⟩)))
noncomputable def pick(row:List Nat)(i m:Nat):Nat:=(row.getD (i%row.length) 0/(1+i/row.length)+5*(i/row.length))%m
theorem BN{G:GC}{d:Nat}{f:aG}{name qual:Str}(Yy:cv G f name qual (cP (top 30)) (cA (top 30)) (bG (top 30)) ["row","at","most"] [])(B:fC G "len" (.builtin "len")){J:Mu}(row:List Nat)(i m:Nat)
 (e:0<row.length) (g:row.length<64) (hi:i<1000) (k:0<m) (j:m<3000):
 cF G (d+1) (.ref f) [.list (row.map V.nat),.nat i,.nat m] J (λ v J'=>v=.nat (pick row i m)/\J'=J):=by
 refine di Yy _ J _ rfl λ O I=>?_;have c:=Nat.mod_lt i e;have l:i/row.length<=i:=Nat.div_le_self _ _;have a:(row.map V.nat).length=row.length:=au ..;have n:Builtin.Int.intBits ((5:Nat):Int)<=64:=by decide
 have b:∀{Ex:Value->aQ->Prop} {Y:St} {Q:V->St->Prop},Q (.nat row.length) Y->cU O Ex (.builtin "len") [.list (row.map V.nat)] Q Y:=λ h=>lq .frozen (by rw[a];exact aH ‹_› (by decide)) ((bA a)▸h);refine aB (sl I 3 (bx (nl I 1 rfl (cb I 4 B (a1 (nl I 0 rfl (b (Cn e (bD g (by decide)) (aB (dF (bx (bx (bx (sb (nl I 0 rfl (bx (nl I 1 rfl (cb I 4 B (a1 (nl I 0 rfl (b (Cm e ⟨⟨_,.list .frozen⟩,dQ .frozen (dY c 0) (L3 c g) ?_⟩))))))))))))))))))))));refine bx (xn 1 (nl I 3 rfl (fQ (Cn (by simp only[ft];exact cr _) (aR (jz l 1) (L4 hi)) (bx (xn 5 (nl I 3 rfl (Hc n (fQ (nl I 2 rfl (Cm k (i6 ⟨rfl,rfl⟩))))))))))))
theorem FG{vs:List Value}(a:j<=vs.length):(have k:=if (j:Int)<0 then ((j:Int)+((vs.toArray.size:Nat):Int)).toNat else min (j:Int).toNat vs.toArray.size;(vs.toArray.extract 0 k).push u++vs.toArray.extract k)=(vs.take j++u::vs.drop j).toArray:=by
 have hk:(if (j:Int)<0 then ((j:Int)+((vs.toArray.size:Nat):Int)).toNat else min (j:Int).toNat vs.toArray.size)=j:=by rw[if_neg (i8.mpr (bs j))];dsimp only[gp];rw[bI,jx a]
 show (vs.toArray.extract 0 _).push u++vs.toArray.extract _=_;rw[hk];simp[lL]
theorem Dr{a:aG}{v:V}{xs:List V}{j:Nat}{Q:V->St->Prop}(i:Nat)(ok:O.Ok)(hi:Y.mu[i]? =ah (a,.list xs))(hz:xs.length<=2^20)(f:j<=xs.length)(h:Q .none ⟨Y.vals,Y.mu.set i (a,.list (xs.take j++v::xs.drop j))⟩):
 cU O Ex (.builtin "list.insert") [.ref a,.nat j,v] Q Y:=.three λ Kp Jj s u w c R o g l=>o.RS (g.RB λ t=>(R.mu _ (aX hi)).listE λ vs n e rs=>by
 have b:Builtin.List.listFitsIndex (j:Int)=aj:=A7 (bs _) (KS f hz);have p:=FG (u:=c) (rs.length▸f);generalize r:(j:Int)=x at*;obtain ⟨m,d⟩:∃m,(s.heap.update a (Obj.mapSeq λ xs=>have k:=if x<0 then (x+((xs.size:Nat):Int)).toNat else min x.toNat xs.size;(xs.extract 0 k).push c++xs.extract k)).get? a=ah (W.listOf (vs.take j++c::vs.drop j).toArray m):=
  ⟨_,(dc _ e rfl).trans (congrArg ah (congrArg (W.listOf · _) p))⟩
 exact kZ PySem.F.slot_list_insert ⟨_,e,rfl⟩ PySem.F.entry_list_insert (PySem.F.args_list_insert_3 _ _ _) (PySem.AutoListH.list_insert_list_int_val_1 a vs.toArray n x t c (by rw[b];decide) (rs.sz.symm▸gP hz)) ⟨e,
  ⟨_,_,Kp,.refl _,R.SW (tk:=s.toks) (q:=(a,.list (xs.take j++v::xs.drop j))) ok hi rfl (a:=a) (by simp[ch]) (Heap.SameBut.update ..) ⟨_,d⟩ (.list d ((rs.take j).append (.cons l (rs.drop j)))),.none,h⟩⟩)
inductive Q3(O:FC)(Ex:Value->aQ->Prop)(args:List Expr)(pos:gY)(T id:String)(Q:V->St->Prop)(ov:V)(Y:St):Prop
 |mk (t:y5 Y ov T) (h:XL O Ex (c7 (cO pos (bk args O.env))) (um O Ex (.builtin id) ov Q) Y)
inductive Q1(O:FC)(Ex:Value->aQ->Prop)(G:GC)(name:Str)(args:List Expr)(pos:gY)(Q:V->St->Prop)(ov:V)(Y:St):Prop
 |mk (C:aG) (fs:List (Str×V)) (f:aG) (I:sH Y ov C fs) (m:rp G.K C name f=aj) (l:fs.lookup name=ai) (h:XL O Ex (c7 (cO pos (bk args O.env))) (um O Ex (.ref f) ov Q) Y)
inductive Q8(G:GC)(attr:Str)(Q:V->St->Prop)(o:V)(Y:St):Prop
 |mk (C:aG) (fs:List (Str×V)) (v:V) (I:sH Y o C fs) (h:j2 G.K C attr=aj) (l:fs.lookup attr=ah v) (q:Q v Y)
inductive PW(a:aG)(Q:V->St->Prop)(v:V)(Y:St):Prop
 |mk (i:Nat) (xs:List V) (e:Y.mu[i]? =ah (a,.list xs)) (z:xs.length<=2^20) (q:Q .none ⟨Y.vals,Y.mu.set i (a,.list (xs++[v]))⟩)
inductive Ra(O:FC)(Ex:Value->aQ->Prop)(e:Expr)(Q:V->St->Prop)(ov:V)(Y:St):Prop
 |mk (a:aG) (TN:List V) (j:Nat) (e1:ov=.ref a) (e2:Y.mu[j]? =ah (a,.list TN)) (h:XV O Ex (bw e O.env) (PW a Q) Y)
theorem mb(I:f_ O G d T){o:Expr}{name:Str}{c pos:gY}{args:List Expr}{T id:String}{Q:V->St->Prop}(m:PlainAttrs T)(f:Slot T name id)(g:Hx (.builtin id)=pure (.type "method_descriptor"))
 (h:XV O Ex (bw o O.env) (Q3 O Ex args pos T id Q) Y)
 (l:autoParam (Js o name args c pos O.env) rf)
 (e:autoParam (DO pos args O.env) rf)
 (k:autoParam (Hv pos args O.env) rf) (j:autoParam ((c.endLine==pos.line)=aj) rf):
 XV O Ex (bw (.Call (.Attribute o name c) args [] pos) O.env) Q Y:=ED I.ok e m f g (h.mono λ Z Z i=>by obtain ⟨a,b⟩:=i;exact ⟨a,b⟩) l k j
theorem mi(I:f_ O G d T){o:Expr}{name:Str}{e pos:gY}{args:List Expr}{Q:V->St->Prop}
 (h:XV O Ex (bw o O.env) (Q1 O Ex G name args pos Q) Y)
 (l:autoParam (Js o name args e pos O.env) rf)
 (g:autoParam (DO pos args O.env) rf)
 (k:autoParam (Hv pos args O.env) rf) (j:autoParam ((e.endLine==pos.line)=aj) rf):
 XV O Ex (bw (.Call (.Attribute o name e) args [] pos) O.env) Q Y:=EC I.ok g (h.mono λ Z Z i=>by obtain ⟨C,fs,f,a,b,c,d⟩:=i;exact ⟨C,fs,f,a,(bA I.g)▸b,c,d⟩) l k j
theorem at_(I:f_ O G d T){Q:V->St->Prop}(h:XV O Ex (bw value O.env) (Q8 G attr Q) Y)(f:autoParam (Jv value attr pos O.env) rf):XV O Ex (bw (.Attribute value attr pos) O.env) Q Y:=HO I.ok (h.mono λ Z Z e=>by obtain ⟨C,fs,v,a,b,c,d⟩:=e;exact ⟨C,fs,v,a,(bA I.g)▸b,c,d⟩) f
theorem f_.quiet(I:f_ O G d T):Ek O.env=ao:=by dsimp only[Ek];rw[I.ok.kind];rfl
theorem xe(I:f_ O G d T){e:Expr}{Q:Option (Option V)->St->Prop}(h:XV O Ex (bw e O.env) (kE Q) Y)(a:autoParam (eo e ai pos.line O.env=pure ao) rf):XF O Ex (gg (.Expr e pos) O.env) Q Y:=HM h I.quiet a
theorem Iw(I:f_ O G d T){o e:Expr}{b pos:gY}{Q:V->St->Prop}
 (h:XV O Ex (bw o O.env) (Ra O Ex e Q) Y)
 (s:autoParam (bw (.Call (.Attribute o "append" b) [e] [] pos) O.env=(do
  let ov <-bw o O.env
  i1 b.atName
  gT o "append" b pos O.env ov ([e].length+0) (cO pos (bk [e] O.env)) [])) rf)
 (n:autoParam (bk [e] O.env=(ao,bw e O.env)::bk [] O.env) rf)
 (c:autoParam ((cO pos (bk [e] O.env)).any (·.1)=ao) rf)
 (m:autoParam (wZ ([e].length+0) (cO pos (bk [e] O.env)) []=aj) rf) (l:autoParam ((b.endLine==pos.line)=aj) rf):
 XV O Ex (bw (.Call (.Attribute o "append" b) [e] [] pos) O.env) Q Y:=
 mb I PySem.F.plainAttrs_list PySem.F.slot_list_append PySem.F.type_list_append (h.mono λ Z Z f=>by obtain ⟨a,g,j,p,t,h⟩:=f;exact by subst p;exact ⟨.list (.led j t),a1 (h.mono λ Z Z k=>by obtain ⟨i,xs,r,u,q⟩:=k;exact wt i I.ok r (by exact aA ‹_› (by decide)) q) n⟩) s c m l
structure Ru where
 left:Nat
 right:List Nat
 lv:Int
structure Gr where
 names:List Str
 tc:Nat
 start:Nat
 rules:List Ru
variable{g:Gr}
noncomputable def h8:Nat->List Ru->List Nat
 |_,[]=>[]
 |a,r::rs=>a::h8 (a+(r.right.length+1)) rs
theorem yF{w0}:h8 w0 []=([]):=rfl
theorem vP{a r rs}:h8 a (r::rs)=(a::h8 (a+(r.right.length+1)) rs):=rfl
noncomputable def gU:Nat->List Ru->List Nat
 |_,[]=>[]
 |i,r::rs=>bv (r.right.length+1) i++gU (i+1) rs
theorem rg{w0}:gU w0 []=([]):=rfl
theorem ja{i r rs}:gU i (r::rs)=(bv (r.right.length+1) i++gU (i+1) rs):=rfl
noncomputable def Gr.by(g:Gr)(s:Nat):List Nat:=(aZ g.rules.length).filter λ i=>((g.rules.map (·.left)).getD i 0)==s
noncomputable def Gr.owners(g:Gr):List Nat:=gU 0 g.rules
noncomputable def Gr.RA(g:Gr):List Nat:=h8 0 g.rules
noncomputable def Gr.right(g:Gr)(r:Nat):List Nat:=(g.rules.map (·.right)).getD r []
noncomputable def Gr.off(g:Gr)(r:Nat):Nat:=g.RA.getD r 0
noncomputable def Gr.Ro(g:Gr)(i:Nat):Nat:=g.owners.getD i 0
noncomputable def Gr.Rt(g:Gr)(i:Nat):Nat:=i-g.off (g.Ro i)
noncomputable def Gr.after(g:Gr)(i:Nat):Int:=if g.Rt i<(g.right (g.Ro i)).length then (((g.right (g.Ro i)).getD (g.Rt i) 0:Nat):Int)else -1
theorem jL:∀(l:List Ru) (a:Nat),(h8 a l).length=l.length:=by
 intro l;induction l with
 |nil=>intro Z;exact rfl
 |cons Z l b=>intro a;simp[vP,b]
theorem Fg:∀(l:List Ru) (i a k:Nat),k<(gU i l).length->∃r,(gU i l)[k]? =ah (i+r)/\r<l.length/\(h8 a l).getD r 0<=a+k/\a+k-(h8 a l).getD r 0<=((l.map (·.right)).getD r []).length:=by
 intro l;induction l with
 |nil=>intro i a k h;simp[rg]at h
 |cons q l b=>
  intro i a k h;simp only[ja,aF,bR]at h;dsimp only[rg,ja];by_cases hk:k<q.right.length+1
  ·refine ⟨0,?_,by simp,by simp[yF,vP],by simp[yF,vP];exact cp ‹_›⟩;refine (c3 (by simpa using hk)).trans ?_;refine (lB).trans ?_;refine (if_pos hk).trans ?_;rfl
  ·refine k4 (b (i+1) (a+(q.right.length+1)) (k-(q.right.length+1)) (Ke h hk)) λ r f c g d=>?_;refine ⟨r+1,?_,by simpa using c,?_,?_⟩
   ·refine (bH (by simp;exact bT.mp ‹_›)).trans ?_;rw[bR,f];congr 1;exact cT _ _ _
   ·have e:(h8 a (q::l)).getD (r+1) 0=(h8 (a+(q.right.length+1)) l).getD r 0:=rfl;exact Kc g hk
   ·have e:(h8 a (q::l)).getD (r+1) 0=(h8 (a+(q.right.length+1)) l).getD r 0:=rfl;rw[(show ((zc (·.right) (q::l)).getD (r+1) [])=((l.map (·.right)).getD r [])from rfl)];exact Kb d
theorem Gr.item_at(g:Gr){i:Nat}(h:i<g.owners.length):g.Ro i<g.rules.length/\g.off (g.Ro i)<=i/\g.Rt i<=(g.right (g.Ro i)).length:=by refine k4 (Fg g.rules 0 0 i h) λ r b d c a=>?_;rw[cQ]at b c a;unfold Gr.Rt;rw[(show g.Ro i=r by dsimp only[Gr.Ro,Gr.owners];refine (aD).trans ?_;rw[b];rfl)];exact ⟨d,c,a⟩
noncomputable def zG(CR:aG)(p:Ru×Nat):V:=.inst CR [("number",.nat p.2),("left",.nat p.1.left),("right",.tup (p.1.right.map .nat)),("level_of",.int p.1.lv),("action",.none),("line",.int 0),("before",.int 0)]
noncomputable def Gr.Rx(g:Gr)(CR:aG):List V:=g.rules.zipIdx.map (zG CR)
noncomputable def Gr.UN(g:Gr):List V:=(aZ g.names.length).map λ s=>.list ((g.by s).map .nat)
noncomputable def Gr.Si(g:Gr)(CR:aG):List (Str×V):=[("names",.list (g.names.map .str)),("terminal_count",.nat g.tc),("rules",.list (g.Rx CR)),("levels",.dict []),("expect",.none),("start",.nat g.start),
 ("by_left",.list g.UN),("offsets",.list (g.RA.map .nat)),("owners",.list (g.owners.map .nat)),("item_count",.nat g.owners.length)]
noncomputable def Gr.v(g:Gr)(CG CR:aG):V:=.inst CG (g.Si CR)
noncomputable def y1(K:gb)(C:aG)(l:List Str):Prop:=∀x∈l,j2 K C x=aj
structure Small(g:Gr):Prop where
 names:g.names.length<2^10
 rules:g.rules.length<2^10
 owners:g.owners.length<2^10
 right:∀r∈g.rules,r.right.length<2^10
theorem Gr.S5(g:Gr)(S:Small g)(r:Nat):(g.right r).length<2^10:=by
 unfold Gr.right;rw[aD,aN];cases h:g.rules[r]? with
 |none=>show [].length<_;decide
 |some q=>exact S.right q (aX h)
structure wM(G:GC)(CG CR:aG):Prop where
 g:y1 G.K CG ["names","terminal_count","rules","start","by_left","offsets","owners","item_count"]
 r:y1 G.K CR ["number","left","right"]
inductive Q7(G:GC)(attr:Str)(Q:V->St->Prop)(o:V)(Y:St):Prop
 |mk (C:aG) (fs:List (Str×V)) (v:V) (e:o=.inst C fs) (h:j2 G.K C attr=aj) (l:fs.lookup attr=ah v) (q:Q v Y)
theorem fa(I:f_ O G d T){Q:V->St->Prop}(h:XV O Ex (bw value O.env) (Q7 G attr Q) Y)(g:autoParam (Jv value attr pos O.env) rf):XV O Ex (bw (.Attribute value attr pos) O.env) Q Y:=at_ I (h.mono λ Z Z f=>by obtain ⟨C,fs,v,e,a,b,c⟩:=f;exact ⟨C,fs,v,e▸.frozen,a,b,c⟩) g
theorem qS{f:aG}{name qual:Str}(F:wM G CG CR)(Yy:cv G f name qual (cP (mem 9 6)) (cA (mem 9 6)) (bG (mem 9 6)) ["self","rule","dot"] []){J:Mu}(g:Gr)(r k:Nat)(a:r<g.rules.length)(hz:Small g):
 cF G (d+1) (.ref f) [g.v CG CR,.nat r,.nat k] J (λ v J'=>v=.nat (g.off r+k)/\J'=J):=by
 refine di Yy _ J _ rfl λ O I=>?_;exact aB (dF (bx (sb (fa I (nl I 0 rfl ⟨CG,g.Si CR,.list (g.RA.map .nat),rfl,F.g _ (by decide+kernel),by kernel_rfl,nl I 1 rfl ⟨⟨_,.list .frozen⟩,dQ .frozen (dY (by dsimp only[Gr.RA];simp only[jL];exact a) 0) (bD a (bD hz.rules (by decide))) (nl I 2 rfl (fQ (i6 ⟨rfl,rfl⟩)))⟩⟩)))))
section
variable{f:aG}
inductive Nr(o' v:V)(Q:V->St->Prop)(o:V)(Y:St):Prop
 |mk (e:o=o') (q:Q v Y)
theorem ga(I:f_ O G d T)(F:wM G CG CR)(g:Gr){Q:V->St->Prop}(v:V)(h:XV O Ex (bw value O.env) (Nr (g.v CG CR) v Q) Y)(b:autoParam ((g.Si CR).lookup attr=ah v) rk)(c:autoParam ((["names","terminal_count","rules","start","by_left","offsets","owners","item_count"]:List Str).elem attr=aj) rk)(f:autoParam (Jv value attr pos O.env) rf):XV O Ex (bw (.Attribute value attr pos) O.env) Q Y:=fa I (h.mono λ Z Z a=>by obtain ⟨e,q⟩:=a;exact ⟨CG,_,v,e,F.g _ (u4 c),b,q⟩) f
theorem gG{n m:Nat}(h:n<m)(a:m<2^10):n<2^62:=bD h (bD a (by decide))
theorem lQ(F:wM G CG CR)(Yy:cv G f name qual (cP (mem 9 1)) (cA (mem 9 1)) (bG (mem 9 1)) ["self"] [])(B:fC G "len" (.builtin "len"))(g:Gr)(hz:Small g):
 cF G (d+1) (.ref f) [g.v CG CR] J (λ v J'=>v=.nat g.names.length/\J'=J):=by
 refine di Yy _ J _ rfl λ O I=>?_;have a:(g.names.map V.str).length=g.names.length:=au ..;have:=hz.names;exact aB (dF (cb I 1 B (a1 (ga I F g (.list (g.names.map .str)) (nl I 0 rfl ⟨rfl,lq .frozen ((bA a)▸aH ‹_› (by decide)) (i6 ⟨by rw[a],rfl⟩)⟩)))))
theorem mT(F:wM G CG CR)(Yy:cv G f name qual (cP (mem 9 2)) (cA (mem 9 2)) (bG (mem 9 2)) ["self","symbol"] [])(g:Gr)(s:Nat):
 cF G (d+1) (.ref f) [g.v CG CR,.nat s] J (λ v J'=>v=.bool (decide (s<g.tc))/\J'=J):=by
 refine di Yy _ J _ rfl λ O I=>?_;exact aB (dF (yj (nl I 1 rfl (ga I F g (.nat g.tc) (nl I 0 rfl ⟨rfl,t8 (i6 ⟨rfl,rfl⟩)⟩))) rfl))
theorem xc(F:wM G CG CR)(Yy:cv G f name qual (cP (mem 9 5)) (cA (mem 9 5)) (bG (mem 9 5)) ["self","symbol"] [])(B:fC G "list" (.type "list"))(g:Gr)(s:Nat)(hz:Small g)(a:s<g.names.length):
 cF G (d+1) (.ref f) [g.v CG CR,.nat s] J (λ v J'=>v=.list ((g.by s).map .nat)/\J'=J):=by
 refine di Yy _ J _ rfl λ O I=>?_;have c:(g.UN)[s]? =ah (.list ((g.by s).map .nat)):=by dsimp only[Gr.UN];refine (aN).trans ?_;rw[fF a];rfl
 have b:((g.by s).map V.nat).length<=2^20:=by simp only[au];exact aA (aA (db ..) (by simp)) (bc (bD hz.rules (by decide)))
 exact aB (dF (cb I 2 B (a1 (sb (ga I F g (.list g.UN) (nl I 0 rfl ⟨rfl,nl I 1 rfl ⟨⟨_,.list .frozen⟩,dQ .frozen c (gG a hz.names) (uI I.ok .frozen b (.F (i6 ⟨rfl,rfl⟩)))⟩⟩))))))
theorem kz(F:wM G CG CR)(Yy:cv G f name qual (cP (mem 9 7)) (cA (mem 9 7)) (bG (mem 9 7)) ["self","item"] [])(g:Gr)(i:Nat)(hz:Small g)(hi:i<g.owners.length):
 cF G (d+1) (.ref f) [g.v CG CR,.nat i] J (λ v J'=>v=.nat (g.Ro i)/\J'=J):=by
 refine di Yy _ J _ rfl λ O I=>?_;exact aB (dF (sb (ga I F g (.list (g.owners.map .nat)) (nl I 0 rfl ⟨rfl,nl I 1 rfl ⟨⟨_,.list .frozen⟩,dQ .frozen (dY hi 0) (gG hi hz.owners) (i6 ⟨rfl,rfl⟩)⟩⟩))))
theorem nS(F:wM G CG CR)(Yy:cv G f name qual (cP (mem 9 8)) (cA (mem 9 8)) (bG (mem 9 8)) ["self","item"] [])(g:Gr)(i:Nat)(hz:Small g)(hi:i<g.owners.length):
 cF G (d+1) (.ref f) [g.v CG CR,.nat i] J (λ v J'=>v=.nat (g.Rt i)/\J'=J):=by
 refine di Yy _ J _ rfl λ O I=>?_;have a:=g.item_at hi;have b:g.Ro i<g.RA.length:=by dsimp only[Gr.RA];simp only[jL];exact a.1
 refine aB<|dF<|bx<|nl I 1 rfl<|sb<|ga I F g (.list (g.RA.map .nat))<|nl I 0 rfl ⟨rfl,sb<|ga I F g (.list (g.owners.map .nat))<|nl I 0 rfl ⟨rfl,nl I 1 rfl ⟨⟨_,.list .frozen⟩,dQ .frozen (dY hi 0) (gG hi hz.owners) ?_⟩⟩⟩;exact ⟨⟨_,.list .frozen⟩,dQ .frozen (dY b 0) (gG a.1 hz.rules)<|yJ a.2.1<|i6 ⟨rfl,rfl⟩⟩
theorem s6(g:Gr){r:Nat}(a:r<g.rules.length):(g.Rx CR)[r]? =ah (zG CR (g.rules[r],r)):=by unfold Gr.Rx;simp only[aN,mY,ay a];simp
theorem kA(g:Gr){r:Nat}(a:r<g.rules.length):g.rules[r].right=g.right r:=by unfold Gr.right;simp only[aD,aN,ay a];rfl
theorem tV(F:wM G CG CR)(Yy:cv G f name qual (cP (mem 9 9)) (cA (mem 9 9)) (bG (mem 9 9)) ["self","item"] [])(B:fC G "len" (.builtin "len"))(g:Gr)(i:Nat)(hz:Small g)(hi:i<g.owners.length):
 cF G (d+1) (.ref f) [g.v CG CR,.nat i] J (λ v J'=>v=.int (g.after i)/\J'=J):=by
 refine di Yy _ J _ rfl λ O I=>?_;refine jA (g.item_at hi) λ a c h=>?_;have e:=g.S5 hz (g.Ro i);have b:((g.right (g.Ro i)).map V.nat).length=(g.right (g.Ro i)).length:=au ..;refine aB<|sl I 2<|fa I<|sb<|ga I F g (.list (g.Rx CR))<|nl I 0 rfl ⟨rfl,sb<|ga I F g (.list (g.owners.map .nat))<|nl I 0 rfl ⟨rfl,nl I 1 rfl ⟨⟨_,.list .frozen⟩,dQ .frozen (dY hi 0) (gG hi hz.owners) ?_⟩⟩⟩;refine ⟨⟨_,.list .frozen⟩,dQ .frozen (s6 g a) (gG a hz.rules) ⟨CR,_,.tup ((g.right (g.Ro i)).map .nat),rfl,F.r _ (by decide+kernel),by rw[<-kA g a];with_unfolding_all rfl,?_⟩⟩;refine aB<|sl I 3<|bx<|nl I 1 rfl<|sb<|ga I F g (.list (g.RA.map .nat))<|nl I 0 rfl ⟨rfl,sb<|ga I F g (.list (g.owners.map .nat))<|nl I 0 rfl ⟨rfl,nl I 1 rfl ⟨⟨_,.list .frozen⟩,dQ .frozen (dY hi 0) (gG hi hz.owners) ?_⟩⟩⟩;refine ⟨⟨_,.list .frozen⟩,dQ .frozen (dY (show g.Ro i<g.RA.length by unfold Gr.RA;simp only[jL];exact a) 0) (gG a hz.rules)<|yJ c ?_⟩;refine aB<|dF<|mh<|tq<|nl I 3 rfl<|cb I 4 B<|a1<|nl I 2 rfl<|Dq ((bA b)▸aH ‹_› (by decide))<|t8 ⟨_,rfl,?_⟩;rw[b];show if decide (g.Rt i<_)=aj then _ else _;by_cases hd:g.Rt i<(g.right (g.Ro i)).length
 ·refine iD (by simpa using hd) ?_;exact sb (nl I 2 rfl (nl I 3 rfl ⟨⟨_,.tup⟩,pA (dY (f:=V.nat) hd 0) (gG hd e) (i6 ⟨by unfold Gr.after;rw[if_pos hd],rfl⟩)⟩))
 ·refine fX (by simpa using hd) ?_;exact iu (dN (kF (i6 ⟨by unfold Gr.after;rw[if_neg hd],rfl⟩)))
end
noncomputable def Gr.num(g:Gr)(x:Str):Int:=if g.names.any (· ==x)=aj then ((g.names.idxOf x:Nat):Int)else -1
structure fD where
 number:Nat
 kernel:List (Nat×Nat)
 symbol:Int
 items:List (Nat×Nat)
 moves:List (Nat×Nat)
 Rq:List Nat
 Rp:List (Nat×Nat)
noncomputable def du(p:Nat×Nat):V:=.tup [.nat p.1,.nat p.2]
noncomputable def e_(k:List (Nat×Nat)):V:=.tup (k.map du)
noncomputable def dV(l:List (Nat×Nat)):List (V×V):=l.map λ p=>(.nat p.1,.nat p.2)
noncomputable def fD.Si(s:fD):List (Str×V):=[("number",.nat s.number),("kernel",e_ s.kernel),("core",.tup (s.kernel.map λ p=>.nat p.1)),("symbol",.int s.symbol),("items",.dict (dV s.items)),("moves",.dict (dV s.moves)),("reductions",.list (s.Rq.map .nat)),("masks",.dict (dV s.Rp))]
noncomputable def fD.v(CS:aG)(s:fD):V:=.inst CS s.Si
noncomputable def mP(CG CR CS:aG)(g:Gr)(bz:List fD):List (Str×V):=[("grammar",g.v CG CR),("states",.list (bz.map (fD.v CS)))]
noncomputable def kP(CG CR CS CA:aG)(g:Gr)(bz:List fD):V:=.inst CA (mP CG CR CS g bz)
theorem lm(l:List (Nat×Nat)):(dV l).map (·.1)=(l.map (·.1)).map V.nat:=by simp[dV]
theorem yH:V.nat a=V.nat b↔a=b:=by simp;exact GZ
theorem fS{l:List (Nat×Nat)}(h:(l.map (·.1)).Nodup):((dV l).map (·.1)).Nodup:=by rw[lm,aO,bU];exact (aO.mp h).imp λ h e=>h (yH.mp e)
theorem uj(n:Nat):kk (.nat n)=1:=rfl
theorem pE(l:List (Nat×Nat)):∀p∈dV l,kk p.1=1:=λ p b=>by refine b5 (aC.mp b) λ q Z a=>?_;subst a;rfl
theorem ju{l:List (Nat×Nat)}(k:Nat)(h:(l.map (·.1)).Nodup):f9 (.nat k) (dV l):=⟨by rw[uj];decide,λ p a=>pE l p a,fS h⟩
theorem rP(k:Nat):∀l:List (Nat×Nat),eE (dV l) (.nat k)=(l.lookup k).map V.nat:=by
 intro l;induction l with
 |nil=>exact rfl
 |cons c l d=>
  obtain ⟨a,b⟩:=c;unfold eE dV at*;rw[be,cX,br,k7];by_cases e:k=a
  ·subst e;simp
  ·have f:((a:Int)==(k:Int))=ao:=by simp;exact B3 e
   rw[f,(show (k==a)=ao by simpa using e)];exact (d)
noncomputable def wS(bz:List fD)(s x:Nat):Int:=match ((bz.map (·.moves)).getD s []).lookup x with|some n=>((n:Nat):Int)|none=> -1
noncomputable def jH(bz:List fD):Int->List Nat->Int
 |s,[]=>s
 |s,x::r=>if s<0 then -1 else jH bz (wS bz s.toNat x) r
theorem w4{bz:List fD}{s}:jH bz s []=(s):=rfl
theorem qG{bz:List fD}{s x r}:jH bz s (x::r)=(if s<0 then -1 else jH bz (wS bz s.toNat x) r):=rfl
structure pJ(bz:List fD):Prop where
 len:bz.length<2^12
 keys:∀s∈bz,(s.moves.map (·.1)).Nodup
 goals:∀s∈bz,∀p∈s.moves,p.2<bz.length
theorem ID{bz:List fD}(h:pJ bz){s x:Nat}:wS bz s x<bz.length/\ -1<=wS bz s x:=by
 unfold wS;cases e:((bz.map (·.moves)).getD s []).lookup x with
 |none=>exact ⟨by show (-1:Int)<_;exact bs _,by show (-1:Int)<= -1;exact bs _⟩
 |some n=>
  refine ⟨?_,by show (-1:Int)<=(n:Int);exact bs _⟩;rw[aD,aN]at e;cases a:bz[s]? with
  |none=>rw[a]at e;cases e
  |some t=>rw[a]at e;refine hQ (bO.mp e) λ l₁ l₂ b Z=>?_;show (n:Int)<_;simpa using (h.goals t (aX a) (x,n) (by show _∈t.moves;rw[show t.moves=_ from b];simp))
section
variable{f:aG}
theorem vD(F:wM G CG CR)(Yy:cv G f name qual (cP (mem 9 4)) (cA (mem 9 4)) (bG (mem 9 4)) ["self","name"] [])(g:Gr)(x:Str)(hz:Small g):
 cF G (d+1) (.ref f) [g.v CG CR,.str x] J (λ v J'=>v=.int (g.num x)/\J'=J):=by
 refine di Yy _ J _ rfl λ O I=>?_;refine aB<|dF<|mh<|tq<|nl I 1 rfl<|ga I F g (.list (g.names.map .str))<|nl I 0 rfl ⟨rfl,Ip .frozen ⟨_,rfl,?_⟩⟩;unfold Gr.num;cases h:g.names.any (· ==x)with
 |true=>exact mb I PySem.F.plainAttrs_list PySem.F.slot_list_index PySem.F.type_list_index<|ga I F g (.list (g.names.map .str))<|nl I 0 rfl ⟨rfl,.list .frozen,a1<|nl I 1 rfl<|oj .frozen (by refine b5 (dM.mp h) λ y a e=>?_;rw[<-beq_iff_eq.mp e];exact a) (bD hz.names (by decide))<|i6 ⟨rfl,rfl⟩⟩
 |false=>exact iu<|dN<|kF<|i6 ⟨rfl,rfl⟩
structure Ge(G:GC)(CS CA:aG):Prop where
 s:y1 G.K CS ["number","kernel","core","symbol","items","moves","reductions","masks"]
 a:y1 G.K CA ["grammar","states"]
theorem sx(F:Ge G CS CA)(Yy:cv G f name qual (cP (mem 21 1)) (cA (mem 21 1)) (bG (mem 21 1)) ["self"] [])(B:fC G "len" (.builtin "len"))(g:Gr)(bz:List fD)(hz:pJ bz):
 cF G (d+1) (.ref f) [kP CG CR CS CA g bz] J (λ v J'=>v=.nat bz.length/\J'=J):=by
 refine di Yy _ J _ rfl λ O I=>?_;have a:(bz.map (fD.v CS)).length=bz.length:=au ..;have:=hz.len;exact aB<|dF<|cb I 1 B<|a1<|fa I<|nl I 0 rfl ⟨CA,mP CG CR CS g bz,.list (bz.map (fD.v CS)),rfl,F.a _ (by decide+kernel),by kernel_rfl,lq .frozen (by rw[a];exact aH ‹_› (by decide))<|i6 ⟨by rw[a],rfl⟩⟩
theorem xh(F:Ge G CS CA)(Yy:cv G f name qual (cP (mem 21 2)) (cA (mem 21 2)) (bG (mem 21 2)) ["self","state","symbol"] [])(g:Gr)(bz:List fD)(hz:pJ bz)(s x:Nat)(a:s<bz.length):
 cF G (d+1) (.ref f) [kP CG CR CS CA g bz,.nat s,.nat x] J (λ v J'=>v=.int (wS bz s x)/\J'=J):=by
 refine di Yy _ J _ rfl λ O I=>?_;refine aB<|dF<|mb I PySem.F.plainAttrs_dict PySem.F.slot_dict_get PySem.F.type_dict_get<|fa I<|sb<|fa I<|nl I 0 rfl ⟨CA,mP CG CR CS g bz,.list (bz.map (fD.v CS)),rfl,F.a _ (by decide+kernel),by kernel_rfl,nl I 1 rfl ⟨⟨_,.list .frozen⟩,dQ .frozen (by rw[aN,ay a];rfl) (Ka a hz.len) ?_⟩⟩;refine ⟨CS,bz[s].Si,.dict (dV bz[s].moves),rfl,F.s _ (by decide+kernel),by kernel_rfl,.dict .frozen,an<|nl I 2 rfl<|a1<|iu<|dN<|kF<|yV I.ok .frozen (ju x (hz.keys _ (cI a)))<|i6 ⟨?_,rfl⟩⟩;rw[rP];unfold wS;rw[(show (bz.map (·.moves)).getD s []=bz[s].moves by rw[aD,aN,ay a];rfl)];cases bz[s].moves.lookup x<;>rfl
end
structure Qy(G:GC)(C:aG)(x qual:Str)(st:Stmt)(pn:List Str)(RI:List V)(f:aG):Prop where
 m:rp G.K C x f=aj
 y:cv G f x qual (cP st) (cA st) (bG st) pn RI
noncomputable abbrev Me(G:GC)(C:aG)(x qual:Str)(st:Stmt)(pn:List Str)(RI:List V):Prop:=∃f,Qy G C x qual st pn RI f
section
variable{st:Stmt}
noncomputable def Me.f(M:Me G C x qual st pn RI):aG:=M.choose
theorem Me.p(M:Me G C x qual st pn RI):Qy G C x qual st pn RI M.f:=M.choose_spec
theorem Me.y(M:Me G C x qual st pn RI):cv G M.f x qual (cP st) (cA st) (bG st) pn RI:=M.p.y
end
section
variable{f:aG}
inductive PS(O:FC)(Ex:Value->aQ->Prop)(C f:aG)(x:Str)(args:List Expr)(pos:gY)(Q:V->St->Prop)(ov:V)(Y:St):Prop
 |mk (fs:List (Str×V)) (I:sH Y ov C fs) (l:fs.lookup x=ai) (h:XL O Ex (c7 (cO pos (bk args O.env))) (um O Ex (.ref f) ov Q) Y)
theorem mc(I:f_ O G d T){C:aG}{x q:Str}{st:Stmt}{pn:List Str}{RI:List V}(M:Me G C x q st pn RI){o:Expr}{e pos:gY}{args:List Expr}{Q:V->St->Prop}
 (h:XV O Ex (bw o O.env) (PS O Ex C M.f x args pos Q) Y)
 (k:autoParam (Js o x args e pos O.env) rf)
 (f:autoParam (DO pos args O.env) rf)
 (j:autoParam (Hv pos args O.env) rf) (i:autoParam ((e.endLine==pos.line)=aj) rf):
 XV O Ex (bw (.Call (.Attribute o x e) args [] pos) O.env) Q Y:=mi I (h.mono λ Z Z g=>by obtain ⟨fs,a,b,c⟩:=g;exact ⟨C,fs,M.f,a,M.p.m,b,c⟩) k f j i
theorem iA(I:f_ O G d T){f:Value}{vs:List V}{Q:V->St->Prop}{r:V}(h:cF G d' f vs [] (λ v J'=>v=r/\J'=[]))(hd:d'<=d)(q:Q r Y):cU O Ex f vs Q Y:=
 sp I Y.mu h hd rfl λ v J' a=>by obtain ⟨b,c⟩:=a;exact by subst b;subst c;exact q
theorem BJ(F:Ge G CS CA)(Yy:cv G f name qual (cP (mem 21 3)) (cA (mem 21 3)) (bG (mem 21 3)) ["self","state","symbols"] [])(M:Me G CA "goto" "CanonicalAutomaton.goto" (mem 21 2) ["self","state","symbol"] [])
 (g:Gr) (bz:List fD) (hz:pJ bz) (s:Int) (p:s<bz.length) (l:List Nat):
 cF G (d+2) (.ref f) [kP CG CR CS CA g bz,.int s,.list (l.map .nat)] J (λ v J'=>v=.int (jH bz s l)/\J'=J):=by
 refine di Yy _ J _ rfl λ O I=>?_;let j:Int->(Option V)->St:=λ t o=>⟨[ah (kP CG CR CS CA g bz),ah (.int t),ah (.list (l.map .nat)),o],J⟩
 let Z:Nat->St->Prop:=λ i Y=>∃(t:Int) (o:Option V),Y=j t o/\t<bz.length/\jH bz t (l.drop i)=jH bz s l
 refine aB<|lw (ExB:=dP) Z (λ Z Z h=>h.elim) (nl I 2 rfl ⟨_,_,_,k6 I.ok.hand,⟨s,ai,rfl,p,rfl⟩,λ Z Z Z Z=>trivial,λ i Y hi=>?_,?_⟩) λ Z=>rfl
 ·intro k;refine fx k λ t o m n a=>?_;subst m;simp only[au]at hi;rw[fR hi 0];rw[jj hi 0]at a;refine al I 3<|aB<|e4<|tq<|nl I 1 rfl<|dN<|t4 ⟨_,rfl,?_⟩;by_cases b:t<0
  ·refine iD (by simpa using b) ?_;refine aB<|dF<|iu<|dN<|kF<|i6 ⟨?_,rfl⟩;rw[<-a];dsimp only[w4,qG];rw[if_pos b]
  ·refine fX (by simpa using b) ?_;refine bm<|aB<|sl I 1<|mc I M<|nl I 0 rfl ⟨mP CG CR CS g bz,.frozen,by kernel_rfl,an<|nl I 1 rfl<|a1<|nl I 3 rfl<|?_⟩;rw[(show V.int t=.nat t.toNat by show V.int t=V.int _;rw[gW (J9 b)])];refine iA I (xh (d:=d) F M.y g bz hz _ _ (J_ n b)) (aT _)<|bm ⟨_,_,rfl,(ID hz (s:=t.toNat) (x:=l.getD i 0)).1,?_⟩;rw[<-a];dsimp only[w4,qG];rw[if_neg b]
 ·intro Y c;refine fx c λ t o e n a=>?_;subst e;rw[au,iZ]at a;exact aB<|dF<|nl I 1 rfl<|i6 ⟨by (rw[<-a];dsimp only[w4,qG]),rfl⟩
end
noncomputable def Ny:Option (Str×NK)->Bool
 |some (_,.RJ _)=>aj
 |_=>ao
noncomputable def ux(ns:List (Str×NK))(l:List (Str×NameKind)):Bool:=l.all λ p=>match p.2 with|.free=>Ny (ns.find? λ q=>q.1==p.1)|_=>aj
noncomputable def t7(l:List (Str×NameKind)):Bool:=l.all λ p=>match p.2 with|.cell=>ao|_=>aj
noncomputable def tF:List Str->Bool
 |[]=>aj
 |x::l=>l.all (λ y=>!(x==y))&&tF l
theorem pH:∀{l:List Str},tF l=aj->l.Nodup:=by
 intro l;induction l with
 |nil=>intro Z;exact bL
 |cons x l a=>intro h;dsimp only[tF]at h;simp only[cZ]at h;refine bC.mpr ⟨λ b=>?_,a h.2⟩;have:=cc.mp h.1 x b;simp at this
theorem f_.free(I:f_ O G d T){l:List (Str×NameKind)}(h:∀n,ux (T n) l=aj):∀x,(x,NameKind.free)∈l->∃(i:Nat) (c:aG),O.ns[i]? =ah (x,NK.RJ c):=λ x f=>by
 refine ze I.ns λ n e=>?_;have:=cc.mp (h n) _ f;simp only at this;rw[<-e]at this;cases a:O.ns.find? λ q=>q.1==x with
 |none=>rw[a]at this;exact nomatch this
 |some q=>
  rw[a]at this;obtain ⟨y,k⟩:=q;have b:=List.find?_some a;simp only[beq_iff_eq]at b;subst b;cases k with
  |RJ c=>refine ze (cL.mp (List.mem_of_find?_eq_some a)) λ i hi=>?_;exact ⟨i,c,hi⟩
  |_=>cases this
theorem tg{l:List (Str×NameKind)}(h:t7 l=aj):∀y∈l,y.2≠.cell:=λ y a e=>by have:=cc.mp h y a;rw[e]at this;exact nomatch this
theorem lc(I:f_ O G d T){Q:V->St->Prop}(h:XV O Ex (bw iter O.env) (mG O elt target ifs scope Q) Y)(a:autoParam (scope.kind=.function) rf)(e:autoParam (tF (scope.names.map (·.1))=aj) rk)(c:autoParam (t7 scope.names=aj) rk)(b:autoParam (∀n,ux (T n) scope.names=aj) rk)(f:autoParam (∀x,eK iter O.env x=pure x) rf):XV O Ex (bw (.ListComp elt [⟨target,iter,ifs,0⟩] scope pos) O.env) Q Y:=
 HN I.ok a (pH e) (tg c) (I.free b) h f
theorem QT(I:f_ O G d T)(j:Nat){y:Str}{Q:Option (Option V)->St->Prop}(h:XV O Ex (bw iter O.env) (mG O elt target ifs scope (we j Q)) Y)(g:autoParam (∀n,(T n)[j]? =ah (y,.loc)) rf)(a:autoParam (scope.kind=.function) rf)(f:autoParam (tF (scope.names.map (·.1))=aj) rk)(c:autoParam (t7 scope.names=aj) rk)(b:autoParam (∀n,ux (T n) scope.names=aj) rk)(e:autoParam (eo (.ListComp elt [⟨target,iter,ifs,0⟩] scope pos) (ah (.Name y py)) TP.line O.env=pure aj) rf)(i:autoParam (∀x,eK iter O.env x=pure x) rf):XF O Ex (gg (.Assign [.Name y py] (.ListComp elt [⟨target,iter,ifs,0⟩] scope pos) TP) O.env) Q Y:=
 tN j I.ok (I.at j g) a (pH f) (tg c) (I.free b) h e i
theorem JQ{l:List Nat}(a:ys.Perm (l.map V.nat))(b:dA ys):∃m:List Nat,ys=m.map V.nat/\m.Perm l/\m.Pairwise (·<=·):=by
 let f:V->Nat:=λ v=>((ky v).headD 0).toNat
 have e:(ys.map f).map V.nat=ys:=bu.trans ((bF λ y c=>by refine b5 (aC.mp (a.mem_iff.mp c)) λ n Z e=>?_;subst e;rfl).trans (ej ys));refine ⟨ys.map f,e.symm,(a.map f).trans (.of_eq (bu.trans (ej l))),?_⟩;rw[<-e]at b;exact (bU.mp b).imp λ h=>e6 λ g=>h (CJ (cY.mpr g))
theorem IH{v:V}(a:∀b∈addrs J,b∈addrs J')(h:post v J'):Fin J post v J':=⟨[],J',J',v,rfl,a,dI.refl _ _,.refl v,h⟩
section
variable{f:aG}
theorem si(I:f_ O G d T){o e:Expr}{name:Str}{Q:Option (Option V)->St->Prop}(h:XV O Ex (bw e O.env) (kR O Ex o (No G.K name Q)) Y)(a:autoParam (eo e (ah (.Attribute o name pos')) pos.line O.env=pure ao) rf):XF O Ex (gg (.Assign [.Attribute o name pos'] e pos) O.env) Q Y:=
 HI I.ok ((bA I.g)▸h) a
noncomputable def fD.new(number:Nat)(kernel:List (Nat×Nat))(symbol:Int)(moves:V):List (Str×V):=[("number",.nat number),("kernel",e_ kernel),("core",.tup (kernel.map λ p=>.nat p.1)),("symbol",.int symbol),("items",.dict []),("moves",moves),("reductions",.list []),("masks",.dict [])]
theorem tU(S:∀x∈(["number","kernel","core","symbol","items","moves","reductions","masks"]:List Str),iN G.K CS x=aj)(h:fC G "tuple" (.type "tuple"))(Yy:cv G f name qual (cP (mem 20 0)) (cA (mem 20 0)) (bG (mem 20 0)) ["self","number","kernel","symbol"] [])
 (x c:aG) (n:Nat) (k:List (Nat×Nat)) (s:Int) (hk:k.length<2^10):
 cF G (d+1) (.ref f) [.ref x,.nat n,e_ k,.int s] [(x,.inst CS c [])] (λ v J'=>v=.none/\∃e,J'=[(e,.dict []),(x,.inst CS c (fD.new n k s (.ref e)))]):=by
 refine di Yy _ _ _ rfl λ O I=>?_;refine aB<|si I<|nl I 1 rfl<|nl I 0 rfl ⟨0,x,CS,c,_,rfl,rfl,S _ (by decide+kernel),aP rfl,?_⟩;refine aB<|si I<|nl I 2 rfl<|nl I 0 rfl ⟨0,x,CS,c,_,rfl,rfl,S _ (by decide+kernel),aP rfl,?_⟩;refine aB<|si I<|cb I 4 h<|a1<|lc I<|nl I 2 rfl ⟨_,_,_,u_ I.ok.hand,?_,(λ i a acc J=>∃o,a=[ai,o]/\acc=(k.take i).map (λ p=>V.nat p.1)/\J=[(x,.inst CS c [("number",.nat n),("kernel",e_ k)])]),⟨_,rfl,rfl,rfl⟩,?_,?_,?_⟩
 ·rw[au];exact bc (aH ‹_› (by decide))
 ·rintro i a acc J hi ⟨o,rfl,rfl,rfl⟩;exact ⟨by simp only[au,bb];exact ra,λ Z=>trivial⟩
 ·rintro O' C i a acc J D hi ⟨o,rfl,rfl,rfl⟩;simp only[au]at hi;rw[fR hi (0,0)];have g:=C.S7 I;refine al g 1<|gy<|sb<|nl g 1 rfl<|xn 0 ⟨⟨_,.tup⟩,pA (k:=0) rfl (by decide) ⟨[],rfl,_,rfl,?_,rfl⟩⟩;simp only[aS hi,aK,aD,ay hi];rfl
 ·rintro a acc J ⟨o,rfl,rfl,rfl⟩;dsimp only[show (e_ k)=.tup (k.map du)from rfl];rw[au,a0];refine .F<|rS .frozen (by rw[au];exact bc (aH ‹_› (by decide)))<|nl I 0 rfl ⟨0,x,CS,c,_,rfl,rfl,S _ (by decide+kernel),aP rfl,?_⟩;refine aB<|si I<|nl I 3 rfl<|nl I 0 rfl ⟨0,x,CS,c,_,rfl,rfl,S _ (by decide+kernel),aP rfl,?_⟩;refine aB<|si I<|qD I.ok<|nl I 0 rfl ⟨0,x,CS,c,_,rfl,rfl,S _ (by decide+kernel),aP rfl,?_⟩;refine aB<|si I<|hV I.ok λ e=>nl I 0 rfl ⟨1,x,CS,c,_,rfl,rfl,S _ (by decide+kernel),aP rfl,?_⟩;refine aB<|si I<|f5 (cz ⟨by simp,nl I 0 rfl ⟨1,x,CS,c,_,rfl,rfl,S _ (by decide+kernel),aP rfl,?_⟩⟩);refine aB<|si I<|qD I.ok<|nl I 0 rfl ⟨1,x,CS,c,_,rfl,rfl,S _ (by decide+kernel),aP rfl,?_⟩;refine bm (IH (λ b j=>ax _ j) ⟨rfl,e,?_⟩);rfl
end
section
variable{f:aG}
theorem vC(S:∀x∈(["number","left","right","level_of","action","line","before"]:List Str),iN G.K CR x=aj)(Yy:cv G f name qual (cP (mem 8 0)) (cA (mem 8 0)) (bG (mem 8 0)) ["self","number","left","right","level_of","action","line","before"] [.none,.int 0,.int 0])
 (x a:aG) (n:Nat) (r:Ru):cF G (d+1) (.ref f) [.ref x,.nat n,.nat r.left,.tup (r.right.map .nat),.int r.lv] [(x,.inst CR a [])] (λ v J'=>v=.none/\J'=[(x,.inst CR a [("number",.nat n),("left",.nat r.left),("right",.tup (r.right.map .nat)),("level_of",.int r.lv),("action",.none),("line",.int 0),("before",.int 0)])]):=by
 refine di Yy _ _ _ rfl λ O I=>?_;refine aB<|si I<|nl I 1 rfl<|nl I 0 rfl ⟨0,x,CR,a,_,rfl,rfl,S _ (by decide+kernel),aP rfl,?_⟩;refine aB<|si I<|nl I 2 rfl<|nl I 0 rfl ⟨0,x,CR,a,_,rfl,rfl,S _ (by decide+kernel),aP rfl,?_⟩;refine aB<|si I<|nl I 3 rfl<|nl I 0 rfl ⟨0,x,CR,a,_,rfl,rfl,S _ (by decide+kernel),aP rfl,?_⟩;refine aB<|si I<|nl I 4 rfl<|nl I 0 rfl ⟨0,x,CR,a,_,rfl,rfl,S _ (by decide+kernel),aP rfl,?_⟩;refine aB<|si I<|nl I 5 rfl<|nl I 0 rfl ⟨0,x,CR,a,_,rfl,rfl,S _ (by decide+kernel),aP rfl,?_⟩;refine aB<|si I<|nl I 6 rfl<|nl I 0 rfl ⟨0,x,CR,a,_,rfl,rfl,S _ (by decide+kernel),aP rfl,?_⟩;refine aB<|si I<|nl I 7 rfl<|nl I 0 rfl ⟨0,x,CR,a,_,rfl,rfl,S _ (by decide+kernel),aP rfl,?_⟩;exact bm (IH (λ b c=>c) ⟨rfl,rfl⟩)
theorem xl(S:∀x∈(["grammar","states"]:List Str),iN G.K CA x=aj)(Yy:cv G f name qual (cP (mem 21 0)) (cA (mem 21 0)) (bG (mem 21 0)) ["self","grammar","states"] [])
 (x a:aG) (c vs:V):cF G (d+1) (.ref f) [.ref x,c,vs] ((x,.inst CA a [])::J) (λ v J'=>v=.none/\J'=(x,.inst CA a [("grammar",c),("states",vs)])::J):=by
 refine di Yy _ _ _ rfl λ O I=>?_;refine aB<|si I<|nl I 1 rfl<|nl I 0 rfl ⟨0,x,CA,a,_,rfl,rfl,S _ (by decide+kernel),aP rfl,?_⟩;refine aB<|si I<|nl I 2 rfl<|nl I 0 rfl ⟨0,x,CA,a,_,rfl,rfl,S _ (by decide+kernel),aP rfl,?_⟩;exact bm (IH (λ b e=>e) ⟨rfl,rfl⟩)
theorem qV(Yy:cv G f name qual (cP (top 24)) (cA (top 24)) (bG (top 24)) ["grammar"] [])(F:wM G CG CR)(M:Me G CG "item" "Grammar.item" (mem 9 6) ["self","rule","dot"] [])(g:Gr)(hz:Small g)(a:0<g.rules.length):
 cF G (d+2) (.ref f) [g.v CG CR] J (λ v J'=>v=e_ [(0,0)]/\J'=J):=by
 refine di Yy _ _ _ rfl λ O I=>?_;refine aB<|dF<|t1<|t2<|mc I M<|nl I 0 rfl ⟨g.Si CR,.frozen,by kernel_rfl,an<|xn 0<|a1<|xn 0<|iA I (qS (d:=d) F M.y g 0 0 a hz) (aT _)<|xn 0<|i6 ⟨?_,rfl⟩⟩;have:g.off 0=0:=by
  dsimp only[Gr.off,Gr.RA];cases h:g.rules with
  |nil=>rw[h]at a;simp at a
  |cons q l=>rfl
 rw[this];rfl
end
theorem RE.refl(J:Mu):∀xs:List V,RE J xs xs:=by
 intro xs;induction xs with
 |nil=>exact .nil
 |cons x xs a=>exact .cons (.refl x) (a)
theorem C6{a:aG}(b:(a,MO.list xs)∈J1)(h:post (.list xs) J):Fin J post (.ref a) (J1++J):=
 ⟨J1,J,J,.list xs,rfl,λ Z h=>h,dI.refl _ _,.list b (RE.refl _ _),h⟩
noncomputable def rU:Nat->Nat->Nat->List Nat
 |0,_,_=>[]
 |f+1,i,n=>if n=0 then []else (if n%2=1 then [i]else [])++rU f (i+1) (n/2)
noncomputable def dq(i n:Nat):List Nat:=rU n i n
theorem Ao(f:Nat):∀{g i n:Nat},n<=f->n<=g->rU f i n=rU g i n:=by
 induction f with
 |zero=>intro g i n h Z;cases r_.mp h;cases g<;>rfl
 |succ f a=>
  intro g i n h h';by_cases e:n=0
  ·subst e;cases g<;>rfl
  ·have q:n/2<n:=sK (cy e) (by decide);cases g with
   |zero=>exact absurd (r_.mp h') e
   |succ g=>exact (if_neg e).trans ((congrArg _ (a (cp (aH q h)) (cp (aH q h')))).trans (if_neg e).symm)
theorem Dz(i:Nat){n:Nat}(h:n≠0):dq i n=(if n%2=1 then [i]else [])++dq (i+1) (n/2):=by
 cases n with
 |zero=>exact absurd rfl h
 |succ n=>rw[(show dq i (n+1)=(if (n+1)%2=1 then [i]else [])++rU n (i+1) ((n+1)/2)from rfl),Ao n (cp (sK (cr n) (by decide))) (aT _)];rfl
section
variable{f:aG}
theorem Ib(Yy:cv G f name qual (cP (top 4)) (cA (top 4)) (bG (top 4)) ["mask"] [])(m:Nat)(p:(dq 0 m).length<2^20):
 cF G (d+1) (.ref f) [.nat m] J (λ v J'=>v=.list ((dq 0 m).map .nat)/\J'=J):=by
 refine di Yy _ _ _ rfl λ O I=>?_;refine aB<|sl I 1<|eC I.ok<|cz ⟨by simp,λ a=>aB<|sl I 2<|xn 0<|aB<|sl I 3<|nl I 0 rfl ?_⟩;let c:Nat->(List Nat)->Nat->St:=λ n acc i=>⟨[ah (.nat m),ah (.ref a),ah (.nat i),ah (.nat n)],(a,.list (acc.map .nat))::J⟩
 let Z:Nat->St->Prop:=λ n Y=>∃(acc:List Nat) (i:Nat),Y=c n acc i/\acc++dq i n=dq 0 m
 refine aB<|p8 (ExB:=dP) Z (λ Z Z h=>h.elim) (λ n Y q=>hQ q λ acc i e b=>?_) m ⟨[],0,rfl,rfl⟩;subst e;refine tq<|nl I 3 rfl<|dN<|Cc ⟨_,rfl,?_⟩;by_cases g:n=0
 ·refine fX (by simp;exact ‹_›) ?_;subst g;rw[show dq i 0=[] from rfl,cJ]at b;rw[<-b];exact aB<|dF<|nl I 1 rfl<|C6 (J1:=[(a,.list (acc.map .nat))]) ci ⟨rfl,rfl⟩
 ·refine iD (by simp;exact OB g) ?_;have l:n/2<n:=OC g;rw[Dz i g]at b;have k:acc.length<2^20:=by rw[<-b,aF]at p;exact OA p
  have o:Int.fdiv (n:Int) (2^(1:Int).toNat)=((n/2:Nat):Int):=rK n 2;refine aB<|e4<|tq<|bx<|nl I 3 rfl<|dN<|M9<|dN<|G_ ⟨_,rfl,?_⟩;rw[bitAnd_m1];by_cases j:n%2=1
  ·rw[if_pos j]at b;refine iD (by simp;exact Oz j) ?_;refine aB<|xe I<|Iw I<|nl I 1 rfl ⟨a,acc.map .nat,0,rfl,rfl,nl I 2 rfl ⟨0,acc.map .nat,rfl,by rw[au];exact bc ‹_›,?_⟩⟩;refine bm<|aB<|sl I 3<|bx<|nl I 3 rfl<|dN<|B_ (by decide) ?_;rw[o];refine aB<|sl I 2<|bx<|nl I 2 rfl<|xn 1<|fQ<|bm ⟨n/2,l,acc++[i],i+1,by unfold c;rw[aK];rfl,by rw[bW];exact b⟩
  ·rw[if_neg j]at b;refine fX (by simp;exact Oy j) ?_;refine bm<|aB<|sl I 3<|bx<|nl I 3 rfl<|dN<|B_ (by decide) ?_;rw[o];exact aB<|sl I 2<|bx<|nl I 2 rfl<|xn 1<|fQ<|bm ⟨n/2,l,acc,i+1,rfl,b⟩
end
inductive y6(Y:St):List (V×V)->List (Str×List Str)->Prop
 |nil:y6 Y [] []
 |cons {v:V} {x:Str} {l:List Str} {kvs:List (V×V)} {st:List (Str×List Str)}:LV Y v (l.map .str)->y6 Y kvs st->y6 Y ((.str x,v)::kvs) ((x,l)::st)
theorem y6.keys{st:List (Str×List Str)}(h:y6 Y kvs st):kvs.map (·.1)=(st.map (·.1)).map V.str:=by
 induction h with
 |nil=>rfl
 |cons _ _ a=>simp[a]
theorem y6.none{st:List (Str×List Str)}(h:y6 Y kvs st){x:Str}(e:st.lookup x=ai):eE kvs (.str x)=ai:=by
 induction h with
 |nil=>rfl
 |@cons v y l kvs st _ _ b=>
  rw[br]at e;unfold eE at*;cases a:x==y with
  |true=>rw[a]at e;cases e
  |false=>rw[a]at e;rw[cX,hY,show (y==x)=ao by rw[<-a];exact fw ..];exact b e
theorem y6.some{st:List (Str×List Str)}(h:y6 Y kvs st){x:Str}{l:List Str}(e:st.lookup x=ah l):∃v,eE kvs (.str x)=ah v/\LV Y v (l.map .str):=by
 induction h with
 |nil=>cases e
 |@cons v y l' kvs st d _ b=>
  rw[br]at e;unfold eE at*;cases a:x==y with
  |true=>rw[a]at e;cases e;exact ⟨v,by rw[cX,hY,show (y==x)=aj by rw[<-a];exact fw ..];rfl,d⟩
  |false=>rw[a]at e;refine b5 (b e) λ w f c=>?_;exact ⟨w,by rw[cX,hY,show (y==x)=ao by rw[<-a];exact fw ..];exact f,c⟩
theorem DV.of{v:V}{xs:List (V×V)}(h:DV Y v xs)(e:autoParam (Y.mu=Y'.mu) rf):DV Y' v xs:=by
 cases h with
 |frozen=>exact .frozen
 |led i hi=>exact .led i (e▸hi)
theorem oN{l:List Str}(h:l.Nodup):(l.map V.str).Nodup:=by rw[aO,bU];exact (aO.mp h).imp λ h e=>h (by simpa using e)
theorem y6.keyed{st:List (Str×List Str)}(h:y6 Y kvs st)(nd:(st.map (·.1)).Nodup)(x:Str):f9 (.str x) kvs:=by refine ⟨by show (2:Nat)≠0;decide,λ p a=>?_,by rw[h.keys];exact oN nd⟩;have:p.1∈kvs.map (·.1):=bq a;rw[h.keys]at this;refine b5 (aC.mp this) λ y Z e=>?_;rw[<-e];rfl
noncomputable def j1(em:List (Str×Bool)):List (V×V):=em.map λ p=>(.str p.1,.bool p.2)
theorem oO{em:List (Str×Bool)}(nd:(em.map (·.1)).Nodup)(x:Str):f9 (.str x) (j1 em):=by
 refine ⟨by show (2:Nat)≠0;decide,λ p a=>?_,?_⟩
 ·refine b5 (aC.mp a) λ y Z e=>?_;rw[<-e];rfl
 ·rw[show (j1 em).map (·.1)=(em.map (·.1)).map V.str by simp[j1]];exact oN nd
theorem EV(x:Str):∀em:List (Str×Bool),eE (j1 em) (.str x)=(em.lookup x).map V.bool:=by
 intro em;induction em with
 |nil=>exact rfl
 |cons c l d=>
  obtain ⟨a,b⟩:=c;unfold eE j1 at*;rw[be,cX,br,hY];cases e:x==a with
  |true=>rw[show (a==x)=aj by rw[<-e];exact fw ..];rfl
  |false=>rw[show (a==x)=ao by rw[<-e];exact fw ..];exact (d)
noncomputable def ed(st:List (Str×List Str))(em:List (Str×Bool))(ahead:Str):List Str->List Str->List Str
 |acc,[]=>acc++[ahead]
 |acc,x::r=>match st.lookup x with
  |none=>acc++[x]
  |some l=>if em.lookup x=ah aj then ed st em ahead (acc++l) r else acc++l
theorem qp{st:List (Str×List Str)}{em:List (Str×Bool)}{ahead:Str}{acc}:ed st em ahead acc []=(acc++[ahead]):=rfl
theorem mD{st:List (Str×List Str)}{em:List (Str×Bool)}{ahead:Str}{acc x r}:ed st em ahead acc (x::r)=(match st.lookup x with
 |none=>acc++[x]
 |some l=>if em.lookup x=ah aj then ed st em ahead (acc++l) r else acc++l):=rfl
section
variable{f:aG}
theorem yr(Yy:cv G f name qual (cP (top 32)) (cA (top 32)) (bG (top 32)) ["symbols","ahead","starts","empties"] [])(a:List Str)(ahead:Str){vs ve:V}{kvs:List (V×V)}(st:List (Str×List Str))(em:List (Str×Bool))
 (B:DV ⟨[],J⟩ vs kvs) (c:y6 ⟨[],J⟩ kvs st) (D:DV ⟨[],J⟩ ve (j1 em)) (nd:(st.map (·.1)).Nodup) (hk:em.map (·.1)=st.map (·.1)) (F:∀p∈st,p.2.length<=1000) (z:a.length<=100):
 cF G (d+1) (.ref f) [.list (a.map .str),.str ahead,vs,ve] J (λ v J'=>v=.list ((ed st em ahead [] a).map .str)/\J'=J):=by
 refine di Yy _ _ _ rfl λ O I=>?_;let r:(List Str)->(Option V)->St:=λ acc o=>⟨[ah (.list (a.map .str)),ah (.str ahead),ah vs,ah ve,ah (.list (acc.map .str)),o],J⟩
 let Z:Nat->St->Prop:=λ i Y=>∃(acc:List Str) (o:Option V),Y=r acc o/\acc.length<=i*1000/\ed st em ahead acc (a.drop i)=ed st em ahead [] a
 refine aB<|sl I 4<|f5<|cz ⟨by simp,aB<|lw (ExB:=dP) Z (λ Z Z h=>h.elim) (nl I 0 rfl ⟨_,_,_,k6 I.ok.hand,⟨[],ai,rfl,by simp,rfl⟩,λ Z Z Z Z=>trivial,λ i Y hi=>?_,?_⟩) λ Z=>rfl⟩
 ·intro t;refine fx t λ acc o u m g=>?_;subst u;rw[au]at hi;rw[fR hi ""];rw[jj hi ""]at g;generalize a.getD i ""=x at*;refine al I 5<|aB<|e4<|tq<|nl I 5 rfl<|nl I 2 rfl<|xy I.ok B.of (c.keyed nd x) ⟨_,rfl,?_⟩;cases j:st.lookup x with
  |none=>rw[c.none j];refine aB<|dF<|bx<|nl I 4 rfl<|l1<|nl I 5 rfl<|ng I.ok .frozen .frozen (by rw[au,cM];exact Ox m hi z)<|.F<|i6 ⟨?_,rfl⟩;rw[<-g,mD,j];simp
  |some l=>
   refine b5 (c.some j) λ w C E=>?_;rw[C];have n:l.length<=1000:=by refine hQ (bO.mp j) λ l₁ l₂ e Z=>?_;exact F (x,l) (by rw[e];simp)
   refine bm<|aB<|sl I 4<|bx<|nl I 4 rfl<|sb<|nl I 2 rfl<|nl I 5 rfl ⟨⟨_,.dict B.of⟩,jt I.ok B.of (c.keyed nd x) C<|ng I.ok .frozen E.of (by rw[au,au];exact Ow m n hi z)<|.F ?_⟩;have y:(em.lookup x).isSome=aj:=by
    have K:x∈em.map (·.1):=by rw[hk];refine hQ (bO.mp j) λ l₁ l₂ e Z=>?_;rw[e];simp
    cases q:em.lookup x with
    |some _=>rfl
    |none=>refine b5 (aC.mp K) λ p H e=>?_;have:=dK.mp q p H;rw[e]at this;simp at this
   refine ze (Option.isSome_iff_exists.mp y) λ b k=>?_;refine aB<|e4<|sR<|tv<|sb<|nl I 3 rfl<|nl I 5 rfl ⟨⟨_,.dict D.of⟩,jt I.ok D.of (oO (by rw[hk];exact nd) x) (by rw[EV,k];rfl)<|jp ?_⟩;cases b with
   |true=>exact bm<|bm ⟨acc++l,_,by unfold r;rw[aK];rfl,by rw[aF];exact Ov m n,by rw[<-g,mD,j];simp[k]⟩
   |false=>exact aB<|dF<|nl I 4 rfl<|i6 ⟨by rw[<-g,mD,j];simp[k],rfl⟩
 ·intro Y s;refine fx s λ acc o A m g=>?_;subst A;rw[au]at m;rw[au,iZ]at g;refine aB<|dF<|bx<|nl I 4 rfl<|l1<|nl I 1 rfl<|ng I.ok .frozen .frozen (by rw[au,cM];exact Ou m z)<|.F<|i6 ⟨?_,rfl⟩;rw[<-g,qp];simp
end
noncomputable def gc(k v:Nat):List (Nat×Nat)->List (Nat×Nat)
 |[]=>[(k,v)]
 |p::r=>if p.1=k then (p.1,v)::r else p::gc k v r
theorem rM{v:Nat}:gc k v []=([(k,v)]):=rfl
theorem wi{k v:Nat}{p r}:gc k v (p::r)=(if p.1=k then (p.1,v)::r else p::gc k v r):=rfl
theorem Di(k v:Nat):∀l:List (Nat×Nat),iw (.nat k) (.nat v) (dV l)=dV (gc k v l):=by
 intro l;induction l with
 |nil=>exact rfl
 |cons p r a=>
  have a:=a;dsimp only[dV]at*;simp only[be,nM,rM,wi,k7];by_cases e:p.1=k
  ·rw[if_pos e,if_pos (by simp[e])];rfl
  ·rw[if_neg e,if_neg (by simp;exact Ik e),a];rfl
theorem kJ(k v:Nat):∀l:List (Nat×Nat),(gc k v l).map (·.1)=if k∈l.map (·.1)then l.map (·.1)else l.map (·.1)++[k]:=by
 intro l;induction l with
 |nil=>exact rfl
 |cons p r a=>
  dsimp only[rM,wi];by_cases e:p.1=k
  ·rw[if_pos e,if_pos (by simp[e])];rfl
  ·rw[if_neg e,be,(a),be];by_cases h:k∈r.map (·.1)
   ·rw[if_pos h,if_pos (b_ _ h)]
   ·rw[if_neg h,if_neg (by simp only[aI,not_or];exact ⟨λ q=>e q.symm,h⟩)];rfl
theorem gk{v:Nat}{l:List (Nat×Nat)}(h:(l.map (·.1)).Nodup):((gc k v l).map (·.1)).Nodup:=by
 rw[kJ];by_cases q:k∈l.map (·.1)
 ·rw[if_pos q];exact h
 ·rw[if_neg q,aV];exact ⟨h,by simp,λ a c b d e=>q (by simp only[aE.mp d]at e;simp only[<-e];exact c)⟩
theorem jR(k v:Nat):∀l:List (Nat×Nat),(gc k v l).length<=l.length+1:=by
 intro l;induction l with
 |nil=>simp[rM]
 |cons p r a=>dsimp only[rM,wi];split<;>simp<;>exact Ot (a)
noncomputable def zu(n:Nat)(k:List (Nat×Nat))(s:Int)(items moves Rq Rp:V):List (Str×V):=[("number",.nat n),("kernel",e_ k),("core",.tup (k.map λ p=>.nat p.1)),("symbol",.int s),("items",items),("moves",moves),("reductions",Rq),("masks",Rp)]
noncomputable def cR(g:Gr):List (Nat×Nat)->List (Nat×Nat)->List (Nat×Nat)
 |acc,[]=>acc
 |acc,p::r=>cR g (if 0<g.Ro p.1/\g.after p.1<0 then gc (g.Ro p.1) p.2 acc else acc) r
theorem v3{g:Gr}{acc}:cR g acc []=(acc):=rfl
theorem rq{g:Gr}{acc p r}:cR g acc (p::r)=(cR g (if 0<g.Ro p.1/\g.after p.1<0 then gc (g.Ro p.1) p.2 acc else acc) r):=rfl
theorem g2{l:List (Nat×Nat)}(nd:(l.map (·.1)).Nodup){i:Nat}(hi:i<l.length):l.lookup (l.getD i (0,0)).1=ah (l.getD i (0,0)).2:=by rw[(show l.getD i (0,0)=l[i] by (refine (aD).trans ?_;rw[ay hi]);rfl),bO];refine ⟨l.take i,l.drop (i+1),by simp only[<-kh hi,c_],λ p c=>?_⟩;refine Eu (List.mem_take_iff_getElem.mp c) λ j d a=>?_;subst a;have b:j<i:=Os d;rw[bne_iff_ne];intro e;have:=(aO.mp nd);rw[kf]at this;have h:=this j i (by simp;exact bD ‹_› ‹_›) (by simpa using hi) b;simp at h;exact h e.symm
section
variable{f:aG}
theorem ss{o i:Expr}{Q:Option (Option V)->St->Prop}(h:XV O Ex (bw e O.env) (Np O Ex o i Q) Y)(a:autoParam (eo e (ah (.Subscript o i pos')) pos.line O.env=pure ao) rf):XF O Ex (gg (.Assign [.Subscript o i pos'] e pos) O.env) Q Y:=Bi h a
theorem vA(S:∀x∈(["items","masks","reductions"]:List Str),iN G.K CS x=aj)(F:wM G CG CR)(A:Ge G CS CA)(Bs:fC G "sorted" (.builtin "sorted"))(Yy:cv G f name qual (cP (mem 20 1)) (cA (mem 20 1)) (bG (mem 20 1)) ["self","grammar","items"] [])
 (U:Me G CG "rule_of" "Grammar.rule_of" (mem 9 7) ["self","item"] []) (R:Me G CG "after" "Grammar.after" (mem 9 9) ["self","item"] []) (B:fC G "len" (.builtin "len"))
 (g:Gr) (hz:Small g) (x r:aG) (n:Nat) (k:List (Nat×Nat)) (s:Int) (v1 K T v4:V) (items:List (Nat×Nat)) (nd:(items.map (·.1)).Nodup) (hv:∀p∈items,p.1<g.owners.length) (X:items.length<60):
 cF G (d+2) (.ref f) [.ref x,g.v CG CR,.dict (dV items)] [(x,.inst CS r (zu n k s v1 K T v4))] (λ v J'=>v=.none/\∃Rq:List Nat,Rq.Perm ((cR g [] items).map (·.1))/\Rq.Pairwise (·<=·)/\
  J'=[(x,.inst CS r (zu n k s (.dict (dV items)) K (.list (Rq.map .nat)) (.dict (dV (cR g [] items)))))]):=by
 refine di Yy _ _ _ rfl λ O I=>?_;refine aB<|si I<|nl I 2 rfl<|nl I 0 rfl ⟨0,x,CS,r,_,rfl,rfl,S _ (by decide+kernel),aP rfl,?_⟩;refine aB<|si I<|hV I.ok λ w=>nl I 0 rfl ⟨1,x,CS,r,_,rfl,rfl,S _ (by decide+kernel),aP rfl,?_⟩;let M:(List (Nat×Nat))->(Option V)->(Option V)->St:=λ acc o D=>⟨[ah (.ref x),ah (g.v CG CR),ah (.dict (dV items)),o,D,ai],[(w,.dict (dV acc)),(x,.inst CS r (zu n k s (.dict (dV items)) K T (.ref w)))]⟩
 let Z:Nat->St->Prop:=λ i Y=>∃(acc:List (Nat×Nat)) (o D:Option V),Y=M acc o D/\
  (acc.map (·.1)).Nodup/\acc.length<=i/\cR g acc (items.drop i)=cR g [] items
 have t:(dV items).length=items.length:=au ..;refine aB<|lw (ExB:=dP) Z (λ Z Z h=>h.elim) (nl I 2 rfl ⟨_,_,_,Bn I.ok.hand (pE items) (fS nd),⟨[],ai,ai,rfl,bL,aT _,rfl⟩,λ Z Z Z Z=>trivial,λ i Y hi=>?_,?_⟩) λ Z=>rfl
 ·intro N;refine qA N λ acc o D P j l C=>?_;subst P;rw[t]at hi;have hk:((dV items).map (·.1)).getD i .none=.nat (items.getD i (0,0)).1:=by rw[lm,fR (d:=0) (by simpa using hi)];rw[aD,aD,aN,ay hi];rfl
  have Q:=g2 nd hi;have y:=hv _ (bd hi (0,0));rw[jj hi (0,0)]at C;rw[hk];generalize items.getD i (0,0)=p at*;refine al I 3<|aB<|sl I 4<|mc I U<|nl I 1 rfl ⟨g.Si CR,.frozen,by kernel_rfl,a1<|nl I 3 rfl<|iA I (kz (d:=d) F U.y g p.1 hz y) (aT _) ?_⟩;have c:∀a:List (Nat×Nat),(a=if 0<g.Ro p.1/\g.after p.1<0 then gc (g.Ro p.1) p.2 acc else acc)->(a.map (·.1)).Nodup/\a.length<=i+1/\cR g a (items.drop (i+1))=cR g [] items:=λ a e=>by
   refine ⟨?_,?_,by rw[<-C,rq,<-e]⟩
   ·rw[e];split
    ·exact gk j
    ·exact j
   ·rw[e];split
    ·exact aA (jR ..) (dh ‹_›)
    ·exact c1 ‹_›
  refine aB<|e4<|lx<|tq<|nl I 4 rfl<|dN<|Cc ⟨_,rfl,?_⟩;by_cases J:0<g.Ro p.1
  ·refine iD (by simpa using J) ?_;refine lx<|tq<|mc I R<|nl I 1 rfl ⟨g.Si CR,.frozen,by kernel_rfl,a1<|nl I 3 rfl<|iA I (tV (d:=d) F R.y B g p.1 hz y) (aT _)<|dN<|t4 ⟨_,rfl,?_⟩⟩;by_cases H:g.after p.1<0
   ·refine iD (by simpa using H) ?_;refine ji ?_;refine iD rfl ?_;refine jA (c _ (if_pos ⟨J,H⟩).symm) λ a1 E z=>?_;refine aB<|ss<|sb<|nl I 2 rfl<|nl I 3 rfl ⟨⟨_,.dict .frozen⟩,jt I.ok .frozen (ju p.1 nd) (by rw[rP,Q];rfl)<|at_ I<|nl I 0 rfl ⟨CS,_,.ref w,.led (d:=r) (b_ _ ci),A.s _ (by decide+kernel),by kernel_rfl,nl I 4 rfl<|xj 0 I.ok rfl (ju _ j) ?_ ?_⟩⟩
    ·rw[show (dV acc).length=acc.length from au ..];exact Oq l hi X
    ·rw[Di];exact bm<|bm ⟨_,_,_,rfl,a1,E,z⟩
   ·refine fX (by simpa using H) ?_;refine jA (c _ (if_neg λ q=>H q.2).symm) λ a1 E z=>?_;exact bm<|bm ⟨_,_,_,rfl,a1,E,z⟩
  ·refine fX (by simpa using J) ?_;refine jA (c _ (if_neg λ q=>J q.1).symm) λ a1 E z=>?_;exact bm<|bm ⟨_,_,_,rfl,a1,E,z⟩
 ·intro Y L;refine qA L λ acc o D u j l C=>?_;subst u;rw[t]at l;rw[t,iZ,v3]at C;subst C;refine aB<|si I<|cb I 5 Bs<|a1<|at_ I<|nl I 0 rfl ⟨CS,_,.ref w,.led (d:=r) (b_ _ ci),A.s _ (by decide+kernel),by kernel_rfl,kL I.ok (.led 0 rfl) ?_ (pE _) (fS j) λ ys W hs=>?_⟩
  ·rw[show (dV (cR g [] items)).length=(cR g [] items).length from au ..];exact Ij l X
  ·rw[lm]at W;refine eB (JQ W hs) λ m u m1 m2=>?_;subst u;refine .F<|nl I 0 rfl ⟨1,x,CS,r,_,rfl,rfl,S _ (by decide+kernel),aP rfl,?_⟩;refine bm ⟨[(w,.dict (dV (cR g [] items)))],_,[(x,.inst CS r (zu n k s (.dict (dV items)) K (.list (m.map .nat)) (.dict (dV (cR g [] items)))))],.none,rfl,λ b hb=>hb,.cons (.inst ?_) .nil,.refl _,rfl,m,m1,m2,rfl⟩;refine .cons (.refl _)<|.cons (.refl _)<|.cons (.refl _)<|.cons (.refl _)<|.cons (.refl _)<|.cons (.refl _)<|.cons (.refl _)<|.cons (.dict ci (s_ _ _)) .nil
end
theorem E8{n:Nat}(b:n=l.length)(a:j<l.length):l.reverse[n-1-j]? =ah l[j]:=by
 subst b;refine (mH (bJ ‹_›)).trans ?_;refine (ay (Op a)).trans ?_;congr 1
 congr 1
 exact B5 a
theorem E7{n:Nat}(b:n=l.length)(a:j<l.length)(y:α):l.reverse.set (n-1-j) y=(l.set j y).reverse:=by
 subst b;apply dW;intro i;by_cases hi:i<l.length
 ·rw[mH (l:=l.set j y) (by simpa using hi),b0,ew,ew,List.length_reverse];by_cases e:l.length-1-j=i
  ·refine (if_pos e).trans ?_;refine (if_pos (bJ ‹_›)).trans ?_;rw[if_pos (MZ a e),if_pos (G6 a)]
  ·refine (if_neg e).trans ?_;rw[if_neg (MY hi e),mH (G6 hi)]
 ·refine (bl (by simp;exact bT.mp ‹_›)).trans ?_;rw[bl (by simp;exact bT.mp ‹_›)]
noncomputable def fP(L:List (aG×List Nat)):Mu:=(L.map λ p=>(p.1,MO.list (p.2.map .nat))).reverse
noncomputable def c5(L:List (aG×List Nat)):List V:=L.map λ p=>.ref p.1
theorem oR(b:j<L.length)(a post:Mu):(a++fP L++post)[a.length+(L.length-1-j)]? =ah (L[j].1,.list (L[j].2.map .nat)):=by unfold fP;rw[bW,bH (b3 _ _),cE,c3 (by simp;exact bJ ‹_›)];simp only[(E8 (n:=L.length) (l:=L.map λ p=>((p.1,MO.list (p.2.map .nat)):aG×MO)) (j:=j) (by simp) (by simpa using b)),bY]
theorem s7(b:j<L.length)(a post:Mu)(xs:List Nat):(a++fP L++post).set (a.length+(L.length-1-j)) (L[j].1,.list (xs.map .nat))=a++fP (L.set j (L[j].1,xs))++post:=by unfold fP;rw[bW,d6 _ _ (b3 _ _),cE,zb _ _ (by simp;exact bJ ‹_›)];simp only[(E7 (n:=L.length) (l:=L.map λ p=>((p.1,MO.list (p.2.map .nat)):aG×MO)) (j:=j) (by simp) (by simpa using b) (L[j].1,.list (xs.map .nat))),f0,bW]
theorem po(a:j<L.length)(xs:List Nat):c5 (L.set j (L[j].1,xs))=c5 L:=by
 unfold c5;refine f0.trans ?_;apply dW;intro i;refine (ew).trans ?_;split
 ·rename_i e;subst e;refine (if_pos (by simpa using a)).trans ?_;rw[aN,ay a];rfl
 ·rfl
theorem te(r:Ru):∀(l:List Ru) (i:Nat),gU i (l++[r])=gU i l++bv (r.right.length+1) (i+l.length):=by
 intro l;induction l with
 |nil=>intro i;simp[rg,ja]
 |cons q l a=>intro i;dsimp only[dt];rw[ja,a,ja,bW,bj,cT,gf i]
theorem B6:∀(l:List Ru) (i j:Nat),(gU i l).length=(gU j l).length:=by
 intro l;induction l with
 |nil=>intro Z Z;exact rfl
 |cons q l a=>intro i j;simp only[rg,ja,ja,aF,aF,a (i+1) (j+1),bR,bR]
theorem zN(r:Ru):∀(l:List Ru) (a:Nat),h8 a (l++[r])=h8 a l++[a+(gU 0 l).length]:=by
 intro l;induction l with
 |nil=>intro a;exact rfl
 |cons q l b=>intro a;simp only[dt,yF,vP,b,yF,vP,ja,aF,bR,B6 l 1 0,dt,gf]
noncomputable def FY(g:Gr)(n s:Nat):List Nat:=(aZ n).filter λ i=>((g.rules.map (·.left)).getD i 0)==s
theorem wu(g:Gr)(n s:Nat):FY g (n+1) s=if (g.rules.map (·.left)).getD n 0=s then FY g n s++[n]else FY g n s:=by
 unfold FY;simp only[cW,oC];by_cases h:(g.rules.map (·.left)).getD n 0=s
 ·rw[if_pos h,lC (by rw[beq_iff_eq];exact h)];rfl
 ·rw[if_neg h,lD (by rw[beq_iff_eq];exact h)];dsimp only[List.filter_nil];rw[cJ]
theorem IV(g:Gr)(n s:Nat):(FY g n s).length<=n:=by have:=db (λ i=>((g.rules.map (·.left)).getD i 0)==s) (aZ n);simp only[bf]at this;exact this
theorem vI{L:List (aG×List Nat)}{N:Nat}{f f':Nat->List Nat}{j:Nat}(h:L.map (·.2)=(aZ N).map f)(a:j<L.length)(b:∀s,s≠j->f' s=f s):
 (L.set j (L[j].1,f' j)).map (·.2)=(aZ N).map f':=by
 apply dW;intro i;simp only[f0,ew];by_cases e:j=i
 ·subst e;refine (if_pos rfl).trans ?_;refine (if_pos (by simpa using a)).trans ?_;rw[aN,fF (G5 a (by have:=congrArg dB h;simpa using this))];rfl
 ·refine (if_neg e).trans ?_;rw[h,aN,aN];cases q:(aZ N)[i]? with
  |none=>rfl
  |some k=>
   have:k=i:=by rw[bh]at q;refine zd q λ Z q=>?_;simpa using q.symm
   subst this;show ah (f k)=ah (f' k);rw[b k (Ne.symm e)]
theorem BI:∀{L:List (aG×List Nat)},(∀p∈L,(p.1,MO.list (p.2.map V.nat))∈J)->RE J (c5 L) (L.map λ p=>.list (p.2.map .nat)):=by
 intro L;induction L with
 |nil=>intro Z;exact .nil
 |cons p L b=>intro h;exact .cons (.list (h p ci) (RE.refl _ _)) (b λ q a=>h q (b_ _ a))
theorem th{p:aG×List Nat}(h:p∈L):(p.1,MO.list (p.2.map V.nat))∈fP L:=by unfold fP;rw[List.mem_reverse];exact aC.mpr ⟨p,h,rfl⟩
theorem g1(L:List (aG×List Nat)):(fP L).length=L.length:=by simp[fP]
theorem qW(L:List (aG×List Nat))(a:aG)(xs:List Nat):fP (L++[(a,xs)])=(a,.list (xs.map .nat))::fP L:=by simp[fP]
theorem iW(p:aG×MO)(post:Mu):(fP L++p::post)[L.length]? =ah p:=by refine (bH (by rw[g1];exact aT _)).trans ?_;rw[g1,eU];rfl
theorem iV(p q:aG×MO)(post:Mu):(fP L++p::post).set L.length q=fP L++q::post:=by refine (d6 _ _ (by rw[g1];exact aT _)).trans ?_;rw[g1,eU];rfl
noncomputable def Gr.Tv(g:Gr)(vr vb vo vw:V):List (Str×V):=[("names",.list (g.names.map .str)),("terminal_count",.nat g.tc),("rules",vr),("levels",.dict []),("expect",.none),("start",.nat g.start),
 ("by_left",vb),("offsets",vo),("owners",vw),("item_count",.nat g.owners.length)]
section
variable{f:aG}
inductive PN(G:GC)(name:Str)(Q:Option (Option V)->St->Prop)(v ov:V)(Y:St):Prop
 |mk (i:Nat) (a C d:aG) (fs:List (Str×V)) (m:Mu) (e:ov=.ref a) (h:Y.mu[i]? =ah (a,.inst C d fs)) (s:iN G.K C name=aj) (z:fs.length<900) (em:Y.mu.set i (a,.inst C d (nf name v fs))=m) (q:Q ai ⟨Y.vals,m⟩)
inductive Nw(a:aG)(Q:V->St->Prop)(v:V)(Y:St):Prop
 |mk (i:Nat) (xs:List V) (m:Mu) (e:Y.mu[i]? =ah (a,.list xs)) (z:xs.length<=2^20) (em:Y.mu.set i (a,.list (xs++[v]))=m) (q:Q .none ⟨Y.vals,m⟩)
inductive Q_(O:FC)(Ex:Value->aQ->Prop)(e:Expr)(Q:V->St->Prop)(ov:V)(Y:St):Prop
 |mk (a:aG) (TN:List V) (j:Nat) (e1:ov=.ref a) (e2:Y.mu[j]? =ah (a,.list TN)) (h:XV O Ex (bw e O.env) (Nw a Q) Y)
theorem N8(I:f_ O G d T){o e:Expr}{name:Str}{Q:Option (Option V)->St->Prop}(h:XV O Ex (bw e O.env) (kR O Ex o (PN G name Q)) Y)(f:autoParam (eo e (ah (.Attribute o name pos')) pos.line O.env=pure ao) rf):XF O Ex (gg (.Assign [.Attribute o name pos'] e pos) O.env) Q Y:=
 si I (h.mono λ Z Z h=>X.mono h λ Z Z b=>by obtain ⟨i,a,C,d,fs,m,g,l,j,k,c,q⟩:=b;exact ⟨i,a,C,d,fs,g,l,j,k,(bA c)▸q⟩) f
theorem gj(I:f_ O G d T){o e:Expr}{b pos:gY}{Q:V->St->Prop}
 (h:XV O Ex (bw o O.env) (Q_ O Ex e Q) Y)
 (u:autoParam (bw (.Call (.Attribute o "append" b) [e] [] pos) O.env=(do
  let ov <-bw o O.env
  i1 b.atName
  gT o "append" b pos O.env ov ([e].length+0) (cO pos (bk [e] O.env)) [])) rf)
 (r:autoParam (bk [e] O.env=(ao,bw e O.env)::bk [] O.env) rf)
 (c:autoParam ((cO pos (bk [e] O.env)).any (·.1)=ao) rf)
 (n:autoParam (wZ ([e].length+0) (cO pos (bk [e] O.env)) []=aj) rf) (l:autoParam ((b.endLine==pos.line)=aj) rf):
 XV O Ex (bw (.Call (.Attribute o "append" b) [e] [] pos) O.env) Q Y:=
 Iw I (h.mono λ Z Z g=>by obtain ⟨a,f,j,s,w,h⟩:=g;exact ⟨a,f,j,s,w,h.mono λ Z Z k=>by obtain ⟨i,xs,m,t,v,p,q⟩:=k;exact ⟨i,xs,t,v,(bA p)▸q⟩⟩) u r c n l
theorem qj(g:Gr){r:Nat}(a:r<g.rules.length):g.rules[r].left=(g.rules.map (·.left)).getD r 0:=by simp only[aD,aN,ay a];rfl
theorem vG(S:∀x∈(["names","terminal_count","rules","levels","expect","start","by_left","offsets","owners","item_count"]:List Str),iN G.K CG x=aj)(F:wM G CG CR)(B:fC G "len" (.builtin "len"))
 (Yy:cv G f name qual (cP (mem 9 0)) (cA (mem 9 0)) (bG (mem 9 0)) ["self","names","terminal_count","rules","levels","expect","start"] [])
 (g:Gr) (hz:Small g) (n:∀r∈g.rules,r.left<g.names.length) (x c A:aG) (hm:(A,MO.list (g.Rx CR))∈J):
 cF G (d+1) (.ref f) [.ref x,.list (g.names.map .str),.nat g.tc,.ref A,.dict [],.none,.nat g.start] ((x,.inst CG c [])::J) (λ v J'=>v=.none/\J'=(x,.inst CG c (g.Tv (.ref A) (.list g.UN) (.list (g.RA.map .nat)) (.list (g.owners.map .nat))))::J):=by
 refine di Yy _ _ _ rfl λ O I=>?_;have U:(g.names.map V.str).length=g.names.length:=au ..;have Zp:=hz.names;have R:=hz.rules;have M:=hz.owners;refine aB<|si I<|nl I 1 rfl<|nl I 0 rfl ⟨0,x,CG,c,_,rfl,rfl,S _ (by decide+kernel),aP rfl,?_⟩;refine aB<|si I<|nl I 2 rfl<|nl I 0 rfl ⟨0,x,CG,c,_,rfl,rfl,S _ (by decide+kernel),aP rfl,?_⟩;refine aB<|si I<|nl I 3 rfl<|nl I 0 rfl ⟨0,x,CG,c,_,rfl,rfl,S _ (by decide+kernel),aP rfl,?_⟩;refine aB<|si I<|nl I 4 rfl<|nl I 0 rfl ⟨0,x,CG,c,_,rfl,rfl,S _ (by decide+kernel),aP rfl,?_⟩;refine aB<|si I<|nl I 5 rfl<|nl I 0 rfl ⟨0,x,CG,c,_,rfl,rfl,S _ (by decide+kernel),aP rfl,?_⟩;refine aB<|si I<|nl I 6 rfl<|nl I 0 rfl ⟨0,x,CG,c,_,rfl,rfl,S _ (by decide+kernel),aP rfl,?_⟩;let F0:List (Str×V):=[("names",.list (g.names.map .str)),("terminal_count",.nat g.tc),("rules",.ref A),("levels",.dict []),("expect",.none),("start",.nat g.start)]
 refine aB<|N8 I<|lc I<|at_ I<|nl I 0 rfl ⟨CG,F0,.list (g.names.map .str),.led (d:=c) ci,F.g _ (by decide+kernel),by kernel_rfl,_,_,_,k6 I.ok.hand,?_,
  (λ i t acc J'=>∃o L,t=[ai,o]/\acc=c5 L/\L.map (·.2)=(aZ i).map (λ Z=>[])/\J'=fP L++(x,.inst CG c F0)::J),⟨_,[],rfl,rfl,rfl,rfl⟩,?_,?_,?_⟩
 ·rw[U];exact bc (aH ‹_› (by decide))
 ·intro i t acc J' hi U4;refine qB U4 λ o L TC SH H SV=>?_;subst TC;subst SH;subst SV;have:=congrArg dB H;simp only[au,bf]at this;exact ⟨by unfold c5;rw[au];exact cu ‹_›,λ Z=>trivial⟩
 ·intro O' C i t acc J' D hi U3;refine qB U3 λ o L SU Te H TL=>?_;subst SU;subst Te;subst TL;have I':=C.S7 I;refine al I' 1<|gy<|eC I'.ok<|cz ⟨by simp,λ a=>⟨[(a,.list [])],rfl,_,L++[(a,[])],rfl,by simp[c5],by rw[aK,H,cW,aK];rfl,by rw[qW];rfl⟩⟩
 ·intro t acc J' Uv;refine qB Uv λ o L Us Ur H UT=>?_;subst Us;subst Ur;subst UT;rw[U]at H;refine .F<|nl I 0 rfl ⟨L.length,x,CG,c,F0,_,rfl,iW _ _,S _ (by decide+kernel),aP rfl,iV _ _ _,?_⟩;refine aB<|N8 I<|eC I.ok<|cz ⟨by simp,λ w=>nl I 0 rfl ⟨L.length+1,x,CG,c,_,_,rfl,iW _ _,S _ (by decide+kernel),aP rfl,congrArg ((w,MO.list [])::·) (iV _ _ _),?_⟩⟩;refine aB<|N8 I<|eC I.ok<|cz ⟨by simp,λ y=>nl I 0 rfl ⟨L.length+2,x,CG,c,_,_,rfl,iW _ _,S _ (by decide+kernel),aP rfl,congrArg (λ m=>(y,MO.list [])::(w,MO.list [])::m) (iV _ _ _),?_⟩⟩;have Q:(g.Rx CR).length=g.rules.length:=by unfold Gr.Rx;rw[au,f1]
  let z:List (Str×V):=[("names",.list (g.names.map .str)),("terminal_count",.nat g.tc),("rules",.ref A),("levels",.dict []),("expect",.none),("start",.nat g.start),("by_left",.list (c5 L)),("offsets",.ref w),("owners",.ref y)]
  let Um:List Ru->(List (aG×List Nat))->(Option V)->St:=λ rs j o=>⟨[ah (.ref x),ah (.list (g.names.map .str)),ah (.nat g.tc),ah (.ref A),ah (.dict []),ah .none,ah (.nat g.start),o,ai],(y,.list ((gU 0 rs).map .nat))::(w,.list ((h8 0 rs).map .nat))::(fP j++(x,.inst CG c z)::J)⟩
  let Z:Nat->St->Prop:=λ i Y=>∃(j:List (aG×List Nat)) (o:Option V),Y=Um (g.rules.take i) j o/\c5 j=c5 L/\j.map (·.2)=(aZ g.names.length).map (FY g i)
  refine aB<|lw (ExB:=dP) Z (λ Z Z h=>h.elim) (at_ I<|nl I 0 rfl ⟨CG,z,.ref A,.led (d:=c) (.tail _ (.tail _ (ax _ (.head _)))),F.g _ (by decide+kernel),by kernel_rfl,_,_,_,p_ I.ok.hand (.tail _ (.tail _ (ax _ (.tail _ hm)))),⟨L,ai,rfl,rfl,?_⟩,?_,λ i Y hi=>?_,?_⟩) λ Z=>rfl
  ·rw[H];exact bF λ s Z=>rfl
  ·intro i Y hi Uu;refine fx Uu λ j o W X u=>?_;subst W;exact .tail _ (.tail _ (ax _ (.tail _ hm)))
  ·intro Ut;refine fx Ut λ j o T X u=>?_;subst T;rw[Q]at hi;rw[(show (g.Rx CR).getD i .none=zG CR (g.rules[i],i)from by rw[aD,s6 g hi];rfl)];have K:g.rules[i].left<j.length:=by have:=congrArg dB u;simp only[au,bf]at this;rw[this];exact n _ (cI hi)
   have WD:=hz.right _ (cI hi);have hg:(c5 L)[g.rules[i].left]? =ah (.ref j[g.rules[i].left].1):=by rw[<-X];unfold c5;rw[aN,ay K];rfl
   have E:j[g.rules[i].left].2=FY g i g.rules[i].left:=by have:=congrArg (·[g.rules[i].left]?) u;simp only[aN,ay K]at this;rw[fF (n _ (cI hi))]at this;simpa using this
   have T8:=IV g i g.rules[i].left;have P:(gU 0 (g.rules.take i)).length<=g.owners.length:=by
    have e:=congrArg (λ l=>(gU 0 l).length) (c_ i g.rules).symm;have:∀(a b:List Ru) (k:Nat),(gU k a).length<=(gU k (a++b)).length:=λ a=>by
     induction a with
     |nil=>intro b k;exact bg _
     |cons q a ih=>intro b k;rw[dt,ja,ja,aF,aF];exact jz (ih _ _) _
    unfold Gr.owners;rw[e];exact this _ _ _
   refine al I 7<|aB<|xe I<|gj I<|sb<|at_ I<|nl I 0 rfl ⟨CG,z,.list (c5 L),.led (d:=c) (.tail _ (.tail _ (ax _ (.head _)))),F.g _ (by decide+kernel),by kernel_rfl,?_⟩;refine fa I<|nl I 7 rfl ⟨CR,_,.nat g.rules[i].left,rfl,F.r _ (by decide+kernel),by kernel_rfl,⟨_,.list .frozen⟩,dQ .frozen hg (gG (n _ (cI hi)) Zp) ⟨_,j[g.rules[i].left].2.map .nat,2+(j.length-1-g.rules[i].left),rfl,oR K [_,_] _,?_⟩⟩;refine fa I<|nl I 7 rfl ⟨CR,_,.nat i,rfl,F.r _ (by decide+kernel),by kernel_rfl,2+(j.length-1-g.rules[i].left),j[g.rules[i].left].2.map .nat,
    (y,.list ((gU 0 (g.rules.take i)).map .nat))::(w,.list ((h8 0 (g.rules.take i)).map .nat))::(fP (j.set g.rules[i].left (j[g.rules[i].left].1,j[g.rules[i].left].2++[i]))++(x,.inst CG c z)::J),oR K [_,_] _,by rw[au,E];exact MX T8 hi R,?_,?_⟩
   ·have:=s7 K [(y,MO.list ((gU 0 (g.rules.take i)).map .nat)),(w,MO.list ((h8 0 (g.rules.take i)).map .nat))] ((x,.inst CG c z)::J) (j[g.rules[i].left].2++[i]);rw[aK]at this;exact this
   refine aB<|xe I<|Iw I<|at_ I<|nl I 0 rfl ⟨CG,z,.ref w,.led (d:=c) (.tail _ (.tail _ (ax _ (.head _)))),F.g _ (by decide+kernel),by kernel_rfl,w,(h8 0 (g.rules.take i)).map .nat,1,rfl,rfl,?_⟩;refine cb I 8 B<|a1<|at_ I<|nl I 0 rfl ⟨CG,z,.ref y,.led (d:=c) (.tail _ (.tail _ (ax _ (.head _)))),F.g _ (by decide+kernel),by kernel_rfl,lq (.led 0 rfl) (by rw[au];exact G4 P M) ⟨1,(h8 0 (g.rules.take i)).map .nat,rfl,by rw[au,jL,bb];exact G3 R,?_⟩⟩;refine aB<|xe I<|mb I PySem.F.plainAttrs_list PySem.F.slot_list_extend PySem.F.type_list_extend<|at_ I<|nl I 0 rfl ⟨CG,z,.ref y,.led (d:=c) (.tail _ (.tail _ (ax _ (.head _)))),F.g _ (by decide+kernel),by kernel_rfl,.list (.led 0 rfl),?_⟩;refine a1<|bx<|l1<|fa I<|nl I 7 rfl ⟨CR,_,.nat i,rfl,F.r _ (by decide+kernel),by kernel_rfl,?_⟩;refine bx<|cb I 8 B<|a1<|fa I<|nl I 7 rfl ⟨CR,_,.tup (g.rules[i].right.map .nat),rfl,F.r _ (by decide+kernel),by kernel_rfl,Dq (by rw[au];exact aH ‹_› (by decide))<|xn 1 ?_⟩;rw[au];refine fQ<|Cb I.ok .frozen (aH ‹_› (by decide))<|.F<|Du 0 I.ok rfl .frozen (by rw[au,bR];exact MW P WD M)<|bm ⟨_,_,congrArg (St.mk _) (DW.mpr ⟨congrArg (Prod.mk y∘MO.list) ?_,DW.mpr ⟨congrArg (Prod.mk w∘MO.list) ?_,rfl⟩⟩),?_,?_⟩
   ·rw[aS hi,te,aK,A0,bb,jx (bc hi),cQ]
   ·rw[aS hi,zN,aK,au,cQ];rfl
   ·rw[po];exact X
   ·have N:=qj g hi;rw[E];have:=vI (f:=FY g i) (f':=FY g (i+1)) u K λ s hs=>by rw[wu,if_neg (by rw[<-N];exact Ne.symm hs)]
    rw[wu,if_pos N.symm]at this;exact this
  ·intro Y U2;refine fx U2 λ j o TM X u=>?_;subst TM;rw[Q,a0]at*;let F2:List (Str×V):=[("names",.list (g.names.map .str)),("terminal_count",.nat g.tc),("rules",.ref A),("levels",.dict []),("expect",.none),("start",.nat g.start),("by_left",.list (c5 L)),("offsets",.ref w),("owners",.ref y),("item_count",.nat g.owners.length)]
   refine aB<|N8 I<|cb I 8 B<|a1<|at_ I<|nl I 0 rfl ⟨CG,z,.ref y,.led (d:=c) (.tail _ (.tail _ (ax _ (.head _)))),F.g _ (by decide+kernel),by kernel_rfl,lq (.led 0 rfl) (by rw[au];show g.owners.length<_;exact aH ‹_› (by decide)) ?_⟩;rw[au];refine nl I 0 rfl ⟨j.length+2,x,CG,c,z,_,rfl,iW _ _,S _ (by decide+kernel),aP rfl,(congrArg (λ l=>((y,MO.list ((gU 0 g.rules).map V.nat))::(w,MO.list ((h8 0 g.rules).map V.nat))::l)) (iV (L:=j) (x,.inst CG c z) (x,.inst CG c F2) J)),?_⟩;have ZZ:g.UN=j.map λ p=>.list (p.2.map .nat):=by rw[(show (j.map λ p=>V.list (p.2.map .nat))=(j.map (·.2)).map λ l=>V.list (l.map .nat)from by rw[bu];rfl),u,bu];rfl
   refine bm ⟨(y,MO.list ((gU 0 g.rules).map V.nat))::(w,MO.list ((h8 0 g.rules).map V.nat))::fP j,(x,.inst CG c F2)::J,(x,.inst CG c (g.Tv (.ref A) (.list g.UN) (.list (g.RA.map .nat)) (.list (g.owners.map .nat))))::J,.none,rfl,λ b hb=>hb,.cons (.inst ?_) (dI.refl _ _),.refl _,rfl,rfl⟩;refine .cons (.refl _)<|.cons (.refl _)<|.cons (.refl _)<|.cons (.refl _)<|.cons (.refl _)<|.cons (.refl _)<|.cons (.VT ?_)<|.cons (.list (.tail _ (.head _)) (RE.refl _ _))<|.cons (.list (.head _) (RE.refl _ _))<|.cons (.refl _) .nil;rw[ZZ,<-X];exact BI λ p hp=>.tail _ (.tail _ (th hp))
end
noncomputable def Gr.left(g:Gr)(r:Nat):Nat:=(g.rules.map (·.left)).getD r 0
inductive Su(g:Gr):Nat->Prop
 |rule {r:Nat}:r<g.rules.length->(∀s∈g.right r,Su g s)->Su g (g.left r)
structure de(g:Gr):Prop extends Small g where
 left:∀r<g.rules.length,g.left r<g.names.length/\g.tc<=g.left r
 syms:∀r<g.rules.length,∀s∈g.right r,s<g.names.length
 own:g.owners.length<60
 VA:g.names.length<60
 VO:g.tc<=10
 Wv:g.tc<=g.names.length
noncomputable def Dm(g:Gr)(P:List Nat)(r:Nat):Nat:=(g.right r).countP λ s=>!P.contains s
noncomputable def d7(g:Gr)(n s:Nat):List Nat:=(aZ n).flatMap λ r=>bv ((g.right r).count s) r
structure Sp(g:Gr)(m:Nat)(P:List Nat)(c:Nat->Nat)(fd:List Bool)(lk q:List Nat):Prop where
 fl:fd.length=g.names.length
 fq:∀s<g.names.length,fd.getD s ao=aj↔s∈q
 nd:q.Nodup
 lt:∀s∈q,s<g.names.length
 nul:∀s∈q,Su g s
 ll:lk.length=g.rules.length
 ck:∀r<g.rules.length,lk.getD r 0+c r=Dm g P r
 z:∀r<m,lk.getD r 0=0->g.left r∈q
theorem h_{x d:α}(hi:i<l.length):(l.set i x).getD j d=if i=j then x else l.getD j d:=by
 refine (aD).trans ?_;rw[ew,aD];by_cases e:i=j
 ·subst e;rw[if_pos rfl,if_pos rfl,if_pos hi];rfl
 ·rw[if_neg e,if_neg e]
theorem Sp.put{m:Nat}{P:List Nat}{c:Nat->Nat}(S:Sp g m P c fd lk q){x:Nat}(f:x<g.names.length)(i:fd.getD x ao=ao)(l:Su g x):Sp g m P c (fd.set x aj) lk (q++[x]):=by
 refine ⟨by (refine b0.trans ?_);exact S.fl,λ s d=>?_,?_,λ s d=>?_,λ s d=>?_,S.ll,S.ck,λ r j h=>aJ _ (S.z r j h)⟩
 ·rw[h_ (by rw[S.fl];exact f),aM,aE];by_cases e:x=s
  ·rw[if_pos e];exact ⟨λ Z=>.inr e.symm,λ Z=>rfl⟩
  ·rw[if_neg e,S.fq s d];exact ⟨.inl,λ h=>h.elim id λ h=>absurd h.symm e⟩
 ·simp only[aV];exact ⟨S.nd,bC.mpr ⟨ea,bL⟩,λ a n b k e=>(λ h=>by rw[(S.fq x f).mpr h]at i;exact nomatch i) ((aE.mp k)▸(e)▸n)⟩
 ·rcases aM.mp d with h|h
  ·exact S.lt s h
  ·rw[aE.mp h];exact f
 ·rcases aM.mp d with h|h
  ·exact S.nul s h
  ·simp only[aE.mp h];exact l
theorem Sp.dec{m:Nat}{P:List Nat}{c b:Nat->Nat}(S:Sp g m P c fd lk q){r:Nat}(a:r<g.rules.length)(d:1<=lk.getD r 0)(f:∀k,b k=if r=k then c k+1 else c k)(hz:lk.getD r 0-1=0->g.left r∈q):Sp g m P b fd (lk.set r (lk.getD r 0-1)) q:=by
 refine ⟨S.fl,S.fq,S.nd,S.lt,S.nul,by (refine b0.trans ?_);exact S.ll,λ k hk=>?_,λ k hk h=>?_⟩
 ·have:=S.ck k hk;rw[h_ (by simp only[S.ll];exact a),f k];by_cases e:r=k
  ·subst e;rw[if_pos rfl,if_pos rfl];exact MV d this
  ·rw[if_neg e,if_neg e];exact this
 ·rw[h_ (by simp only[S.ll];exact a)]at h;by_cases e:r=k
  ·subst e;rw[if_pos rfl]at h;exact hz h
  ·rw[if_neg e]at h;exact S.z k hk h
theorem Aj{P:List Nat}{r:Nat}(h:Dm g P r=0):∀s∈g.right r,s∈P:=λ s a=>by simpa using (AK.mp h s a)
theorem tC{P:List Nat}{r x:Nat}(c:x∉P):Dm g P r=Dm g (P++[x]) r+(g.right r).count x:=by
 unfold Dm;induction g.right r with
 |nil=>rfl
 |cons a l b=>
  rw[lE,lE,b];by_cases e:a=x
  ·subst e;simp[c];exact MT
  ·simp[e];exact cT _ _ _
theorem jY{n s r:Nat}:(d7 g n s).count r=if r<n then (g.right r).count s else 0:=by
 unfold d7;induction n with
 |zero=>rfl
 |succ n a=>
  simp only[cW,dX,gn,a,df,D_,cJ,List.count_replicate];rcases pX r n with h|h|h
  ·rw[if_pos h,if_pos (cD ‹_›:r<n+1),if_neg (by rw[beq_iff_eq];exact fo ‹_›)];dsimp only[jD]
  ·subst h;rw[if_neg (bB _),if_pos (ce _),if_pos (by rw[beq_iff_eq]),cQ]
  ·rw[if_neg (MS h:¬r<n),if_neg (bT.mpr ‹_›:¬r<n+1),if_neg (by rw[beq_iff_eq];exact cm ‹_›)]
theorem w6{n s r:Nat}(h:r∈d7 g n s):r<n:=by
 have:=List.count_pos_iff.mpr h;simp only[jY]at this;split at this
 ·assumption
 ·exact (MQ this).elim
theorem nO(g:Gr)(n s:Nat):d7 g (n+1) s=d7 g n s++bv ((g.right n).count s) n:=by unfold d7;simp only[cW,dX,df,D_,cJ]
theorem Sp.done(e:de g)(S:Sp g g.rules.length q (λ Z=>0) fd lk q):∀s<g.names.length,fd.getD s ao=aj↔Su g s:=λ s d=>by
 refine (S.fq s d).trans ?_;refine ⟨S.nul s,λ h=>?_⟩;induction h with
 |@rule r a _ c=>refine S.z r a ?_;exact MP (S.ck r a) (AK.mpr λ x b=>by simpa using c x b (e.syms r a x b))
open Classical in
noncomputable def ij(g:Gr):List Bool:=(aZ g.names.length).map λ s=>decide (Su g s)
open Classical in
theorem Sp.eq(a:de g)(S:Sp g g.rules.length q (λ Z=>0) fd lk q):fd=ij g:=by
 apply dW;intro i;unfold ij;simp only[aN];by_cases hi:i<g.names.length
 ·have:=S.done a i hi;rw[aD]at this;rw[fF hi,ay (by simp only[S.fl];exact hi)]at*;skip;refine congrArg ah ?_;rw[fh,decide_eq_true_iff];exact this
 ·refine (bl (by rw[S.fl];exact bT.mp ‹_›)).trans ?_;rw[bl (by rw[bf];exact bT.mp ‹_›)];rfl
theorem wz(p q:aG×MO)(post:Mu):(fP L++p::q::post)[L.length+1]? =ah q:=by refine (bH (by rw[g1];exact b3 _ _)).trans ?_;rw[g1,cE];rfl
theorem wy(p q r:aG×MO)(post:Mu):(fP L++p::q::post).set (L.length+1) r=fP L++p::r::post:=by refine (d6 _ _ (by rw[g1];exact b3 _ _)).trans ?_;rw[g1,cE];rfl
noncomputable abbrev j0(aq:aG)(q:List Nat)(U:List (aG×List Nat))(al:aG)(lk:List Nat)(af:aG)(fd:List Bool)(J:Mu):Mu:=
 (aq,.list (q.map .nat))::(fP U++(al,.list (lk.map .nat))::(af,.list (fd.map .bool))::J)
section
variable{aq al af:aG}{q lk:List Nat}{U:List (aG×List Nat)}{fd:List Bool}{J:Mu}
theorem BE(a:j<U.length):(j0 aq q U al lk af fd J)[1+(U.length-1-j)]? =ah (U[j].1,.list (U[j].2.map .nat)):=oR a [_] _
theorem EM(a:j<U.length)(xs:List Nat):(j0 aq q U al lk af fd J).set (1+(U.length-1-j)) (U[j].1,.list (xs.map .nat))=j0 aq q (U.set j (U[j].1,xs)) al lk af fd J:=s7 a [_] _ xs
theorem tT:(j0 aq q U al lk af fd J)[U.length+1]? =ah (al,.list (lk.map .nat)):=iW _ _
theorem Gs(a:List Nat):(j0 aq q U al lk af fd J).set (U.length+1) (al,.list (a.map .nat))=j0 aq q U al a af fd J:=congrArg (_::·) (iV _ _ _)
theorem vu:(j0 aq q U al lk af fd J)[U.length+2]? =ah (af,.list (fd.map .bool)):=wz _ _ _
theorem Gu(a:List Bool):(j0 aq q U al lk af fd J).set (U.length+2) (af,.list (a.map .bool))=j0 aq q U al lk af a J:=congrArg (_::·) (wy _ _ _ _)
theorem Gq{p:aG×List Nat}(h:p∈U):(p.1,MO.list (p.2.map .nat))∈j0 aq q U al lk af fd J:=.tail _ (aJ _ (th h))
end
theorem vJ{f:Nat->List Nat}(h:L.map (·.2)=(aZ N).map f)(a:j<N):∃c:j<L.length,L[j].2=f j:=by
 have b:L.length=N:=by have:=congrArg dB h;simpa using this
 refine ⟨re a b,?_⟩;have:=congrArg (·[j]?) h;simp only[aN,ay (show j<L.length from re a b),fF a]at this;simpa using this
theorem vL{a:List (aG×List Nat)}(h:c5 a=c5 L)(b:j<a.length):(c5 L)[j]? =ah (.ref a[j].1):=by rw[<-h];unfold c5;refine (aN).trans ?_;rw[ay b];rfl
theorem e8(h:i<l.length)(d:α):l.getD i d=l[i]:=by simp only[aD,ay h];rfl
theorem Sp.more{m:Nat}{P:List Nat}{c:Nat->Nat}(S:Sp g m P c fd lk q)(h:lk.getD m 0=0->g.left m∈q):Sp g (m+1) P c fd lk q:=
 ⟨S.fl,S.fq,S.nd,S.lt,S.nul,S.ll,S.ck,λ r b e=>by
  rcases cH.mp b with a|a
  ·exact S.z r a e
  ·subst a;exact h e⟩
theorem Sp.U_{m:Nat}{P:List Nat}{c:Nat->Nat}(S:Sp g m P c fd lk q):q.length<=g.names.length:=by simpa using (aU S.nd λ x a=>bP.mpr (S.lt x a))
theorem Sp.lks{m:Nat}{P:List Nat}{c:Nat->Nat}(S:Sp g m P c fd lk q):∀r<g.rules.length,lk.getD r 0<=(g.right r).length:=λ r a=>by exact MN (S.ck r a) mJ
theorem zL(g:Gr)(n:Nat):(gU 0 (g.rules.take n)).length<=g.owners.length:=by
 have e:=congrArg (λ l=>(gU 0 l).length) (c_ n g.rules).symm;have:∀(a b:List Ru) (k:Nat),(gU k a).length<=(gU k (a++b)).length:=λ a=>by
  induction a with
  |nil=>intro b k;exact bg _
  |cons q a c=>intro b k;simp only[dt,rg,ja,rg,ja,aF,aF];exact jz (c _ _) _
 unfold Gr.owners;simp only[e];exact this _ _ _
theorem zq(g:Gr)(s:Nat):∀n,n<=g.rules.length->(d7 g n s).length<=(gU 0 (g.rules.take n)).length:=by
 intro n;induction n with
 |zero=>intro Z;exact bg _
 |succ n a=>intro h;simp only[nO,aF,bR,aS (G2 h),te,aF,bR,(kA g (show n<g.rules.length from G2 h))];exact MM (a (bc ‹_›)) jc
section
variable{f:aG}
theorem qd{a:aG}{v:V}{xs:List V}{j:Nat}{Q:St->Prop}(i:Nat){m:Mu}(ok:O.Ok)(hi:Y.mu[i]? =ah (a,.list xs))(b:j<xs.length)(hz:j<2^62)(e:Y.mu.set i (a,.list (xs.set j v))=m)(h:Q ⟨Y.vals,m⟩):
 wI O Ex (.ref a) (.int j) v Q Y:=Ia i ok hi b hz ((bA e)▸h)
theorem Ng(I:f_ O G d T)(j:Nat){y:Str}{Q:Option (Option V)->St->Prop}(h:XV O Ex (bw iter O.env) (mG O elt target ifs scope (we j Q)) Y)(f:autoParam (∀n,(T n)[j]? =ah (y,.loc)) rf)(a:autoParam (scope.kind=.function) rf)(e:autoParam (tF (scope.names.map (·.1))=aj) rk)(c:autoParam (t7 scope.names=aj) rk)(b:autoParam (∀n,ux (T n) scope.names=aj) rk)(g:autoParam ((py.line==pos.line)=aj) rf)(l:autoParam ((scope.names.any λ (n,k)=>n==y&&(k==.local||k==.cell))=ao) rk)(i:autoParam (∀x,eK iter O.env x=pure x) rf):XF O Ex (gg (.Assign [.Name y py] (.ListComp elt [⟨target,iter,ifs,0⟩] scope pos) TP) O.env) Q Y:=by refine QT I j h f a e c b ?_ i;show pure (O.env.blockKind==.function&&O.env.kindOf y==ah .local&&py.line==pos.line&&!(scope.names.any λ (n,k)=>n==y&&(k==.local||k==.cell)))=pure aj;simp only[(show O.env.blockKind=.function by unfold Env.blockKind;rw[I.ok.kind];rfl),(I.ok.loc j y (I.at j f)),g,l];rfl
theorem Ig(I:f_ O G d T)(F:wM G CG CR){Q:V->St->Prop}(p:Ru×Nat)(v:V)(h:XV O Ex (bw value O.env) (Nr (zG CR p) v Q) Y)(a:autoParam (([("number",V.nat p.2),("left",V.nat p.1.left),("right",V.tup (p.1.right.map .nat))]:List (Str×V)).lookup attr=ah v) rk)(b:autoParam (Jv value attr pos O.env) rf):XV O Ex (bw (.Attribute value attr pos) O.env) Q Y:=fa I (h.mono λ Z Z ⟨e,q⟩=>by
 subst e;refine ⟨CR,_,v,rfl,?_,?_,q⟩
 ·refine F.r _ ?_;have:attr∈["number","left","right"].map bo:=by
   rw[br]at a;split at a
   ·rename_i h;rw[beq_iff_eq]at h;simp only[h];exact ci
   ·rw[br]at a;split at a
    ·rename_i h;simp only[beq_iff_eq]at h;simp only[h];exact .tail _ (.head _)
    ·rw[br]at a;split at a
     ·rename_i h;simp only[beq_iff_eq]at h;rw[h];exact .tail _ (.tail _ (.head _))
     ·cases a
  exact this
 ·rw[br]at a ⊢;split at a
  ·rename_i h;exact a
  ·rename_i h;rw[br]at a ⊢;split at a
   ·exact a
   ·rw[br]at a ⊢;split at a
    ·exact a
    ·exact nomatch a) b
theorem BL(F:wM G CG CR)(B:fC G "len" (.builtin "len"))(Bl:fC G "list" (.type "list"))(Yy:cv G f name qual (cP (top 15)) (cA (top 15)) (bG (top 15)) ["grammar","known"] [])
 (g:Gr) (hg:de g):cF G (d+1) (.ref f) [g.v CG CR,.list ((bv g.names.length ao).map .bool)] J (λ v J'=>v=.list ((ij g).map .bool)/\J'=J):=by
 refine di Yy _ _ _ rfl λ O I=>?_;have H:=hg.names;have VC:=hg.rules;have T6:(g.Rx CR).length=g.rules.length:=by unfold Gr.Rx;rw[au,f1]
 let kn:V:=.list ((bv g.names.length ao).map .bool)
 refine aB<|sl I 2<|cb I 12 Bl<|a1<|nl I 1 rfl<|uI I.ok .frozen (by simp;exact bc (aH ‹_› (by decide)))<|.M λ af=>?_;refine aB<|sl I 3<|eC I.ok<|cz ⟨by simp,λ al=>?_⟩;refine aB<|Ng I 5<|nl I 2 rfl ⟨_,_,_,p_ I.ok.hand (.tail _ (.head _)),by simp;exact bc (aH ‹_› (by decide)),
  (λ i vals acc J'=>∃o L,vals=[ai,o]/\acc=c5 L/\L.map (·.2)=(aZ i).map (λ Z=>[])/\J'=fP L++(al,.list [])::(af,.list ((bv g.names.length ao).map .bool))::J),⟨_,[],rfl,rfl,rfl,rfl⟩,?_,?_,?_⟩
 ·intro i vals acc J' hi U4;refine qB U4 λ o L TC SH hL SV=>?_;subst TC;subst SH;subst SV;have:=congrArg dB hL;simp only[au,bf]at this;exact ⟨by unfold c5;rw[au];exact cu ‹_›,λ Z=>.tail _ (ax _ (.tail _ (.head _)))⟩
 ·intro O' C i vals acc J' D hi U3;refine qB U3 λ o L SU Te hL TL=>?_;subst SU;subst Te;subst TL;have I':=C.S7 I;refine Mine.al I' 1<|gy<|eC I'.ok<|cz ⟨by simp,λ a=>⟨[(a,.list [])],rfl,_,L++[(a,[])],rfl,by simp[c5],by rw[aK,hL,cW,aK];rfl,by rw[qW];rfl⟩⟩
 intro vals acc J' Uv;refine qB Uv λ o U Us Ur hU UT=>?_;subst Us;subst Ur;subst UT;rw[au,bR]at hU;refine .F<|aB<|sl I 6<|eC I.ok<|cz ⟨by simp,λ aq=>?_⟩;let Um:List Nat->(List (aG×List Nat))->(Option V)->(Option V)->(Option V)->St:=λ lk U' o4 o7 o8=>⟨[ah (g.v CG CR),ah kn,ah (.ref af),ah (.ref al),o4,ah (.list (c5 U)),ah (.ref aq),o7,o8,ai,ai,ai,ai,ai],j0 aq [] U' al lk af (bv g.names.length ao) J⟩
 let Z1:Nat->St->Prop:=λ i Y=>∃(U':List (aG×List Nat)) (o4 o7 o8:Option V),Y=Um ((g.rules.take i).map (·.right.length)) U' o4 o7 o8/\c5 U'=c5 U/\U'.map (·.2)=(aZ g.names.length).map (d7 g i)
 refine aB<|lw (ExB:=dP) Z1 (λ Z Z h=>h.elim) (ga I F g (.list (g.Rx CR))<|nl I 0 rfl ⟨rfl,_,_,_,k6 I.ok.hand,⟨U,ai,ai,ai,rfl,rfl,hU⟩,λ Z Z Z Z=>trivial,λ i Y hi=>?_,?_⟩) λ Z=>rfl
 ·intro Uu;refine yf Uu λ b o4 o7 o8 U1 hR N=>?_;subst U1;rw[T6]at hi;have hx:(g.Rx CR).getD i .none=zG CR (g.rules[i],i):=by rw[aD,s6 g hi];rfl
  rw[hx];have T:=kA g hi;have WD:=hg.right _ (cI hi);let TF:Nat->(List (aG×List Nat))->(Option V)->St:=λ j U' o4=>⟨[ah (g.v CG CR),ah kn,ah (.ref af),ah (.ref al),o4,ah (.list (c5 U)),ah (.ref aq),ah (zG CR (g.rules[i],i)),ah (.nat j),ai,ai,ai,ai,ai],j0 aq [] U' al ((g.rules.take i).map (·.right.length)) af (bv g.names.length ao) J⟩
  let Z2:Nat->St->Prop:=λ j Y=>∃(U':List (aG×List Nat)) (o4:Option V),Y=TF j U' o4/\c5 U'=c5 U/\U'.map (·.2)=(aZ g.names.length).map λ s=>d7 g i s++bv (((g.right i).take j).count s) i
  refine Mine.al I 7<|aB<|sl I 8<|xn 0<|aB<|lw (ExB:=dP) Z2 (λ Z Z h=>h.elim) (Ig I F (g.rules[i],i) (.tup (g.rules[i].right.map .nat))<|nl I 7 rfl ⟨rfl,_,_,_,u_ I.ok.hand,⟨b,o4,rfl,hR,by rw[N];simp⟩,λ Z Z Z Z=>trivial,λ j Y hj=>?_,?_⟩) λ Z=>rfl
  ·intro Ut;refine fx Ut λ c o4 U0 hR A=>?_;subst U0;rw[au,T]at hj;rw[fR (by rw[T];exact hj) 0,T];have P:=hg.syms i hi _ (bd hj 0);refine zd (vJ A P) λ hl E=>?_;have hlen:c[(g.right i).getD j 0].2.length<=2^20:=by rw[E,aF,bR];have h4:((g.right i).take j).count ((g.right i).getD j 0)<=((g.right i).take j).length:=jc;rw[bb]at h4;rw[T]at WD;exact ML (zq g ((g.right i).getD j 0) i (bc ‹_›)) h4 (zL g i) WD hg.owners
   refine Mine.al I 4<|aB<|e4<|sR<|tv<|sb<|nl I 2 rfl<|nl I 4 rfl ⟨⟨_,.list (.led (c.length+2) vu)⟩,dQ (.led (c.length+2) vu) (dY (by simpa using P) ao) (gG P H)<|jp ?_⟩;rw[e8 (by simpa using P),wU];refine aB<|sl I 8<|bx<|nl I 8 rfl<|xn 1<|fQ<|aB<|xe I<|gj I<|sb<|nl I 5 rfl<|nl I 4 rfl ⟨⟨_,.list .frozen⟩,dQ .frozen (vL hR hl) (gG P H) ⟨_,_,_,rfl,BE hl,?_⟩⟩;refine Ig I F (g.rules[i],i) (.nat i)<|nl I 7 rfl ⟨rfl,_,_,j0 aq [] (c.set ((g.right i).getD j 0) (c[(g.right i).getD j 0].1,c[(g.right i).getD j 0].2++[i])) al ((g.rules.take i).map (·.right.length)) af (bv g.names.length ao) J,BE hl,by rw[au];exact hlen,?_,bm<|bm ⟨_,_,rfl,?_,?_⟩⟩
   ·have:=EM (aq:=aq) (q:=[]) (al:=al) (lk:=(g.rules.take i).map (·.right.length)) (af:=af) (fd:=bv g.names.length ao) (J:=J) hl (c[(g.right i).getD j 0].2++[i]);rw[aK]at this;exact this
   ·rw[po];exact hR
   ·rw[E];have:=vI (f':=λ s=>d7 g i s++bv (((g.right i).take (j+1)).count s) i) A hl λ s P=>by rw[aS hj,gn,mZ,<-e8 hj 0,if_neg (by rw[beq_iff_eq];exact Ne.symm P),jD]
    rw[aS hj]at this ⊢;rw[<-e8 hj 0]at this ⊢;rw[gn,mZ,if_pos (by rw[beq_iff_eq]),List.replicate_succ',<-bW]at this;exact this
  ·intro Y U2;refine fx U2 λ c o4 TM hR A=>?_;subst TM;rw[au,T,a0]at A;rw[au,T];refine aB<|xe I<|gj I<|nl I 3 rfl ⟨al,_,c.length+1,rfl,tT,nl I 8 rfl ⟨c.length+1,_,_,tT,by rw[au,au,bb];exact G3 VC,?_,bm ⟨c,_,_,_,rfl,hR,?_⟩⟩⟩
   ·have:=Gs (aq:=aq) (q:=[]) (al:=al) (U:=c) (lk:=(g.rules.take i).map (·.right.length)) (af:=af) (fd:=bv g.names.length ao) (J:=J) ((g.rules.take (i+1)).map (·.right.length));rw[show (g.rules.take (i+1)).map (·.right.length)=(g.rules.take i).map (·.right.length)++[(g.right i).length] by rw[aS hi,aK,fZ,T],aK]at this;rw[show (g.rules.take (i+1)).map (·.right.length)=(g.rules.take i).map (·.right.length)++[(g.right i).length] by rw[aS hi,aK,fZ,T]];exact this
   ·rw[A];exact bF λ s Z=>(nO g i s).symm
 intro Y W8;refine yf W8 λ b o4 o7 o8 UZ hR N=>?_;subst UZ;rw[T6]at N;rw[T6,a0];clear hU;refine ze (show ∃l:List Nat,l=g.rules.map (·.right.length)from ⟨_,rfl⟩) λ M Vm=>?_;rw[<-Vm];have u:M.length=g.rules.length:=by rw[Vm,au]
 have Vl:∀r<g.rules.length,M.getD r 0=(g.right r).length:=λ r z=>by rw[Vm,e8 (by simpa using z),bY,kA g z]
 have S0:Sp g 0 [] (λ Z=>0) (bv g.names.length ao) M []:=by
  refine ⟨bR,λ s P=>?_,bL,λ s P=>(nomatch P),λ s P=>(nomatch P),u,λ r z=>?_,λ r z=>absurd z (c9 _)⟩
  ·rw[e8 (by simpa using P),wU];exact ⟨λ h=>(nomatch h),λ h=>(nomatch h)⟩
  ·rw[Vl r z];exact (List.countP_eq_length.mpr λ x hx=>by simp).symm
 let Vy:(List Bool)->(List Nat)->(Option V)->St:=λ fd q o7=>⟨[ah (g.v CG CR),ah kn,ah (.ref af),ah (.ref al),o4,ah (.list (c5 U)),ah (.ref aq),o7,o8,ai,ai,ai,ai,ai],j0 aq q b al M af fd J⟩
 let Z3:Nat->St->Prop:=λ i Y=>∃(fd:List Bool) (q:List Nat) (o7:Option V),Y=Vy fd q o7/\Sp g i [] (λ Z=>0) fd M q
 refine aB<|lw (ExB:=dP) Z3 (λ Z Z h=>h.elim) (ga I F g (.list (g.Rx CR))<|nl I 0 rfl ⟨rfl,_,_,_,k6 I.ok.hand,⟨_,[],o7,rfl,S0⟩,λ Z Z Z Z=>trivial,λ i Y hi=>?_,?_⟩) λ Z=>rfl
 ·intro W7;refine mN W7 λ fd q o7 UY S=>?_;subst UY;rw[T6]at hi;rw[(show (g.Rx CR).getD i .none=zG CR (g.rules[i],i)from by rw[aD,s6 g hi];rfl)];refine za (hg.left i hi) λ p V2=>?_;have hle:g.rules[i].left=g.left i:=qj g hi;have X:=S.U_;refine Mine.al I 7<|aB<|e4<|lx<|tq<|sb<|nl I 3 rfl<|Ig I F (g.rules[i],i) (.nat i)<|nl I 7 rfl ⟨rfl,⟨_,.list (.led (b.length+1) tT)⟩,dQ (.led (b.length+1) tT) (dY (by rw[u];exact hi) 0) (gG hi VC)<|xn 0<|zV ⟨_,rfl,?_⟩⟩;by_cases h0:M.getD i 0=0
  ·refine iD (by simpa using h0) ?_;refine lx<|sR<|tv<|sb<|nl I 2 rfl<|Ig I F (g.rules[i],i) (.nat g.rules[i].left)<|nl I 7 rfl ⟨rfl,⟨_,.list (.led (b.length+2) vu)⟩,dQ (.led (b.length+2) vu) (dY (by rw[S.fl,hle];exact p) ao) (gG (by rw[hle];exact p) H)<|jp ?_⟩;rw[hle];cases hf:fd.getD (g.left i) ao with
   |true=>exact bm<|bm ⟨_,_,_,rfl,S.more λ Z=>(S.fq _ p).mp hf⟩
   |false=>
    refine ji ?_;refine iD rfl ?_;have hn:Su g (g.left i):=.rule hi λ s P=>by have:=Vl i hi;rw[h0]at this;rw[r8 this.symm]at P;cases P
    refine aB<|ss<|i3<|nl I 2 rfl<|Ig I F (g.rules[i],i) (.nat g.rules[i].left)<|nl I 7 rfl ⟨rfl,qd (b.length+2) (m:=j0 aq q b al M af (fd.set (g.left i) aj) J) I.ok vu (by rw[au,S.fl,hle];exact p) (gG (by rw[hle];exact p) H) ?_ ?_⟩
    ·rw[hle];have h:=@Gu aq al af q M b fd J (fd.set (g.left i) aj);rw[f0]at h;exact h
    ·refine aB<|xe I<|gj I<|nl I 6 rfl ⟨aq,_,0,rfl,rfl,Ig I F (g.rules[i],i) (.nat g.rules[i].left)<|nl I 7 rfl ⟨rfl,0,_,j0 aq (q++[g.left i]) b al M af (fd.set (g.left i) aj) J,rfl,by rw[au];exact G1 X H,by rw[hle];simp,bm<|bm ⟨_,_,_,rfl,(S.put p hf hn).more λ Z=>ax _ (.head _)⟩⟩⟩
  ·refine fX (by simpa using h0) ?_;exact bm<|bm ⟨_,_,_,rfl,S.more λ h=>absurd h h0⟩
 intro Y W6;refine mN W6 λ fd q o7 UX S=>?_;subst UX;rw[T6]at S;clear Vl S0 u;let Wx:Nat->(List Bool)->(List Nat)->(List Nat)->(Option V)->(Option V)->St:=λ t fd lk q w y=>⟨[ah (g.v CG CR),ah kn,ah (.ref af),ah (.ref al),o4,ah (.list (c5 U)),ah (.ref aq),o7,o8,ah (.nat t),w,y,ai,ai],j0 aq q b al lk af fd J⟩
 let Z4:Nat->St->Prop:=λ n Y=>∃(t:Nat) (fd:List Bool) (lk q:List Nat) (w y:Option V),Y=Wx t fd lk q w y/\n=g.names.length-t/\t<=q.length/\Sp g g.rules.length (q.take t) (λ Z=>0) fd lk q
 refine aB<|sl I 9<|xn 0<|aB<|p8 (ExB:=dP) Z4 (λ Z Z h=>h.elim) (λ n Y hZ=>?_) (g.names.length-0) ⟨0,fd,M,q,ai,ai,rfl,rfl,bg _,S⟩;refine Jw hZ λ t fd lk q w y TC SH ht S=>?_;subst TC;subst SH;have X:=S.U_;refine tq<|nl I 9 rfl<|cb I 13 B<|a1<|nl I 6 rfl<|lq (.led 0 rfl) (by rw[au];exact G4 X H)<|t8 ⟨_,rfl,?_⟩;rw[au];by_cases K:t<q.length
 ·refine iD (by simpa using K) ?_;have P:=S.lt _ (bd K 0);refine zd (vJ N P) λ hl E=>?_;have Yx:q.getD t 0∉q.take t:=λ h=>by have:=S.nd;rw[<-c_ t q,aV]at this;exact this.2.2 _ h _ (by rw[jj K 0];exact .head _) rfl
  have Vg:q.take (t+1)=q.take t++[q.getD t 0]:=by rw[aS K,e8 K]
  have Wf:∀x∈q.take (t+1),Su g x:=λ x hx=>S.nul _ (cG hx);generalize Yu:q.getD t 0=s at*;let Y_:(List Bool)->(List Nat)->(List Nat)->(Option V)->(Option V)->St:=λ fd lk W w y=>⟨[ah (g.v CG CR),ah kn,ah (.ref af),ah (.ref al),o4,ah (.list (c5 U)),ah (.ref aq),o7,o8,ah (.nat t),w,y,ai,ai],j0 aq W b al lk af fd J⟩
  let Z5:Nat->St->Prop:=λ i Y=>∃(fd:List Bool) (lk W:List Nat) (w y:Option V),Y=Y_ fd lk W w y/\t<W.length/\W.take (t+1)=q.take (t+1)/\Sp g g.rules.length (q.take t) (λ r=>((d7 g g.rules.length s).take i).count r) fd lk W
  refine aB<|lw (ExB:=dP) Z5 (λ Z Z h=>h.elim) (sb<|nl I 5 rfl<|sb<|nl I 6 rfl<|nl I 9 rfl ⟨⟨_,.list (.led 0 rfl)⟩,dQ (.led 0 rfl) (dY K 0) (MK K X H) ⟨⟨_,.list .frozen⟩,dQ .frozen (by rw[Yu];exact vL hR hl) (by rw[Yu];exact gG P H) ⟨_,_,_,p_ I.ok.hand (Gq (cI hl)),⟨fd,lk,q,_,_,rfl,K,rfl,by simpa using S⟩,?_,λ i Y hi=>?_,?_⟩⟩⟩) λ Z=>rfl
  ·intro i Y hi Xa;obtain ⟨WR,lk',W,w,y,rfl,_⟩:=Xa;exact Gq (cI hl)
  ·intro W_;refine Bb W_ λ fd lk W w y UW R XK S=>?_;subst UW;rw[au,E]at hi;rw[fR (by rw[E];exact hi) 0,E];have z:=w6 (bd hi 0);have YP:∀k,((d7 g g.rules.length s).take (i+1)).count k=if (d7 g g.rules.length s).getD i 0=k then ((d7 g g.rules.length s).take i).count k+1 else ((d7 g g.rules.length s).take i).count k:=λ k=>by
    rw[aS hi,gn,mZ,<-e8 hi 0];by_cases e:(d7 g g.rules.length s).getD i 0=k
    ·rw[if_pos (by rw[beq_iff_eq];exact e),if_pos e]
    ·rw[if_neg (by rw[beq_iff_eq];exact e),if_neg e];rfl
   generalize (d7 g g.rules.length s).getD i 0=r at*;have h1:=(show ∀k,((d7 g g.rules.length s).take (i+1)).count k<=(d7 g g.rules.length s).count k from λ k=>(fj _ _).count_le _) r;rw[YP r,if_pos rfl,jY,if_pos z]at h1;have YR:=tC (g:=g) (r:=r) Yx;have YQ:=S.ck r z;have X:=S.U_;refine za (hg.left r z) λ p V2=>?_;have WL:1<=lk.getD r 0:=MJ YQ h1 YR;have ZD:=hg.right _ (cI z);rw[kA g z]at ZD;have u:r<lk.length:=by rw[S.ll];exact z
   refine Mine.al I 10<|aB<|ss<|bx<|sb<|nl I 3 rfl<|nl I 10 rfl ⟨⟨_,.list (.led (b.length+1) tT)⟩,dQ (.led (b.length+1) tT) (dY u 0) (gG z VC)<|xn 1<|yJ WL<|nl I 3 rfl<|nl I 10 rfl<|qd (b.length+1) (m:=j0 aq W b al (lk.set r (lk.getD r 0-1)) af fd J) I.ok tT (by rw[au];exact u) (gG z VC) ?_ ?_⟩
   ·have h:=@Gs aq al af W lk b fd J (lk.set r (lk.getD r 0-1));rw[f0]at h;exact h
   refine aB<|sl I 11<|Ig I F (g.rules[r],r) (.nat g.rules[r].left)<|sb<|ga I F g (.list (g.Rx CR))<|nl I 0 rfl ⟨rfl,nl I 10 rfl ⟨⟨_,.list .frozen⟩,dQ .frozen (s6 g z) (gG z VC) ⟨rfl,?_⟩⟩⟩;refine aB<|e4<|lx<|tq<|sb<|nl I 3 rfl<|nl I 10 rfl ⟨⟨_,.list (.led (b.length+1) tT)⟩,dQ (.led (b.length+1) tT) (dY (by rw[b0];exact u) 0) (gG z VC)<|xn 0<|zV ⟨_,rfl,?_⟩⟩;rw[h_ u,if_pos rfl,(show g.rules[r].left=g.left r from qj g z)];have Vs:∀WR Q,(Q.take (t+1)=W.take (t+1))->t<Q.length->Sp g g.rules.length (q.take t) (λ k=>((d7 g g.rules.length s).take i).count k) WR lk Q->(lk.getD r 0-1=0->g.left r∈Q)->t<Q.length/\Q.take (t+1)=q.take (t+1)/\Sp g g.rules.length (q.take t) (λ k=>((d7 g g.rules.length s).take (i+1)).count k) WR (lk.set r (lk.getD r 0-1)) Q:=λ WR Q e1 e2 S' hz=>⟨e2,e1.trans XK,S'.dec z WL YP hz⟩
   by_cases h0:lk.getD r 0-1=0
   ·refine iD (by simpa using h0) ?_;refine lx<|sR<|tv<|sb<|nl I 2 rfl<|nl I 11 rfl ⟨⟨_,.list (.led (b.length+2) vu)⟩,dQ (.led (b.length+2) vu) (dY (by rw[S.fl];exact p) ao) (gG p H)<|jp ?_⟩;cases hf:fd.getD (g.left r) ao with
    |true=>exact bm<|bm ⟨_,_,_,_,_,rfl,Vs _ _ rfl R S λ Z=>(S.fq _ p).mp hf⟩
    |false=>
     refine ji ?_;refine iD rfl ?_;have hn:Su g (g.left r):=.rule z λ x hx=>by exact Wf x (by rw[Vg];exact Aj (MI h1 YQ h0 YR) x hx)
     refine aB<|ss<|i3<|nl I 2 rfl<|nl I 11 rfl<|qd (b.length+2) (m:=j0 aq W b al (lk.set r (lk.getD r 0-1)) af (fd.set (g.left r) aj) J) I.ok vu (by rw[au,S.fl];exact p) (gG p H) ?_ ?_
     ·have h:=@Gu aq al af W (lk.set r (lk.getD r 0-1)) b fd J (fd.set (g.left r) aj);rw[f0]at h;exact h
     ·refine aB<|xe I<|gj I<|nl I 6 rfl ⟨aq,_,0,rfl,rfl,nl I 11 rfl ⟨0,_,j0 aq (W++[g.left r]) b al (lk.set r (lk.getD r 0-1)) af (fd.set (g.left r) aj) J,rfl,by rw[au];exact G1 X H,by simp,bm<|bm ⟨_,_,_,_,_,rfl,Vs _ _ ?_ ?_ (S.put p hf hn) λ Z=>ax _ (.head _)⟩⟩⟩
      ·rw[List.take_append_of_le_length (MH R)]
      ·rw[aF];exact cD ‹_›
   ·refine fX (by simpa using h0) ?_;exact bm<|bm ⟨_,_,_,_,_,rfl,Vs _ _ rfl R S λ h=>absurd h h0⟩
  ·intro Y W9;refine Bb W9 λ fd lk W w y UU R XK S=>?_;subst UU;rw[au,E,a0]at S;refine aB<|sl I 9<|bx<|nl I 9 rfl<|xn 1<|fQ<|bm ⟨g.names.length-(t+1),yC K X,t+1,fd,lk,W,w,y,rfl,rfl,R,?_⟩;rw[XK,Vg];exact ⟨S.fl,S.fq,S.nd,S.lt,S.nul,S.ll,λ r z=>by have:=S.ck r z;rw[jY,if_pos z]at this;have h2:=tC (g:=g) (r:=r) Yx;exact MG this h2,S.z⟩
 ·refine fX (by simpa using K) ?_;have e:t=q.length:=gd ‹_› (bT.mp ‹_›);subst e;rw[a0]at S;have he:=S.eq hg;subst he;refine aB<|dF<|nl I 2 rfl ?_;have:=C6 (J:=J) (J1:=(aq,.list (q.map .nat))::(fP b++[(al,.list (lk.map .nat)),(af,.list ((ij g).map .bool))])) (post:=λ v J'=>v=.list ((ij g).map .bool)/\J'=J) (a:=af) (xs:=(ij g).map .bool) (.tail _ (ax _ (.tail _ (.head _)))) ⟨rfl,rfl⟩;rw[dt,bW]at this;exact this
end
section
variable{f:aG}
theorem lF(f:α->V)(l:List α)(d:α)(a:O.A.handled=ai):i7 O O.A (.list (l.map f)) l.length (λ i=>f (l.getD i d)) (λ Z=>True) Y:=by have:=(k6 (O:=O) (Y:=Y) (A:=O.A) (xs:=l.map f) a);rw[au]at this;exact this.as _ λ i hi=>fR hi d
theorem JJ(f:α->V)(l:List α)(d:α)(a:O.A.handled=ai):i7 O O.A (.tup (l.map f)) l.length (λ i=>f (l.getD i d)) (λ Z=>True) Y:=by have:=(u_ (O:=O) (Y:=Y) (A:=O.A) (xs:=l.map f) a);rw[au]at this;exact this.as _ λ i hi=>fR hi d
theorem HT{a:aG}(f:α->V)(l:List α)(d:α)(c:O.A.handled=ai)(b:(a,MO.list (l.map f))∈Y.mu):i7 O O.A (.ref a) l.length (λ i=>f (l.getD i d)) (λ Y=>(a,MO.list (l.map f))∈Y.mu) Y:=by have:=(p_ (O:=O) (Y:=Y) (A:=O.A) (xs:=l.map f) c b);rw[au]at this;exact this.as _ λ i hi=>fR hi d
noncomputable def Gr.lv(g:Gr)(r:Nat):Int:=(g.rules.map (·.lv)).getD r 0
noncomputable def Gr.rF(g:Gr)(r:Nat):List (Str×V):=[("number",.nat r),("left",.nat (g.left r)),("right",.tup ((g.right r).map .nat)),("level_of",.int (g.lv r)),("action",.none),("line",.int 0),("before",.int 0)]
noncomputable def Gr.rV(g:Gr)(CR:aG)(r:Nat):V:=.inst CR (g.rF r)
theorem Gy(g:Gr){r:Nat}(a:r<g.rules.length):(g.Rx CR)[r]? =ah (g.rV CR r):=by refine (s6 g a).trans ?_;dsimp only[zG,Gr.rV,Gr.rF,Gr.lv];simp only[kA g a,show g.rules[r].left=g.left r from qj g a,(show (g.rules.map (·.lv)).getD r 0=g.rules[r].lv by rw[e8 (by simpa using a),bY])]
theorem EF(g:Gr)(a:O.A.handled=ai):i7 O O.A (.list (g.Rx CR)) g.rules.length (g.rV CR) (λ Z=>True) Y:=by have:=(k6 (O:=O) (Y:=Y) (A:=O.A) (xs:=g.Rx CR) a);rw[show (g.Rx CR).length=g.rules.length by unfold Gr.Rx;simp only[au,f1]]at this;exact this.as _ λ i hi=>by (refine (aD).trans ?_;rw[Gy g hi]);rfl
theorem rl(I:f_ O G d T)(F:wM G CG CR)(g:Gr)(r:Nat){Q:V->St->Prop}(h:XV O Ex (bw value O.env) (Nr (g.rV CR r) (.nat (g.left r)) Q) Y)(b:autoParam (bw (.Attribute value "left" pos) O.env=(do
 let o <-bw value O.env
 i1 pos.atName
 let r <-kj [o] (A6 o "left" aj)
 w1 value o r
 pure r)) rf):XV O Ex (bw (.Attribute value "left" pos) O.env) Q Y:=fa I (h.mono λ Z Z a=>by obtain ⟨e,q⟩:=a;exact ⟨CR,g.rF r,_,e,F.r _ (.tail _ (.head _)),by kernel_rfl,q⟩) b
theorem rr(I:f_ O G d T)(F:wM G CG CR)(g:Gr)(r:Nat){Q:V->St->Prop}(h:XV O Ex (bw value O.env) (Nr (g.rV CR r) (.tup ((g.right r).map .nat)) Q) Y)(b:autoParam (bw (.Attribute value "right" pos) O.env=(do
 let o <-bw value O.env
 i1 pos.atName
 let r <-kj [o] (A6 o "right" aj)
 w1 value o r
 pure r)) rf):XV O Ex (bw (.Attribute value "right" pos) O.env) Q Y:=fa I (h.mono λ Z Z a=>by obtain ⟨e,q⟩:=a;exact ⟨CR,g.rF r,_,e,F.r _ (.tail _ (.tail _ (.head _))),by kernel_rfl,q⟩) b
theorem lZ(f:α->V){l:List α}{k:Nat}(d:α){Q:V->St->Prop}(hk:k<l.length)(hz:k<2^62)(h:Q (f (l.getD k d)) Y):mU O Ex Q (.list (l.map f)) (.nat k) Y:=⟨⟨_,.list .frozen⟩,dQ .frozen (dY hk d) hz h⟩
theorem P0(f:α->V){l:List α}{k:Nat}(d:α){Q:V->St->Prop}(hk:k<l.length)(hz:k<2^62)(h:Q (f (l.getD k d)) Y):mU O Ex Q (.tup (l.map f)) (.nat k) Y:=⟨⟨_,.tup⟩,pA (dY hk d) hz h⟩
theorem CO{a:aG}(f:α->V){l:List α}{k:Nat}(d:α)(i:Nat){Q:V->St->Prop}(hi:Y.mu[i]? =ah (a,.list (l.map f)))(hk:k<l.length)(hz:k<2^62)(h:Q (f (l.getD k d)) Y):mU O Ex Q (.ref a) (.nat k) Y:=⟨⟨_,.list (.led i hi)⟩,dQ (.led i hi) (dY hk d) hz h⟩
theorem CN(g:Gr){k:Nat}{Q:V->St->Prop}(hk:k<g.rules.length)(hz:Small g)(h:Q (g.rV CR k) Y):mU O Ex Q (.list (g.Rx CR)) (.nat k) Y:=⟨⟨_,.list .frozen⟩,dQ .frozen (Gy g hk) (gG hk hz.rules) h⟩
theorem uJ{a:aG}{f:α->V}(i:Nat)(hi:Y.mu[i]? =ah (a,.list (l.map f)))(hz:l.length<2^62)(h:Q (.nat l.length) Y):cU O Ex (.builtin "len") [.ref a] Q Y:=lq (.led i hi) (by rw[au];exact hz) (by rw[au];exact h)
theorem mB{f:α->V}(hz:l.length<2^62)(h:Q (.nat l.length) Y):cU O Ex (.builtin "len") [.list (l.map f)] Q Y:=lq .frozen (by rw[au];exact hz) (by rw[au];exact h)
theorem On{α:Type}{a:aG}{f:α->V}{l:List α}{k:Nat}{v:α}{m:Mu}{Q:St->Prop}(i:Nat)(ok:O.Ok)(hi:Y.mu[i]? =ah (a,.list (l.map f)))(hk:k<l.length)(hz:k<2^62)(e:Y.mu.set i (a,.list ((l.set k v).map f))=m)(h:Q ⟨Y.vals,m⟩):
 wI O Ex (.ref a) (.nat k) (f v) Q Y:=qd i ok hi (by simp only[au];exact hk) hz ((f0)▸e) h
theorem uL(α:Type){a:aG}{f:α->V}{l:List α}{x:α}{m:Mu}{Q:V->St->Prop}(i:Nat)(hi:Y.mu[i]? =ah (a,.list (l.map f)))(hz:l.length<=2^20)(e:Y.mu.set i (a,.list ((l++[x]).map f))=m)(h:Q .none ⟨Y.vals,m⟩):Nw a Q (f x) Y:=
 ⟨i,_,m,hi,by rw[au];exact hz,by simp only[<-e,aK];rfl,h⟩
end
open Classical in
noncomputable def iC(P:Nat->Prop):Nat->Nat
 |0=>0
 |n+1=>iC P n|||(if P n then 2^n else 0)
theorem Ft{P:Nat->Prop}:iC P 0=(0):=rfl
open Classical in
theorem Fu{P:Nat->Prop}{n}:iC P (n+1)=(iC P n|||(if P n then 2^n else 0)):=rfl
open Classical in
theorem lh(P:Nat->Prop):∀n t,(iC P n).testBit t=aj↔t<n/\P t:=by
 intro n;induction n with
 |zero=>intro t;rw[Ft,e5];exact ⟨λ h=>(nomatch h),λ h=>absurd h.1 (c9 _)⟩
 |succ n d=>
  intro t;rw[Fu,e9,fg,d t];have f:(if P n then 2^n else 0).testBit t=aj↔t=n/\P n:=by
   split
   ·rename_i h;rw[jy,decide_eq_true_iff];exact ⟨λ e=>⟨e.symm,h⟩,λ e=>e.1.symm⟩
   ·rename_i h;rw[e5];exact ⟨λ e=>(nomatch e),λ e=>absurd e.2 h⟩
  rw[f];constructor
  ·rintro (⟨a,b⟩|⟨rfl,b⟩)
   ·exact ⟨cD a,b⟩
   ·exact ⟨ce _,b⟩
  ·intro c;obtain ⟨a,b⟩:=c;rcases cH.mp a with h|rfl
   ·exact .inl ⟨h,b⟩
   ·exact .inr ⟨rfl,b⟩
theorem zX{P:Nat->Prop}{n m:Nat}(h:∀t,m.testBit t=aj↔t<n/\P t):m=iC P n:=nC λ t=>by rw[fh,h,lh]
theorem oY(P:Nat->Prop)(n:Nat):iC P n<2^n:=kS _ λ t a=>by rw[ip];exact λ h=>absurd ((lh P n t).mp h).1 (bT.mpr ‹_›)
noncomputable def j5(N B:Nat->Prop)(l:List Nat):Prop:=∃a s b,l=a++s::b/\(∀x∈a,N x)/\B s
theorem j5.nil{N B:Nat->Prop}:¬j5 N B []:=λ c=>by refine mN c λ a s b e Z=>?_;exact by cases a<;>cases e
theorem j5.cons{N B:Nat->Prop}{x:Nat}{l:List Nat}:j5 N B (x::l)↔B x\/(N x/\j5 N B l):=by
 constructor
 ·intro d;refine kw d λ a s b e h k=>?_;cases a with
  |nil=>cases e;exact .inl k
  |cons y a=>cases e;exact .inr ⟨h _ (.head _),a,s,b,rfl,λ z hz=>h z (.tail _ hz),k⟩
 ·rintro (h|⟨h,a,s,b,e,q,k⟩)
  ·exact ⟨[],x,l,rfl,λ y c=>(nomatch c),h⟩
  ·exact ⟨x::a,s,b,by rw[e];rfl,λ y c=>by
    rcases aI.mp c with e|c
    ·simp only[e];exact h
    ·exact q y c,k⟩
theorem j5.mono{N B f d:Nat->Prop}{l:List Nat}(j:∀x∈l,N x->f x)(i:∀x∈l,B x->d x):j5 N B l->j5 f d l:=λ c=>by refine kw c λ a s b e h k=>?_;exact
 ⟨a,s,b,e,λ x g=>j x (by rw[e];exact aJ _ g) (h x g),i s (by rw[e];simp) k⟩
inductive x7(g:Gr)(t:Nat):Nat->Prop
 |term:t<g.tc->x7 g t t
 |rule {r s:Nat} {a b:List Nat}:r<g.rules.length->g.right r=a++s::b->(∀x∈a,Su g x)->x7 g t s->x7 g t (g.left r)
theorem x7.lt{t s:Nat}(h:x7 g t s):t<g.tc:=by
 induction h with
 |term h=>exact h
 |rule _ _ _ _ a=>exact a
noncomputable def DQ(g:Gr)(t:Nat)(l:List Nat):Prop:=j5 (Su g) (x7 g t) l
theorem pz(a:List Bool)(fs:List Nat)(t:Nat):∀(l:List Nat) (m:Nat),(eH a fs m l).1.testBit t=aj↔m.testBit t=aj\/j5 (λ s=>a.getD s ao=aj) (λ s=>(fs.getD s 0).testBit t=aj) l:=by
 intro l;induction l with
 |nil=>intro m;dsimp only[n9,l5];exact ⟨.inl,λ h=>h.elim id λ h=>absurd h j5.nil⟩
 |cons s l b=>
  intro m;simp only[l5,j5.cons];split
  ·rename_i h;simp only[b,e9,fg];exact ⟨λ q=>q.elim (λ q=>q.elim .inl λ q=>.inr (.inl q)) λ q=>.inr (.inr ⟨h,q⟩),λ q=>q.elim (λ q=>.inl (.inl q)) λ q=>q.elim (λ q=>.inl (.inr q)) λ q=>.inr q.2⟩
  ·rename_i h;rw[e9,fg];exact ⟨λ q=>q.elim .inl λ q=>.inr (.inl q),λ q=>q.elim .inl λ q=>q.elim .inr λ q=>absurd q.1 h⟩
theorem ut(a:List Bool)(fs:List Nat):∀(l:List Nat) (m:Nat),(eH a fs m l).2=aj↔∀s∈l,a.getD s ao=aj:=by
 intro l;induction l with
 |nil=>intro m;exact ⟨λ Z s d=>(nomatch d),λ Z=>rfl⟩
 |cons s l c=>
  intro m;dsimp only[n9,l5];split
  ·rename_i h;simp only[c];exact ⟨λ q x b=>by rcases aI.mp b with e|b;{rw[e];exact h};{exact q x b},λ q x b=>q x (.tail _ b)⟩
  ·rename_i h;exact ⟨λ q=>(nomatch q),λ q=>absurd (q s (.head _)) h⟩
open Classical in
theorem kG{s:Nat}(a:s<g.names.length):(ij g).getD s ao=aj↔Su g s:=by unfold ij;rw[e8 (by simpa using a),bY,jV,decide_eq_true_iff]
theorem vT(g:Gr):(ij g).length=g.names.length:=by simp[ij]
noncomputable def jB(g:Gr):List Nat:=(aZ g.names.length).map λ s=>iC (λ t=>x7 g t s) g.tc
theorem n_(g:Gr):(jB g).length=g.names.length:=by simp[jB]
theorem rJ{s t:Nat}(a:s<g.names.length):((jB g).getD s 0).testBit t=aj↔x7 g t s:=by unfold jB;rw[e8 (by simpa using a),bY,jV,lh];exact ⟨λ h=>h.2,λ h=>⟨h.lt,h⟩⟩
structure Fo(g:Gr)(fs:List Nat):Prop where
 len:fs.length=g.names.length
 base:∀s<g.tc,(fs.getD s 0).testBit s=aj
 sound:∀s<g.names.length,∀t,(fs.getD s 0).testBit t=aj->x7 g t s
theorem Fo.lt{fs:List Nat}(h:Fo g fs){s:Nat}(a:s<g.names.length):fs.getD s 0<2^g.tc:=kS _ λ t b=>by simp only[ip];exact λ q=>absurd (h.sound s a t q).lt (bT.mpr ‹_›)
noncomputable def IC(g:Gr)(fs:List Nat)(r:Nat):Nat:=(eH (ij g) fs 0 (g.right r)).1
theorem yO(c:de g){fs:List Nat}{r t:Nat}(b:r<g.rules.length):(IC g fs r).testBit t=aj↔j5 (Su g) (λ s=>(fs.getD s 0).testBit t=aj) (g.right r):=by
 unfold IC;rw[pz,e5];constructor
 ·rintro (h|h)
  ·cases h
  ·exact h.mono (λ x a q=>(kG (c.syms r b x a)).mp q) λ Z Z q=>q
 ·exact λ h=>.inr (h.mono (λ x a q=>(kG (c.syms r b x a)).mpr q) λ Z Z q=>q)
theorem Fo.put(j:de g){fs:List Nat}(h:Fo g fs){r:Nat}(f:r<g.rules.length):Fo g (fs.set (g.left r) (fs.getD (g.left r) 0|||IC g fs r)):=by
 refine za (j.left r f) λ l k=>?_;have d:g.left r<fs.length:=by simp only[h.len];exact l
 refine ⟨by (refine b0.trans ?_);exact h.len,λ s i=>?_,λ s i t c=>?_⟩
 ·rw[h_ d,if_neg (MD i k)];exact h.base s i
 ·rw[h_ d]at c;by_cases e:g.left r=s
  ·rw[if_pos e,e9,fg]at c;rcases c with c|c
   ·exact e▸h.sound _ l t c
   ·refine kw ((yO j f).mp c) λ a x b m n o=>?_;exact e▸.rule f m n (h.sound x (j.syms r f x (by rw[m];simp)) t o)
  ·rw[if_neg e]at c;exact h.sound s i t c
theorem Fo.done(f:de g){fs:List Nat}(h:Fo g fs)(m:∀r<g.rules.length,fs.getD (g.left r) 0|||IC g fs r=fs.getD (g.left r) 0):fs=jB g:=by
 apply dW;intro i;by_cases hi:i<g.names.length
 ·have e:fs[i]? =ah (fs.getD i 0):=by (refine (ay (by rw[h.len];exact hi)).trans ?_;rw[e8 (by rw[h.len];exact hi)])
  have c:(jB g)[i]? =ah ((jB g).getD i 0):=by (refine (ay (by rw[n_];exact hi)).trans ?_;rw[e8 (by rw[n_];exact hi)])
  refine e.trans ?_;rw[c];refine congrArg ah (nC λ t=>?_);rw[fh,rJ hi];refine ⟨h.sound i hi t,λ q=>?_⟩;clear e c;induction q with
  |term k=>exact h.base _ k
  |@rule r s a b d j c _ l=>rw[<-m r d,e9,fg];exact .inr ((yO f d).mpr ⟨a,s,b,j,c,(l (f.syms r d s (by rw[j];simp)))⟩)
 ·refine (bl (by rw[h.len];exact bT.mp ‹_›)).trans ?_;rw[bl (by rw[n_];exact bT.mp ‹_›)]
noncomputable def t_(tc:Nat)(fs:List Nat):Nat:=(fs.map λ m=>2^tc-m).sum
theorem Cv:∀{fs:List Nat} {i m:Nat},i<fs.length->fs.getD i 0<m->m<=2^tc->t_ tc (fs.set i m)<t_ tc fs:=by
 intro fs;induction fs with
 |nil=>exact λ h=>nomatch h
 |cons x fs b=>
  intro i m hi h a;cases i with
  |zero=>have h:x<m:=h;show 2^tc-m+(fs.map λ m=>2^tc-m).sum<2^tc-x+(fs.map λ m=>2^tc-m).sum;exact MC a h
  |succ i=>show 2^tc-x+t_ tc (fs.set i m)<2^tc-x+t_ tc fs;exact MB (b (by simpa using hi) h a)
theorem G7(h:a|||b≠a):a<a|||b:=j9 Nat.left_le_or (Ne.symm h)
section
variable{f:aG}
theorem m9{n:Nat}(c:O.A.handled=ai)(hz:n<1000000):i7 O O.A (.Tf 0 n) n .nat (λ Z=>True) Y:=by skip;exact ((Gi (O:=O) (Y:=Y) (A:=O.A) (a:=0) (b:=(n:Int)) c ⟨bs _,bs _,bs _,GY hz⟩)).as _ λ i hi=>by rw[jE]
theorem Hb(hi:i<=1000000)(h:Q (.nat (2^i)) Y):iF O Ex (dT .LShift) (VR O.P) (.int 1) (.nat i) Q Y:=
 M2 (bs _) (MA hi) (by decide) (by rw[ii];exact_mod_cast h)
structure Cmn(G:GC)(CG CR:aG):Prop where
 F:wM G CG CR
 len:fC G "len" (.builtin "len")
 list:fC G "list" (.type "list")
 range:fC G "range" (.type "range")
 tup:fC G "tuple" (.type "tuple")
 sorted:fC G "sorted" (.builtin "sorted")
 dict:fC G "dict" (.type "dict")
 RQ:Me G CG "symbol_count" "Grammar.symbol_count" (mem 9 1) ["self"] []
 RU:Me G CG "is_terminal" "Grammar.is_terminal" (mem 9 2) ["self","symbol"] []
 number:Me G CG "number" "Grammar.number" (mem 9 4) ["self","name"] []
 SY:Me G CG "rules_of" "Grammar.rules_of" (mem 9 5) ["self","symbol"] []
 item:Me G CG "item" "Grammar.item" (mem 9 6) ["self","rule","dot"] []
 RH:Me G CG "rule_of" "Grammar.rule_of" (mem 9 7) ["self","item"] []
 R8:Me G CG "dot_of" "Grammar.dot_of" (mem 9 8) ["self","item"] []
 after:Me G CG "after" "Grammar.after" (mem 9 9) ["self","item"] []
 spread:Fn G "spread" "spread" (top 15) ["grammar","known"] []
 Sn:Fn G "nullable" "nullable" (top 16) ["grammar"] []
 Sr:Fn G "first_of" "first_of" (top 17) ["symbols","nullables","firsts"] []
theorem qQ(C:Cmn G CG CR)(g:Gr)(a:de g):cF G (d+3) (.ref C.Sn.f) [g.v CG CR] J (λ v J'=>v=.list ((ij g).map .bool)/\J'=J):=by refine di C.Sn.y _ _ _ rfl λ O I=>?_;refine aB<|dF<|cg I 1 C.spread<|an<|nl I 0 rfl<|a1<|bx<|l1<|i3<|mc I C.RQ<|nl I 0 rfl ⟨g.Si CR,.frozen,by kernel_rfl,cz<|iA I (lQ (d:=d) C.F C.RQ.y C.len g a.toSmall) yB<|Cb I.ok .frozen (by have:=a.names;exact bc (aH ‹_› (by decide)))<|.F ?_⟩;have:=BL (d:=d+1) (J:=[]) C.F C.len C.list C.spread.y g a;rw[A0]at this;exact iA I this (aT _)<|i6 ⟨rfl,rfl⟩
theorem sy(C:Cmn G CG CR)(Yy:Fn G "first_masks" "first_masks" (top 18) ["grammar"] [])(g:Gr)(o:de g)(Yr:g.tc<=g.names.length):cF G (d+4) (.ref Yy.f) [g.v CG CR] J (λ v J'=>v=.list ((jB g).map .nat)/\J'=J):=by
 refine di Yy.y _ _ _ rfl λ O I=>?_;have hz:=o.names;let R:V:=g.v CG CR
 let T:V:=.list ((ij g).map .bool)
 refine aB<|sl I 1<|cg I 7 C.Sn<|a1<|nl I 0 rfl<|iA I (qQ (d:=d) C g o) (aT _)<|aB<|sl I 2<|eC I.ok<|cz ⟨bg _,λ af=>?_⟩;let L:List Nat×Option V->St:=λ a=>⟨[ah R,ah T,ah (.ref af),a.2,ai,ai,ai,ai,ai,ai],(af,.list (a.1.map .nat))::J⟩
 let z:Nat->Nat:=λ s=>if s<g.tc then 2^s else 0
 refine aB<|iL L (λ i a=>a.1=(aZ i).map z)<|cb I 8 C.range<|a1<|mc I C.RQ<|nl I 0 rfl ⟨g.Si CR,.frozen,by kernel_rfl,cz<|iA I (lQ (d:=d) C.F C.RQ.y C.len g o.toSmall) B4<|jv ⟨_,_,_,m9 I.ok.hand (aH ‹_› (by decide)),([],ai),rfl,rfl,λ Z Z Z Z=>trivial,λ i a hi u=>?_,λ a u=>?_⟩⟩
 ·have W:a.1.length<=2^20:=by rw[u];simp;exact Mz hi hz
  have m:a.1++[z i]=(aZ (i+1)).map z:=by rw[u,cW,aK];rfl
  refine Mine.al I 3<|aB<|xe I<|gj I<|nl I 2 rfl ⟨af,_,0,rfl,rfl,mh<|tv<|mc I C.RU<|nl I 0 rfl ⟨g.Si CR,.frozen,by kernel_rfl,a1<|nl I 3 rfl<|iA I (mT (d:=d) C.F C.RU.y g i) B4<|jp ?_⟩⟩;by_cases h:i<g.tc
  ·exact iD (decide_eq_true h)<|bx<|dN<|nl I 3 rfl<|Hb (My hi hz)<|uL Nat 0 rfl W rfl<|bm ⟨(a.1++[2^i],ah (.nat i)),rfl,by rw[<-m,show z i=2^i from if_pos h]⟩
  ·exact fX (decide_eq_false h)<|xn 0<|uL Nat 0 rfl W rfl<|bm ⟨(a.1++[0],ah (.nat i)),rfl,by rw[<-m,show z i=0 from if_neg h]⟩
 have S:Fo g a.1:=by
  have D:a.1.length=g.names.length:=by rw[u];simp
  have B:∀s<g.names.length,a.1.getD s 0=z s:=λ s m=>by rw[e8 (re m D)];simp[u]
  refine ⟨D,λ s m=>?_,λ s m t x=>?_⟩
  ·rw[B s (aH ‹_› ‹_›),show z s=2^s from if_pos m,jy,decide_eq_true_iff]
  ·rw[B s m]at x;by_cases h:s<g.tc
   ·rw[show z s=2^s from if_pos h,jy,decide_eq_true_iff]at x;exact x▸.term h
   ·rw[show z s=0 from if_neg h,e5]at x;cases x
 let A:List Nat×Bool×Option V×Option V->St:=λ b=>⟨[ah R,ah T,ah (.ref af),a.2,ah (.bool b.2.1),b.2.2.1,b.2.2.2,ai,ai,ai],(af,.list (b.1.map .nat))::J⟩
 let X:List Nat->Nat->Prop:=λ fs r=>fs.getD (g.left r) 0|||IC g fs r=fs.getD (g.left r) 0
 refine aB<|sl I 4<|i3<|aB<|tK A (λ n b=>n=t_ g.tc b.1+(if b.2.1=aj then 1 else 0)/\Fo g b.1/\(b.2.1=ao->∀r<g.rules.length,X b.1 r)) _ (a.1,aj,ai,ai) rfl ⟨rfl,S,λ h=>(nomatch h)⟩ λ n b y=>?_;clear u S;obtain ⟨fs,q,H,F⟩:=b;obtain ⟨rfl,U,hc⟩:=y;cases q with
 |false=>refine tv<|nl I 4 rfl<|jp<|fX rfl<|aB<|dF<|nl I 2 rfl ?_;exact C6 (J1:=[(af,.list (fs.map .nat))]) (.head _) ⟨by rw[show fs=jB g from U.done o (hc rfl)],rfl⟩
 |true=>
  refine tv<|nl I 4 rfl<|jp<|iD rfl ?_;refine aB<|sl I 4<|i3<|aB<|iL A (λ i b=>Fo g b.1/\t_ g.tc b.1<=t_ g.tc fs/\(b.2.1=aj->t_ g.tc b.1<t_ g.tc fs)/\(b.2.1=ao->b.1=fs/\∀r<i,X fs r))<|ga I C.F g (.list (g.Rx CR))<|nl I 0 rfl ⟨rfl,_,_,_,EF g I.ok.hand,(fs,ao,H,F),rfl,⟨U,aT _,λ h=>(nomatch h),λ Z=>⟨rfl,λ r h=>absurd h (c9 _)⟩⟩,λ Z Z Z Z=>trivial,λ i b hi y=>?_,λ b y=>?_⟩
  ·obtain ⟨c,q,H,F⟩:=b;obtain ⟨f,Q,N,P⟩:=y;have l:=o.left i hi;have M:∀s∈g.right i,s<(ij g).length/\s<c.length/\s<2^62:=λ s m=>by have:=o.syms i hi s m;rw[vT,f.len];exact ⟨this,this,gG this hz⟩
   have j:g.left i<c.length:=by rw[f.len];exact l.1
   have K:(c.getD (g.left i) 0|||IC g c i)<=2^g.tc:=by have:=(f.put o hi).lt l.1;rw[h_ j,if_pos rfl]at this;exact bc this
   refine Mine.al I 5<|aB<|sl I 6<|bx<|sb<|nl I 2 rfl<|rl I C.F g i<|nl I 5 rfl ⟨rfl,CO V.nat 0 0 rfl j (gG l.1 hz)<|sb<|cg I 9 C.Sr<|an<|rr I C.F g i<|nl I 5 rfl ⟨rfl,an<|nl I 1 rfl<|a1<|nl I 2 rfl ?_⟩⟩;refine sp I J (qU (d:=d) C.Sr.y (J:=[(af,.list (c.map .nat))]) (g.right i) (ij g) c (.led 0 rfl) M) B4 rfl λ v J' Y=>za Y λ p E=>?_;subst p;subst E;refine xn 0 ⟨⟨_,.tup⟩,pA (k:=0) rfl (by decide)<|Ck ?_⟩;refine aB<|e4<|tq<|nl I 6 rfl<|sb<|nl I 2 rfl<|rl I C.F g i<|nl I 5 rfl ⟨rfl,CO V.nat 0 0 rfl j (gG l.1 hz)<|Fl ⟨_,rfl,?_⟩⟩;by_cases h:(c.getD (g.left i) 0|||IC g c i)=c.getD (g.left i) 0
   ·refine fX (bne_eq_false_iff_eq.mpr h)<|bm<|bm ⟨(c,q,ah (g.rV CR i),ah (.nat _)),rfl,f,Q,N,λ e=>?_⟩;obtain ⟨p,E⟩:=P e;have p:c=fs:=p;subst p;exact ⟨rfl,λ r hr=>(cH.mp hr).elim (E r) λ e=>e▸h⟩
   ·have w:=Cv (tc:=g.tc) j (G7 h) K;refine iD (bne_iff_ne.mpr h)<|aB<|ss<|nl I 6 rfl<|nl I 2 rfl<|rl I C.F g i<|nl I 5 rfl ⟨rfl,On 0 I.ok rfl j (gG l.1 hz) rfl<|aB<|sl I 4<|i3<|bm<|bm ⟨(c.set (g.left i) _,aj,ah (g.rV CR i),ah (.nat _)),rfl,f.put o hi,bc (aH w Q),λ Z=>aH w Q,λ e=>(nomatch e)⟩⟩
  ·obtain ⟨c,q,H,F⟩:=b;have l:=y;refine bm ⟨_,?_,(c,q,H,F),rfl,rfl,l.1,λ e=>?_⟩
   ·cases q with
    |false=>rw[(l.2.2.2 rfl).1];exact ce _
    |true=>exact lI (l.2.2.1 rfl)
   ·obtain ⟨p,E⟩:=l.2.2.2 e;subst p;exact E
end
theorem cN(k v:Nat)(i:Nat):∀l:List (Nat×Nat),(gc k v l).lookup i=if i=k then ah v else l.lookup i:=by
 intro l;induction l with
 |nil=>
  simp only[rM,br];by_cases e:i=k
  ·subst e;rw[if_pos rfl,beq_self_eq_true]
  ·rw[if_neg e,beq_eq_false_iff_ne.mpr e]
 |cons p r a=>
  dsimp only[rM,wi];by_cases e:p.1=k
  ·rw[if_pos e];dsimp only[br];rw[br];by_cases h:i=k
   ·rw[if_pos h,h,e,beq_self_eq_true]
   ·rw[if_neg h,beq_eq_false_iff_ne.mpr (e▸h)]
  ·rw[if_neg e,br,br,(a)];by_cases h:i=p.1
   ·subst h;rw[if_neg e,if_neg e]
   ·rw[beq_eq_false_iff_ne.mpr h]
theorem c8{l:List (Nat×Nat)}{m:Nat}(h:l.lookup i=ah m):(i,m)∈l:=by refine hQ (bO.mp h) λ a b e Z=>?_;rw[e];exact ax _ (.head _)
theorem eO{l:List (Nat×Nat)}(nd:(l.map (·.1)).Nodup){i m:Nat}(h:(i,m)∈l):l.lookup i=ah m:=by refine Eu (dJ.mp h) λ j a e=>?_;have:=g2 nd a;rw[e8 a,e]at this;exact this
theorem eQ{l:List (Nat×Nat)}:(∃m,l.lookup i=ah m)↔i∈l.map (·.1):=by
 constructor
 ·rintro ⟨m,h⟩;exact aC.mpr ⟨_,c8 h,rfl⟩
 ·intro h;cases e:l.lookup i with
  |some m=>exact ⟨m,rfl⟩
  |none=>refine b5 (aC.mp h) λ p b a=>?_;subst a;have:=dK.mp e p b;rw[bne_self_eq_false]at this;exact nomatch this
noncomputable def Gr.rest(g:Gr)(j:Nat):List Nat:=(g.right (g.Ro j)).drop (g.Rt j+1)
noncomputable def Gr.calls(g:Gr)(j r:Nat):Prop:=r<g.rules.length/\g.after j=((g.left r:Nat):Int)
inductive lH(g:Gr)(k:List (Nat×Nat)):Nat->Prop
 |base {i:Nat}:i∈k.map (·.1)->lH g k i
 |step {j r:Nat}:lH g k j->g.calls j r->lH g k (g.off r)
inductive jC(g:Gr)(k:List (Nat×Nat))(t:Nat):Nat->Prop
 |base {i m:Nat}:(i,m)∈k->m.testBit t=aj->jC g k t i
 |first {j r:Nat}:lH g k j->g.calls j r->DQ g t (g.rest j)->jC g k t (g.off r)
 |pass {j r:Nat}:jC g k t j->g.calls j r->(∀x∈g.rest j,Su g x)->jC g k t (g.off r)
theorem jC.Ve{k:List (Nat×Nat)}{t:Nat}(h:jC g k t i):lH g k i:=by
 induction h with
 |base h _=>exact .base (aC.mpr ⟨_,h,rfl⟩)
 |first h c _=>exact .step h c
 |pass _ c _ a=>exact .step a c
structure gw(g:Gr)(k:List (Nat×Nat)):Prop where
 nd:(k.map (·.1)).Nodup
 it:∀p∈k,p.1<g.owners.length/\p.2<2^g.tc
theorem jC.lt{k:List (Nat×Nat)}(hk:gw g k){t i:Nat}(h:jC g k t i):t<g.tc:=by
 induction h with
 |base h b=>refine eg λ d=>?_;rw[x_ (aH (hk.it _ h).2 (nA (by decide:2>0) d))]at b;exact nomatch b
 |first _ _ h=>refine kw h λ a s b Z Z h=>?_;exact h.lt
 |pass _ _ _ c=>exact c
theorem xx(g:Gr){r:Nat}(e:r<g.rules.length):g.off r<g.owners.length:=by
 have c:∀(l:List Ru) (a b r:Nat),r<l.length->(h8 a l).getD r 0<a+(gU b l).length:=λ l=>by
  induction l with
  |nil=>intro a b r h;cases h
  |cons q l d=>
   intro a b r h;simp only[ja,aF,bR];cases r with
   |zero=>show a<_;exact Mx
   |succ r=>show (h8 (a+(q.right.length+1)) l).getD r 0<_;exact Mw (d (a+(q.right.length+1)) (b+1) r (by simpa using h))
 have:=c g.rules 0 0 r e;simp only[cQ]at this;exact this
theorem lH.lt{k:List (Nat×Nat)}(hk:gw g k){i:Nat}(h:lH g k i):i<g.owners.length:=by
 induction h with
 |base h=>refine b5 (aC.mp h) λ p b a=>?_;subst a;exact (hk.it p b).1
 |step _ c _=>exact xx g c.1
structure j4(g:Gr)(k es:List (Nat×Nat)):Prop where
 nd:(es.map (·.1)).Nodup
 keys:∀i,i∈es.map (·.1)↔lH g k i
 val:∀p∈es,p.2=iC (λ t=>jC g k t p.1) g.tc
noncomputable def uZ(g:Gr)(j m:Nat):Nat:=if (eH (ij g) (jB g) 0 (g.rest j)).2=aj then (eH (ij g) (jB g) 0 (g.rest j)).1|||m else (eH (ij g) (jB g) 0 (g.rest j)).1
theorem jr(c:de g){r:Nat}:∀s∈g.right r,s<g.names.length:=λ s a=>by
 by_cases b:r<g.rules.length
 ·exact c.syms r b s a
 ·unfold Gr.right at a;rw[aD,bl (by simpa using b)]at a;exact nomatch a
theorem uF(e:de g){j m t:Nat}:(uZ g j m).testBit t=aj↔DQ g t (g.rest j)\/((∀x∈g.rest j,Su g x)/\m.testBit t=aj):=by
 have b:∀x∈g.rest j,x<g.names.length:=λ x a=>jr e x (cC a);have d:(eH (ij g) (jB g) 0 (g.rest j)).1.testBit t=aj↔DQ g t (g.rest j):=by
  rw[pz,e5];constructor
  ·rintro (h|h)
   ·cases h
   ·exact h.mono (λ x a q=>(kG (b x a)).mp q) λ x a q=>(rJ (b x a)).mp q
  ·exact λ h=>.inr (h.mono (λ x a q=>(kG (b x a)).mpr q) λ x a q=>(rJ (b x a)).mpr q)
 have c:(eH (ij g) (jB g) 0 (g.rest j)).2=aj↔∀x∈g.rest j,Su g x:=by rw[ut];exact ⟨λ h x a=>(kG (b x a)).mp (h x a),λ h x a=>(kG (b x a)).mpr (h x a)⟩
 unfold uZ;split
 ·rename_i h;simp only[e9,fg,d];exact ⟨λ q=>q.elim .inl λ q=>.inr ⟨c.mp h,q⟩,λ q=>q.elim .inl λ q=>.inr q.2⟩
 ·rename_i h;refine d.trans ?_;exact ⟨.inl,λ q=>q.elim id λ q=>absurd (c.mpr q.1) h⟩
structure Cw(g:Gr)(k ms:List (Nat×Nat))(w:List Nat):Prop where
 nd:(ms.map (·.1)).Nodup
 Ve:∀i m,ms.lookup i=ah m->lH g k i
 VB:∀i m,ms.lookup i=ah m->∀t,m.testBit t=aj->jC g k t i
 base:∀i m,(i,m)∈k->∃m',ms.lookup i=ah m'/\∀t,m.testBit t=aj->m'.testBit t=aj
 wk:∀j∈w,∃m,ms.lookup j=ah m
noncomputable def told(g:Gr)(ms:List (Nat×Nat))(c r:Nat):Prop:=∃m',ms.lookup (g.off r)=ah m'/\∀t,c.testBit t=aj->m'.testBit t=aj
theorem Cw.put{g:Gr}{k ms:List (Nat×Nat)}{w:List Nat}(C:Cw g k ms w){b c m':Nat}(l:lH g k b)(p:∀t,m'.testBit t=aj->jC g k t b)(n:∀m,ms.lookup b=ah m->∀t,m.testBit t=aj->m'.testBit t=aj):
 Cw g k (gc b m' ms) (w++[b]):=by
 refine ⟨gk C.nd,λ i m h=>?_,λ i m h=>?_,λ i m h=>?_,λ j o=>?_⟩
 ·rw[cN]at h;by_cases e:i=b
  ·exact e▸l
  ·rw[if_neg e]at h;exact C.Ve i m h
 ·rw[cN]at h;by_cases e:i=b
  ·rw[if_pos e]at h;cases h;exact e▸p
  ·rw[if_neg e]at h;exact C.VB i m h
 ·refine b5 (C.base i m h) λ a f d=>?_;rw[cN];by_cases e:i=b
  ·rw[if_pos e];exact ⟨m',rfl,λ t q=>n a (e▸f) t (d t q)⟩
  ·rw[if_neg e];exact ⟨a,f,d⟩
 ·rw[cN];by_cases e:j=b
  ·rw[if_pos e];exact ⟨_,rfl⟩
  ·rw[if_neg e];rcases aM.mp o with h|h
   ·exact C.wk j h
   ·exact absurd (aE.mp h) e
theorem vj{r:Nat}(i:∀m,ms.lookup b=ah m->∀t,m.testBit t=aj->m'.testBit t=aj)(h:told g ms c r):told g (gc b m' ms) c r:=by
 refine b5 h λ a f d=>?_;unfold told;rw[cN];by_cases e:g.off r=b
 ·rw[if_pos e];exact ⟨m',rfl,λ t q=>i a (e▸f) t (d t q)⟩
 ·rw[if_neg e];exact ⟨a,f,d⟩
theorem Cw.done(u:de g){k ms:List (Nat×Nat)}(hk:gw g k)(C:Cw g k ms [])(n:∀j m,ms.lookup j=ah m->∀r,g.calls j r->told g ms (uZ g j m) r):j4 g k ms:=by
 have s:∀i,lH g k i->∃m,ms.lookup i=ah m:=λ i h=>by
  induction h with
  |base h=>refine b5 (aC.mp h) λ p e o=>?_;subst o;refine b5 (C.base p.1 p.2 e) λ m h Z=>?_;exact ⟨m,h⟩
  |step _ c q=>refine ze q λ m h=>?_;refine b5 (n _ m h _ c) λ m' h' Z=>?_;exact ⟨m',h'⟩
 have w:∀t i,jC g k t i->∃m,ms.lookup i=ah m/\m.testBit t=aj:=λ t i h=>by
  induction h with
  |base h b=>refine b5 (C.base _ _ h) λ m a d=>?_;exact ⟨m,a,d t b⟩
  |first hi c h=>refine ze (s _ hi) λ m a=>?_;refine b5 (n _ m a _ c) λ m' d l=>?_;exact ⟨m',d,l t ((uF u).mpr (.inl h))⟩
  |pass _ c h q=>refine b5 q λ m a b=>?_;refine b5 (n _ m a _ c) λ m' d l=>?_;exact ⟨m',d,l t ((uF u).mpr (.inr ⟨h,b⟩))⟩
 refine ⟨C.nd,λ i=>⟨λ h=>?_,λ h=>eQ.mp (s i h)⟩,λ p e=>zX λ t=>?_⟩
 ·refine ze (eQ.mpr h) λ m h=>?_;exact C.Ve i m h
 ·have f:=eO C.nd e;refine ⟨λ b=>⟨(C.VB _ _ f t b).lt hk,C.VB _ _ f t b⟩,λ v=>za v λ Z h=>?_⟩;refine b5 (w t _ h) λ m a d=>?_;simp only[f]at a;cases a;exact d
noncomputable def w5(ms:List (Nat×Nat))(i:Nat):Nat:=match ms.lookup i with|some m=>m+1|none=>0
noncomputable def room(n tc:Nat)(ms:List (Nat×Nat)):Nat:=((aZ n).map λ i=>2^tc+1-w5 ms i).sum
theorem H5{f f':Nat->Nat}:∀{n b:Nat},b<n->(∀i,f' i<=f i)->f' b<f b->((aZ n).map f').sum<((aZ n).map f).sum:=λ {n}=>by
 induction n with
 |zero=>intro b h;exact (Mv h).elim
 |succ n a=>
  intro b j d c;simp only[cW,aK,aK,jk,jk];have g:((aZ n).map f').sum<=((aZ n).map f).sum:=by
   clear a j c;induction n with
   |zero=>exact aT _
   |succ n a=>simp only[cW,aK,aK,jk,jk];have:=d n;simp;exact Mt a this
  by_cases e:b=n
  ·subst e;simp;exact Ms g c
  ·simp;exact Nat.add_lt_add_of_lt_of_le (a (b:=b) (yA j e) d c) (d n)
theorem BQ{n:Nat}(c:b<n)(h:w5 ms b<m'+1)(a:m'<2^tc):room n tc (gc b m' ms)<room n tc ms:=by
 refine H5 c (λ i=>?_) ?_
 ·unfold w5 at*;rw[cN];by_cases e:i=b
  ·subst e;rw[if_pos rfl];dsimp only;exact Mr h
  ·rw[if_neg e];exact aT _
 ·unfold w5 at*;rw[cN,if_pos rfl];dsimp only;exact Mq a h
noncomputable def ov(l:List (Option V))(n:Nat):Option V:=l.getD n ai
noncomputable def Nq(Jj:St->Prop)(Q:Option (Option V)->St->Prop)(f:Option (Option V))(Y:St):Prop:=match f with|none=>Jj Y|some f=>Q (ah f) Y
noncomputable def CL(O:FC)(Ex:Value->aQ->Prop)(t:Expr)(v:V)(Q:St->Prop)(Y:St):Prop:=XA O Ex (ec t O.env) v Q Y
section
variable{f:aG}
theorem w3{st:Stmt}{a:List Stmt}{Q:Option (Option V)->St->Prop}(Jj:St->Prop)(h:XF O Ex (gg st O.env) (Nq Jj Q) Y)(k:∀Y,Jj Y->XF O Ex (eL a O.env) Q Y):XF O Ex (eL (st::a) O.env) Q Y:=
 aB (X.mono h λ f Y q=>match f,q with
  |none,q=>k Y q
  |some _,q=>q)
theorem AD(I:f_ O G d T){b c:Expr}{k:Nat}{pos:gY}{v w:V}{Q:St->Prop}(h:XA O Ex (ec b O.env) v (CL O Ex c w Q) Y)
 (l:autoParam ((d3 [b,c] O.env).map (·.2)=[ec b O.env,ec c O.env]) rf) (j:autoParam ((d3 [b,c] O.env).length=2) rf) (a:autoParam ((d3 [b,c] O.env).findIdx? (·.1)=ai) rf):
 XA O Ex (ec (.Tuple [b,c] k pos) O.env) (.tup [v,w]) Q Y:=Hs I.ok l j a (jS (λ Kp Jj s u R g=>aY (h Kp Jj s u R g) (λ Z Z i=>by refine b5 i λ Y' R' q=>?_;exact ⟨Y',R',jS (λ Kp Jj s u R g=>aY (q Kp Jj s u R g) (λ Z Z f=>by refine b5 f λ Y' R' q=>?_;exact ⟨Y',R',x0 q⟩) λ Z Z e=>e)⟩) λ Z Z e=>e))
theorem Ob(I:f_ O G d T){c b f:Expr}{k:Nat}{pos:gY}{u v w:V}{Q:St->Prop}(h:XA O Ex (ec c O.env) u (CL O Ex b v (CL O Ex f w Q)) Y)
 (n:autoParam ((d3 [c,b,f] O.env).map (·.2)=[ec c O.env,ec b O.env,ec f O.env]) rf) (m:autoParam ((d3 [c,b,f] O.env).length=3) rf) (a:autoParam ((d3 [c,b,f] O.env).findIdx? (·.1)=ai) rf):
 XA O Ex (ec (.Tuple [c,b,f] k pos) O.env) (.tup [u,v,w]) Q Y:=Hs I.ok n m a (jS (λ Kp Jj s u R g=>aY (h Kp Jj s u R g) (λ Z Z j=>by refine b5 j λ Y' R' q=>?_;exact ⟨Y',R',jS (λ Kp Jj s u R g=>aY (q Kp Jj s u R g) (λ Z Z i=>by refine b5 i λ Y' R' q=>?_;exact ⟨Y',R',jS (λ Kp Jj s u R g=>aY (q Kp Jj s u R g) (λ Z Z l=>by refine b5 l λ Y' R' q=>?_;exact ⟨Y',R',x0 q⟩) λ Z Z e=>e)⟩) λ Z Z e=>e)⟩) λ Z Z e=>e))
theorem xT(I:f_ O G d T){k:Nat}{e:Expr}{Q:Option (Option V)->St->Prop}(h:XV O Ex (bw e O.env) (Nm O Ex (.Tuple elts k pos') Q) Y)(b:autoParam (eo e (ah (.Tuple elts k pos')) pos.line O.env=pure ao) rf)(a:autoParam (swappedStores [.Tuple elts k pos'] e O.env=pure ai) rf):XF O Ex (gg (.Assign [.Tuple elts k pos'] e pos) O.env) Q Y:=zm h b a
theorem JR{f:α->V}(a:1<=b)(c:b<=l.length)(hz:l.length<=2^20)(h:Q (.tup ((l.drop b).map f)) Y):l_ O Ex (.tup (l.map f)) (.int b) .none Q Y:=
 H8 a (by simp only[au];exact c) (by rw[au];exact hz) ((oy)▸h)
theorem Nz{a:aG}{l:List (Nat×Nat)}{m:Nat}(i:Nat){Q:V->St->Prop}(ok:O.Ok)(hi:Y.mu[i]? =ah (a,.dict (dV l)))(nd:(l.map (·.1)).Nodup)(b:l.lookup k=ah m)(h:Q (.nat m) Y):mU O Ex Q (.ref a) (.nat k) Y:=
 ⟨⟨_,.dict (.led i hi)⟩,jt ok (.led i hi) (ju k nd) (by simp only[rP,b];rfl) h⟩
theorem uq{l:List (Nat×Nat)}{m:Nat}(ok:O.Ok)(nd:(l.map (·.1)).Nodup)(a:l.lookup k=ah m)(h:Q (.nat m) Y):mU O Ex Q (.dict (dV l)) (.nat k) Y:=
 ⟨⟨_,.dict .frozen⟩,jt ok .frozen (ju k nd) (by simp only[rP,a];rfl) h⟩
noncomputable def CW(l:List (Nat×Nat))(k:Nat)(z:Int):V:=match l.lookup k with|some m=>.nat m|none=>.int z
theorem Ds{a:aG}{l:List (Nat×Nat)}{z:Int}(i:Nat){Q:V->St->Prop}(ok:O.Ok)(hi:Y.mu[i]? =ah (a,.dict (dV l)))(nd:(l.map (·.1)).Nodup)(h:Q (CW l k z) Y):cU O Ex (.builtin "dict.get") [.ref a,.nat k,.int z] Q Y:=
 yV ok (.led i hi) (ju k nd) (by rw[rP];unfold CW at h;cases e:l.lookup k<;>(rw[e]at h;exact h))
theorem xk{a:aG}{l:List (Nat×Nat)}{k v:Nat}{m:Mu}{Q:St->Prop}(i:Nat)(ok:O.Ok)(hi:Y.mu[i]? =ah (a,.dict (dV l)))(nd:(l.map (·.1)).Nodup)(hz:l.length<=2^20)(e:Y.mu.set i (a,.dict (dV (gc k v l)))=m)(h:Q ⟨Y.vals,m⟩):
 wI O Ex (.ref a) (.nat k) (.nat v) Q Y:=xj i ok hi (ju k nd) ((bA (show (dV l).length=l.length from au ..))▸hz) (by simp only[Di,e];exact h)
theorem IR{a:aG}{f:Nat->V}{w:List Nat}{j:Nat}{Q:V->St->Prop}(i:Nat)(ok:O.Ok)(hi:Y.mu[i]? =ah (a,.list ((w++[j]).map f)))(hz:w.length<2^20)(h:Q (f j) ⟨Y.vals,Y.mu.set i (a,.list (w.map f))⟩):
 cU O Ex (.builtin "list.pop") [.ref a] Q Y:=NI (v:=f j) i ok (by (refine hi.trans ?_;rw[aK]);rfl) (by rw[au];exact aH ‹_› (by decide)) h
end
theorem Dv{X r:Nat}:r∈g.by X↔r<g.rules.length/\g.left r=X:=by unfold Gr.by Gr.left;simp only[b4,bP,beq_iff_eq]
theorem E5(n tc:Nat)(ms:List (Nat×Nat)):room n tc ms<=n*(2^tc+1):=by
 unfold room;induction n with
 |zero=>exact cu (Nat.zero_mul _).symm
 |succ n a=>simp only[cW,aK,jk,ya];exact gB a (aA (cu (jD _)) (pc _ _))
theorem Cw.keys{k:List (Nat×Nat)}{w:List Nat}(hk:gw g k)(C:Cw g k ms w):ms.length<=g.owners.length:=by
 have:=aU C.nd (l₂:=aZ g.owners.length) λ x a=>by refine ze (eQ.mpr a) λ m h=>?_;exact bP.mpr ((C.Ve _ _ h).lt hk)
 simpa using this
structure Ct(g:Gr)(k:List (Nat×Nat))(j mj n:Nat)(rs:List Nat)(ms:List (Nat×Nat))(w:List Nat):Prop extends Cw g k ms w where
 fit:2*room g.owners.length g.tc ms+w.length<=n
 Xs:∀i m,ms.lookup i=ah m->i∉w->i≠j->∀r,g.calls i r->told g ms (uZ g i m) r
 own:j∉w->ms.lookup j=ah mj
 Xe:∀r∈rs,told g ms (uZ g j mj) r
theorem Ct.put(z:de g){k ms:List (Nat×Nat)}(hk:gw g k){j n r:Nat}{w:List Nat}(C:Ct g k j mj n rs ms w)(x:lH g k j)(B:∀t,mj.testBit t=aj->jC g k t j)(p:g.calls j r){m':Nat}(u:∀t,m'.testBit t=aj↔(∃m,ms.lookup (g.off r)=ah m/\m.testBit t=aj)\/(uZ g j mj).testBit t=aj)(y:w5 ms (g.off r)<m'+1):Ct g k j mj n (rs++[r]) (gc (g.off r) m' ms) (w++[g.off r]):=by
 have v:∀t,(uZ g j mj).testBit t=aj->jC g k t (g.off r):=λ t o=>by
  rcases (uF z).mp o with h|⟨h,b⟩
  ·exact .first x p h
  ·exact .pass (B t b) p h
 have l:∀t,m'.testBit t=aj->jC g k t (g.off r):=λ t o=>by
  rcases (u t).mp o with ⟨m,a,b⟩|h
  ·exact C.VB _ _ a t b
  ·exact v t h
 have d:∀m,ms.lookup (g.off r)=ah m->∀t,m.testBit t=aj->m'.testBit t=aj:=λ m a t b=>(u t).mpr (.inl ⟨m,a,b⟩);have s:m'<2^g.tc:=kS _ λ t o=>by simp only[ip];exact λ q=>absurd ((l t q).lt hk) (bT.mpr ‹_›)
 have f:=BQ (xx g p.1) y s;refine ⟨(C.toCw.put (lH.step x p) l d (c:=0)),?_,λ i m a b e q c=>?_,λ h=>?_,λ q A=>?_⟩
 ·have:=C.fit;simp only[aF,cM];exact Mp this f
 ·have hi:i≠g.off r:=λ e=>b (ax _ (by rw[e];exact .head _));rw[cN,if_neg hi]at a;exact vj d (C.Xs i m a (λ h=>b (aJ _ h)) e q c)
 ·have hi:j≠g.off r:=λ e=>h (ax _ ((e)▸.head _));rw[cN,if_neg hi];exact C.own λ q=>h (aJ _ q)
 ·rcases aM.mp A with h|h
  ·exact vj d (C.Xe q h)
  ·simp only[aE.mp h];exact ⟨m',by rw[cN,if_pos rfl],λ t b=>(u t).mpr (.inr b)⟩
theorem Ct.skip{k:List (Nat×Nat)}{n r m:Nat}{w:List Nat}(C:Ct g k j mj n rs ms w)(c:ms.lookup (g.off r)=ah m)(h:m|||uZ g j mj=m):Ct g k j mj n (rs++[r]) ms w:=
 ⟨C.toCw,C.fit,C.Xs,C.own,λ q a=>(aM.mp a).elim (C.Xe q) λ h'=>by simp only[aE.mp h'];exact ⟨m,c,λ t b=>by rw[<-h,e9,b,Bool.or_true]⟩⟩
section
variable{f:aG}
theorem FL(g:Gr){x:Str}(h:(["names","terminal_count","rules","levels","expect","start","by_left","offsets","owners","item_count"]:List Str).contains x=ao):(g.Si CR).lookup x=ai:=by
 simp only[dK];intro p a;have:p.1∈(["names","terminal_count","rules","levels","expect","start","by_left","offsets","owners","item_count"]:List Str):=by exact bq a
 rw[bne_iff_ne];rintro rfl;rw[<-ye]at this;rw[this]at h;exact nomatch h
theorem gm(I:f_ O G d T){x q:Str}{st:Stmt}{pn:List Str}{RI:List V}(M:Me G CG x q st pn RI)(g:Gr){o:Expr}{a pos:gY}{args:List Expr}{Q:V->St->Prop}
 (h:XV O Ex (bw o O.env) (PS O Ex CG M.f x args pos Q) Y)
 (f:autoParam (Js o x args a pos O.env) rf)
 (b:autoParam (DO pos args O.env) rf)
 (e:autoParam (Hv pos args O.env) rf) (c:autoParam ((a.endLine==pos.line)=aj) rf):
 XV O Ex (bw (.Call (.Attribute o x a) args [] pos) O.env) Q Y:=mc I M h f b e c
theorem og{f:aG}(h:XL O Ex (c7 (cO pos (bk args O.env))) (um O Ex (.ref f) (g.v C CR) Q) Y)(a:autoParam ((["names","terminal_count","rules","levels","expect","start","by_left","offsets","owners","item_count"]:List Str).contains x=ao) rk):PS O Ex C f x args pos Q (g.v C CR) Y:=⟨g.Si CR,.frozen,FL g a,h⟩
theorem zD(C:Cmn G CG CR)(Yy:Fn G "closure_one" "closure_one" (top 22) ["grammar","kernel","nullables","firsts"] [])(g:Gr)(u:de g)(k:List (Nat×Nat))(hk:gw g k):
 cF G (d+2) (.ref Yy.f) [g.v CG CR,e_ k,.list ((ij g).map .bool),.list ((jB g).map .nat)] J (λ v J'=>(∃es,v=.dict (dV es)/\j4 g k es)/\J'=J):=by
 refine di Yy.y _ _ _ rfl λ O I=>?_;have hz:=u.own;have U:k.length<=g.owners.length:=by
  have:=aU hk.nd (l₂:=aZ g.owners.length) λ x hx=>by refine b5 (aC.mp hx) λ p hp TC=>?_;subst TC;exact bP.mpr (hk.it p hp).1
  simpa using this
 let gv:V:=g.v CG CR
 let nv:V:=.list ((ij g).map .bool)
 let fv:V:=.list ((jB g).map .nat)
 have ek:e_ k=.tup ((dV k).map λ p=>V.tup [p.1,p.2]):=by unfold e_ dV;rw[bu];rfl
 refine aB<|sl I 4<|cb I 14 C.dict<|a1<|nl I 1 rfl ?_;rw[ek];refine wq I.ok (by rw[show (dV k).length=k.length from au ..];exact Mo U hz) (pE k) (fS hk.nd) λ L=>?_;rw[<-ek];refine aB<|sl I 5<|cb I 15 C.list<|a1<|nl I 4 rfl<|FX I.ok (.led 0 rfl) (by rw[show (dV k).length=k.length from au ..];exact Mn U hz) (pE k) (fS hk.nd)<|.M λ H=>?_;rw[lm];let R:List (Nat×Nat)×List Nat×List (Option V)->St:=λ a=>⟨[ah gv,ah (e_ k),ah nv,ah fv,ah (.ref L),ah (.ref H),ov a.2.2 0,ov a.2.2 1,ov a.2.2 2,ov a.2.2 3,ov a.2.2 4,ov a.2.2 5,ov a.2.2 6,ov a.2.2 7,ai,ai,ai],(H,.list (a.2.1.map .nat))::(L,.dict (dV a.1))::J⟩
 let Q:Nat->List (Nat×Nat)×List Nat×List (Option V)->Prop:=λ n a=>n=2*room g.owners.length g.tc a.1+a.2.1.length/\n<=200000/\Cw g k a.1 a.2.1/\∀j m,a.1.lookup j=ah m->j∉a.2.1->∀r,g.calls j r->told g a.1 (uZ g j m) r
 have h0:Q (2*room g.owners.length g.tc k+(k.map (·.1)).length) (k,k.map (·.1),[]):=by refine ⟨rfl,?_,⟨hk.nd,λ i m h=>.base (aC.mpr ⟨_,c8 h,rfl⟩),λ i m h t b=>.base (c8 h) b,λ i m h=>⟨m,eO hk.nd h,λ Z b=>b⟩,λ j K=>eQ.mpr K⟩,λ j m h K=>absurd (aC.mpr ⟨_,c8 h,rfl⟩) K⟩;have h2:(2:Nat)^g.tc<=2^10:=nA (by decide) u.VO;rw[au];exact Mm (E5 g.owners.length g.tc k) U (Nat.mul_le_mul (cp ‹_›) (dh ‹_›)) hz
 refine aB<|tK R Q _ (k,k.map (·.1),[]) rfl h0 λ n a T=>?_;clear h0;obtain ⟨ms,w,o⟩:=a;refine w2 T λ SH hn W cl=>?_;subst SH;have hn:2*room g.owners.length g.tc ms+w.length<=200000:=hn;have XD:w.length<=200000:=aA (bK _ _) hn;refine tv<|nl I 5 rfl<|HX (.led 0 rfl) (by rw[au];exact aR XD (by decide)) ?_;rcases List.eq_nil_or_concat w with rfl|⟨E,j,rfl⟩
 ·refine fX rfl<|aB<|dF<|nl I 4 rfl ?_;exact ⟨[(H,.list []),(L,.dict (dV ms))],J,J,.dict (dV ms),rfl,λ Z h=>h,dI.refl _ _,.dict (.tail _ (.head _)) (s_ _ _),⟨ms,rfl,W.done u hk λ j m h=>cl j m h ea⟩,rfl⟩
 rw[List.concat_eq_append]at*;rw[aF,cM]at hn XD;refine ze (W.wk j (ax _ (.head _))) λ mj F=>?_;have N:=W.Ve j mj F;have K:=N.lt hk;refine jA (g.item_at K) λ hR hO hD=>?_;have Z_:=g.S5 u.toSmall (g.Ro j);have W':Cw g k ms E:=⟨W.nd,W.Ve,W.VB,W.base,λ i hi=>W.wk i (aJ _ hi)⟩;have D:(∀r,¬g.calls j r)->∀o',Ju (2*room g.owners.length g.tc ms+(E++[j]).length) R Q (R (ms,E,o')):=λ ZJ o'=>by
  refine ⟨2*room g.owners.length g.tc ms+E.length,by rw[aF];exact ce _,(ms,E,o'),rfl,rfl,aA (b3 _ 1) hn,W',λ i m hi B r q=>?_⟩;by_cases e:i=j
  ·exact absurd (e▸q) (ZJ r)
  ·exact cl i m hi (λ h=>(aM.mp h).elim B λ h=>e (aE.mp h)) r q
 refine iD (by cases E<;>rfl)<|aB<|sl I 6<|mb I PySem.F.plainAttrs_list PySem.F.slot_list_pop PySem.F.type_list_pop<|nl I 5 rfl ⟨.list (.led 0 rfl),cz<|IR 0 I.ok rfl (aR (iG XD) (by decide)) ?_⟩;refine aB<|sl I 7<|gm I C.after g<|nl I 0 rfl<|og<|a1<|nl I 6 rfl<|iA I (tV (d:=d) C.F C.after.y C.len g j u.toSmall K) kD ?_;refine aB<|e4<|na<|tq<|nl I 7 rfl<|dN<|t4 ⟨_,rfl,?_⟩;by_cases T:g.after j<0
 ·exact iD (decide_eq_true T)<|iD rfl<|aB<|Bm<|D (λ r q=>by have:=q.2;exact (Ml T this).elim) [ah (.nat j),ah (.int (g.after j)),ov o 2,ov o 3,ov o 4,ov o 5,ov o 6,ov o 7]
 refine fX (decide_eq_false T) ?_;have hd:g.Rt j<(g.right (g.Ro j)).length:=eg λ h=>T (by unfold Gr.after;rw[if_neg (bT.mpr h)];decide);refine ze (show ∃X:Nat,g.after j=(X:Int)from ⟨(g.after j).toNat,Mk T⟩) λ X M=>?_;have Z7:X<g.names.length:=by unfold Gr.after at M;rw[if_pos hd]at M;exact GX M (jr u _ (bd hd 0))
 rw[M];refine na<|tv<|gm I C.RU g<|nl I 0 rfl<|og<|a1<|nl I 7 rfl<|iA I (mT (d:=d) C.F C.RU.y g X) kD<|jp ?_;by_cases S:X<g.tc
 ·exact iD (decide_eq_true S)<|iD rfl<|aB<|Bm<|D (λ r q=>by have h1:=q.2;have h2:=(u.left r q.1).2;exact (Mj S h2 M h1).elim) [ah (.nat j),ah (.nat X),ov o 2,ov o 3,ov o 4,ov o 5,ov o 6,ov o 7]
 refine fX (decide_eq_false S)<|jq<|fX rfl<|bm ?_;clear D;refine aB<|sl I 8<|rr I C.F g (g.Ro j)<|sb<|ga I C.F g (.list (g.Rx CR))<|nl I 0 rfl ⟨rfl,gm I C.RH g<|nl I 0 rfl<|og<|a1<|nl I 6 rfl<|iA I (kz (d:=d) C.F C.RH.y g j u.toSmall K) kD<|CN g hR u.toSmall ⟨rfl,?_⟩⟩;have Zv:∀s∈g.rest j,s<(ij g).length/\s<(jB g).length/\s<2^62:=λ s hs=>by have:=jr u s (cC hs);rw[vT,n_];exact ⟨this,this,gG this u.names⟩
 refine aB<|xT I<|cg I 16 C.Sr<|an<|me<|nl I 8 rfl<|oV<|bx<|gm I C.R8 g<|nl I 0 rfl<|og<|a1<|nl I 6 rfl<|iA I (nS (d:=d) C.F C.R8.y g j u.toSmall K) kD<|xn 1<|fQ<|oW ⟨⟨_,.tup⟩,JR (bK 1 _) hd (bc (bD Z_ (by decide))) ?_⟩;refine an<|nl I 2 rfl<|a1<|nl I 3 rfl<|iA I (qU (d:=d) C.Sr.y (J:=[]) (g.rest j) (ij g) (jB g) .frozen Zv) kD<|AD I<|Mine.al I 9<|Mine.al I 10 ?_;refine w3 (λ Y=>Y=⟨[ah gv,ah (e_ k),ah nv,ah fv,ah (.ref L),ah (.ref H),ah (.nat j),ah (.nat X),ah (.tup ((g.right (g.Ro j)).map .nat)),ah (.nat (uZ g j mj)),ah (.bool (eH (ij g) (jB g) 0 (g.rest j)).2),ov o 5,ov o 6,ov o 7,ai,ai,ai],(H,.list (E.map .nat))::(L,.dict (dV ms))::J⟩) (e4<|tv<|nl I 10 rfl<|jp ?_) ?_
 ·cases l:(eH (ij g) (jB g) 0 (g.rest j)).2 with
  |true=>exact iD rfl<|aB<|sl I 9<|bx<|nl I 9 rfl<|sb<|nl I 4 rfl<|nl I 6 rfl<|Nz 1 I.ok rfl W.nd F<|Ck<|bm (by unfold uZ;rw[if_pos l];rfl)
  |false=>exact fX rfl<|bm (by unfold uZ;rw[if_neg (by rw[l];decide)];rfl)
 rintro Y rfl;let n':=2*room g.owners.length g.tc ms+E.length
 let TF:List (Nat×Nat)×List Nat×List (Option V)->St:=λ b=>⟨[ah gv,ah (e_ k),ah nv,ah fv,ah (.ref L),ah (.ref H),ah (.nat j),ah (.nat X),ah (.tup ((g.right (g.Ro j)).map .nat)),ah (.nat (uZ g j mj)),ah (.bool (eH (ij g) (jB g) 0 (g.rest j)).2),ov b.2.2 0,ov b.2.2 1,ov b.2.2 2,ai,ai,ai],(H,.list (b.2.1.map .nat))::(L,.dict (dV b.1))::J⟩
 let Ul:Nat->List (Nat×Nat)×List Nat×List (Option V)->Prop:=λ i b=>Ct g k j mj n' ((g.by X).take i) b.1 b.2.1
 refine aB<|iL TF Ul<|gm I C.SY g<|nl I 0 rfl<|og<|a1<|nl I 7 rfl<|iA I (xc (d:=d) C.F C.SY.y C.list g X u.toSmall Z7) kD ⟨_,_,_,lF V.nat (g.by X) 0 I.ok.hand,(ms,E,[ov o 5,ov o 6,ov o 7]),rfl,(show Ct g k j mj n' [] ms E from ⟨W',aT _,λ i m hi B e r q=>cl i m hi (λ h=>(aM.mp h).elim B λ h=>e (aE.mp h)) r q,λ Z=>F,λ r hr=>(nomatch hr)⟩),λ Z Z Z Z=>trivial,λ i b hi l=>?_,λ b l=>?_⟩
 ·obtain ⟨c,f,Va⟩:=b;have l:Ct g k j mj n' ((g.by X).take i) c f:=l;have ht:(g.by X).take (i+1)=(g.by X).take i++[(g.by X).getD i 0]:=by rw[aS hi,e8 hi]
  refine za (Dv.mp (bd hi 0)) λ hr Yz=>?_;generalize (g.by X).getD i 0=r at ht hr Yz ⊢;have q:g.calls j r:=⟨hr,by rw[M,Yz]⟩;have UG:=l.fit;have A:f.length<=2^20:=aA (aA (bK _ _) UG) (aA (aA (b3 n' 1) hn) (by decide));have y:c.length<=2^20:=aA (l.keys hk) (aA (bc hz) (by decide));have YM:=W.VB j mj F;refine Mine.al I 11<|aB<|sl I 12<|gm I C.item g<|nl I 0 rfl<|og<|an<|nl I 11 rfl<|a1<|xn 0<|iA I (qS (d:=d) C.F C.item.y g r 0 hr u.toSmall) kD ?_;refine aB<|sl I 13<|mb I PySem.F.plainAttrs_dict PySem.F.slot_dict_get PySem.F.type_dict_get<|nl I 4 rfl ⟨.dict (.led 1 rfl),an<|nl I 12 rfl<|a1<|iu<|dN<|kF<|Ds (k:=g.off r) (z:= -1) 1 I.ok rfl l.nd ?_⟩;unfold CW;cases hl:c.lookup (g.off r)with
  |none=>have P:=l.put u hk N YM q (m':=uZ g j mj) (λ t=>⟨.inr,λ h=>h.elim (λ Y4=>by refine b5 Y4 λ m a Z=>?_;exact by rw[hl]at a;cases a) id⟩) (by unfold w5;rw[hl];exact cr _);rw[<-ht]at P;exact aB<|e4<|tq<|nl I 13 rfl<|dN<|t4 ⟨_,rfl,iD rfl<|aB<|ss<|nl I 9 rfl<|nl I 4 rfl<|nl I 12 rfl<|xk (k:=g.off r) 1 I.ok rfl l.nd y rfl<|aB<|xe I<|gj I<|nl I 5 rfl ⟨H,_,0,rfl,rfl,nl I 12 rfl<|uL Nat (x:=g.off r) 0 rfl A rfl<|bm<|bm ⟨(gc (g.off r) (uZ g j mj) c,f++[g.off r],[_,_,_]),rfl,P⟩⟩⟩
  |some m=>
   refine aB<|e4<|tq<|nl I 13 rfl<|dN<|t4 ⟨_,rfl,fX (decide_eq_false (by show ¬((m:Nat):Int)<0;exact yz))<|aB<|e4<|tq<|bx<|nl I 13 rfl<|nl I 9 rfl<|Ck<|nl I 13 rfl<|Fl ⟨_,rfl,?_⟩⟩;by_cases he:(m|||uZ g j mj)=m
   ·have P:=l.skip hl he;rw[<-ht]at P;exact fX (bne_eq_false_iff_eq.mpr he)<|bm<|bm<|bm ⟨(c,f,[_,_,_]),rfl,P⟩
   ·have P:=l.put u hk N YM q (m':=m|||uZ g j mj) (λ t=>by rw[e9,fg];exact ⟨λ h=>h.imp (λ h=>⟨m,hl,h⟩) id,λ h=>h.imp (λ Y3=>by refine b5 Y3 λ m' a b=>?_;exact by rw[hl]at a;cases a;exact b) id⟩) (by unfold w5;rw[hl];exact lI (G7 he))
    rw[<-ht]at P;exact iD (bne_iff_ne.mpr he)<|aB<|ss<|bx<|nl I 13 rfl<|nl I 9 rfl<|Ck<|nl I 4 rfl<|nl I 12 rfl<|xk (k:=g.off r) 1 I.ok rfl l.nd y rfl<|aB<|xe I<|gj I<|nl I 5 rfl ⟨H,_,0,rfl,rfl,nl I 12 rfl<|uL Nat (x:=g.off r) 0 rfl A rfl<|bm<|bm<|bm ⟨(gc (g.off r) (m|||uZ g j mj) c,f++[g.off r],[_,_,_]),rfl,P⟩⟩
 ·obtain ⟨c,f,Va⟩:=b;have l:Ct g k j mj n' ((g.by X).take (g.by X).length) c f:=l;rw[a0]at l;refine bm ⟨2*room g.owners.length g.tc c+f.length,aR l.fit (by rw[aF];exact ce _),(c,f,[_,_,_,_,_,_,_,_]),rfl,rfl,aA l.fit (aA (b3 _ 1) hn),l.toCw,λ i m hi B r q=>?_⟩;by_cases e:i=j
  ·subst e;have:=l.own B;rw[show c.lookup i=ah m from hi]at this;cases this;exact l.Xe r (Dv.mpr ⟨q.1,by have:=q.2;exact Mi this M⟩)
  ·exact l.Xs i m hi B e r q
end
noncomputable def je{α:Type}(f:α->V)(L:List (aG×List α)):Mu:=L.map λ p=>(p.1,.list (p.2.map f))
noncomputable def gt{α:Type}(L:List (aG×List α))(j:Nat):aG×List α:=L.getD (L.length-1-j) (0,[])
section
variable{f:α->V}{L:List (aG×List α)}
theorem lW(a:j<L.length)(post:Mu):(je f L++post)[L.length-1-j]? =ah ((gt L j).1,.list ((gt L j).2.map f)):=by have h:L.length-1-j<L.length:=bJ ‹_›;dsimp only[je,gt];refine (c3 (by rw[au];exact h)).trans ?_;refine (aN).trans ?_;rw[ay h,e8 h];rfl
theorem v6(b:j<L.length)(post:Mu)(a:aG)(xs:List α):(je f L++post).set (L.length-1-j) (a,.list (xs.map f))=je f (L.set (L.length-1-j) (a,xs))++post:=by unfold je;refine (zb _ _ (by rw[au];exact (bJ ‹_›))).trans ?_;rw[f0]
theorem li(p:aG×MO)(post:Mu):(je f L++p::post)[L.length]? =ah p:=by unfold je;refine (bH (by rw[au];exact aT _)).trans ?_;rw[au,eU];rfl
theorem v7(p q:aG×MO)(post:Mu):(je f L++p::post).set L.length q=je f L++q::post:=by unfold je;refine (d6 _ _ (by rw[au];exact aT _)).trans ?_;rw[au,eU];rfl
theorem qm(x:aG×List α)(a:j<L.length):gt (x::L) j=gt L j:=by unfold gt;simp only[bj,show L.length+1-1-j=(L.length-1-j)+1 from GW a];rfl
theorem ur(x:aG×List α):gt (x::L) L.length=x:=by unfold gt;simp only[bj,j_,eU];rfl
theorem CQ(a:j<L.length){i:Nat}(hi:i<L.length)(x:aG×List α):gt (L.set (L.length-1-j) x) i=if j=i then x else gt L i:=by
 unfold gt;rw[b0,h_ (bJ ‹_›)];by_cases e:j=i
 ·rw[if_pos e,if_pos (by exact congrArg _ e)]
 ·rw[if_neg e,if_neg (GV a hi e)]
end
theorem Cp(F:Nat->V)(X:Nat):∀P:List (Nat×Nat),eE (P.map λ p=>(V.nat p.1,F p.2)) (.nat X)=(P.lookup X).map F:=by
 intro P;induction P with
 |nil=>exact rfl
 |cons c l d=>
  obtain ⟨a,b⟩:=c;dsimp only[eE]at*;simp only[be,cX,br,k7];by_cases e:X=a
  ·subst e;simp
  ·simp only[show ((a:Int)==(X:Int))=ao by simp;exact B3 e,beq_eq_false_iff_ne.mpr e];exact (d)
theorem t9(F:Nat->V)(P:List (Nat×Nat)):(P.map λ p=>(V.nat p.1,F p.2)).map (·.1)=(P.map (·.1)).map V.nat:=by simp only[bu,bu];rfl
theorem Hd(F:Nat->V)(P:List (Nat×Nat)):∀p∈(P.map λ p=>(V.nat p.1,F p.2)),kk p.1=1:=λ p b=>by refine b5 (aC.mp b) λ q Z a=>?_;subst a;rfl
theorem nh{l:List Nat}(h:l.Nodup):(l.map V.nat).Nodup:=by rw[aO,bU];exact (aO.mp h).imp λ h e=>h (yH.mp e)
theorem Co(F:Nat->V){P:List (Nat×Nat)}(X:Nat)(nd:(P.map (·.1)).Nodup):f9 (.nat X) (P.map λ p=>(V.nat p.1,F p.2)):=
 ⟨by (dsimp only[uj]);decide,λ p a=>Hd F P p a,by simp only[t9];exact nh nd⟩
theorem jK{l:List Nat}(h:l.Pairwise (·<·)):dA (l.map V.nat):=.map h λ h=>Ky.as (CJ (cY.mpr h))
theorem k9{l:List (Nat×Nat)}(h:l.Pairwise λ a b=>a.1<b.1):dA (l.map du):=.map h λ h=>Ky.as (CJ (cY.mpr h))
theorem qb(l:List Nat):∀x∈l.map V.nat,Sh 0 x:=λ x b=>by refine b5 (aC.mp b) λ n Z a=>?_;subst a;exact .int _
theorem qP(l:List (Nat×Nat)):∀x∈l.map du,Sh 2 x:=λ x b=>by refine b5 (aC.mp b) λ n Z a=>?_;subst a;exact .pair _ _
noncomputable def c0(g:Gr)(es:List (Nat×Nat))(X:Nat):List (Nat×Nat):=(es.filter λ p=>g.after p.1==((X:Nat):Int)).map λ p=>(p.1+1,p.2)
noncomputable def wH(g:Gr)(es:List (Nat×Nat))(X:Nat):List (Nat×Nat):=(aZ g.owners.length).filterMap λ i=>if g.after i=((X:Nat):Int)then (es.lookup i).map λ m=>(i+1,m)else ai
noncomputable def pU(g:Gr)(es:List (Nat×Nat)):List Nat:=(aZ g.names.length).filter λ X=>!(c0 g es X).isEmpty
noncomputable def Sl(g:Gr)(es:List (Nat×Nat)):List (Nat×List (Nat×Nat)):=(pU g es).map λ X=>(X,wH g es X)
noncomputable def Oa(p:Nat×List (Nat×Nat)):V:=.tup [.nat p.1,e_ p.2]
theorem lR(g:Gr)(es:List (Nat×Nat))(p:Nat×Nat)(X:Nat):c0 g (es++[p]) X=if g.after p.1=((X:Nat):Int)then c0 g es X++[(p.1+1,p.2)]else c0 g es X:=by
 unfold c0;simp only[oC,aK];by_cases h:g.after p.1=((X:Nat):Int)
 ·rw[if_pos h,lC (by rw[beq_iff_eq];exact h)];rfl
 ·rw[if_neg h,lD (by rw[beq_iff_eq];exact h)];simp
theorem qr{es:List (Nat×Nat)}{X:Nat}(nd:(es.map (·.1)).Nodup)(j:∀p∈es,p.1<g.owners.length){q:Nat×Nat}:q∈wH g es X↔q∈c0 g es X:=by
 unfold wH c0;simp only[eb,aC];constructor
 ·intro e;refine b5 e λ i hi h=>?_;split at h
  ·rename_i ha;refine b5 (bM.mp h) λ m b a=>?_;exact ⟨(i,m),b4.mpr ⟨c8 b,by simp only[beq_iff_eq];exact ha⟩,a⟩
  ·exact nomatch h
 ·intro d;refine b5 d λ p f c=>?_;subst c;refine za (b4.mp f) λ b a=>?_;simp only[beq_iff_eq]at a;exact ⟨p.1,bP.mpr (j p b),by (refine (if_pos a).trans ?_;rw[eO nd (show (p.1,p.2)∈es from b)]);rfl⟩
theorem ou(g:Gr)(es:List (Nat×Nat))(X:Nat):(wH g es X).Pairwise λ a b=>a.1<b.1:=by
 skip;refine pN _ (λ a b f p c q e=>?_) lM;split at c<;>split at e
 ·refine b5 (bM.mp c) λ m Z d=>?_;subst d;refine b5 (bM.mp e) λ n Z h=>?_;subst h;exact lI f
 ·exact nomatch e
 ·cases c
 ·cases c
theorem tW{es:List (Nat×Nat)}{X:Nat}(nd:(es.map (·.1)).Nodup):(c0 g es X).Nodup:=by unfold c0;simp only[aO,bU];refine List.Pairwise.filter _ ?_;simp only[aO,bU]at nd;exact nd.imp λ h e=>h (by have:=congrArg jT e;simpa using this)
theorem wG{es:List (Nat×Nat)}{X:Nat}(nd:(es.map (·.1)).Nodup)(a:∀p∈es,p.1<g.owners.length):(c0 g es X).Perm (wH g es X):=
 (dU (tW nd) ((ou g es X).imp λ h e=>by rw[e]at h;exact bB _ h)).mpr λ Z=>(qr nd a).symm
theorem x3{es:List (Nat×Nat)}{X:Nat}(nd:(es.map (·.1)).Nodup)(b:∀p∈es,p.1<g.owners.length)(a:ys.Perm ((c0 g es X).map du))(c:dA ys):ys=(wH g es X).map du:=
 dA.uniq (k:=2) (a.trans ((wG nd b).map _)) (λ x d=>qP _ x (a.mem_iff.mp d)) c (k9 (ou g es X))
theorem DI(a:de g){i X:Nat}(h:g.after i=((X:Nat):Int)):X<g.names.length:=by
 unfold Gr.after at h;by_cases hd:g.Rt i<(g.right (g.Ro i)).length
 ·rw[if_pos hd]at h;exact GX h (jr a _ (bd hd 0))
 ·rw[if_neg hd]at h;exact (GU h).elim
theorem uN(b:de g){es:List (Nat×Nat)}{X:Nat}:X∈pU g es↔c0 g es X≠[]:=by
 unfold pU;simp only[b4,bP,pO,List.isEmpty_eq_false_iff];refine ⟨λ h=>h.2,λ h=>⟨?_,h⟩⟩;cases e:c0 g es X with
 |nil=>exact absurd e h
 |cons q l=>refine b5 (aC.mp (show q∈c0 g es X by rw[e];exact .head _)) λ p a Z=>?_;have:=(b4.mp a).2;rw[beq_iff_eq]at this;exact DI b this
theorem mE(g:Gr)(es:List (Nat×Nat)):(pU g es).Pairwise (·<·):=lM.filter _
theorem x2(c:de g){es:List (Nat×Nat)}{l:List Nat}(nd:l.Nodup)(hk:∀X,X∈l↔c0 g es X≠[])(a:ys.Perm (l.map V.nat))(b:dA ys):ys=(pU g es).map V.nat:=by exact dA.uniq (k:=0) (a.trans (((dU nd ((mE g es).imp cm)).mpr λ X=>(hk X).trans (uN c).symm).map _)) (λ x d=>qb _ x (a.mem_iff.mp d)) b (jK (mE g es))
structure Ad(g:Gr)(es:List (Nat×Nat))(i:Nat)(L:List (aG×List (Nat×Nat)))(P:List (Nat×Nat))(kvs:List (V×V)):Prop where
 kv:kvs=P.map λ p=>(V.nat p.1,V.ref (gt L p.2).1)
 ix:∀p∈P,p.2<L.length
 nk:(P.map (·.1)).Nodup
 ni:(P.map (·.2)).Nodup
 row:∀p∈P,(gt L p.2).2=c0 g (es.take i) p.1
 key:∀X,X∈P.map (·.1)↔c0 g (es.take i) X≠[]
 len:L.length<=i
theorem Ad.skip{es:List (Nat×Nat)}{L:List (aG×List (Nat×Nat))}{P:List (Nat×Nat)}(A:Ad g es i L P kvs)(hi:i<es.length){p:Nat×Nat}(a:es.getD i (0,0)=p)(h:g.after p.1<0):Ad g es (i+1) L P kvs:=by
 subst a;have e:∀X:Nat,c0 g (es.take (i+1)) X=c0 g (es.take i) X:=λ X=>by rw[aS hi,lR,<-e8 hi (0,0),if_neg (Mh h)]
 exact ⟨A.kv,A.ix,A.nk,A.ni,λ p a=>by simp only[e];exact A.row p a,λ X=>by rw[e];exact A.key X,c1 A.len⟩
theorem Ad.old{g:Gr}{es:List (Nat×Nat)}{i:Nat}{L:List (aG×List (Nat×Nat))}{P:List (Nat×Nat)}{kvs:List (V×V)}(A:Ad g es i L P kvs)(hi:i<es.length){p:Nat×Nat}(b:es.getD i (0,0)=p){X j:Nat}(h:g.after p.1=((X:Nat):Int))(m:P.lookup X=ah j)(a:aG):
 Ad g es (i+1) (((a,[])::L).set (((a,[])::L).length-1-j) ((gt L j).1,(gt L j).2++[(p.1+1,p.2)])) P kvs:=by
 subst b;have c:=c8 m;have o:=A.ix _ c;have e:∀Yy:Nat,c0 g (es.take (i+1)) Yy=if X=Yy then c0 g (es.take i) Yy++[((es.getD i (0,0)).1+1,(es.getD i (0,0)).2)]else c0 g (es.take i) Yy:=λ Yy=>by
  simp only[aS hi,lR,<-e8 hi (0,0),h];by_cases q:X=Yy
  ·rw[if_pos q,if_pos (by exact congrArg _ q)]
  ·rw[if_neg q,if_neg (Ik q)]
 have k:∀p∈P,gt (((a,[])::L).set (((a,[])::L).length-1-j) ((gt L j).1,(gt L j).2++[((es.getD i (0,0)).1+1,(es.getD i (0,0)).2)])) p.2=if j=p.2 then ((gt L j).1,(gt L j).2++[((es.getD i (0,0)).1+1,(es.getD i (0,0)).2)])else gt L p.2:=λ p b=>by have:=A.ix p b;rw[CQ (by exact cD ‹_›) (by exact cD ‹_›),qm _ this]
 have inj:∀p∈P,(j=p.2↔X=p.1):=λ p b=>by
  constructor
  ·intro e;refine Eu (dJ.mp c) λ u f l=>?_;refine Eu (dJ.mp b) λ v n d=>?_;have:u=v:=by exact (fk (by simpa using f) A.ni).mp (by simp only[aN,aN,ay f,ay n,l,d];exact congrArg ah e)
   subst this;rw[l]at d;simp only[<-d]
  ·intro e;have:=eO A.nk (show (p.1,p.2)∈P from b);rw[<-e,m]at this;cases this;rfl
 refine ⟨?_,λ p b=>?_,A.nk,A.ni,λ p b=>?_,λ Yy=>?_,?_⟩
 ·refine A.kv.trans ?_;refine bF λ p b=>?_;rw[k p b];split
  ·rename_i e;rw[<-e]
  ·rfl
 ·rw[b0];exact cD (A.ix p b)
 ·simp only[k p b,e];by_cases q:j=p.2
  ·rw[if_pos q,if_pos ((inj p b).mp q),q];show (gt L p.2).2++_=_;rw[A.row p b]
  ·rw[if_neg q,if_neg λ h=>q ((inj p b).mpr h)];exact A.row p b
 ·rw[e];by_cases q:X=Yy
  ·rw[if_pos q,<-q];exact ⟨λ Z h=>by simp at h,λ Z=>aC.mpr ⟨_,c,rfl⟩⟩
  ·rw[if_neg q];exact A.key Yy
 ·rw[b0];exact ee A.len
theorem Ad.new{g:Gr}{es:List (Nat×Nat)}{i:Nat}{L:List (aG×List (Nat×Nat))}{P:List (Nat×Nat)}{kvs:List (V×V)}(A:Ad g es i L P kvs)(hi:i<es.length){p:Nat×Nat}(b:es.getD i (0,0)=p){X:Nat}(h:g.after p.1=((X:Nat):Int))(o:P.lookup X=ai)(a:aG):
 Ad g es (i+1) ((a,[(p.1+1,p.2)])::L) (P++[(X,L.length)]) (kvs++[(.nat X,.ref a)]):=by
 subst b;have j:X∉P.map (·.1):=λ h=>by refine ze (eQ.mpr h) λ m h=>?_;rw[o]at h;cases h
 have d:c0 g (es.take i) X=[]:=by
  cases q:c0 g (es.take i) X with
  |nil=>rfl
  |cons x l=>exact absurd ((A.key X).mpr (by rw[q];simp)) j
 have e:∀Yy:Nat,c0 g (es.take (i+1)) Yy=if X=Yy then [((es.getD i (0,0)).1+1,(es.getD i (0,0)).2)]else c0 g (es.take i) Yy:=λ Yy=>by
  simp only[aS hi,lR,<-e8 hi (0,0),h];by_cases q:X=Yy
  ·rw[if_pos q,if_pos (by exact congrArg _ q),<-q,d];rfl
  ·rw[if_neg q,if_neg (Ik q)]
 have n:∀p∈P,gt ((a,[((es.getD i (0,0)).1+1,(es.getD i (0,0)).2)])::L) p.2=gt L p.2:=λ p b=>qm _ (A.ix p b);refine ⟨?_,λ p b=>?_,?_,?_,λ p b=>?_,λ Yy=>?_,ee A.len⟩
 ·simp only[A.kv,aK];refine congr (congrArg _ (bF λ p b=>by rw[n p b])) ?_;dsimp only[fZ];rw[ur]
 ·skip;rcases aM.mp b with h|h
  ·exact cD (A.ix p h)
  ·rw[aE.mp h];exact ce _
 ·simp only[aK,aV];exact ⟨A.nk,by simp,λ x k y c e=>j (by rw[fZ,aE]at c;simp only[show X=x from (e.trans c).symm];exact k)⟩
 ·simp only[aK,aV];refine ⟨A.ni,by simp,λ x k y c e=>?_⟩;rw[fZ,aE]at c;refine b5 (aC.mp k) λ p b r=>?_;exact absurd (A.ix p b) (by rw[r,e,c];exact bB _)
 ·rcases aM.mp b with h|h
  ·have f:X≠p.1:=λ e=>j (by simp only[e];exact bq h);rw[n p h,e,if_neg f];exact A.row p h
  ·rw[aE.mp h,ur,e,if_pos rfl]
 ·simp only[e,aK,aM];by_cases q:X=Yy
  ·rw[if_pos q];exact ⟨λ Z h=>(nomatch h),λ Z=>.inr (q▸.head _)⟩
  ·rw[if_neg q,<-A.key Yy];exact ⟨λ h=>h.elim id λ h=>absurd (by simpa using h) (Ne.symm q),.inl⟩
section
variable{f:aG}
theorem oi(I:f_ O G d T){a:List (Option V)}{l:List (Str×NameKind)}{R:List (Option V)}(h:autoParam (∀n,oh ((T n).map (·.1)) a l=R) rf):oh (O.ns.map (·.1)) a l=R:=by refine ze I.ns λ n e=>?_;rw[e];exact h n
theorem Bo{es:List (Nat×Nat)}(a:O.A.handled=ai)(nd:(es.map (·.1)).Nodup):i7 O O.A (.dict (dV es)) es.length (λ i=>.nat (es.getD i (0,0)).1) (λ Z=>True) Y:=by have:=Bn (O:=O) (Y:=Y) (A:=O.A) a (pE es) (fS nd);rw[show (dV es).length=es.length from au ..]at this;refine this.as _ λ i hi=>?_;rw[lm,fR (d:=0) (by simpa using hi),e8 (by simpa using hi),bY,e8 hi]
theorem NH{a:aG}{X:Nat}{F:Nat->V}{P:List (Nat×Nat)}(i:Nat){Q:V->St->Prop}(ok:O.Ok)(hi:Y.mu[i]? =ah (a,.dict kvs))(b:kvs=P.map λ p=>(V.nat p.1,F p.2))(nd:(P.map (·.1)).Nodup)(hz:P.length<=2^20)(d:∀j,P.lookup X=ah j->Q (F j) Y)(c:P.lookup X=ai->Q nL ⟨Y.vals,Y.mu.set i (a,.dict (kvs++[(.nat X,nL)]))⟩):cU O Ex (.builtin "dict.setdefault") [.ref a,.nat X,nL] Q Y:=by
 refine uH i ok hi (by simp only[b];exact Co F X nd) (by rw[b,au];exact hz) ?_;have:=Cp F X P;rw[<-b]at this;rw[this];cases e:P.lookup X with
 |some j=>exact d j e
 |none=>exact c e
theorem xm(C:Cmn G CG CR)(Yy:Fn G "advanced" "advanced" (top 23) ["grammar","items"] [])(g:Gr)(w:de g)(es:List (Nat×Nat))(nd:(es.map (·.1)).Nodup)(T:∀p∈es,p.1<g.owners.length):
 cF G (d+2) (.ref Yy.f) [g.v CG CR,.dict (dV es)] J (λ v J'=>v=.list ((Sl g es).map Oa)/\J'=J):=by
 refine l7 Yy.y _ _ _ rfl λ O I Oo=>?_;have hz:=w.own;have u:es.length<=g.owners.length:=by
  have:=aU nd (l₂:=aZ g.owners.length) λ x Q=>by refine b5 (aC.mp Q) λ p b TL=>?_;subst TL;exact bP.mpr (T p b)
  simpa using this
 refine aB<|DZ I Oo 2<|hV I.ok λ af=>?_;let st:List (aG×List (Nat×Nat))×List (Nat×Nat)×List (V×V)×List (Option V)->St:=λ a=>⟨[ah (g.v CG CR),ah (.dict (dV es)),ah (.ref af),ov a.2.2.2 0,ov a.2.2.2 1,ov a.2.2.2 2,ai],je du a.1++(af,.dict a.2.2.1)::J⟩
 let In:Nat->List (aG×List (Nat×Nat))×List (Nat×Nat)×List (V×V)×List (Option V)->Prop:=λ i a=>Ad g es i a.1 a.2.1 a.2.2.1
 refine aB<|iL st In<|nl I 1 rfl ⟨_,_,_,Bo I.ok.hand nd,([],[],[],[]),rfl,⟨rfl,λ p b=>(nomatch b),bL,bL,λ p b=>(nomatch b),λ X=>⟨λ h=>(nomatch h),λ h=>absurd rfl h⟩,aT _⟩,λ Z Z Z Z=>trivial,λ i a hi ha=>?_,λ a ha=>?_⟩
 ·obtain ⟨L,P,kvs,o⟩:=a;have A:Ad g es i L P kvs:=ha;have n:=T _ (bd hi (0,0));have H:=g2 nd hi;refine ze (show ∃p,es.getD i (0,0)=p from ⟨_,rfl⟩) λ p b=>?_;rw[b]at n H ⊢;refine jA (g.item_at n) λ hR hO hD=>?_;have Y:L.length<=i:=A.len;refine Mine.al I 3<|aB<|sl I 4<|gm I C.after g<|nl I 0 rfl<|og<|a1<|nl I 3 rfl<|iA I (tV (d:=d) C.F C.after.y C.len g p.1 w.toSmall n) kD ?_;refine aB<|e4<|tq<|nl I 4 rfl<|dN<|Ir ⟨_,rfl,?_⟩;by_cases S:0<=g.after p.1
  ·refine ze (show ∃X:Nat,g.after p.1=(X:Int)from ⟨(g.after p.1).toNat,Mg S⟩) λ X K=>?_;have B:P.length<=2^20:=by
    have:=aU A.ni (l₂:=aZ L.length) λ x Q=>by refine b5 (aC.mp Q) λ q hq Us=>?_;subst Us;exact bP.mpr (A.ix q hq)
    rw[au,bf]at this;exact aA this (aA Y (GT hi u hz))
   have l:∀j,P.lookup X=ah j->(gt L j).2.length<=2^20:=λ j t=>by rw[A.row _ (c8 t)];unfold c0;rw[au];exact aA (db (λ p=>g.after p.1==((X:Nat):Int)) (es.take i)) (aA (List.length_take_le' ..) (aA u (bc (aH ‹_› (by decide)))))
   have R:g.off (g.Ro p.1)+(g.Rt p.1+1)=p.1+1:=by unfold Gr.Rt;exact GS hO
   refine iD (decide_eq_true S)<|aB<|sl I 5<|gm I C.item g<|nl I 0 rfl<|og<|an<|gm I C.RH g<|nl I 0 rfl<|og<|a1<|nl I 3 rfl<|iA I (kz (d:=d) C.F C.RH.y g p.1 w.toSmall n) kD<|a1<|bx<|gm I C.R8 g<|nl I 0 rfl<|og<|a1<|nl I 3 rfl<|iA I (nS (d:=d) C.F C.R8.y g p.1 w.toSmall n) kD<|xn 1<|fQ<|iA I (qS (d:=d) C.F C.item.y g (g.Ro p.1) (g.Rt p.1+1) hR w.toSmall) kD ?_;rw[K,R];refine aB<|xe I<|gj I<|mb I PySem.F.plainAttrs_dict PySem.F.slot_dict_setdefault PySem.F.type_dict_setdefault<|nc I 2 rfl ⟨.dict (.led L.length (li _ _)),an<|nl I 4 rfl<|a1<|eC I.ok<|cz ⟨bg _,λ a=>?_⟩⟩;refine NH (F:=λ j=>.ref (gt L j).1) (L.length+1) I.ok (li (f:=du) (L:=(a,[])::L) (af,.dict kvs) J) A.kv A.nk B (λ j t=>?_) λ t=>?_
   ·have r:=A.ix _ (c8 t);have c:=lW (f:=du) (L:=(a,[])::L) (j:=j) (cD r) ((af,.dict kvs)::J);rw[qm _ r]at c;exact ⟨_,_,_,rfl,c,t2<|nl I 5 rfl<|sb<|nl I 1 rfl<|nl I 3 rfl<|uq I.ok nd H<|uL (Nat×Nat) (f:=du) (x:=(p.1+1,p.2)) _ c (l j t) (v6 (f:=du) (L:=(a,[])::L) (j:=j) (cD r) ((af,.dict kvs)::J) (gt L j).1 ((gt L j).2++[(p.1+1,p.2)]))<|bm<|bm ⟨(_,P,kvs,[_,_,_]),rfl,A.old hi b K t a⟩⟩
   ·have XI:=v7 (f:=du) (L:=L) (af,MO.dict kvs) (af,MO.dict (kvs++[(.nat X,.ref a)])) J;exact ⟨a,[],0,rfl,rfl,t2<|nl I 5 rfl<|sb<|nl I 1 rfl<|nl I 3 rfl<|uq I.ok nd H ⟨0,[],(a,.list [du (p.1+1,p.2)])::(je du L++(af,.dict (kvs++[(V.nat X,V.ref a)]))::J),rfl,bg _,congrArg ((a,MO.list [du (p.1+1,p.2)])::·) XI,bm<|bm ⟨((a,[(p.1+1,p.2)])::L,P++[(X,L.length)],_,[_,_,_]),rfl,A.new hi b K t a⟩⟩⟩
  ·exact fX (decide_eq_false S)<|bm<|bm ⟨(L,P,kvs,[_,_,_]),rfl,A.skip hi b (Mf S)⟩
 ·obtain ⟨L,P,kvs,o⟩:=a;have A:Ad g es es.length L P kvs:=ha;have l:=A.row;have s:=A.key;rw[a0]at l s;have B:P.length<=es.length:=by
   have:=aU A.ni (l₂:=aZ L.length) λ x Q=>by refine b5 (aC.mp Q) λ q hq Ur=>?_;subst Ur;exact bP.mpr (A.ix q hq)
   rw[au,bf]at this;exact aA this A.len
  have N:∀p∈kvs,kk p.1=1:=by rw[A.kv];exact Hd (λ j=>.ref (gt L j).1) P
  have M:(kvs.map (·.1)).Nodup:=by rw[A.kv,t9 (λ j=>.ref (gt L j).1)];exact nh A.nk
  refine aB<|dF<|lc I<|cb I 6 C.sorted<|a1<|nc I 2 rfl<|kL I.ok (.led L.length (li _ _)) (by rw[A.kv,au];exact Md B u hz) N M λ ys b U=>?_;rw[A.kv,t9 (λ j=>.ref (gt L j).1)]at b;have E:=x2 w A.nk s b U;subst E;clear b U;have Zx:(pU g es).length<=2^20:=by have:=db (λ X=>!(c0 g es X).isEmpty) (aZ g.names.length);rw[bf]at this;exact aA this (aA (bc w.VA) (by decide))
  refine .F ⟨_,_,_,lF V.nat (pU g es) 0 I.ok.hand,Zx,(λ i e acc m=>∃o,e=[ai,o,ai,ai,ah (.ref af)]/\acc=((pU g es).take i).map (λ X=>Oa (X,wH g es X))/\m=je du L++(af,.dict kvs)::J),⟨_,oi I,rfl,rfl⟩,?_,?_,?_⟩
  ·intro i e acc m hi Uv;obtain ⟨o,rfl,rfl,rfl⟩:=Uv;exact ⟨by rw[au,bb];exact ra,λ Z=>trivial⟩
  ·intro O' C' i e acc m D hi Uu;obtain ⟨o,rfl,rfl,rfl⟩:=Uu;have y:=C'.S7 I;have K:=(uN w).mp (bd hi 0);rw[(show (pU g es).take (i+1)=(pU g es).take i++[(pU g es).getD i 0] by rw[aS hi,e8 hi])];generalize (pU g es).getD i 0=X at K ⊢;refine ze (eQ.mpr ((s X).mpr K)) λ j t=>?_;have r:j<L.length:=A.ix _ (c8 t);have hr:(gt L j).2=c0 g es X:=l _ (c8 t);have c:=lW (f:=du) r ((af,MO.dict kvs)::J);have hv:eE kvs (.nat X)=ah (.ref (gt L j).1):=by rw[A.kv,Cp (λ j=>.ref (gt L j).1),t];rfl
   have z:(gt L j).2.length<64:=by rw[hr];unfold c0;rw[au];exact aR (db (λ p=>g.after p.1==((X:Nat):Int)) es) (Ij u hz)
   refine Mine.al y 1<|gy<|t2<|nl y 1 rfl<|cb y 2 C.tup<|a1<|cb y 3 C.sorted<|a1<|sb<|nc y 4 rfl<|nl y 1 rfl ⟨⟨_,.dict (.led (L.length+1) (li _ _))⟩,jt y.ok (.led (L.length+1) (li _ _)) ⟨by rw[uj];decide,λ p b=>(N p b).trans (uj X).symm,M⟩ hv<|kK (k:=2) y.ok (.led (L.length-1-j+1) c) (by rw[au];exact z) (qP _) λ ys b U=>?_⟩;rw[hr]at b;have E:=x3 nd T b U;subst E;have W:(wH g es X).length<=2^20:=by rw[<-(wG nd T).length_eq,<-hr];exact bc (bD z (by decide))
   refine .F<|rS .frozen (by rw[au];exact W) ⟨[],rfl,_,rfl,?_,rfl⟩;rw[aK];rfl
  ·intro e acc m Ut;obtain ⟨o,rfl,rfl,rfl⟩:=Ut;rw[a0];refine .F ⟨je du L++[(af,.dict kvs)],J,J,_,?_,λ Z h=>h,dI.refl _ _,.refl _,?_,rfl⟩
   ·rw[bW];rfl
   ·unfold Sl;rw[bu];rfl
end
noncomputable abbrev e7:=List (Nat×Nat)
variable{ks:List (e7×Int)}
theorem Ff:∀(l:List Ru) (a b r d:Nat),r<l.length->d<=((l.map (·.right)).getD r []).length->a<=(h8 a l).getD r 0/\(gU b l)[(h8 a l).getD r 0+d-a]? =ah (b+r):=by
 intro l;induction l with
 |nil=>exact λ Z Z Z Z h=>nomatch h
 |cons q l e=>
  intro a b r d f h;cases r with
  |zero=>have h:d<=q.right.length:=h;refine ⟨aT _,?_⟩;show (bv (q.right.length+1) b++gU (b+1) l)[a+d-a]? =_;rw[cE,c3 (by simp only[bR];exact dh ‹_›),lB,if_pos (dh ‹_›)];rfl
  |succ r=>have c:=e (a+(q.right.length+1)) (b+1) r d (by simpa using f) h;rw[(show (h8 a (q::l)).getD (r+1) 0=(h8 (a+(q.right.length+1)) l).getD r 0 from rfl)];refine ⟨Mc c.1,?_⟩;dsimp only[rg,ja];rw[bH (by rw[bR];exact Mb c.1),bR,show (h8 (a+(q.right.length+1)) l).getD r 0+d-a-(q.right.length+1)=(h8 (a+(q.right.length+1)) l).getD r 0+d-(a+(q.right.length+1))from Ma,c.2];exact congrArg ah (cT _ _ _)
theorem Gr.at(g:Gr){r d:Nat}(a:r<g.rules.length)(hd:d<=(g.right r).length):g.off r+d<g.owners.length/\g.Ro (g.off r+d)=r/\g.Rt (g.off r+d)=d:=by
 refine za (Ff g.rules 0 0 r d a hd) λ Z h=>?_;rw[cQ]at h;have e:g.Ro (g.off r+d)=r:=by unfold Gr.Ro;exact congrArg (·.getD 0) h
 exact ⟨(bh.mp h).1,e,by unfold Gr.Rt;rw[e,cE]⟩
theorem yG(g:Gr){i:Nat}(hi:i<g.owners.length)(hd:g.Rt i<(g.right (g.Ro i)).length):i+1<g.owners.length/\g.Ro (i+1)=g.Ro i/\g.Rt (i+1)=g.Rt i+1:=by
 have a:=g.item_at hi;have e:g.off (g.Ro i)+(g.Rt i+1)=i+1:=by exact GS a.2.1
 have:=g.at a.1 (d:=g.Rt i+1) hd;rw[e]at this;exact this
open Classical in
noncomputable def iT(g:Gr)(k:e7):List (Nat×Nat):=(aZ g.owners.length).filterMap λ i=>if lH g k i then ah (i,iC (λ t=>jC g k t i) g.tc)else ai
noncomputable def fu(g:Gr)(k:e7):List (Nat×e7):=Sl g (iT g k)
theorem g3{k:e7}(hk:gw g k):j4 g k (iT g k):=by
 have e:∀p:Nat×Nat,p∈iT g k↔lH g k p.1/\p.2=iC (λ t=>jC g k t p.1) g.tc:=λ p=>by
  unfold iT;refine eb.trans ?_;constructor
  ·rintro ⟨i,hi,h⟩;split at h
   ·rename_i hI;cases h;exact ⟨hI,rfl⟩
   ·cases h
  ·rintro ⟨l,m⟩;exact ⟨p.1,bP.mpr (l.lt hk),by (refine (if_pos l).trans ?_;rw[<-m])⟩
 refine ⟨?_,λ i=>⟨λ h=>?_,λ h=>?_⟩,λ p c=>((e p).mp c).2⟩
 ·unfold iT;simp only[aO,bU];refine pN _ (λ a b j p c q f=>?_) lM;split at c
  ·split at f
   ·cases c;cases f;exact cm j
   ·exact nomatch f
  ·exact nomatch c
 ·refine b5 (aC.mp h) λ p c d=>?_;subst d;exact ((e p).mp c).1
 ·exact aC.mpr ⟨(i,iC (λ t=>jC g k t i) g.tc),(e _).mpr ⟨h,rfl⟩,rfl⟩
theorem j4.mem{k:e7}{es:List (Nat×Nat)}(C:j4 g k es)(p:Nat×Nat):p∈es↔lH g k p.1/\p.2=iC (λ t=>jC g k t p.1) g.tc:=by refine ⟨λ h=>⟨(C.keys _).mp (bq h),C.val p h⟩,λ c=>za c λ d b=>?_⟩;refine b5 (aC.mp ((C.keys _).mpr d)) λ q a e=>?_;have:=C.val q a;rw[e,<-b]at this;simp only[show p=q from lA e.symm this.symm];exact a
theorem j4.lookup{k:e7}{es:List (Nat×Nat)}(C:j4 g k es)(a:j4 g k RY)(i:Nat):es.lookup i=RY.lookup i:=by
 cases h:es.lookup i with
 |some m=>exact (eO a.nd ((a.mem _).mpr ((C.mem _).mp (c8 h)))).symm
 |none=>
  cases h':RY.lookup i with
  |none=>rfl
  |some m=>rw[eO C.nd ((C.mem _).mpr ((a.mem _).mp (c8 h')))]at h;exact nomatch h
theorem j4.Sl{k:e7}{es:List (Nat×Nat)}(C:j4 g k es)(c:j4 g k RY):Sl g es=Sl g RY:=by
 have m:∀X,wH g es X=wH g RY X:=λ X=>by unfold wH;congr 1;funext i;rw[C.lookup c i]
 have j:pU g es=pU g RY:=by
  unfold pU;congr 1;funext X
  congr 1
  have:∀{a b:List (Nat×Nat)},j4 g k a->j4 g k b->c0 g a X=[]->c0 g b X=[]:=λ {a b} n s h=>by
   cases e:c0 g b X with
   |nil=>rfl
   |cons q l=>
    have:q∈c0 g b X:=by rw[e];exact .head _
    refine b5 (aC.mp this) λ p r o=>?_;refine za (b4.mp r) λ d f=>?_;have:q∈c0 g a X:=aC.mpr ⟨p,b4.mpr ⟨(n.mem p).mpr ((s.mem p).mp d),f⟩,o⟩;rw[h]at this;cases this
  rw[fh,qt,qt];exact ⟨this C c,this c C⟩
 unfold Mine.Sl;rw[j];exact bF λ X Z=>by rw[m]
theorem I2{k:e7}(hk:gw g k){es:List (Nat×Nat)}(C:j4 g k es):Sl g es=fu g k:=C.Sl (g3 hk)
theorem pb(n:de g){k:e7}(hk:gw g k){p:Nat×e7}(b:p∈fu g k):gw g p.2/\p.1<g.names.length:=by
 refine b5 (aC.mp b) λ X j e=>?_;subst e;have C:=g3 hk;have i:∀p∈iT g k,p.1<g.owners.length:=λ p b=>((C.mem p).mp b).1.lt hk;refine ⟨⟨?_,λ q d=>?_⟩,?_⟩
 ·have:=ou g (iT g k) X;simp only[aO,bU];exact this.imp cm
 ·have d:=(qr C.nd i).mp d;refine b5 (aC.mp d) λ p b f=>?_;subst f;refine za (b4.mp b) λ l c=>?_;rw[beq_iff_eq]at c;refine ⟨?_,?_⟩
  ·show p.1+1<_;have a:=i p l;have m:=g.item_at a;have hd:g.Rt p.1<(g.right (g.Ro p.1)).length:=eg λ h=>by unfold Gr.after at c;rw[if_neg (bT.mpr h)]at c;exact GU c
   exact (yG g a hd).1
  ·have:=((C.mem p).mp l).2;show p.2<_;rw[this];exact oY _ _
 ·unfold pU at j;exact bP.mp (b4.mp j).1
noncomputable def j3(X:Nat)(k:e7)(ks:List (e7×Int)):List (e7×Int)×Nat:=match (ks.map (·.1)).idxOf? k with
 |some n=>(ks,n)
 |none=>(ks++[(k,(X:Int))],ks.length)
noncomputable def mo(a:List (e7×Int)×List (Nat×Nat))(p:Nat×e7):List (e7×Int)×List (Nat×Nat):=((j3 p.1 p.2 a.1).1,a.2++[(p.1,(j3 p.1 p.2 a.1).2)])
noncomputable def eJ(ks:List (e7×Int))(l:List (Nat×e7)):List (e7×Int)×List (Nat×Nat):=l.foldl mo (ks,[])
noncomputable def d2(g:Gr):Nat->List (e7×Int)
 |0=>[([(0,0)], -1)]
 |n+1=>match (d2 g n)[n]? with
  |some p=>(eJ (d2 g n) (fu g p.1)).1
  |none=>d2 g n
theorem F5:d2 g 0=([([(0,0)], -1)]):=rfl
theorem Aw{g:Gr}{n}:d2 g (n+1)=(match (d2 g n)[n]? with
 |some p=>(eJ (d2 g n) (fu g p.1)).1
 |none=>d2 g n):=rfl
noncomputable def Fp(g:Gr)(n:Nat):List (Nat×Nat):=match (d2 g n)[n]? with
 |some p=>(eJ (d2 g n) (fu g p.1)).2
 |none=>[]
theorem wF(X:Nat)(k:e7)(ks:List (e7×Int)):ks<+:(j3 X k ks).1:=by
 unfold j3;cases (ks.map (·.1)).idxOf? k with
 |some n=>exact d_ _
 |none=>exact jU _ _
theorem nU:∀(l:List (Nat×e7)) (a:List (e7×Int)×List (Nat×Nat)),a.1<+:(l.foldl mo a).1:=by
 intro l;induction l with
 |nil=>intro Z;exact d_ _
 |cons p l b=>intro a;exact (wF p.1 p.2 a.1).trans (b (mo a p))
theorem s5{l:List (Nat×e7)}(i:Nat):(eJ ks (l.take i)).1<+:(eJ ks l).1:=by
 unfold eJ
 conv=>rhs;rw[<-c_ i l,fm]
 exact nU _ _
theorem oQ{l:List (Nat×e7)}(hi:i<l.length)(d:Nat×e7):eJ ks (l.take (i+1))=mo (eJ ks (l.take i)) (l.getD i d):=by unfold eJ;simp only[aS hi,fm,e8 hi];rfl
theorem yY(g:Gr)(n:Nat):d2 g n<+:d2 g (n+1):=by
 dsimp only[F5,Aw];cases (d2 g n)[n]? with
 |none=>exact d_ _
 |some p=>exact nU _ (d2 g n,[])
theorem iU(g:Gr){n m:Nat}(h:n<=m):d2 g n<+:d2 g m:=by
 induction h with
 |refl=>exact d_ _
 |step _ a=>exact a.trans (yY g _)
theorem F6(g:Gr)(n:Nat):0<(d2 g n).length:=(iU g (bg n)).length_le
theorem xY(g:Gr){n:Nat}(h:n<(d2 g n).length):d2 g (n+1)=(eJ (d2 g n) (fu g ((d2 g n).getD n ([],0)).1)).1/\Fp g n=(eJ (d2 g n) (fu g ((d2 g n).getD n ([],0)).1)).2:=by rw[Aw];dsimp only[Fp];rw[ay h,e8 h];exact ⟨rfl,rfl⟩
theorem iE{X:Nat}{k:e7}{n:Nat}(h:(ks.map (·.1)).idxOf? k=ah n):j3 X k ks=(ks,n):=by unfold j3;rw[h]
theorem fY{X:Nat}{k:e7}(h:(ks.map (·.1)).idxOf? k=ai):j3 X k ks=(ks++[(k,(X:Int))],ks.length):=by unfold j3;rw[h]
noncomputable def ny(g:Gr)(ks:List (e7×Int)):Prop:=(∀p∈ks,gw g p.1)/\(ks.map (·.1)).Nodup
theorem ny.add(h:ny g ks){X:Nat}{k:e7}(hk:gw g k):ny g (j3 X k ks).1:=by
 cases e:(ks.map (·.1)).idxOf? k with
 |some n=>rw[iE e];exact h
 |none=>
  rw[fY e];refine ⟨λ p b=>?_,?_⟩
  ·rcases aM.mp b with q|q
   ·exact h.1 p q
   ·rw[aE.mp q];exact hk
  ·simp only[aK,aV];refine ⟨h.2,by simp,λ x d y a c=>?_⟩;rw[fZ,aE]at a;rw[ie]at e;exact e (by rw[show k=x from (c.trans a).symm];exact d)
theorem ny.run:∀(l:List (Nat×e7)) (a:List (e7×Int)×List (Nat×Nat)),ny g a.1->(∀p∈l,gw g p.2)->ny g (l.foldl mo a).1:=by
 intro l;induction l with
 |nil=>intro Z h Z;exact h
 |cons p l d=>intro a h b;exact d (mo a p) (h.add (b p (.head _))) λ q c=>b q (.tail _ c)
theorem rW(f:de g)(d:0<g.owners.length):∀n,ny g (d2 g n):=by
 intro n;induction n with
 |zero=>exact ⟨λ p c=>by rw[aE.mp c];exact ⟨by trivial,λ q b=>(bA (aE.mp b))▸⟨d,Nat.two_pow_pos _⟩⟩,by simp[F5]⟩
 |succ n a=>
  have a:=a;dsimp only[F5,Aw];cases e:(d2 g n)[n]? with
  |none=>exact a
  |some p=>exact ny.run _ _ a λ q b=>(pb f (a.1 p (aX e)) b).1
noncomputable def eI(ks:List (e7×Int)):List (V×V):=ks.zipIdx.map λ p=>(e_ p.1.1,.nat p.2)
theorem n5{a b:e7}(h:e_ a=e_ b):a=b:=by
 unfold e_ at h;have h:a.map du=b.map du:=by simpa using h
 have inj:∀x y:Nat×Nat,du x=du y->x=y:=λ x y h=>by unfold du at h;simp at h;exact lA (GR h) (GQ h)
 exact oA (λ x y h=>inj x y h) |>.mp h
theorem uk(k:e7):kk (e_ k)=3:=by
 have:js 7 (e_ k)=aj:=by unfold e_;rw[Hh,cc];intro x b;refine b5 (aC.mp b) λ p Z a=>?_;subst a;rfl
 show (js 7 (e_ k)).toNat*3=3;rw[this];rfl
theorem ri(ks:List (e7×Int)):(eI ks).map (·.1)=(ks.map (·.1)).map e_:=by unfold eI;refine bu.trans ?_;rw[bu];apply dW;intro i;simp only[aN,mY,aN];cases ks[i]?<;>rfl
theorem xz(ks:List (e7×Int))(p:e7×Int):eI (ks++[p])=eI ks++[(e_ p.1,.nat ks.length)]:=by unfold eI;simp only[AY,aK];simp
theorem pt(h:ny g ks)(k:e7):f9 (e_ k) (eI ks):=by
 refine ⟨by rw[uk];decide,λ p b=>?_,?_⟩
 ·refine b5 (aC.mp b) λ q Z a=>?_;subst a;show kk (e_ _)=_;simp only[uk,uk]
 ·rw[ri,aO,bU];exact (aO.mp h.2).imp λ h e=>h (n5 e)
theorem zQ(k:e7):∀(ks:List (e7×Int)),eE (eI ks) (e_ k)=((ks.map (·.1)).idxOf? k).map V.nat:=λ ks=>by
 have a:∀(l:List (e7×Int)) (n:Nat),eE ((l.zipIdx n).map λ p=>(e_ p.1.1,V.nat p.2)) (e_ k)=((l.map (·.1)).idxOf? k).map λ i=>V.nat (i+n):=λ l=>by
  induction l with
  |nil=>intro n;rfl
  |cons q l b=>
   intro n;simp only[D6,be,be,fM];unfold eE at*;dsimp only[cX];by_cases e:q.1=k
   ·rw[show gE (e_ (q,n).1.1) (e_ k)=aj by simp only[f6];exact congrArg e_ e,if_pos (by rw[beq_iff_eq];exact e)];show ah (V.nat n)=ah (V.nat (0+n));rw[cQ]
   ·rw[iy (λ h=>e (n5 h)),if_neg (by rw[beq_iff_eq];exact e),(b (n+1))];cases (l.map (·.1)).idxOf? k with
    |none=>rfl
    |some i=>show ah (V.nat (i+(n+1)))=ah (V.nat (i+1+n));simp only[gf,ft 1 n]
 exact (a ks 0)
theorem zP{g:Gr}{k:e7}(h:(ks.map (·.1)).idxOf? k=ai)(X:Int):iw (e_ k) (.nat ks.length) (eI ks)=eI (ks++[(k,X)]):=by simp only[xz];refine ml ?_;rw[dv];intro p a;rw[ie]at h;refine iy λ e=>h ?_;have:p.1∈(eI ks).map (·.1):=bq a;rw[ri]at this;refine b5 (aC.mp this) λ q b c=>?_;rw[<-c]at e;exact n5 e▸b
structure SR where
 x:aG
 dx:aG
 am:aG
 Sv:e7
 sym:Int
 items:List (Nat×Nat)
 moves:List (Nat×Nat)
 Rq:List Nat
 Rp:List (Nat×Nat)
noncomputable def SR.f(s:SR)(n:Nat):List (Str×V):=zu n s.Sv s.sym (.dict (dV s.items)) (.ref s.am) (.list (s.Rq.map .nat)) (.dict (dV s.Rp))
noncomputable def gq(CS:aG):List SR->Mu
 |[]=>[]
 |s::L=>(s.am,.dict (dV s.moves))::(s.x,.inst CS s.dx (s.f L.length))::gq CS L
theorem Qp:gq CS []=([]):=rfl
theorem JS{CS:aG}{s L}:gq CS (s::L)=((s.am,.dict (dV s.moves))::(s.x,.inst CS s.dx (s.f L.length))::gq CS L):=rfl
noncomputable def gS(L:List SR)(j:Nat):SR:=L.getD (L.length-1-j) ⟨0,0,0,[],0,[],[],[],[]⟩
theorem iP:∀L:List SR,(gq CS L).length=2*L.length:=by
 intro L;induction L with
 |nil=>exact rfl
 |cons s L a=>simp only[JS,bj,bj,a,bj];exact cT _ _ _
theorem yo:∀(L:List SR) (p:Nat) (post:Mu) (d:SR),p<L.length->(gq CS L++post)[2*p]? =ah ((L.getD p d).am,.dict (dV (L.getD p d).moves))/\(gq CS L++post)[2*p+1]? =ah ((L.getD p d).x,.inst CS (L.getD p d).dx ((L.getD p d).f (L.length-1-p))):=by
 intro L;induction L with
 |nil=>exact λ Z Z Z h=>nomatch h
 |cons s L a=>
  intro p post d h;cases p with
  |zero=>exact ⟨rfl,rfl⟩
  |succ p=>simp only[(show (s::L).length-1-(p+1)=L.length-1-p by exact GP)];exact a p post d (by simpa using h)
theorem zA:∀(L:List SR) (p:Nat) (post:Mu) (d:SR) (mv:List (Nat×Nat)),p<L.length->(gq CS L++post).set (2*p) ((L.getD p d).am,.dict (dV mv))=gq CS (L.set p {L.getD p d with moves:=mv})++post:=by
 intro L;induction L with
 |nil=>exact λ Z Z Z Z h=>nomatch h
 |cons s L a=>
  intro p post d mv h;cases p with
  |zero=>rfl
  |succ p=>
   show _::_::(gq CS L++post).set (2*p) _=(s.am,.dict (dV s.moves))::(s.x,.inst CS s.dx (s.f (L.set p _).length))::(gq CS (L.set p {L.getD p d with moves:=mv})++post)
   simp only[b0,<-(a p post d mv (by simpa using h))];rfl
theorem zz:∀(L:List SR) (p:Nat) (post:Mu) (d:SR) (a:List (Nat×Nat)) (b:List Nat) (mk:List (Nat×Nat)),p<L.length->
 (gq CS L++post).set (2*p+1) ((L.getD p d).x,.inst CS (L.getD p d).dx ({L.getD p d with items:=a,Rq:=b,Rp:=mk}.f (L.length-1-p)))=gq CS (L.set p {L.getD p d with items:=a,Rq:=b,Rp:=mk})++post:=by
 intro L;induction L with
 |nil=>exact λ Z Z Z Z Z Z h=>nomatch h
 |cons s L c=>
  intro p post d a b mk h;cases p with
  |zero=>rfl
  |succ p=>
   simp only[(show (s::L).length-1-(p+1)=L.length-1-p by exact GP)];show _::_::(gq CS L++post).set (2*p+1) _=(s.am,.dict (dV s.moves))::(s.x,.inst CS s.dx (s.f (L.set p _).length))::(gq CS (L.set p {L.getD p d with items:=a,Rq:=b,Rp:=mk})++post)
   simp only[b0,<-(c p post d a b mk (by simpa using h))];rfl
variable{L:List SR}
theorem IG(a:j<L.length)(post:Mu):(gq CS L++post)[2*(L.length-1-j)]? =ah ((gS L j).am,.dict (dV (gS L j).moves)):=(yo L _ post _ (bJ ‹_›)).1
theorem CX(a:j<L.length)(post:Mu):(gq CS L++post)[2*(L.length-1-j)+1]? =ah ((gS L j).x,.inst CS (gS L j).dx ((gS L j).f j)):=by have:=(yo (CS:=CS) L (L.length-1-j) post ⟨0,0,0,[],0,[],[],[],[]⟩ (bJ ‹_›)).2;simp only[show L.length-1-(L.length-1-j)=j from B5 a]at this;exact this
theorem C0(s:SR):gS (s::L) L.length=s:=by unfold gS;simp only[bj,j_,eU];rfl
theorem qn(s:SR)(a:j<L.length):gS (s::L) j=gS L j:=by unfold gS;simp only[bj,show L.length+1-1-j=(L.length-1-j)+1 from GW a];rfl
theorem CY(a:j<L.length){i:Nat}(hi:i<L.length)(s:SR):gS (L.set (L.length-1-j) s) i=if j=i then s else gS L i:=by
 unfold gS;rw[b0,h_ (bJ ‹_›)];by_cases e:j=i
 ·rw[if_pos e,if_pos (by exact congrArg _ e)]
 ·rw[if_neg e,if_neg (GV a hi e)]
theorem CZ(a:j<L.length):(L.reverse.map (·.x)).getD j 0=(gS L j).x:=by unfold gS;rw[e8 (by simpa using a),bY,List.getElem_reverse,e8 (bJ ‹_›)]
structure N5(G:GC)(x:Str)(C:aG)(qual:Str)(st:Stmt)(pn:List Str)(RI:List V)(f:aG):Prop where
 g:mM G.K b8 x=ah (ah (.ref C))
 k:m4 G.K (.ref C)=aj
 made:makesIn G.K C=aj
 i:hP G.K (.ref C) "__init__"=ah (ah (.ref f))
 t:lO G.K (.ref f)=ah (.type "function")
 y:cv G f "__init__" qual (cP st) (cA st) (bG st) pn RI
noncomputable abbrev Ja(G:GC)(x:Str)(C:aG)(qual:Str)(st:Stmt)(pn:List Str)(RI:List V):Prop:=∃f,N5 G x C qual st pn RI f
theorem Ja.p{st:Stmt}(F:Ja G x C qual st pn RI):N5 G x C qual st pn RI F.choose:=F.choose_spec
section
variable{f:aG}
theorem X.perm{t:Sem α}{R:b9->α->β->Prop}{Q:β->St->Prop}(a:J'.Perm Y.mu)(h:X O Ex t R Q ⟨Y.vals,J'⟩):X O Ex t R Q Y:=λ Kp Jj s r=>h Kp Jj s (r.perm a)
theorem QH(I:f_ O G d T){f:Value}{vs:List V}{Q:V->St->Prop}{p:aG×MO}{post:V->Mu->Prop}(i:Nat)(hi:Y.mu[i]? =ah p)(h:cF G d' f vs [p] post)(hd:d'<=d)(q:∀v J',post v J'->∃p',J'=[p']/\Q v ⟨Y.vals,Y.mu.set i p'⟩):cU O Ex f vs Q Y:=λ Kp Jj s us R o=>by
 refine za (nR hi) λ r k=>?_;have g:(p::(Y.mu.take i++Y.mu.drop (i+1))).Perm Y.mu:=by
  conv=>rhs;rw[r]
  exact eX.symm
 have w:=sp (Y:=⟨Y.vals,p::(Y.mu.take i++Y.mu.drop (i+1))⟩) (Ex:=Ex) (Q:=λ v Y'=>∃p',Y'=⟨Y.vals,p'::(Y.mu.take i++Y.mu.drop (i+1))⟩/\Q v ⟨Y.vals,Y.mu.set i p'⟩) I (Y.mu.take i++Y.mu.drop (i+1)) h hd rfl λ v J' m=>by refine b5 (q v J' m) λ p' e c=>?_;subst e;exact ⟨p',rfl,c⟩
 refine aY (w Kp Jj s us (R.perm g) o) (λ u s' n=>Pt.on n λ b Y' a l R' t j=>b5 j λ p' e c=>?_) λ Z Z e=>e;subst e;exact ⟨b,_,a,l,R'.perm (J':=Y.mu.set i p') (by simp only[k];exact eX),t,c⟩
theorem ck(I:f_ O G d T)(i:Nat){x:Str}{C:aG}{st:Stmt}(F:Ja G x C qual st pn RI){Q:V->St->Prop}(h:XL O Ex (c7 (cO pos (bk args O.env))) (rE O Ex (.ref C) Q) Y)(hi:autoParam (∀n,(T n)[i]? =ah (x,.glob)) rf)(hd:autoParam (iS x=aj) rf)(a:autoParam (DO pos args O.env) rf):XV O Ex (bw (.Call (.Name x np) args [] pos) O.env) Q Y:=
 tM i I.ok (I.at i hi) ((bA I.g)▸F.p.g) hd (by rw[I.g];exact F.p.k) a h
theorem JE{A:Type}{Q:Option (Option V)->St->Prop}(st:A->St)(g:Nat->A->Prop)(j:∀e s,ExB e s->Nb O Ex e s)(h:XV O Ex (bw iter O.env) (Hk O ExB target body st g Q) Y)(l:autoParam (∀x,eK iter O.env x=pure x) rf):XF O Ex (gg (.For target iter body [] pos) O.env) Q Y:=
 lw (ExB:=ExB) (λ i=>At st (g i)) j (h.mono λ Z Z c=>by obtain ⟨n,xs,de,W,a,e,k,m,step,fin⟩:=c;exact ⟨n,xs,de,W,⟨a,e,k⟩,λ i Z hi d=>by obtain ⟨a,e,h⟩:=d;exact e▸m i a hi h,
  λ i Z hi b=>by obtain ⟨a,e,h⟩:=b;exact e▸step i a hi h,λ Z f=>by obtain ⟨a,e,h⟩:=f;exact e▸fin a h⟩) l
theorem Ey{A:Type}{Q:Option (Option V)->St->Prop}(st:A->St)(d:Nat->A->Prop)(g:∀e s,ExB e s->Nb O Ex e s)(n:Nat)(a:A)(e:Y=st a)(h:d n a)(step:∀n a,d n a->XB O ExB (ez test O.env (bw test O.env)) (PG O ExB body Q (Ju n st d)) (st a)):XF O Ex (gg (.While test body [] pos) O.env) Q Y:=
 p8 (ExB:=ExB) (λ n=>At st (d n)) g (λ n Z i=>At.on i λ a e h=>by
  cases e;refine (step n a h).mono λ b c q=>?_;cases b with
  |false=>exact q
  |true=>
   refine X.mono (show XF O ExB (eL body O.env) (oz Q (Ju n st d)) c from q) λ fl f q=>?_
   match fl,q with
   |some (ah r),q=>exact q
   |none,⟨m,l,a,e,h⟩=>exact ⟨m,l,a,e,h⟩
   |some ai,⟨m,l,a,e,h⟩=>exact ⟨m,l,a,e,h⟩) n ⟨a,e,h⟩
theorem Nc(h:Q (.bool (decide (b<=a))) Y):iF O Ex (cK .GtE) (VR O.P) (.nat a) (.nat b) Q Y:=Ir (by rwa [show decide ((b:Int)<=(a:Int))=decide (b<=a)by simp])
structure D3(G:GC)(CG CR CS CA:aG):Prop extends Cmn G CG CR where
 A:Ge G CS CA
 VP:∀x∈(["number","kernel","core","symbol","items","moves","reductions","masks"]:List Str),iN G.K CS x=aj
 Xl:∀x∈(["grammar","states"]:List Str),iN G.K CA x=aj
 SD:Fn G "first_masks" "first_masks" (top 18) ["grammar"] []
 SE:Fn G "closure_one" "closure_one" (top 22) ["grammar","kernel","nullables","firsts"] []
 Tb:Fn G "advanced" "advanced" (top 23) ["grammar","items"] []
 Ss:Fn G "first_kernel" "first_kernel" (top 24) ["grammar"] []
 SJ:Me G CS "set_items" "CanonicalState.set_items" (mem 20 1) ["self","grammar","items"] []
 state:Ja G "CanonicalState" CS "CanonicalState.__init__" (mem 20 0) ["self","number","kernel","symbol"] []
 Wq:Ja G "CanonicalAutomaton" CA "CanonicalAutomaton.__init__" (mem 21 0) ["self","grammar","states"] []
theorem pi(B:D3 G CG CR CS CA)(n:Nat)(k:e7)(s:Int)(hk:k.length<2^10):
 cF G (d+2) (.ref CS) [.nat n,e_ k,.int s] [] (λ v J'=>∃x a b,v=.ref x/\J'=[(b,.dict []),(x,.inst CS a (SR.f ⟨x,a,b,k,s,[],[],[],[]⟩ n))]):=
 n4 B.state.p.made B.state.p.i B.state.p.t λ x a=>(tU (d:=d) B.VP B.tup B.state.p.y x a n k s hk).mono (aT _) λ v J' c=>by refine AR c λ e b f=>?_;exact ⟨e,x,a,b,rfl,f⟩
theorem zC(B:D3 G CG CR CS CA)(c vs:V):cF G (d+2) (.ref CA) [c,vs] J (λ v J'=>∃x a,v=.ref x/\J'=(x,.inst CA a [("grammar",c),("states",vs)])::J):=
 n4 B.Wq.p.made B.Wq.p.i B.Wq.p.t λ x a=>(xl (d:=d) B.Xl B.Wq.p.y x a c vs).mono (aT _) λ v J' b=>by refine za b λ e f=>?_;exact ⟨e,x,a,rfl,f⟩
end
theorem g0:∀(l:List (Nat×e7)) (a:List (e7×Int)×List (Nat×Nat)),(l.foldl mo a).2.map (·.1)=a.2.map (·.1)++l.map (·.1):=by
 intro l;induction l with
 |nil=>intro a;simp
 |cons p l b=>intro a;simp only[c6,b];simp[mo]
theorem De{v:Nat}:∀{l:List (Nat×Nat)},k∉l.map (·.1)->gc k v l=l++[(k,v)]:=by
 intro l;induction l with
 |nil=>intro Z;exact rfl
 |cons p l a=>intro h;rw[be,aI,not_or]at h;dsimp only[rM,wi];rw[if_neg (Ne.symm h.1),a h.2];rfl
structure N1(g:Gr)(j:Nat)(s:SR):Prop where
 items:j4 g s.Sv s.items
 moves:s.moves=Fp g j
 Rq:s.Rq.Perm ((cR g [] s.items).map (·.1))/\s.Rq.Pairwise (·<=·)
 Rp:s.Rp=cR g [] s.items
structure Bd(g:Gr)(n:Nat)(ks:List (e7×Int))(L:List SR)(xs:List aG)(kvs:List (V×V)):Prop where
 len:L.length=ks.length
 Sv:∀j<L.length,((gS L j).Sv,(gS L j).sym)=ks.getD j ([],0)
 xs:xs=L.reverse.map (·.x)
 kv:kvs=eI ks
 new:∀j,n<=j->j<L.length->(gS L j).moves=[]/\(gS L j).items=[]/\(gS L j).Rq=[]/\(gS L j).Rp=[]
 done:∀j<n,N1 g j (gS L j)
structure c2(g:Gr)(bz:List fD):Prop where
 len:(d2 g bz.length).length=bz.length
 st:∀j,∀s,bz[j]? =ah s->s.number=j/\(s.kernel,s.symbol)=(d2 g bz.length).getD j ([],0)/\j4 g s.kernel s.items/\s.moves=Fp g j/\s.Rq.Perm ((cR g [] s.items).map (·.1))/\s.Rq.Pairwise (·<=·)/\s.Rp=cR g [] s.items
noncomputable def yw:List Stmt:=cA (sub (sub (sub (sub (top 25) 5) 2) 1) 1)
section
variable{L:List SR}
theorem lb(p q:aG×MO)(post:Mu):(gq CS L++p::q::post)[2*L.length]? =ah p/\(gq CS L++p::q::post)[2*L.length+1]? =ah q:=by
 constructor
 ·refine (bH (by rw[iP];exact aT _)).trans ?_;rw[iP,eU];rfl
 ·refine (bH (by rw[iP];exact b3 _ _)).trans ?_;rw[iP,cE];rfl
theorem s4(p q r:aG×MO)(post:Mu):(gq CS L++p::q::post).set (2*L.length) r=gq CS L++r::q::post/\(gq CS L++p::q::post).set (2*L.length+1) r=gq CS L++p::r::post:=by
 constructor
 ·refine (d6 _ _ (by rw[iP];exact aT _)).trans ?_;rw[iP,eU];rfl
 ·refine (d6 _ _ (by rw[iP];exact b3 _ _)).trans ?_;rw[iP,cE];rfl
end
theorem FK{CS:aG}{L:List SR}{j:Nat}(c:j<L.length)(post:Mu)(a:List (Nat×Nat))(b:List Nat)(mk:List (Nat×Nat)):
 (gq CS L++post).set (2*(L.length-1-j)+1) ((gS L j).x,.inst CS (gS L j).dx (SR.f {gS L j with items:=a,Rq:=b,Rp:=mk} j))=gq CS (L.set (L.length-1-j) {gS L j with items:=a,Rq:=b,Rp:=mk})++post:=by
 have:=zz (CS:=CS) L (L.length-1-j) post ⟨0,0,0,[],0,[],[],[],[]⟩ a b mk (bJ ‹_›);rw[show L.length-1-(L.length-1-j)=j from B5 c]at this;exact this
theorem yP{CS:aG}{L:List SR}{j:Nat}(a:j<L.length)(post:Mu)(mv:List (Nat×Nat)):
 (gq CS L++post).set (2*(L.length-1-j)) ((gS L j).am,.dict (dV mv))=gq CS (L.set (L.length-1-j) {gS L j with moves:=mv})++post:=zA L _ post _ mv (bJ ‹_›)
noncomputable def Gk(j:Nat)(s:SR):fD:=⟨j,s.Sv,s.sym,s.items,s.moves,s.Rq,s.Rp⟩
theorem w_:∀{l:List (aG×fD)},(∀p∈l,∃d c,(p.1,MO.inst CS d (zu p.2.number p.2.kernel p.2.symbol (.dict (dV p.2.items)) (.ref c) (.list (p.2.Rq.map .nat)) (.dict (dV p.2.Rp))))∈J/\(c,MO.dict (dV p.2.moves))∈J)->
 RE J (l.map λ p=>.ref p.1) (l.map λ p=>fD.v CS p.2):=by
 intro l;induction l with
 |nil=>intro Z;exact .nil
 |cons p l f=>intro h;refine hQ (h p (.head _)) λ d c a b=>?_;refine .cons (.inst a ?_) (f λ q e=>h q (.tail _ e));exact .cons (.refl _)<|.cons (.refl _)<|.cons (.refl _)<|.cons (.refl _)<|.cons (.refl _)<|.cons (.dict b (s_ _ _))<|.cons (.refl _)<|.cons (.refl _) .nil
structure Bf(g:Gr)(t:Nat)(xt:aG)(es:List (Nat×Nat))(Rq:List Nat)(most:Nat)(ks:List (e7×Int))(mv:List (Nat×Nat))(L:List SR)(xs:List aG)(kvs:List (V×V)):Prop where
 tl:t<L.length
 fit:L.length<=most
 len:L.length=ks.length
 Sv:∀j<L.length,((gS L j).Sv,(gS L j).sym)=ks.getD j ([],0)
 xs:xs=L.reverse.map (·.x)
 kv:kvs=eI ks
 new:∀j,t<j->j<L.length->(gS L j).moves=[]/\(gS L j).items=[]/\(gS L j).Rq=[]/\(gS L j).Rp=[]
 done:∀j<t,N1 g j (gS L j)
 cur:(gS L t).x=xt/\(gS L t).items=es/\(gS L t).Rq=Rq/\(gS L t).Rp=cR g [] es/\(gS L t).moves=mv
theorem s9{L:List SR}(a:j<L.length){s:SR}(h:s.x=(gS L j).x):(L.set (L.length-1-j) s).reverse.map (·.x)=L.reverse.map (·.x):=by
 simp only[D9,D9,f0];congr 1
 apply dW;intro i;refine (ew).trans ?_;by_cases e:L.length-1-j=i
 ·subst e;refine (if_pos rfl).trans ?_;refine (if_pos (by rw[au];exact bJ ‹_›)).trans ?_;rw[aN,ay (bJ ‹_›),h];unfold gS;rw[e8 (bJ ‹_›)];rfl
 ·exact if_neg e
theorem Bd.start{g:Gr}{t:Nat}{ks:List (e7×Int)}{L:List SR}{xs:List aG}{kvs:List (V×V)}(D:Bd g t ks L xs kvs)(c:t<L.length){b:Nat}(f:L.length<=b)(es:List (Nat×Nat))(Rq:List Nat):
 Bf g t (gS L t).x es Rq b ks [] (L.set (L.length-1-t) {gS L t with items:=es,Rq:=Rq,Rp:=cR g [] es}) xs kvs:=by
 have d:∀j<L.length,gS (L.set (L.length-1-t) {gS L t with items:=es,Rq:=Rq,Rp:=cR g [] es}) j=if t=j then {gS L t with items:=es,Rq:=Rq,Rp:=cR g [] es} else gS L j:=λ j a=>CY c a _
 refine ⟨by rw[b0];exact c,by rw[b0];exact f,by (refine b0.trans ?_);exact D.len,λ j a=>?_,?_,D.kv,λ j h a=>?_,λ j a=>?_,?_⟩
 ·rw[b0]at a;rw[d j a,<-D.Sv j a];by_cases e:t=j
  ·rw[if_pos e,e]
  ·rw[if_neg e]
 ·exact D.xs.trans (s9 (s:={gS L t with items:=es,Rq:=Rq,Rp:=cR g [] es}) c rfl).symm
 ·rw[b0]at a;rw[d j a,if_neg (cm ‹_›)];exact D.new j (bc ‹_›) a
 ·rw[d j (bD ‹_› ‹_›),if_neg (fo ‹_›)];exact D.done j a
 ·rw[d t c,if_pos rfl];exact ⟨rfl,rfl,rfl,rfl,(D.new t (aT _) c).1⟩
theorem Bf.move{g:Gr}{t:Nat}{i:aG}{es:List (Nat×Nat)}{Rq:List Nat}{c:Nat}{ks:List (e7×Int)}{mv:List (Nat×Nat)}{L:List SR}{xs:List aG}{kvs:List (V×V)}(D:Bf g t i es Rq c ks mv L xs kvs)(a:List (Nat×Nat)):
 Bf g t i es Rq c ks a (L.set (L.length-1-t) {gS L t with moves:=a}) xs kvs:=by
 have d:=D.tl;have f:∀j<L.length,gS (L.set (L.length-1-t) {gS L t with moves:=a}) j=if t=j then {gS L t with moves:=a} else gS L j:=λ j b=>CY d b _
 refine ⟨by rw[b0];exact d,by rw[b0];exact D.fit,by (refine b0.trans ?_);exact D.len,λ j b=>?_,?_,D.kv,λ j h b=>?_,λ j b=>?_,?_⟩
 ·rw[b0]at b;rw[f j b,<-D.Sv j b];by_cases e:t=j
  ·rw[if_pos e,e]
  ·rw[if_neg e]
 ·exact D.xs.trans (s9 (s:={gS L t with moves:=a}) d rfl).symm
 ·rw[b0]at b;rw[f j b,if_neg (cm ‹_›)];exact D.new j h b
 ·rw[f j (bD ‹_› ‹_›),if_neg (fo ‹_›)];exact D.done j b
 ·rw[f t d,if_pos rfl];exact ⟨D.cur.1,D.cur.2.1,D.cur.2.2.1,D.cur.2.2.2.1,rfl⟩
theorem Bf.grow{g:Gr}{t:Nat}{f:aG}{es:List (Nat×Nat)}{Rq:List Nat}{a:Nat}{ks:List (e7×Int)}{mv:List (Nat×Nat)}{L:List SR}{xs:List aG}{kvs:List (V×V)}(D:Bf g t f es Rq a ks mv L xs kvs)(l:L.length<a)(x m i:aG)(k:e7)(X:Int):
 Bf g t f es Rq a (ks++[(k,X)]) mv (⟨x,m,i,k,X,[],[],[],[]⟩::L) (xs++[x]) (eI (ks++[(k,X)])):=by
 have d:=D.tl;refine ⟨cD d,l,by simp only[bj,aF,D.len];rfl,λ j c=>?_,by rw[D.xs];simp,rfl,λ j h c=>?_,λ j c=>?_,?_⟩
 ·skip;by_cases e:j=L.length
  ·subst e;rw[C0,D.len,e8 (by simp),uV (aT _)];simp
  ·have b:j<L.length:=yA c e;rw[qn _ b,D.Sv j b,e8 ((D.len)▸b),e8 (by rw[aF,<-D.len];exact cD ‹_›),g7]
 ·skip;by_cases e:j=L.length
  ·subst e;rw[C0];exact ⟨rfl,rfl,rfl,rfl⟩
  ·rw[qn _ (yA c e)];exact D.new j h (yA c e)
 ·rw[qn _ (bD ‹_› ‹_›)];exact D.done j c
 ·rw[qn _ d];exact D.cur
theorem Bf.stop{t:Nat}{i:aG}{es:List (Nat×Nat)}{Rq:List Nat}{b:Nat}{L:List SR}{xs:List aG}(D:Bf g t i es Rq b (d2 g (t+1)) (Fp g t) L xs kvs)(k:j4 g ((d2 g t).getD t ([],0)).1 es)(d:t<(d2 g t).length)(f:Rq.Perm ((cR g [] es).map (·.1))/\Rq.Pairwise (·<=·)):Bd g (t+1) (d2 g (t+1)) L xs kvs:=by
 refine ⟨D.len,D.Sv,D.xs,D.kv,λ j h c=>D.new j h c,λ j c=>?_⟩;rcases cH.mp c with h|h
 ·exact D.done j h
 ·subst h;have a:=D.cur;have hk:(gS L j).Sv=((d2 g j).getD j ([],0)).1:=by refine (show (gS L j).Sv=((d2 g (j+1)).getD j ([],0)).1 from (congrArg jT (D.Sv j D.tl))).trans ?_;refine ze (yY g j) λ q e=>?_;rw[<-e,e8 d,e8 (by simp only[aF];exact GO d),g7]
  exact ⟨by simp only[hk,a.2.1];exact k,a.2.2.2.2,(bA a.2.1)▸(bA a.2.2.1)▸f,by simp only[a.2.1,a.2.2.2.1]⟩
theorem jM{x:α}(h:l[i]? =ah x):x∈l:=aX h
section
variable{f:aG}
theorem X.Zn{t:Sem α}{R:b9->α->β->Prop}{Q:β->St->Prop}{m:Mu}(e:Y.mu=m)(h:X O Ex t R Q ⟨Y.vals,m⟩):X O Ex t R Q Y:=by subst e;exact h
theorem rH{a:aG}(f:α->V){l:List α}{k:Nat}{d y:α}(i:Nat){Q:V->St->Prop}(e:l.getD k d=y)(hi:Y.mu[i]? =ah (a,.list (l.map f)))(hk:k<l.length)(hz:k<2^62)(h:Q (f y) Y):mU O Ex Q (.ref a) (.nat k) Y:=CO f d i hi hk hz (e▸h)
theorem Dt{a:aG}{k:e7}{v:V}(i:Nat){Q:V->St->Prop}(ok:O.Ok)(hk:ny g ks)(hi:Y.mu[i]? =ah (a,.dict (eI ks)))(e:(((ks.map (·.1)).idxOf? k).map V.nat).getD (.int (-1))=v)(h:Q v Y):cU O Ex (.builtin "dict.get") [.ref a,e_ k,.int (-1)] Q Y:=
 yV ok (.led i hi) (pt hk k) (by rw[zQ,e];exact h)
theorem jd{a:aG}{k v:V}{kvs:List (V×V)}{Q:St->Prop}{m:Mu}(i:Nat)(ok:O.Ok)(hi:Y.mu[i]? =ah (a,.dict kvs))(hk:f9 k kvs)(hz:kvs.length<=2^20)(e:Y.mu.set i (a,.dict (iw k v kvs))=m)(h:Q ⟨Y.vals,m⟩):
 wI O Ex (.ref a) k v Q Y:=xj i ok hi hk hz ((bA e)▸h)
theorem rT{a:aG}{f:α->V}{n:Nat}(i:Nat)(e:l.length=n)(hi:Y.mu[i]? =ah (a,.list (l.map f)))(hz:l.length<2^62)(h:Q (.nat n) Y):cU O Ex (.builtin "len") [.ref a] Q Y:=uJ i hi hz ((bA e)▸h)
theorem nu(B:D3 G CG CR CS CA)(g:Gr)(T:de g)(hr:0<g.rules.length)(u:Nat)(h1:1<=u)(h2:u<=2000)(I:f_ O G (d+4) (mO (bG (top 25)))){E0 E1 E2:Value->aQ->Prop}(hE1:∀e s,E1 e s->Nb O E0 e s)(hE2:∀e s,E2 e s->Nb O E1 e s)
 (hR:(∃n,u<(d2 g n).length)->∀Q Y,Y.vals[1]? =ah (ah (.nat u))->XF O E2 (eL yw O.env) Q Y):
 XF O E0 (eL (cA (top 25)) O.env) (AG J λ v J'=>(∃bz,v=kP CG CR CS CA g bz/\c2 g bz/\bz.length<=u)/\J'=J) ⟨[ah (g.v CG CR),ah (.nat u)]++bv 19 ai,J⟩:=by
 have XM:0<g.owners.length:=aR (bg _) (xx g hr);have hz:=T.own;let gv:V:=g.v CG CR
 let nv:V:=.list ((ij g).map .bool)
 let fv:V:=.list ((jB g).map .nat)
 refine aB<|sl I 2<|cg I 11 B.Sn<|a1<|nl I 0 rfl<|iA I (qQ (d:=d) B.toCmn g T) L_ ?_;refine aB<|sl I 3<|cg I 12 B.SD<|a1<|nl I 0 rfl<|iA I (sy (d:=d) B.toCmn B.SD g T T.Wv) L9 ?_;refine aB<|sl I 4<|eC I.ok<|a1<|ck I 13 B.state<|an<|xn 0<|an<|cg I 14 B.Ss<|a1<|nl I 0 rfl<|iA I (qV (d:=d) B.Ss.y B.F B.item g T.toSmall hr) rc<|a1<|iu<|dN<|kF ?_;refine sp I J (pi (d:=d) B 0 [(0,0)] (-1) (by simp)) rc rfl λ v J' zf=>mN zf λ x dx am e1 e2=>?_;subst e1;subst e2;refine ⟨by rw[dE];simp,λ as=>?_⟩;refine aB<|sl I 5<|yi I.ok λ w=>at_ I<|sb<|nl I 4 rfl<|xn 0 ⟨⟨_,.list (.led 1 rfl)⟩,dQ (.led 1 rfl) (k:=0) rfl (by decide) ⟨CS,SR.f ⟨x,dx,am,[(0,0)], -1,[],[],[],[]⟩ 0,e_ [(0,0)],.led (d:=dx) (.tail _ (.tail _ (.tail _ (.head _)))),B.A.s _ (by decide+kernel),by kernel_rfl,xn 0 ⟨(by rw[uk];decide),0,rfl,?_⟩⟩⟩;refine aB<|sl I 6<|xn 0 ?_;let Um:List SR×List aG×List (V×V)×Nat×List (Option V)->St:=λ a=>⟨[ah gv,ah (.nat u),ah nv,ah fv,ah (.ref as),ah (.ref w),ah (.nat a.2.2.2.1),ov a.2.2.2.2 0,ov a.2.2.2.2 1,ov a.2.2.2.2 2,ov a.2.2.2.2 3,ai,ai,ai,ai,ai,ai,ai,ai,ai,ai],
  gq CS a.1++(w,.dict a.2.2.1)::(as,.list (a.2.1.map .ref))::J⟩
 let VL:Nat->List SR×List aG×List (V×V)×Nat×List (Option V)->Prop:=λ n a=>n=u-a.2.2.2.1/\a.2.2.2.1<=a.1.length/\a.1.length<=u/\Bd g a.2.2.2.1 (d2 g a.2.2.2.1) a.1 a.2.1 a.2.2.1
 let s0:SR:=⟨x,dx,am,[(0,0)], -1,[],[],[],[]⟩
 have h0:VL (u-0) ([s0],[x],[(e_ [(0,0)],.nat 0)],0,[]):=by
  refine ⟨rfl,bg _,h1,rfl,λ j S=>?_,rfl,rfl,λ j Z S=>?_,λ j S=>absurd S (c9 _)⟩
  ·have:j=0:=by simpa using S
   subst this;rfl
  ·have:j=0:=by simpa using S
   subst this;exact ⟨rfl,rfl,rfl,rfl⟩
 refine X.perm (J':=gq CS [s0]++(w,.dict [(e_ [(0,0)],.nat 0)])::(as,.list ([x].map .ref))::J) (List.Perm.append_right J (List.perm_append_comm (l₁:=[(am,MO.dict []),(x,MO.inst CS dx (s0.f 0))]) (l₂:=[(w,MO.dict [(e_ [(0,0)],V.nat 0)]),(as,MO.list [V.ref x])]))) ?_;refine aB<|Ey (ExB:=E1) Um VL hE1 _ ([s0],[x],[(e_ [(0,0)],.nat 0)],0,[]) rfl h0 λ n a ha=>?_;clear h0;obtain ⟨L,xs,kvs,t,o⟩:=a;obtain ⟨rfl,XE,N,D⟩:=ha;have N:L.length<=u:=N;have D:Bd g t (d2 g t) L xs kvs:=D;have VD:xs.length=L.length:=by rw[D.xs];simp
 have H:(gq CS L++(w,MO.dict kvs)::(as,MO.list (xs.map V.ref))::J)[2*L.length+1]? =ah (as,.list (xs.map .ref)):=(lb _ _ _).2;refine tq<|nl I 6 rfl<|cb I 15 B.len<|a1<|nl I 4 rfl<|uJ (2*L.length+1) H (GN VD N h2)<|t8 ⟨_,rfl,?_⟩;rw[VD];by_cases E:t<L.length
 ·refine iD (decide_eq_true E) ?_;have XG:t<(d2 g t).length:=by rw[<-D.len];exact E
  have U:(gS L t).Sv=((d2 g t).getD t ([],0)).1:=congrArg jT (D.Sv t E);have Y1:=rW T XM t;have F:gw g (gS L t).Sv:=by rw[U];exact Y1.1 _ (bd XG _)
  obtain ⟨Th,VH⟩:=xY g XG;rw[<-U]at Th VH;have Yp:xs.getD t 0=(gS L t).x:=by rw[D.xs];exact CZ E
  have WJ:=CX (CS:=CS) E ((w,MO.dict kvs)::(as,MO.list (xs.map V.ref))::J);refine aB<|sl I 7<|sb<|nl I 4 rfl<|nl I 6 rfl<|rH V.ref (2*L.length+1) Yp H (show t<xs.length from re E VD) (show t<2^62 from L8 E N h2) ?_;refine aB<|xe I<|mc I B.SJ<|nl I 7 rfl ⟨(gS L t).f t,.led (jM WJ),by kernel_rfl,an<|nl I 0 rfl<|a1<|cg I 16 B.SE<|an<|nl I 0 rfl<|an<|at_ I<|nl I 7 rfl ⟨CS,(gS L t).f t,e_ (gS L t).Sv,.led (jM WJ),B.A.s _ (by decide+kernel),by kernel_rfl,an<|nl I 2 rfl<|a1<|nl I 3 rfl ?_⟩⟩;refine sp I _ (zD (d:=d) B.toCmn B.SE g T (gS L t).Sv F) rc (List.nil_append _).symm λ v J' zf=>za zf λ zg e2=>b5 zg λ es e1 hC=>?_;subst e1;subst e2;have XZ:∀p∈es,p.1<g.owners.length:=λ p hp=>((hC.mem p).mp hp).1.lt F;have Vq:es.length<60:=by
   have:=aU hC.nd (l₂:=aZ g.owners.length) λ x hx=>by obtain ⟨p,hp,rfl⟩:=aC.mp hx;exact bP.mpr (XZ p hp)
   rw[au,bf]at this;exact aR ‹_› ‹_›
  refine QH I (2*(L.length-1-t)+1) WJ (vA (d:=d) (λ y hy=>B.VP y (by revert y;decide+kernel)) B.F B.A B.sorted B.SJ.y B.RH B.after B.len g T.toSmall (gS L t).x (gS L t).dx t (gS L t).Sv (gS L t).sym _ _ _ _ es hC.nd XZ Vq) rc λ v J' zf=>Ev zf λ e1 Rq Ts zg=>za zg λ TK e2=>⟨_,e2,?_⟩;subst e1;have B0:=D.start E N es Rq;have Vh:=FK (CS:=CS) E ((w,MO.dict kvs)::(as,MO.list (xs.map V.ref))::J) es Rq (cR g [] es);have Ti:=I2 F hC;generalize L.set (L.length-1-t) _=K at B0 Vh;obtain ⟨k0,ZO⟩:∃k,(gS L t).Sv=k:=⟨_,rfl⟩;rw[ZO]at Ti Th VH F;have Yw:=xm (d:=d) (J:=[]) B.toCmn B.Tb g T es hC.nd XZ;rw[Ti]at Yw;have ZX:j4 g ((d2 g t).getD t ([],0)).1 es:=by rw[<-U];exact hC
  generalize (gS L t).x=xt at B0 Vh;refine X.Zn Vh ?_;clear WJ H Yp hC;let TF:List SR×List aG×List (V×V)×List (Option V)->St:=λ b=>⟨[ah gv,ah (.nat u),ah nv,ah fv,ah (.ref as),ah (.ref w),ah (.nat t),ah (.ref xt),ov b.2.2.2 0,ov b.2.2.2 1,ov b.2.2.2 2,ai,ai,ai,ai,ai,ai,ai,ai,ai,ai],
   gq CS b.1++(w,.dict b.2.2.1)::(as,.list (b.2.1.map .ref))::J⟩
  let Ul:Nat->List SR×List aG×List (V×V)×List (Option V)->Prop:=λ i b=>Bf g t xt es Rq u (eJ (d2 g t) ((fu g k0).take i)).1 (eJ (d2 g t) ((fu g k0).take i)).2 b.1 b.2.1 b.2.2.1
  have YC:=CX (CS:=CS) B0.tl ((w,MO.dict kvs)::(as,MO.list (xs.map V.ref))::J);have YE:((gS K t).f t).lookup (bo "items")=ah (.dict (dV (gS K t).items)):=by kernel_rfl
  rw[B0.cur.1]at YC;rw[B0.cur.2.1]at YE;refine aB<|JE (ExB:=E2) TF Ul hE2<|cg I 17 B.Tb<|an<|nl I 0 rfl<|a1<|at_ I<|nl I 7 rfl ⟨CS,(gS K t).f t,.dict (dV es),.led (jM YC),B.A.s _ (by decide+kernel),YE,iA I Yw rc ⟨_,_,_,lF Oa (fu g k0) (0,[]) I.ok.hand,(K,xs,kvs,[ov o 1,ov o 2,ov o 3]),rfl,B0,λ Z Z Z Z=>trivial,λ i b hi A=>?_,λ b A=>?_⟩⟩
  ·obtain ⟨r,c,z,Va⟩:=b;have A:Bf g t xt es Rq u (eJ (d2 g t) ((fu g k0).take i)).1 (eJ (d2 g t) ((fu g k0).take i)).2 r c z:=A;have Vg:eJ (d2 g t) ((fu g k0).take (i+1))=mo (eJ (d2 g t) ((fu g k0).take i)) ((fu g k0).getD i (0,[])):=oQ hi (0,[]);obtain ⟨WG,hpX⟩:=pb T F (bd hi (0,[]));have Tt:ny g (eJ (d2 g t) ((fu g k0).take i)).1:=ny.run _ _ Y1 λ q hq=>(pb T F (cG hq)).1;have X2:((fu g k0).getD i (0,[])).1∉(eJ (d2 g t) ((fu g k0).take i)).2.map (·.1):=by
    rw[show (eJ (d2 g t) ((fu g k0).take i)).2.map (·.1)=((fu g k0).take i).map (·.1)by unfold eJ;rw[g0];simp];have V5:((fu g k0).map (·.1)).Nodup:=by unfold fu Sl;rw[bu];rw[show ((pU g (iT g k0)).map ((·.1)∘λ X=>(X,wH g (iT g k0) X)))=pU g (iT g k0)from ej _];exact (mE g (iT g k0)).imp cm
    rw[g5];intro h;rw[<-c_ i ((fu g k0).map (·.1)),aV]at V5;refine V5.2.2 _ h _ ?_ rfl;rw[jj (by simpa using hi) 0,e8 (by simpa using hi),bY,e8 hi];exact .head _
   have Vk:(eJ (d2 g t) ((fu g k0).take i)).2.length<=2^20:=by
    have hl:=congrArg dB (show (eJ (d2 g t) ((fu g k0).take i)).2.map (·.1)=((fu g k0).take i).map (·.1)by unfold eJ;rw[g0];simp);rw[au,au,bb]at hl;have h3:(fu g k0).length<=g.names.length:=by unfold fu Sl pU;rw[au];have:=db (λ X=>!(c0 g (iT g k0) X).isEmpty) (aZ g.names.length);rw[bf]at this;exact this
    exact aA (cu hl) (aA (Nat.min_le_right _ _) (aA h3 (bc (bD T.VA (by decide)))))
   have UC:((eJ (d2 g t) ((fu g k0).take i)).2.map (·.1)).Nodup:=by rw[show (eJ (d2 g t) ((fu g k0).take i)).2.map (·.1)=((fu g k0).take i).map (·.1)by unfold eJ;rw[g0];simp];unfold fu Sl;rw[<-g5,bu];rw[show (((pU g (iT g k0)).take i).map ((·.1)∘λ X=>(X,wH g (iT g k0) X)))=(pU g (iT g k0)).take i from ej _];exact ((mE g (iT g k0)).imp cm).sublist (fj _ _)
   have C:=(s5 (ks:=d2 g t) (l:=fu g k0) (i+1)).length_le;rw[<-Th]at C;show XA _ _ _ (Oa ((fu g k0).getD i (0,[]))) (ql _ _ _ (oz _ (At TF (λ b=>Bf g t xt es Rq u (eJ (d2 g t) ((fu g k0).take (i+1))).1 (eJ (d2 g t) ((fu g k0).take (i+1))).2 b.1 b.2.1 b.2.2.1)))) _;rw[Vg]at C ⊢;generalize (fu g k0).getD i (0,[])=p at WG X2 C ⊢;generalize eJ (d2 g t) ((fu g k0).take i)=a at A Tt X2 Vk UC C ⊢;obtain ⟨ks,mv⟩:=a;obtain ⟨X,k⟩:=p;have XR:=A.kv;have XR:z=eI ks:=XR;subst XR;have US:c.length=r.length:=by rw[A.xs];simp
   have V0:=A.fit;have YO:∀m,gc X m mv=mv++[(X,m)]:=λ m=>De X2;have XN:(eI ks).length<=2^20:=by unfold eI;rw[au,f1,<-A.len];exact L7 V0 h2
   refine AD I<|Mine.al I 8<|Mine.al I 9 ?_;cases M:(ks.map (·.1)).idxOf? k with
   |some m=>have P:=A.move (mv++[(X,m)]);have V8:=IG (CS:=CS) A.tl ((w,MO.dict (eI ks))::(as,MO.list (c.map V.ref))::J);have W:=CX (CS:=CS) A.tl ((w,MO.dict (eI ks))::(as,MO.list (c.map V.ref))::J);rw[A.cur.1]at W;rw[A.cur.2.2.2.2]at V8;refine aB<|sl I 10<|mb I PySem.F.plainAttrs_dict PySem.F.slot_dict_get PySem.F.type_dict_get<|nl I 5 rfl ⟨.dict (.led (2*r.length) (lb _ _ _).1),an<|nl I 9 rfl<|a1<|iu<|dN<|kF<|Dt (v:=.nat m) (2*r.length) I.ok Tt (lb _ _ _).1 (by rw[M];rfl) ?_⟩;refine aB<|e4<|tq<|nl I 10 rfl<|dN<|t4 ⟨_,rfl,fX (decide_eq_false (by show ¬((m:Nat):Int)<0;exact yz))<|bm ?_⟩;refine aB<|ss<|nl I 10 rfl<|at_ I<|nl I 7 rfl ⟨CS,(gS r t).f t,.ref (gS r t).am,.led (jM W),B.A.s _ (by decide+kernel),by kernel_rfl,nl I 8 rfl<|xk (2*(r.length-1-t)) I.ok V8 UC Vk (by rw[YO];exact (yP (CS:=CS) A.tl ((w,MO.dict (eI ks))::(as,MO.list (c.map V.ref))::J) (mv++[(X,m)])))<|bm ⟨(_,c,eI ks,[_,_,_]),rfl,?_⟩⟩;show Bf g t xt es Rq u (mo (ks,mv) (X,k)).1 (mo (ks,mv) (X,k)).2 _ c (eI ks);unfold mo;rw[iE M];exact P
   |none=>
    have UE:k.length<2^10:=by
     have:=aU WG.nd (l₂:=aZ g.owners.length) λ x hx=>by obtain ⟨p,hp,rfl⟩:=aC.mp hx;exact bP.mpr (WG.it p hp).1
     rw[au,bf]at this;exact aR this (bD hz (by decide))
    have ZI:iw (e_ k) (.nat r.length) (eI ks)=eI (ks++[(k,(X:Int))]):=by rw[A.len];exact zP (g:=g) M X
    refine aB<|sl I 10<|mb I PySem.F.plainAttrs_dict PySem.F.slot_dict_get PySem.F.type_dict_get<|nl I 5 rfl ⟨.dict (.led (2*r.length) (lb _ _ _).1),an<|nl I 9 rfl<|a1<|iu<|dN<|kF<|Dt (v:=.int (-1)) (2*r.length) I.ok Tt (lb _ _ _).1 (by rw[M];rfl) ?_⟩;refine aB<|e4<|tq<|nl I 10 rfl<|dN<|t4 ⟨_,rfl,iD rfl<|aB<|sl I 10<|cb I 15 B.len<|a1<|nl I 4 rfl<|rT (2*r.length+1) US (lb _ _ _).2 (by rw[US];exact L6 V0 h2) ?_⟩;refine aB<|e4<|tq<|nl I 10 rfl<|nl I 1 rfl<|Nc ⟨_,rfl,?_⟩;by_cases R:u<=r.length
    ·refine iD (decide_eq_true R)<|hR ⟨t+1,?_⟩ _ _ rfl;unfold mo at C;rw[fY M,aF]at C;exact aH (dh (by rw[A.len]at R;exact R)) C
    have P:=A.grow (eg R);refine fX (decide_eq_false R)<|bm<|aB<|ss<|nl I 10 rfl<|nl I 5 rfl<|nl I 9 rfl<|jd (m:=gq CS r++(w,MO.dict (eI (ks++[(k,(X:Int))])))::(as,MO.list (c.map V.ref))::J) (2*r.length) I.ok (lb _ _ _).1 (pt Tt k) XN (by rw[ZI];exact (s4 _ _ _ _).1) ?_;refine aB<|xe I<|gj I<|nl I 4 rfl ⟨as,c.map .ref,2*r.length+1,rfl,(lb _ _ _).2,ck I 13 B.state<|an<|nl I 10 rfl<|an<|nl I 9 rfl<|a1<|nl I 8 rfl<|sp I _ (pi (d:=d) B r.length k X UE) rc (List.nil_append _).symm λ v J' zf=>mN zf λ x dx am e1 e2=>?_⟩;subst e1;subst e2;have P:=P x dx am k X;refine uL aG (f:=V.ref) (l:=c) (x:=x) (2*(r.length+1)+1) ((lb (CS:=CS) (L:=⟨x,dx,am,k,X,[],[],[],[]⟩::r) (w,MO.dict (eI (ks++[(k,(X:Int))]))) (as,MO.list (c.map V.ref)) J).2) (by rw[US];exact L5 h2 R) ((s4 (CS:=CS) (L:=⟨x,dx,am,k,X,[],[],[],[]⟩::r) (w,MO.dict (eI (ks++[(k,(X:Int))]))) (as,MO.list (c.map V.ref)) (as,MO.list ((c++[x]).map V.ref)) J).2)<|bm ?_;have V8:=IG (CS:=CS) P.tl ((w,MO.dict (eI (ks++[(k,(X:Int))])))::(as,MO.list ((c++[x]).map V.ref))::J);have W:=CX (CS:=CS) P.tl ((w,MO.dict (eI (ks++[(k,(X:Int))])))::(as,MO.list ((c++[x]).map V.ref))::J);rw[P.cur.1]at W;rw[P.cur.2.2.2.2]at V8;refine aB<|ss<|nl I 10 rfl<|at_ I<|nl I 7 rfl ⟨CS,(gS (⟨x,dx,am,k,X,[],[],[],[]⟩::r) t).f t,.ref (gS (⟨x,dx,am,k,X,[],[],[],[]⟩::r) t).am,.led (jM W),B.A.s _ (by decide+kernel),by kernel_rfl,nl I 8 rfl<|xk (2*((⟨x,dx,am,k,X,[],[],[],[]⟩::r:List SR).length-1-t)) I.ok V8 UC Vk (by rw[YO];exact (yP (CS:=CS) P.tl ((w,MO.dict (eI (ks++[(k,(X:Int))])))::(as,MO.list ((c++[x]).map V.ref))::J) (mv++[(X,r.length)])))<|bm ⟨(_,c++[x],eI (ks++[(k,(X:Int))]),[_,_,_]),rfl,?_⟩⟩;show Bf g t xt es Rq u (mo (ks,mv) (X,k)).1 (mo (ks,mv) (X,k)).2 _ (c++[x]) (eI (ks++[(k,(X:Int))]));unfold mo;rw[fY M];rw[<-A.len];exact (P.move (mv++[(X,r.length)]))
  ·obtain ⟨r,c,z,Va⟩:=b;have A:Bf g t xt es Rq u (eJ (d2 g t) ((fu g k0).take (fu g k0).length)).1 (eJ (d2 g t) ((fu g k0).take (fu g k0).length)).2 r c z:=A;rw[a0,<-Th,<-VH]at A;have VW:=A.tl;have UG:=A.fit;exact aB<|ag I 6 rfl<|xn 1<|Fm<|bm ⟨u-(t+1),(show u-(t+1)<u-t from yC VW UG),(r,c,z,t+1,[_,_,_,_]),rfl,rfl,VW,UG,A.stop ZX XG ⟨Ts,TK⟩⟩
 ·have e:t=L.length:=gd ‹_› (bT.mp ‹_›);refine fX (decide_eq_false E)<|aB<|dF<|ck I 20 B.Wq<|an<|nl I 0 rfl<|a1<|nl I 4 rfl<|sp I _ (zC (d:=d) B gv (.ref as)) rc rfl λ v J' zf=>hQ zf λ y dy e1 e2=>?_;subst e1;subst e2;obtain ⟨l,hl⟩:∃l:List (aG×fD),l=(aZ L.length).map λ j=>((gS L j).x,Gk j (gS L j)):=⟨_,rfl⟩;have UD:l.length=L.length:=by rw[hl];simp
  have ZM:xs.map V.ref=l.map λ p=>.ref p.1:=by
   rw[D.xs,hl,bu];apply dW;intro i;rw[aN,aN];by_cases hi:i<L.length
   ·have:=CZ hi;rw[e8 (by simpa using hi)]at this;rw[bY]at this;rw[ay (by simpa using hi),aN,fF hi];exact congrArg (λ a=>ah (V.ref a)) this
   ·rw[bl (by simpa using hi),bl (by simpa using hi)];rfl
  have XX:∀j s,(l.map (·.2))[j]? =ah s->j<L.length/\s=Gk j (gS L j):=λ j s h=>by rw[hl,bu,aN]at h;obtain ⟨i,hi,e⟩:=bM.mp h;rw[bh]at hi;obtain ⟨hi,e'⟩:=hi;rw[bf]at hi;rw[jV]at e';subst e';exact ⟨hi,e.symm⟩
  refine ⟨(y,.inst CA dy [("grammar",gv),("states",.ref as)])::(gq CS L++[(w,.dict kvs),(as,.list (xs.map .ref))]),J,J,kP CG CR CS CA g (l.map (·.2)),?_,λ Z h=>h,dI.refl _ _,.inst (.head _) (.cons (.refl _) (.cons (.list (.tail _ (ax _ (.tail _ (.head _)))) ?_) .nil)),⟨_,rfl,⟨?_,λ j s hs=>?_⟩,?_⟩,rfl⟩
  ·exact congrArg ((y,MO.inst CA dy [("grammar",gv),("states",V.ref as)])::·) (bW (gq CS L) [(w,MO.dict kvs),(as,MO.list (xs.map V.ref))] J).symm
  ·rw[ZM,bu];refine w_ λ p hp=>?_;rw[hl]at hp;obtain ⟨j,S,rfl⟩:=aC.mp hp;rw[bP]at S;exact ⟨(gS L j).dx,(gS L j).am,.tail _ (jM (CX S _)),.tail _ (jM (IG S _))⟩
  ·rw[au,UD,<-e,<-D.len,e]
  ·obtain ⟨S,rfl⟩:=XX j s hs;have hd:=D.done j (re S e);rw[au,UD,<-e];exact ⟨rfl,by rw[<-D.Sv j S];rfl,hd.items,hd.moves,hd.Rq.1,hd.Rq.2,hd.Rp⟩
  ·rw[au,UD];exact N
end
section
variable{f:aG}
theorem EY(B:D3 G CG CR CS CA)(Yy:Fn G "build_canonical" "build_canonical" (top 25) ["grammar","most"] [.nat 2000])(g:Gr)(e:de g)(b:0<g.rules.length)(c:∀n,(d2 g n).length<=2000):
 cF G (d+5) (.ref Yy.f) [g.v CG CR] J (λ v J'=>(∃bz,v=kP CG CR CS CA g bz/\c2 g bz/\bz.length<=2000)/\J'=J):=
 di Yy.y _ _ _ rfl λ O I=>nu B g e b 2000 (by decide) (aT _) I (E0:=dP) (E1:=dP) (E2:=dP) (λ Z Z h=>h.elim) (λ Z Z h=>h.elim) λ a=>by refine ze a λ n h=>?_;exact absurd (c n) (pe.mpr h)
end
noncomputable abbrev Pr:=Str×List Str
variable{ps R pairs:List Pr}
noncomputable def pV(p:Pr):V:=.tup [.str p.1,.list (p.2.map .str)]
noncomputable def fV(l:List Str)(x:Str):List Str:=if l.any (· ==x)=aj then l else l++[x]
noncomputable def ba(pairs:List Pr):List Str:=pairs.foldl (λ l p=>fV l p.1) []
noncomputable def jw(R6:List Str)(acc:List Str)(x:Str):List Str:=if R6.any (· ==x)=aj then acc else fV acc x
noncomputable def iQ:List Str:=["$end","error","$undefined"]
noncomputable def jJ(R6:List Str)(pairs:List Pr):List Str:=pairs.foldl (λ acc p=>p.2.foldl (jw R6) acc) iQ
noncomputable def cf(pairs:List Pr):List Str:=jJ (ba pairs) pairs++[bo "$accept"]++ba pairs
noncomputable def n7(pairs:List Pr)(x:Str):Nat:=(cf pairs).idxOf x
noncomputable def vl(pairs:List Pr):Nat:=(jJ (ba pairs) pairs).length
noncomputable def sA(pairs:List Pr)(p:Pr):Ru:=⟨n7 pairs p.1,p.2.map (n7 pairs),tj (vl pairs) (p.2.map (n7 pairs))⟩
noncomputable def bZ(pairs:List Pr):Gr:=⟨cf pairs,vl pairs,n7 pairs ((ba pairs).getD 0 ""),⟨vl pairs,[n7 pairs ((ba pairs).getD 0 ""),0],0⟩::pairs.map (sA pairs)⟩
structure F9(pairs:List Pr):Prop where
 ne:0<pairs.length
 len:pairs.length<=10
 left:∀p∈pairs,p.1∈(["s","a","b"]:List Str)
 right:∀p∈pairs,p.2.length<=3
noncomputable abbrev Gl(G:GC)(x:Str)(v:V):Prop:=∃u,mM G.K b8 x=ah (ah u)/\VR G.w.params (λ b o=>G.K.lookup b=ah o) u v
theorem fN(f:β->α->β)(b:β){l:List α}{i:Nat}(hi:i<l.length)(d:α):(l.take (i+1)).foldl f b=f ((l.take i).foldl f b) (l.getD i d):=by simp only[aS hi,fm,e8 hi];rfl
theorem wE(l:List Str)(x:Str):(fV l x).length<=l.length+1:=by unfold fV;split<;>simp
theorem o0(f:List Str->α->List Str)(k:Nat)(a:∀l x,(f l x).length<=l.length+k):∀(xs:List α) (l:List Str),(xs.foldl f l).length<=l.length+k*xs.length:=by
 intro xs;induction xs with
 |nil=>intro l;simp
 |cons x xs b=>intro l;simp only[c6,bj,pW];exact J3 (b (f l x)) (a l x)
theorem wD(ls l:List Str)(x:Str):(jw ls l x).length<=l.length+1:=by unfold jw;split;{exact b3 _ _};{exact wE l x}
theorem mx(pairs:List Pr):(ba pairs).length<=pairs.length:=by unfold ba;simpa using (o0 (λ l (p:Pr)=>fV l p.1) 1 (λ l p=>wE l p.1) pairs [])
section
variable{f:aG}
theorem gl(I:f_ O G d T)(i:Nat){x:Str}{v:V}(F:Gl G x v){Q:V->St->Prop}(h:Q v Y)(hi:autoParam (∀n,(T n)[i]? =ah (x,.glob)) rf)(hd:autoParam (iS x=aj) rf):XV O Ex (bw (.Name x pos) O.env) Q Y:=
 HL i I.ok (I.at i hi) (by rw[I.g];exact F.choose_spec.1) hd (by unfold FC.P;rw[I.g];exact F.choose_spec.2) h
structure NW(G:GC)(CG CR:aG):Prop extends Cmn G CG CR where
 Xk:∀x∈(["number","left","right","level_of","action","line","before"]:List Str),iN G.K CR x=aj
 setG:∀x∈(["names","terminal_count","rules","levels","expect","start","by_left","offsets","owners","item_count"]:List Str),iN G.K CG x=aj
 rule:Ja G "Rule" CR "Rule.__init__" (mem 8 0) ["self","number","left","right","level_of","action","line","before"] [.none,.int 0,.int 0]
 T9:Ja G "Grammar" CG "Grammar.__init__" (mem 9 0) ["self","names","terminal_count","rules","levels","expect","start"] []
 Sg:Fn G "last_terminal" "last_terminal" (top 12) ["right","terminal_count"] []
 own:Gl G "OWN_TERMINALS" (.tup (iQ.map .str))
 Wl:Gl G "END" (.nat 0)
theorem qR(B:NW G CG CR)(n:Nat)(r:Ru):cF G (d+2) (.ref CR) [.nat n,.nat r.left,.tup (r.right.map .nat),.int r.lv] [] (λ v J'=>v=zG CR (r,n)/\J'=[]):=by
 have h:cF G (d+2) (.ref CR) [.nat n,.nat r.left,.tup (r.right.map .nat),.int r.lv] [] (λ v J'=>∃x a,v=.ref x/\J'=[(x,.inst CR a [("number",.nat n),("left",.nat r.left),("right",.tup (r.right.map .nat)),("level_of",.int r.lv),("action",.none),("line",.int 0),("before",.int 0)])]):=
  n4 B.rule.p.made B.rule.p.i B.rule.p.t λ x a=>(vC (d:=d) B.Xk B.rule.p.y x a n r).mono (aT _) λ v J' e=>by refine za e λ c f=>?_;exact ⟨c,x,a,rfl,f⟩
 refine h.frozen λ v J' g=>hQ g λ x a c f=>?_;cases c;subst f;exact ⟨_,[],[],zG CR (r,n),(cJ _).symm,λ b i=>(nomatch i),.nil,.inst (.head _) (JT _ _),rfl,rfl⟩
theorem xd(B:NW G CG CR)(g:Gr)(hz:Small g)(a:∀r∈g.rules,r.left<g.names.length)(b:aG):cF G (d+2) (.ref CG) [.list (g.names.map .str),.nat g.tc,.ref b,.dict [],.none,.nat g.start] [(b,.list (g.Rx CR))]
 (λ v J'=>∃x c,v=.ref x/\J'=[(x,.inst CG c (g.Tv (.ref b) (.list g.UN) (.list (g.RA.map .nat)) (.list (g.owners.map .nat)))),(b,.list (g.Rx CR))]):=
 n4 B.T9.p.made B.T9.p.i B.T9.p.t λ x c=>(vG (d:=d) B.setG B.F B.len B.T9.p.y g hz a x c b (.head _)).mono (aT _) λ v J' e=>by refine za e λ f h=>?_;exact ⟨f,x,c,rfl,h⟩
theorem va(pairs:List Pr)(a:O.A.handled=ai):i7 O O.A (.list (pairs.map pV)) pairs.length (λ i=>.tup [.str (pairs.getD i ("",[])).1,.list ((pairs.getD i ("",[])).2.map .str)]) (λ Z=>True) Y:=lF pV pairs ("",[]) a
theorem EW(B:NW G CG CR)(Yy:Fn G "plain_grammar" "plain_grammar" (top 13) ["pairs","start"] [.none])(pairs:List Pr)(hp:F9 pairs)(hs:Small (bZ pairs))(U:∀p∈pairs,p.1∈cf pairs/\∀x∈p.2,x∈cf pairs)(k:0<(ba pairs).length):
 cF G (d+3) (.ref Yy.f) [.list (pairs.map pV)] J (λ v J'=>v=(bZ pairs).v CG CR/\J'=J):=by
 refine l7 Yy.y _ _ _ rfl λ O I Oo=>?_;have w:=hp.len;let F:V:=.list (pairs.map pV)
 have Q:=mx pairs;refine aB<|sl I 2<|eC I.ok<|cz ⟨bg _,λ al=>?_⟩;let Um:List Str×List (Option V)->St:=λ a=>⟨[ah F,ah .none,ah (.ref al),ov a.2 0,ov a.2 1,ai,ai,ai,ai,ai,ai,ai,ai,ai,ai,ai,ai,ai,ai,ai],(al,.list (a.1.map .str))::J⟩
 let VL:Nat->List Str×List (Option V)->Prop:=λ i a=>a.1=ba (pairs.take i)
 refine aB<|iL Um VL<|nl I 0 rfl ⟨_,_,_,va pairs I.ok.hand,([],[]),rfl,rfl,λ Z Z Z Z=>trivial,λ i a hi c=>?_,λ a c=>?_⟩
 ·obtain ⟨ls,o⟩:=a;have c:ls=ba (pairs.take i):=c;have S:ba (pairs.take (i+1))=fV ls (pairs.getD i ("",[])).1:=by rw[c];exact fN _ _ hi ("",[])
  have hl:ls.length<=2^20:=by have:=mx (pairs.take i);rw[bb]at this;rw[c];exact L2 this w
  have T:=hp.left _ (bd hi ("",[]));have YD:(pairs.getD i ("",[])).1.length=1/\((pairs.getD i ("",[])).1==("error":Str))=ao/\(["","$","'"]:List Str).any (· ==(pairs.getD i ("",[])).1)=ao:=by
   generalize (pairs.getD i ("",[])).1=x at T ⊢;rcases aI.mp T with e|T
   ·subst e;decide+kernel
   ·rcases aI.mp T with e|T
    ·subst e;decide+kernel
    ·rw[aE.mp T];decide+kernel
  generalize pairs.getD i ("",[])=p at S YD ⊢;refine jA YD λ h1 h2 h3=>?_;refine AD I<|Mine.al I 3<|Mine.al I 4 ?_;refine aB<|e4<|na<|tq<|nl I 3 rfl<|c4<|Cd ⟨_,rfl,fX h2<|na<|tq<|me<|nl I 3 rfl<|oW<|oV<|dN ⟨⟨_,.str⟩,EP h1 ?_⟩⟩;refine p9 (an<|c4<|an<|c4<|a1<|c4 ⟨by rw[dE];decide,Io (xs:=["","$","'"]) ⟨_,rfl,fX h3<|jq<|fX rfl<|bm ?_⟩⟩);refine aB<|e4<|tq<|nl I 3 rfl<|nl I 2 rfl<|n0 (.led 0 rfl) ⟨_,rfl,?_⟩;unfold fV at S;cases hc:ls.any (· ==p.1)with
  |true=>exact fX rfl<|bm<|bm ⟨(ls,[_,_]),rfl,by show ls=_;rw[S,if_pos hc]⟩
  |false=>exact iD rfl<|aB<|xe I<|gj I<|nl I 2 rfl ⟨al,_,0,rfl,rfl,nl I 3 rfl<|uL Str 0 rfl hl rfl<|bm<|bm ⟨(ls++[p.1],[_,_]),rfl,by show ls++[p.1]=_;rw[S,if_neg (by rw[hc];decide)]⟩⟩
 obtain ⟨ls,o⟩:=a;have c:ls=ba (pairs.take pairs.length):=c;rw[a0]at c;refine ze (show ∃l,l=ba pairs from ⟨_,rfl⟩) λ ls' A=>?_;rw[<-A]at c Q k;subst c;have V2:ls.length<=2^20:=GM Q w;have YV:ls.any (· ==ls.getD 0 "")=aj:=dM.mpr ⟨_,bd k "",by rw[beq_iff_eq]⟩;refine ze (show ∃b,ls.getD 0 ""=b from ⟨_,rfl⟩) λ n K=>?_;refine aB<|sl I 5<|mh<|na<|tq<|nl I 1 rfl<|Bj<|vS ⟨_,rfl,fX rfl<|na<|tq<|nl I 2 rfl<|f5 (cz ⟨bg _,Ce I.ok (.led 0 rfl) .frozen (λ x hx=>by refine b5 (aC.mp hx) λ y Z TC=>?_;subst TC;rfl) (λ x hx=>(nomatch hx)) ⟨_,rfl,fX (iy λ e=>by cases ls with|nil=>cases k|cons a l=>cases e)<|jq<|fX rfl<|sb<|nl I 2 rfl<|xn 0<|rH V.str 0 K rfl k (by decide) ?_⟩⟩)⟩
 rw[K]at YV;refine aB<|e4<|tq<|nl I 5 rfl<|nl I 2 rfl<|n0 (.led 0 rfl) ⟨_,rfl,fX (by rw[YV];rfl)<|bm ?_⟩;refine aB<|DZ I Oo 6<|cb I 12 B.list<|a1<|gl I 13 B.own<|FW I.ok (by simp[iQ])<|.M λ g=>?_;let TF:List Str×List (Option V)->St:=λ a=>⟨[ah F,ah .none,ah (.ref al),ov a.2 0,ov a.2 1,ah (.str n),ah (.ref g),ov a.2 2,ai,ai,ai,ai,ai,ai,ai,ai,ai,ai,ai,ai],(g,.list (a.1.map .str))::(al,.list (ls.map .str))::J⟩
 let C:List Str->Pr->List Str:=λ acc p=>p.2.foldl (jw ls) acc
 let Ul:Nat->List Str×List (Option V)->Prop:=λ i a=>a.1=(pairs.take i).foldl C iQ
 have Z8:∀i,((pairs.take i).foldl C iQ).length<=3+3*i\/True:=λ Z=>.inr trivial;have YY:∀(xs:List Pr),(∀p∈xs,p.2.length<=3)->∀l:List Str,(xs.foldl C l).length<=l.length+3*xs.length:=λ xs=>by
  induction xs with
  |nil=>intro _ l;exact aT _
  |cons p xs ih=>intro h l;have h4:(C l p).length<=l.length+1*p.2.length:=(o0 (jw ls) 1 (wD ls) p.2 l);rw[c6,bj];exact L1 (ih (λ q hq=>h q (.tail _ hq)) (C l p)) h4 (h p (.head _))
 have M:∀i,((pairs.take i).foldl C iQ).length<=33:=λ i=>by have:=YY (pairs.take i) (λ p hq=>hp.right p (cG hq)) iQ;rw[bb]at this;exact L0 this rfl w
 refine aB<|iL TF Ul<|nl I 0 rfl ⟨_,_,_,va pairs I.ok.hand,(iQ,[ov o 0,ov o 1,ai]),rfl,rfl,λ Z Z Z Z=>trivial,λ i a hi c=>?_,λ a c=>?_⟩
 ·obtain ⟨acc,o⟩:=a;have c:acc=(pairs.take i).foldl C iQ:=c;have Wd:acc.length<=33:=by rw[c];exact M i
  have t:=hp.right _ (bd hi ("",[]));show XA _ _ _ _ (ql _ _ _ (oz _ (At TF (λ a=>a.1=(pairs.take (i+1)).foldl C iQ)))) _;rw[(show (pairs.take (i+1)).foldl C iQ=C acc (pairs.getD i ("",[]))from by rw[c];exact fN _ _ hi ("",[]))];generalize pairs.getD i ("",[])=p at t ⊢;let Vy:List Str×List (Option V)->St:=λ a=>⟨[ah F,ah .none,ah (.ref al),ah (.str p.1),ah (.list (p.2.map .str)),ah (.str n),ah (.ref g),ov a.2 0,ai,ai,ai,ai,ai,ai,ai,ai,ai,ai,ai,ai],(g,.list (a.1.map .str))::(al,.list (ls.map .str))::J⟩
  let Ws:Nat->List Str×List (Option V)->Prop:=λ j a=>a.1=(p.2.take j).foldl (jw ls) acc
  refine AD I<|Mine.al I 3<|Mine.al I 4<|aB<|iL Vy Ws<|nl I 4 rfl ⟨_,_,_,lF V.str p.2 "" I.ok.hand,(acc,[ov o 2]),rfl,rfl,λ Z Z Z Z=>trivial,λ j b hj E=>?_,λ b E=>?_⟩
  ·obtain ⟨ac,o3⟩:=b;have E:ac=(p.2.take j).foldl (jw ls) acc:=E;have S:(p.2.take (j+1)).foldl (jw ls) acc=jw ls ac (p.2.getD j ""):=by rw[E];exact fN _ _ hj ""
   have Z6:ac.length<=2^20:=by have:=o0 (jw ls) 1 (wD ls) (p.2.take j) acc;rw[bb]at this;rw[E];exact LZ this Wd t
   show XA _ _ _ _ (ql _ _ _ (oz _ (At Vy (λ a=>a.1=(p.2.take (j+1)).foldl (jw ls) acc)))) _;rw[S];generalize p.2.getD j ""=x;refine Mine.al I 7<|aB<|e4<|lx<|tq<|nl I 7 rfl<|nl I 2 rfl<|n0 (.led 1 rfl) ⟨_,rfl,?_⟩;unfold jw;cases h1:ls.any (· ==x)with
   |true=>exact fX rfl<|fX rfl<|bm<|bm ⟨(ac,[_]),rfl,by show ac=_;rw[if_pos rfl]⟩
   |false=>
    refine iD rfl<|lx<|tq<|nl I 7 rfl<|nc I 6 rfl<|n0 (.led 0 rfl) ⟨_,rfl,?_⟩;unfold fV;cases h2:ac.any (· ==x)with
    |true=>exact fX rfl<|fX rfl<|bm<|bm ⟨(ac,[_]),rfl,by show ac=_;rw[if_neg (by decide),if_pos rfl]⟩
    |false=>exact iD rfl<|ji<|iD rfl<|aB<|xe I<|gj I<|nc I 6 rfl ⟨g,_,0,rfl,rfl,nl I 7 rfl<|uL Str 0 rfl Z6 rfl<|bm<|bm ⟨(ac++[x],[_]),rfl,by show ac++[x]=_;rw[if_neg (by decide),if_neg (by decide)]⟩⟩
  ·obtain ⟨ac,o3⟩:=b;have E:ac=(p.2.take p.2.length).foldl (jw ls) acc:=E;rw[a0]at E;exact bm ⟨(ac,[_,_,_]),rfl,E⟩
 obtain ⟨u,o⟩:=a;have c:u=(pairs.take pairs.length).foldl C iQ:=c;have XE:u.length<=33:=by rw[c];exact M _
 rw[a0]at c;have Yq:u=jJ (ba pairs) pairs:=by rw[c,<-A];rfl
 have en:(u.map V.str++[.str "$accept"])++ls.map V.str=(cf pairs).map V.str:=by unfold cf;rw[Yq,aK,aK,A];rfl
 have Yr:u.length=vl pairs:=by rw[Yq];rfl
 refine aB<|sl I 8<|cb I 14 B.len<|a1<|nc I 6 rfl<|rT 0 Yr rfl (aR ‹_› (by decide)) ?_;have hA:(u.map V.str).length+[V.str "$accept"].length<=2^20:=by rw[au];show u.length+1<=_;exact aR ‹_› (by decide)
 have hB:(u.map V.str++[V.str "$accept"]).length+(ls.map V.str).length<=2^20:=by rw[aF,au,au];show u.length+1+_<=_;exact LY XE Q w
 refine aB<|DZ I Oo 6<|bx<|bx<|nc I 6 rfl<|l1<|c4<|ng I.ok (.led 0 rfl) .frozen hA<|.F<|nl I 2 rfl<|ng I.ok .frozen (.led 1 rfl) hB<|.F ?_;rw[en];clear en Z8 YY M;have L:(cf pairs).length<2^60:=bD hs.names (by decide);have YU:n∈cf pairs:=by unfold cf;rw[<-K,<-A];exact ax _ (bd k "")
 have YN:n7 pairs ((ba pairs).getD 0 "")=n7 pairs n:=by rw[<-A,K]
 let Yo:V:=.list ((cf pairs).map .str)
 let H:List (Ru×Nat):=(bZ pairs).rules.zipIdx
 have R:H.length=pairs.length+1:=by show (bZ pairs).rules.zipIdx.length=_;rw[f1,(show (bZ pairs).rules.length=pairs.length+1 by show (_::pairs.map _).length=_;rw[bj,au])]
 have ZC:∀i (hi:i<pairs.length),H.take (i+1+1)=H.take (i+1)++[(sA pairs (pairs.getD i ("",[])),i+1)]:=λ i hi=>by
  rw[aS (LX hi R)];congr 2
  rw[e8 hi];show ((bZ pairs).rules.zipIdx)[i+1]'_=_;rw[List.getElem_zipIdx];refine lA ?_ (by simp);show (pairs.map (sA pairs))[i]'(by simpa using hi)=sA pairs pairs[i];exact bY _
 refine aB<|sl I 9<|eC I.ok<|a1<|ck I 15 B.rule<|an<|xn 0<|an<|nl I 8 rfl<|an<|t2<|mb I PySem.F.plainAttrs_list PySem.F.slot_list_index PySem.F.type_list_index<|nc I 6 rfl ⟨.list .frozen,a1<|nl I 5 rfl<|oj .frozen YU L<|gl I 16 B.Wl<|a1<|gl I 16 B.Wl<|iA I (qR (d:=d) B 0 ⟨vl pairs,[n7 pairs n,0],0⟩) td ⟨by rw[dE];exact aP rfl,λ N=>?_⟩⟩;let W:List (Ru×Nat)×List (Option V)->St:=λ a=>⟨[ah F,ah .none,ah (.ref al),ov a.2 0,ov a.2 1,ah (.str n),ah Yo,ov a.2 2,ah (.nat (vl pairs)),ah (.ref N),ov a.2 3,ai,ai,ai,ai,ai,ai,ai,ai,ai],(N,.list (a.1.map (zG CR)))::(g,.list (u.map .str))::(al,.list (ls.map .str))::J⟩
 let Yi:Nat->List (Ru×Nat)×List (Option V)->Prop:=λ i a=>a.1=H.take (i+1)
 refine aB<|iL W Yi<|nl I 0 rfl ⟨_,_,_,va pairs I.ok.hand,(H.take 1,[ov o 0,ov o 1,ov o 2,ai]),by rw[(show H.take 1=[(⟨vl pairs,[n7 pairs n,0],0⟩,0)] by show [(_,0)]=_;rw[YN])];rfl,rfl,λ Z Z Z Z=>trivial,λ i a hi c=>?_,λ a c=>?_⟩
 ·obtain ⟨rs,o⟩:=a;have c:rs=H.take (i+1):=c;have z:rs.length=i+1:=by rw[c,bb];exact LW hi R
  refine za (U _ (bd hi ("",[]))) λ US Y=>?_;have t:=hp.right _ (bd hi ("",[]));show XA _ _ _ _ (ql _ _ _ (oz _ (At W (λ a=>a.1=H.take (i+1+1))))) _;rw[ZC i hi,<-c];generalize pairs.getD i ("",[])=p at US Y t ⊢;refine AD I<|Mine.al I 3<|Mine.al I 4<|aB<|sl I 10<|cb I 17 B.tup<|a1<|lc I<|nl I 4 rfl ⟨_,_,_,lF V.str p.2 "" I.ok.hand,aA t (by decide),(λ i s acc m=>∃o,s=[ai,o,ah Yo]/\acc=((p.2.take i).map (n7 pairs)).map .nat/\m=(N,.list (rs.map (zG CR)))::(g,.list (u.map .str))::(al,.list (ls.map .str))::J),⟨_,oi I,rfl,rfl⟩,?_,?_,?_⟩
  ·rintro i s acc m hi ⟨o,rfl,rfl,rfl⟩;exact ⟨by rw[au,au,bb];exact ra,λ Z=>trivial⟩
  ·rintro O' C' i s acc m D hi ⟨o,rfl,rfl,rfl⟩;have I':=C'.S7 I;rw[aS hi,<-e8 hi ""];refine Mine.al I' 1<|gy<|mb I' PySem.F.plainAttrs_list PySem.F.slot_list_index PySem.F.type_list_index<|nc I' 2 rfl ⟨.list .frozen,a1<|nl I' 1 rfl<|oj .frozen (Y _ (bd hi "")) L ⟨[],rfl,_,rfl,?_,rfl⟩⟩;rw[aK,aK];rfl
  ·rintro s acc m ⟨o,rfl,rfl,rfl⟩;rw[a0];refine .F<|rS .frozen (by rw[au,au];exact aA t (by decide)) ?_;refine aB<|xe I<|gj I<|nl I 9 rfl ⟨N,_,0,rfl,rfl,ck I 15 B.rule<|an<|cb I 14 B.len<|a1<|nl I 9 rfl<|rT 0 z rfl (by rw[z];exact LU hi w)<|an<|mb I PySem.F.plainAttrs_list PySem.F.slot_list_index PySem.F.type_list_index<|nc I 6 rfl ⟨.list .frozen,a1<|nl I 3 rfl<|oj .frozen US L<|an<|nl I 10 rfl<|a1<|cg I 18 B.Sg<|an<|nl I 10 rfl<|a1<|nl I 8 rfl<|iA I (pP (d:=d) (J:=[]) B.Sg.y (p.2.map (n7 pairs)) (vl pairs)) yB<|iA I (qR (d:=d) B (i+1) (sA pairs p)) td ?_⟩⟩;exact uL (Ru×Nat) (f:=zG CR) (x:=(sA pairs p,i+1)) 0 rfl (by rw[z];exact LS hi w) rfl<|bm ⟨(rs++[(sA pairs p,i+1)],[_,_,_,_]),rfl,rfl⟩
 obtain ⟨rs,o⟩:=a;have c:rs=H.take (pairs.length+1):=c;rw[<-R,a0]at c;subst c;have P:∀r∈(bZ pairs).rules,r.left<(bZ pairs).names.length:=λ r hr=>by
  rcases aI.mp hr with e|hr
  ·subst e;show (jJ (ba pairs) pairs).length<(cf pairs).length;unfold cf;rw[aF,aF,cM];exact b3 _ _
  ·refine b5 (aC.mp hr) λ p ZF SH=>?_;subst SH;exact sL (U p ZF).1
 refine aB<|dF<|ck I 19 B.T9<|an<|nc I 6 rfl<|an<|nl I 8 rfl<|an<|nl I 9 rfl<|an<|qD I.ok<|an<|Bj<|a1<|mb I PySem.F.plainAttrs_list PySem.F.slot_list_index PySem.F.type_list_index<|nc I 6 rfl ⟨.list .frozen,a1<|nl I 5 rfl<|oj .frozen YU L ?_⟩;have X:=xd (d:=d) B (bZ pairs) hs P N;rw[(show (bZ pairs).start=n7 pairs n from YN)]at X;refine sp I ((g,.list (u.map .str))::(al,.list (ls.map .str))::J) X td rfl λ v J' zf=>hQ zf λ x dx e1 e2=>?_;subst e1;subst e2;refine ⟨[(x,.inst CG dx ((bZ pairs).Tv (.ref N) (.list (bZ pairs).UN) (.list ((bZ pairs).RA.map .nat)) (.list ((bZ pairs).owners.map .nat)))),(N,.list ((bZ pairs).Rx CR)),(g,.list (u.map .str)),(al,.list (ls.map .str))],J,J,(bZ pairs).v CG CR,rfl,λ Z h=>h,dI.refl _ _,.inst (.head _) ?_,rfl,rfl⟩;exact .cons (.refl _)<|.cons (.refl _)<|.cons (.list (.tail _ (.head _)) (RE.refl _ _))<|.cons (.refl _)<|.cons (.refl _)<|.cons (.refl _)<|.cons (.refl _)<|.cons (.refl _)<|.cons (.refl _)<|.cons (.refl _) .nil
end
noncomputable def xC(k:Nat×Nat)(v:Nat):List ((Nat×Nat)×Nat)->List ((Nat×Nat)×Nat)
 |[]=>[(k,v)]
 |p::r=>if p.1=k then (p.1,v)::r else p::xC k v r
theorem Nf{k:Nat×Nat}{v:Nat}:xC k v []=([(k,v)]):=rfl
theorem Hf{k:Nat×Nat}{v:Nat}{p r}:xC k v (p::r)=(if p.1=k then (p.1,v)::r else p::xC k v r):=rfl
theorem ta{x y:Nat×Nat}(h:du x=du y):x=y:=by unfold du at h;simp at h;exact lA (GR h) (GQ h)
noncomputable def pw(l:List ((Nat×Nat)×Nat)):List (V×V):=l.map λ p=>(du p.1,.nat p.2)
theorem Fq(k:Nat×Nat)(v:Nat):∀l,iw (du k) (.nat v) (pw l)=pw (xC k v l):=by
 intro l;induction l with
 |nil=>exact rfl
 |cons p r a=>
  unfold pw at*;rw[be];dsimp only[sO,nM];rw[Hf];by_cases e:p.1=k
  ·rw[if_pos e,if_pos (by simp only[f6];exact congrArg du e)];rfl
  ·rw[if_neg e,if_neg (by simp only[f6];exact λ h=>e (ta h)),a];rfl
theorem vZ{k:Nat×Nat}{v:Nat}:∀{l:List ((Nat×Nat)×Nat)},k∉l.map (·.1)->xC k v l=l++[(k,v)]:=by
 intro l;induction l with
 |nil=>intro Z;exact rfl
 |cons p l a=>intro h;simp only[be,aI,not_or]at h;dsimp only[Nf,Hf];rw[if_neg (Ne.symm h.1),a h.2];rfl
theorem uh(k:Nat×Nat):kk (du k)=3:=rfl
theorem Cr(l:List ((Nat×Nat)×Nat)):(pw l).map (·.1)=(l.map (·.1)).map du:=by unfold pw;(refine bu.trans ?_;rw[bu]);rfl
theorem oX{l:List ((Nat×Nat)×Nat)}(nd:(l.map (·.1)).Nodup):((pw l).map (·.1)).Nodup:=by rw[Cr,aO,bU];exact (aO.mp nd).imp λ h e=>h (ta e)
theorem zW{l:List ((Nat×Nat)×Nat)}(k:Nat×Nat)(nd:(l.map (·.1)).Nodup):f9 (du k) (pw l):=
 ⟨by (dsimp only[uh]);decide,λ p b=>by refine b5 (aC.mp b) λ q Z a=>?_;subst a;rfl,oX nd⟩
theorem dR{x:α}(h:l[j]? =ah x):l.take (j+1)=l.take j++[x]:=by simp only[List.take_add_one,h];rfl
noncomputable def fi(s:fD):List ((Nat×Nat)×Nat):=s.Rq.map λ r=>((s.number,r),(s.Rp.lookup r).getD 0)
structure sG(bz:List fD):Prop where
 len:bz.length<=2000
 num:∀(j:Nat) (s:fD),bz[j]? =ah s->s.number=j
 nd:∀s∈bz,(s.Rp.map (·.1)).Nodup/\s.Rq.Perm (s.Rp.map (·.1))/\s.Rq.length<=60
theorem vY{bz:List fD}(S:sG bz):((bz.flatMap fi).map (·.1)).Nodup:=by
 have d:∀(l:List fD) (n:Nat),(∀j s,l[j]? =ah s->s.number=n+j)->(∀s∈l,s.Rq.Nodup)->((l.flatMap fi).map (·.1)).Nodup/\∀q∈l.flatMap fi,n<=q.1.1:=λ l=>by
  induction l with
  |nil=>intro n _ _;exact ⟨bL,λ q c=>(nomatch c)⟩
  |cons s l z=>
   intro n u hd;refine za (z (n+1) (λ j t h=>by have:=u (j+1) t h;exact LR this) λ t w=>hd t (.tail _ w)) λ A o=>?_;have g:s.number=n:=u 0 s rfl;rw[df,aK,aV];refine ⟨⟨?_,A,λ a y b x e=>?_⟩,λ q c=>?_⟩
   ·dsimp only[fi];simp only[bu,aO,bU];exact (aO.mp (hd s (.head _))).imp λ h e=>h (congrArg Prod.snd e)
   ·refine b5 (aC.mp y) λ p v f=>?_;subst f;refine b5 (aC.mp x) λ q c k=>?_;subst k;refine b5 (aC.mp v) λ r Z i=>?_;subst i;have:=o q c;simp only[<-e]at this;exact absurd ‹_› (fo ‹_›)
   ·rcases aM.mp c with h|h
    ·refine b5 (aC.mp h) λ r Z m=>?_;subst m;show n<=s.number;exact cu (bA ‹_›)
    ·have:=o q h;exact bc ‹_›
 exact (d bz 0 (λ j s h=>by (refine (S.num j s h).trans ?_);exact LQ) λ s g=>(S.nd s g).2.1.nodup_iff.mpr (S.nd s g).1).1
section
variable{f:aG}
theorem sa(I:f_ O G d T)(A:Ge G CS CA)(s:fD){Q:V->St->Prop}(v:V)(h:XV O Ex (bw value O.env) (Nr (s.v CS) v Q) Y)(b:autoParam (s.Si.lookup attr=ah v) rk)(c:autoParam ((["number","kernel","core","symbol","items","moves","reductions","masks"]:List Str).elem attr=aj) rk)(f:autoParam (Jv value attr pos O.env) rf):XV O Ex (bw (.Attribute value attr pos) O.env) Q Y:=fa I (h.mono λ Z Z a=>by obtain ⟨e,q⟩:=a;exact ⟨CS,_,v,e,A.s _ (u4 c),b,q⟩) f
theorem BM{a:aG}{l:List ((Nat×Nat)×Nat)}{k:Nat×Nat}{v:Nat}{m:Mu}{Q:St->Prop}(i:Nat)(ok:O.Ok)(hi:Y.mu[i]? =ah (a,.dict (pw l)))(nd:(l.map (·.1)).Nodup)(hz:l.length<=2^20)(e:Y.mu.set i (a,.dict (pw (xC k v l)))=m)(h:Q ⟨Y.vals,m⟩):
 wI O Ex (.ref a) (du k) (.nat v) Q Y:=jd i ok hi (zW k nd) (by unfold pw;rw[au];exact hz) (by rw[Fq];exact e) h
theorem xf(A:Ge G CS CA)(Yy:Fn G "masks_of" "masks_of" (top 26) ["canonical"] [])(g:Gr)(bz:List fD)(S:sG bz):
 cF G (d+1) (.ref Yy.f) [kP CG CR CS CA g bz] J (λ v J'=>v=.dict (pw (bz.flatMap fi))/\J'=J):=by
 refine di Yy.y _ _ _ rfl λ O I=>?_;have w:=S.len;have C:=vY S;have L:∀n,((bz.take n).flatMap fi).length<=60*n:=λ n=>by
  have:∀l:List fD,(∀s∈l,s.Rq.length<=60)->(l.flatMap fi).length<=60*l.length:=λ l=>by
   induction l with
   |nil=>intro _;exact aT _
   |cons s l Q=>intro h;rw[df,aF,bj];have N:=Q λ t B=>h t (.tail _ B);unfold fi at N ⊢;rw[au];exact LP (h s (.head _)) N
  have h:=this (bz.take n) λ s R=>(S.nd s (cG R)).2.2;rw[bb]at h;exact LO h
 let P:V:=kP CG CR CS CA g bz
 refine aB<|sl I 1<|hV I.ok λ af=>?_;let q:List ((Nat×Nat)×Nat)×List (Option V)->St:=λ a=>⟨[ah P,ah (.ref af),ov a.2 0,ov a.2 1],(af,.dict (pw a.1))::J⟩
 let H:Nat->List ((Nat×Nat)×Nat)×List (Option V)->Prop:=λ i a=>a.1=(bz.take i).flatMap fi
 refine aB<|iL q H<|fa I<|nl I 0 rfl ⟨CA,mP CG CR CS g bz,.list (bz.map (fD.v CS)),rfl,A.a _ (by decide+kernel),by kernel_rfl,_,_,_,lF (fD.v CS) bz ⟨0,[],0,[],[],[],[]⟩ I.ok.hand,([],[]),rfl,rfl,λ Z Z Z Z=>trivial,λ i a hi e=>?_,λ a e=>?_⟩
 ·obtain ⟨l,o⟩:=a;have e:l=(bz.take i).flatMap fi:=e;have B:(bz.take (i+1)).flatMap fi=l++fi (bz.getD i ⟨0,[],0,[],[],[],[]⟩):=by rw[aS hi,dX,e,e8 hi];simp
  have hS:=S.nd _ (bd hi ⟨0,[],0,[],[],[],[]⟩);have M:=L i;rw[<-e]at M;have f:((l++fi (bz.getD i ⟨0,[],0,[],[],[],[]⟩)).map (·.1)).Nodup:=by
   rw[<-B];refine C.sublist ?_
   conv=>rhs;rw[<-c_ (i+1) bz,dX,aK]
   exact u3 _ _
  show XA _ _ _ _ (ql _ _ _ (oz _ (At q (λ a=>a.1=(bz.take (i+1)).flatMap fi)))) _;rw[B];generalize bz.getD i ⟨0,[],0,[],[],[],[]⟩=s at hS f ⊢;refine jA hS λ U D K=>?_;let u:List ((Nat×Nat)×Nat)×List (Option V)->St:=λ a=>⟨[ah P,ah (.ref af),ah (s.v CS),ov a.2 0],(af,.dict (pw a.1))::J⟩
  let F:Nat->List ((Nat×Nat)×Nat)×List (Option V)->Prop:=λ j a=>a.1=l++(fi s).take j
  have y:(fi s).length=s.Rq.length:=au ..;refine Mine.al I 2<|aB<|iL u F<|sa I A s (.list (s.Rq.map .nat))<|nl I 2 rfl ⟨rfl,_,_,_,lF V.nat s.Rq 0 I.ok.hand,(l,[ov o 1]),rfl,(cJ _).symm,λ Z Z Z Z=>trivial,λ j b E c=>?_,λ b c=>?_⟩
  ·obtain ⟨l',T⟩:=b;have c:l'=l++(fi s).take j:=c;have z:s.Rq.getD j 0∈s.Rp.map (·.1):=D.mem_iff.mp (bd E 0);refine ze (eQ.mpr z) λ m z=>?_;have x:(fi s).take (j+1)=(fi s).take j++[((s.number,s.Rq.getD j 0),m)]:=by refine dR ?_;unfold fi;rw[aN,ay E,<-e8 E 0];show ah ((s.number,s.Rq.getD j 0),_)=_;rw[z];rfl
   have p:(l'.map (·.1)).Nodup/\(s.number,s.Rq.getD j 0)∉l'.map (·.1):=by
    have:((l'++[((s.number,s.Rq.getD j 0),m)]).map (·.1)).Nodup:=by rw[c,bW,<-x];exact f.sublist (hJ _ (pM (fj _ _) _))
    rw[aK,aV]at this;exact ⟨this.1,λ h=>this.2.2 _ h _ (.head _) rfl⟩
   show XA _ _ _ _ (ql _ _ _ (oz _ (At u (λ a=>a.1=l++(fi s).take (j+1))))) _;rw[x,<-bW,<-c];generalize s.Rq.getD j 0=r at z p ⊢;exact Mine.al I 3<|aB<|ss<|sb<|sa I A s (.dict (dV s.Rp))<|nl I 2 rfl ⟨rfl,nl I 3 rfl<|uq I.ok U z<|nl I 1 rfl<|t2<|sa I A s (.nat s.number)<|nl I 2 rfl ⟨rfl,nl I 3 rfl<|BM (k:=(s.number,r)) 0 I.ok rfl p.1 (show l'.length<=2^20 by rw[c,aF,bb,y];exact LN M K hi w) (by rw[vZ p.2];rfl)<|bm ⟨(l'++[((s.number,r),m)],[_]),rfl,rfl⟩⟩⟩
  ·obtain ⟨l',T⟩:=b;have c:l'=l++(fi s).take s.Rq.length:=c;rw[<-y,a0]at c;exact bm ⟨(l',[_,_]),rfl,c⟩
 ·obtain ⟨l,o⟩:=a;have e:l=(bz.take bz.length).flatMap fi:=e;rw[a0]at e;subst e;exact aB<|dF<|nl I 1 rfl ⟨[(af,.dict (pw (bz.flatMap fi)))],J,J,_,rfl,λ Z h=>h,dI.refl _ _,.dict (.head _) (s_ _ _),rfl,rfl⟩
end
noncomputable def pu(g:Gr)(s:Nat):Str:=g.names.getD s ""
noncomputable def hW(g:Gr)(r k:Nat):List Str:=(((g.right r).map (pu g)).take k)++bo "."::(((g.right r).map (pu g)).drop k)
noncomputable def sU(g:Gr)(r k:Nat):Str:=pu g (g.left r)++bo " : "++Txt.join (bo " ") (hW g r k)
noncomputable def i_(g:Gr)(i m:Nat):Str:=sU g (g.Ro i) (g.Rt i)++bo "  ["++Txt.join (bo " ") ((dq 0 m).map (pu g))++bo "]"
structure AV(g:Gr):Prop where
 nm:∀x∈g.names,x.length<=20
 rt:∀r,(g.right r).length<=3
theorem n2(h:AV g)(s:Nat):(pu g s).length<=20:=by
 unfold pu;by_cases a:s<g.names.length
 ·exact h.nm _ (bd a "")
 ·rw[aD,bl (bT.mp ‹_›)];exact bg _
theorem tQ(n:Nat):∀(l:List Str),(∀x∈l,x.length<=n)->(l.map (·.length)).sum<=n*l.length:=by
 intro l;induction l with
 |nil=>intro Z;exact bg _
 |cons x l a=>intro h;rw[be,List.sum_cons,bj,pW];exact LM (h x (.head _)) (a λ y b=>h y (.tail _ b))
theorem lY(x:Str):∀(l:List Str),(Txt.join x l).length<=(l.map (·.length)).sum+l.length*x.length:=λ l=>by show (Builtin.Str.glued x l).length<=_;rw[StrLaws.glued_eq_join];exact StrLaws.join_length_le x l
theorem zn(h:AV g)(r k:Nat):(hW g r k).length<=4/\∀x∈hW g r k,x.length<=20:=by
 unfold hW;constructor
 ·have:=h.rt r;simp only[aF,bj,bb,fK,au];exact LL this
 ·intro x d;have b:∀y∈(g.right r).map (pu g),y.length<=20:=λ y c=>by refine b5 (aC.mp c) λ s Z a=>?_;subst a;exact n2 h s
  rcases aM.mp d with q|q
  ·exact b x (cG q)
  ·rcases aI.mp q with e|q
   ·subst e;decide+kernel
   ·exact b x (cC q)
theorem qE(h:AV g)(r k:Nat):((hW g r k).map (·.length)).sum+(hW g r k).length*(bo " ").length<=84:=by refine za (zn h r k) λ a b=>?_;rw[(show (bo " ").length=1 by decide+kernel)];exact GL (tQ 20 _ b) a
theorem zF:(bo " : ").length=3/\(bo "  [").length=3/\(bo "]").length=1/\(bo " ").length=1:=by decide+kernel
theorem zy(h:AV g)(r k:Nat):(sU g r k).length<=107:=by unfold sU;rw[cj,cj,zF.1];exact LK (n2 h (g.left r)) (aA (lY (bo " ") (hW g r k)) (qE h r k))
section
variable{f:aG}
theorem IS{α:Type}{a:aG}{f:α->V}{l:List α}{x:α}{j:Nat}{Q:V->St->Prop}(i:Nat)(ok:O.Ok)(hi:Y.mu[i]? =ah (a,.list (l.map f)))(hz:l.length<=2^20)(b:j<=l.length)(h:Q .none ⟨Y.vals,Y.mu.set i (a,.list ((l.take j++x::l.drop j).map f))⟩):
 cU O Ex (.builtin "list.insert") [.ref a,.nat j,f x] Q Y:=Dr i ok hi (by rw[au];exact hz) (by rw[au];exact b) (by rw[aK,be,g5,oy]at h;exact h)
theorem vy(C:Cmn G CG CR)(Yy:Fn G "show_rule" "show_rule" (top 10) ["grammar","number","dot"] [])(g:Gr)(c:de g)(n:AV g)(r k:Nat)(s:r<g.rules.length)(hk:k<=(g.right r).length):
 cF G (d+1) (.ref Yy.f) [g.v CG CR,.nat r,.nat k] J (λ v J'=>v=.str (sU g r k)/\J'=J):=by
 refine l7 Yy.y _ _ _ rfl λ O I y=>?_;have p:=n.rt r;refine aB<|sl I 3<|sb<|ga I C.F g (.list (g.Rx CR))<|nc I 0 rfl ⟨rfl,nl I 1 rfl<|CN g s c.toSmall ?_⟩;refine aB<|Ng I 4<|rr I C.F g r<|nl I 3 rfl ⟨rfl,_,_,_,JJ V.nat (g.right r) 0 I.ok.hand,aA p (by decide),(λ i a acc m=>∃o,a=[ai,o,ah (g.v CG CR)]/\acc=(((g.right r).take i).map (pu g)).map .str/\m=J),⟨_,oi I,rfl,rfl⟩,?_,?_,?_⟩
 ·rintro i a acc m hi ⟨o,rfl,rfl,rfl⟩;exact ⟨by rw[au,au,bb];exact ra,λ Z=>trivial⟩
 ·rintro O' C' i a acc m D hi ⟨o,rfl,rfl,rfl⟩;have l:=C'.S7 I;have t:=jr c _ (bd hi 0);rw[dR (ay hi),<-e8 hi 0];refine Mine.al l 1<|gy<|sb<|ga l C.F g (.list (g.names.map .str))<|nc l 2 rfl ⟨rfl,nl l 1 rfl<|lZ V.str "" t (gG t c.names) ⟨[],rfl,_,rfl,?_,rfl⟩⟩;rw[aK,aK];rfl
 ·rintro a acc m ⟨o,rfl,rfl,rfl⟩;rw[a0];refine .M λ w=>?_;have b:((g.right r).map (pu g)).length=(g.right r).length:=au ..;have e:=qE n r k;have u:=n2 n (g.left r);have j:=zF.1;have q:=c.left r s;refine aB<|e4<|tq<|nl I 2 rfl<|dN<|Ir ⟨_,rfl,iD (decide_eq_true (by show (0:Int)<=(k:Int);exact bs _))<|aB<|xe I<|mb I PySem.F.plainAttrs_list PySem.F.slot_list_insert PySem.F.type_list_insert<|nl I 4 rfl ⟨.list (.led 0 rfl),an<|nl I 2 rfl<|a1<|c4<|IS (f:=V.str) (x:=bo ".") 0 I.ok rfl (by rw[b];exact aA ‹_› (by decide)) (by rw[b];exact hk)<|bm ?_⟩⟩;refine aB<|dF<|bx<|bx<|sb<|ga I C.F g (.list (g.names.map .str))<|nc I 0 rfl ⟨rfl,rl I C.F g r<|nl I 3 rfl ⟨rfl,lZ V.str "" q.1 (gG q.1 c.names)<|c4<|i5 (by rw[j];show (pu g (g.left r)).length+3<=_;exact GK u)<|mb I PySem.F.plainAttrs_str PySem.F.slot_str_join PySem.F.type_str_join<|c4 ⟨.str,a1<|nl I 4 rfl<|uK (xs:=hW g r k) (.led 0 rfl) (aA e (by decide))<|i5 ?_ ?_⟩⟩⟩
  ·rw[cj,j];show (pu g (g.left r)).length+3+_<=_;exact GJ u (aA (lY (bo " ") (hW g r k)) e)
  ·exact ⟨[(w,.list ((hW g r k).map .str))],m,m,_,rfl,λ Z h=>h,dI.refl _ _,.refl _,rfl,rfl⟩
theorem vz(C:Cmn G CG CR)(b:Fn G "show_rule" "show_rule" (top 10) ["grammar","number","dot"] [])(Yy:Fn G "show_item" "show_item" (top 11) ["grammar","item"] [])(g:Gr)(a:de g)(e:AV g)(i:Nat)(hi:i<g.owners.length):
 cF G (d+2) (.ref Yy.f) [g.v CG CR,.nat i] J (λ v J'=>v=.str (sU g (g.Ro i) (g.Rt i))/\J'=J):=by
 refine di Yy.y _ _ _ rfl λ O I=>?_;have c:=g.item_at hi;exact aB<|dF<|cg I 2 b<|an<|nl I 0 rfl<|an<|gm I C.RH g<|nl I 0 rfl<|og<|a1<|nl I 1 rfl<|iA I (kz (d:=d) C.F C.RH.y g i a.toSmall hi) kD<|a1<|gm I C.R8 g<|nl I 0 rfl<|og<|a1<|nl I 1 rfl<|iA I (nS (d:=d) C.F C.R8.y g i a.toSmall hi) kD<|iA I (vy (d:=d) C b g a e _ _ c.1 c.2.2) kD<|i6 ⟨rfl,rfl⟩
theorem oP(C:Cmn G CG CR)(A:Ge G CS CA)(X:Fn G "show_rule" "show_rule" (top 10) ["grammar","number","dot"] [])(P:Fn G "show_item" "show_item" (top 11) ["grammar","item"] [])(Q:Fn G "bits" "bits" (top 4) ["mask"] [])(Yy:Fn G "show_canonical" "show_canonical" (top 27) ["canonical","number"] [])
 (g:Gr) (N:de g) (L:AV g) (bz:List fD) (j:Nat) (hj:j<bz.length) (M:j<2^62) (s:fD) (E:bz[j]? =ah s) (nd:(s.items.map (·.1)).Nodup) (hi:∀p∈s.items,p.1<g.owners.length) (S:∀p∈s.items,(dq 0 p.2).length<=60/\∀t∈dq 0 p.2,t<g.names.length) (T:s.items.length<=60):
 cF G (d+3) (.ref Yy.f) [kP CG CR CS CA g bz,.nat j] J (λ v J'=>v=.list ((s.items.map λ p=>i_ g p.1 p.2).map .str)/\J'=J):=by
 refine l7 Yy.y _ _ _ rfl λ O I Oo=>?_;let W:V:=kP CG CR CS CA g bz
 refine aB<|DZ I Oo 2<|fa I<|nl I 0 rfl ⟨CA,mP CG CR CS g bz,g.v CG CR,rfl,A.a _ (by decide+kernel),by kernel_rfl,?_⟩;refine aB<|sl I 3<|sb<|fa I<|nl I 0 rfl ⟨CA,mP CG CR CS g bz,.list (bz.map (fD.v CS)),rfl,A.a _ (by decide+kernel),by kernel_rfl,nl I 1 rfl ⟨⟨_,.list .frozen⟩,dQ .frozen (by rw[aN,E];rfl) M ?_⟩⟩;refine aB<|sl I 4<|eC I.ok<|cz ⟨bg _,λ e=>?_⟩;let st:List Str×List (Option V)->St:=λ a=>⟨[ah W,ah (.nat j),ah (g.v CG CR),ah (s.v CS),ah (.ref e),ov a.2 0,ov a.2 1,ov a.2 2,ai,ai],(e,.list (a.1.map .str))::J⟩
 let Y:Nat->List Str×List (Option V)->Prop:=λ i a=>a.1=(s.items.take i).map λ p=>i_ g p.1 p.2
 refine aB<|iL st Y<|sa I A s (.dict (dV s.items))<|nl I 3 rfl ⟨rfl,_,_,_,Bo I.ok.hand nd,([],[]),rfl,rfl,λ Z Z Z Z=>trivial,λ i a c f=>?_,λ a f=>?_⟩
 ·obtain ⟨l,o⟩:=a;have f:l=(s.items.take i).map λ p=>i_ g p.1 p.2:=f;have F:l.length<=2^20:=by rw[f,au,bb];exact LJ T
  have R:(s.items.take (i+1)).map (λ p=>i_ g p.1 p.2)=l++[i_ g (s.items.getD i (0,0)).1 (s.items.getD i (0,0)).2]:=by rw[dR (ay c),<-e8 c (0,0),aK,<-f];rfl
  have z:=g2 nd c;have r:=hi _ (bd c (0,0));refine za (S _ (bd c (0,0))) λ k y=>?_;show XA _ _ _ _ (ql _ _ _ (oz _ (At st (λ a=>a.1=(s.items.take (i+1)).map λ p=>i_ g p.1 p.2)))) _;rw[R];generalize s.items.getD i (0,0)=p at z r k y ⊢;refine Mine.al I 5<|aB<|Ng I 6<|cg I 8 Q<|a1<|sb<|sa I A s (.dict (dV s.items))<|nl I 3 rfl ⟨rfl,nl I 5 rfl<|uq I.ok nd z<|iA I (Ib (d:=d) Q.y p.2 (aR k (by decide))) yB ⟨_,_,_,lF V.nat (dq 0 p.2) 0 I.ok.hand,aA k (by decide),(λ i b acc m=>∃o,b=[ai,o,ah (g.v CG CR)]/\acc=(((dq 0 p.2).take i).map (pu g)).map .str/\m=(e,.list (l.map .str))::J),⟨_,oi I,rfl,rfl⟩,?_,?_,?_⟩⟩
  ·rintro i b acc m hi ⟨o,rfl,rfl,rfl⟩;exact ⟨by rw[au,au,bb];exact ra,λ Z=>trivial⟩
  ·rintro O' C' i b acc m D hi ⟨o,rfl,rfl,rfl⟩;have B:=C'.S7 I;have E:=y _ (bd hi 0);rw[dR (ay hi),<-e8 hi 0];refine Mine.al B 1<|gy<|sb<|ga B C.F g (.list (g.names.map .str))<|nc B 2 rfl ⟨rfl,nl B 1 rfl<|lZ V.str "" E (gG E N.names) ⟨[],rfl,_,rfl,?_,rfl⟩⟩;rw[aK,aK];rfl
  ·rintro b acc m ⟨o,rfl,rfl,rfl⟩;rw[a0];have w:(((dq 0 p.2).map (pu g)).map (·.length)).sum+((dq 0 p.2).map (pu g)).length*(bo " ").length<=1260:=by
    have:=tQ 20 ((dq 0 p.2).map (pu g)) λ x U=>by refine b5 (aC.mp U) λ s Z H=>?_;subst H;exact n2 L s
    rw[au]at this ⊢;rw[zF.2.2.2];exact LI this k
   have u:=aA (lY (bo " ") ((dq 0 p.2).map (pu g))) w;have q:=zy L (g.Ro p.1) (g.Rt p.1);refine w2 zF λ Z n K Z=>?_;refine .F<|aB<|sl I 7<|cg I 9 P<|an<|nc I 2 rfl<|a1<|nl I 5 rfl<|iA I (vz (d:=d) C X P g N L p.1 r) td ?_;refine aB<|xe I<|gj I<|nl I 4 rfl ⟨e,_,0,rfl,rfl,bx<|bx<|bx<|nl I 7 rfl<|c4<|i5 (by rw[n];exact LH q)<|mb I PySem.F.plainAttrs_str PySem.F.slot_str_join PySem.F.type_str_join<|c4 ⟨.str,a1<|nl I 6 rfl<|uK (xs:=(dq 0 p.2).map (pu g)) .frozen (aA w (by decide))<|i5 ?_<|c4<|i5 ?_ ?_⟩⟩
   ·rw[cj,n];exact LG q u
   ·rw[cj,cj,n,K];exact LF q u
   ·exact uL Str (x:=i_ g p.1 p.2) 0 rfl F rfl<|bm ⟨(l++[i_ g p.1 p.2],[_,_,_]),rfl,rfl⟩
 ·obtain ⟨l,o⟩:=a;have f:l=(s.items.take s.items.length).map λ p=>i_ g p.1 p.2:=f;rw[a0]at f;subst f;refine aB<|dF<|nl I 4 rfl ?_;generalize s.items.map (λ p=>i_ g p.1 p.2)=l;exact ⟨[(e,.list (l.map .str))],J,J,.list (l.map .str),rfl,λ Z h=>h,dI.refl _ _,.list (.head _) (RE.refl _ _),rfl,rfl⟩
end
noncomputable abbrev g4:=List (Str×List Str)×List (Str×Bool)
noncomputable def nQ(x n:Str)(st:List (Str×List Str)):List (Str×List Str):=st.map λ p=>if p.1=x then (p.1,fV p.2 n)else p
noncomputable def xQ(x:Str)(em:List (Str×Bool)):List (Str×Bool):=em.map λ p=>if p.1=x then (p.1,aj)else p
noncomputable def qc(x:Str)(a:g4)(n:Str):g4:=if n="" then (a.1,xQ x a.2)else (nQ x n a.1,a.2)
noncomputable def eu(a:g4)(p:Pr):g4:=(ed a.1 a.2 "" [] p.2).foldl (qc p.1) a
noncomputable def oS(pairs:List Pr)(a:g4):g4:=pairs.foldl eu a
noncomputable def f7(pairs:List Pr):Nat->g4
 |0=>((ba pairs).map λ x=>(x,[]),(ba pairs).map λ x=>(x,ao))
 |n+1=>oS pairs (f7 pairs n)
noncomputable def dz(pairs:List Pr):g4:=f7 pairs (pairs.length+1)
noncomputable def vp(st:List (Str×List Str)):List (V×V):=st.map λ p=>(.str p.1,.list (p.2.map .str))
theorem Ry{st:List (Str×List Str)}{em:List (Str×Bool)}:∀(l acc:List Str),x∈ed st em ahead acc l->x∈acc\/x=ahead\/x∈l\/∃p∈st,x∈p.2:=by
 intro l;induction l with
 |nil=>
  intro acc h;skip;rcases aM.mp h with h|h
  ·exact .inl h
  ·exact .inr (.inl (aE.mp h))
 |cons y l d=>
  intro acc h;simp only[mD]at h;cases e:st.lookup y with
  |none=>
   rw[e]at h;rcases aM.mp h with h|h
   ·exact .inl h
   ·exact .inr (.inr (.inl ((aE.mp h)▸.head _)))
  |some r=>
   rw[e]at h;have c:∀z∈r,∃p∈st,z∈p.2:=λ z hz=>by refine hQ (bO.mp e) λ a b f Z=>?_;exact ⟨(y,r),by rw[f];simp,hz⟩
   dsimp only at h;split at h
   ·rcases d _ h with h|h|h|h
    ·rcases aM.mp h with h|h
     ·exact .inl h
     ·exact .inr (.inr (.inr (c x h)))
    ·exact .inr (.inl h)
    ·exact .inr (.inr (.inl (.tail _ h)))
    ·exact .inr (.inr (.inr h))
   ·rcases aM.mp h with h|h
    ·exact .inl h
    ·exact .inr (.inr (.inr (c x h)))
theorem tE{st:List (Str×List Str)}{em:List (Str×Bool)}{n:Nat}(h:∀p∈st,p.2.length<=n):∀(l acc:List Str),(ed st em ahead acc l).length<=acc.length+n*l.length+1:=by
 intro l;induction l with
 |nil=>intro acc;simp only[qp,aF,cM];exact aT _
 |cons y l d=>
  intro acc;simp only[mD,bj,pW];cases e:st.lookup y with
  |none=>dsimp only;rw[aF];exact LD
  |some r=>
   have c:r.length<=n:=by refine hQ (bO.mp e) λ a b f Z=>?_;exact h (y,r) (by rw[f];simp)
   dsimp only;split
   ·have:=d (acc++r);simp only[aF]at this;exact LB this c
   ·simp only[aF];exact LA c
structure ik(pairs:List Pr)(a:g4):Prop where
 ks:a.1.map (·.1)=ba pairs
 ke:a.2.map (·.1)=ba pairs
 row:∀p∈a.1,p.2.Nodup/\∀x∈p.2,x∈pairs.flatMap (·.2)
theorem qM(x n:Str)(st:List (Str×List Str)):(nQ x n st).map (·.1)=st.map (·.1):=by unfold nQ;refine bu.trans ?_;exact bF λ p Z=>by show (if p.1=x then _ else p).1=p.1;split<;>rfl
theorem tw(x:Str)(em:List (Str×Bool)):(xQ x em).map (·.1)=em.map (·.1):=by unfold xQ;refine bu.trans ?_;exact bF λ p Z=>by show (if p.1=x then _ else p).1=p.1;split<;>rfl
theorem nw{l:List Str}(h:l.Nodup):(fV l x).Nodup:=by
 unfold fV;split
 ·exact h
 ·rename_i hx;rw[aV];refine ⟨h,by simp,λ a d b c e=>hx (dM.mpr ⟨a,d,by rw[beq_iff_eq,e,aE.mp c]⟩)⟩
theorem kQ{l:List Str}{y:Str}:y∈fV l x↔y∈l\/y=x:=by
 unfold fV;split
 ·rename_i hx;refine b5 (dM.mp hx) λ z hz e=>?_;rw[beq_iff_eq]at e;exact ⟨.inl,λ h=>h.elim id λ h=>by rw[h,<-e];exact hz⟩
 ·simp only[aM,aE]
theorem ik.put{a:g4}(h:ik pairs a)(x:Str){n:Str}(i:n=""\/n∈pairs.flatMap (·.2)):ik pairs (qc x a n):=by
 unfold qc;by_cases e:n=""
 ·rw[if_pos e];exact ⟨h.ks,by rw[tw];exact h.ke,h.row⟩
 ·rw[if_neg e];refine ⟨by rw[qM];exact h.ks,h.ke,λ p d=>?_⟩;refine b5 (aC.mp d) λ q f c=>?_;subst c;have b:=h.row q f;split
  ·exact ⟨nw b.1,λ y g=>(kQ.mp g).elim (b.2 y) λ h=>h▸i.resolve_left e⟩
  ·exact ⟨b.1,b.2⟩
theorem ik.names{a:g4}(h:ik pairs a){p:Pr}(b:p∈pairs):∀n∈ed a.1 a.2 "" [] p.2,n=""\/n∈pairs.flatMap (·.2):=λ n d=>by
 rcases Ry _ _ d with h'|h'|h'|⟨q,c,h'⟩
 ·cases h'
 ·exact .inl h'
 ·exact .inr (bX.mpr ⟨p,b,h'⟩)
 ·exact .inr ((h.row q c).2 n h')
theorem ik.VQ(x:Str):∀(l:List Str) {a:g4},ik pairs a->(∀n∈l,n=""\/n∈pairs.flatMap (·.2))->ik pairs (l.foldl (qc x) a):=by
 intro l;induction l with
 |nil=>intro Z h Z;exact h
 |cons n l d=>intro Z h b;exact d (h.put x (b n (.head _))) λ m c=>b m (.tail _ c)
theorem ik.pair{a:g4}(h:ik pairs a){p:Pr}(b:p∈pairs):ik pairs (eu a p):=ik.VQ p.1 _ h (h.names b)
theorem ik.round:∀(l:List Pr) {a:g4},ik pairs a->(∀p∈l,p∈pairs)->ik pairs (l.foldl eu a):=by
 intro l;induction l with
 |nil=>intro Z h Z;exact h
 |cons p l d=>intro Z h b;exact d (h.pair (b p (.head _))) λ q c=>b q (.tail _ c)
theorem ik.rounds(pairs:List Pr):∀n,ik pairs (f7 pairs n):=by
 intro n;induction n with
 |zero=>exact ⟨by show ((ba pairs).map _).map _=_;refine bu.trans ?_;exact ej _,by show ((ba pairs).map _).map _=_;refine bu.trans ?_;exact ej _,λ p b=>by refine b5 (aC.mp b) λ x Z a=>?_;subst a;exact ⟨bL,λ y c=>(nomatch c)⟩⟩
 |succ n d=>exact ik.round pairs (d) λ Z h=>h
theorem gs:x∈ba pairs↔∃p∈pairs,p.1=x:=by
 have:∀(l:List Pr) (acc:List Str),x∈l.foldl (λ l p=>fV l p.1) acc↔x∈acc\/∃p∈l,p.1=x:=λ l=>by
  induction l with
  |nil=>intro acc;simp
  |cons q l b=>
   intro acc;simp only[c6,b,kQ];constructor
   ·rintro ((h|h)|⟨p,a,e⟩)
    ·exact .inl h
    ·exact .inr ⟨q,.head _,h.symm⟩
    ·exact .inr ⟨p,.tail _ a,e⟩
   ·rintro (h|⟨p,a,e⟩)
    ·exact .inl (.inl h)
    ·rcases aI.mp a with rfl|a
     ·exact .inl (.inr e.symm)
     ·exact .inr ⟨p,a,e⟩
 unfold ba;rw[(this pairs [])];simp
theorem jO(pairs:List Pr):(ba pairs).Nodup:=by
 have:∀(l:List Pr) (acc:List Str),acc.Nodup->(l.foldl (λ l p=>fV l p.1) acc).Nodup:=λ l=>by
  induction l with
  |nil=>intro acc h;exact h
  |cons q l a=>intro acc h;exact a _ (nw h)
 exact this pairs [] bL
noncomputable def sI(P:List (Str×Nat))(F:Nat->V):List (V×V):=P.map λ p=>(.str p.1,F p.2)
noncomputable def su(x:Str)(n:Nat):List (Str×Nat)->List (Str×Nat)
 |[]=>[(x,n)]
 |p::r=>if p.1=x then (p.1,n)::r else p::su x n r
theorem vq{n:Nat}:su x n []=([(x,n)]):=rfl
theorem vt{x:Str}{n:Nat}{p r}:su x n (p::r)=(if p.1=x then (p.1,n)::r else p::su x n r):=rfl
theorem Ic(x:Str)(n:Nat)(F:Nat->V):∀P,iw (.str x) (F n) (sI P F)=sI (su x n P) F:=by
 intro P;induction P with
 |nil=>exact rfl
 |cons p r a=>
  have a:=a;unfold sI at*;simp only[be,nM,vq,vt,hY];by_cases e:p.1=x
  ·rw[if_pos e,if_pos (by simp only[beq_iff_eq];exact e)];rfl
  ·rw[if_neg e,if_neg (by simp only[beq_iff_eq];exact e),a];rfl
theorem zv(x:Str)(n:Nat):∀P:List (Str×Nat),(su x n P).map (·.1)=fV (P.map (·.1)) x:=by
 intro P;induction P with
 |nil=>exact rfl
 |cons p r a=>
  have a:=a;dsimp only[vq,vt];unfold fV at*;rw[be,List.any_cons];by_cases e:p.1=x
  ·rw[if_pos e,if_pos (by rw[show (p.1==x)=aj by simp only[beq_iff_eq];exact e];rfl)];rfl
  ·rw[if_neg e,be,a,show (p.1==x)=ao from beq_eq_false_iff_ne.mpr e,Bool.false_or];split<;>rfl
theorem sT{n:Nat}:∀{P:List (Str×Nat)},i∈(su x n P).map (·.2)->i=n\/i∈P.map (·.2):=by
 intro P;induction P with
 |nil=>intro h;exact .inl (by simpa[vq,vt]using h)
 |cons p r a=>
  intro h;simp only[vt]at h;split at h
  ·rcases aI.mp h with h|h
   ·exact .inl h
   ·exact .inr (.tail _ h)
  ·rcases aI.mp h with h|h
   ·exact .inr (by simp only[h];exact .head _)
   ·exact (a h).imp id λ h=>.tail _ h
theorem w9{n:Nat}:∀{P:List (Str×Nat)},(P.map (·.2)).Nodup->n∉P.map (·.2)->((su x n P).map (·.2)).Nodup:=by
 intro P;induction P with
 |nil=>intro Z Z;simp[vq]
 |cons p r b=>
  intro h a;simp only[be,bC]at h;rw[be,aI,not_or]at a;dsimp only[vq,vt];split
  ·exact bC.mpr ⟨a.2,h.2⟩
  ·refine bC.mpr ⟨λ q=>?_,b h.2 a.2⟩;rcases sT q with q|q
   ·exact a.1 q.symm
   ·exact h.1 q
theorem EZ(P:List (Str×Nat))(F:Nat->V):(sI P F).map (·.1)=(P.map (·.1)).map V.str:=by unfold sI;simp only[bu,bu];rfl
theorem vH{P:List (Str×Nat)}(F:Nat->V)(x:Str)(nd:(P.map (·.1)).Nodup):f9 (.str x) (sI P F):=
 ⟨by show (2:Nat)≠0;decide,λ p b=>by refine b5 (aC.mp b) λ q Z a=>?_;subst a;rfl,by simp only[EZ];exact oN nd⟩
theorem Ie(F:Nat->V)(x:Str):∀P:List (Str×Nat),eE (sI P F) (.str x)=(P.lookup x).map F:=by
 intro P;induction P with
 |nil=>exact rfl
 |cons c l d=>
  obtain ⟨a,b⟩:=c;dsimp only[eE,sI]at*;simp only[be,cX,br,hY];cases e:x==a with
  |true=>rw[show (a==x)=aj by simp only[<-e];exact fw ..];rfl
  |false=>rw[show (a==x)=ao by simp only[<-e];exact fw ..];exact (d)
theorem yq(x:Str)(b:Bool):∀em:List (Str×Bool),(em.map (·.1)).Nodup->x∈em.map (·.1)->iw (.str x) (.bool b) (j1 em)=j1 (em.map λ p=>if p.1=x then (p.1,b)else p):=by
 intro em;induction em with
 |nil=>intro Z h;exact nomatch h
 |cons p r a=>
  intro nd h;simp only[be,bC]at nd;dsimp only[j1];rw[be,be];dsimp only[sO,nM];rw[hY];by_cases e:p.1=x
  ·refine (if_pos (by rw[beq_iff_eq];exact e)).trans ?_;rw[if_pos e];have:r.map (λ p=>if p.1=x then (p.1,b)else p)=r:=by
    conv=>rhs;rw[<-ej r]
    refine bF λ q c=>?_;rw[if_neg λ d=>nd.1 (by rw[e,<-d];exact bq c)];rfl
   simp only[be,this]
  ·refine (if_neg (by rw[beq_iff_eq];exact e)).trans ?_;rw[if_neg e,be];have a:=a nd.2 ((aI.mp h).resolve_left (Ne.symm e));dsimp only[j1]at a;exact congrArg _ a
theorem vx(x:Str)(b:Bool):∀em:List (Str×Bool),x∉em.map (·.1)->iw (.str x) (.bool b) (j1 em)=j1 (em++[(x,b)]):=by
 intro em;induction em with
 |nil=>intro Z;exact rfl
 |cons p r a=>intro h;simp only[be,aI,not_or]at h;have a:=a h.2;dsimp only[j1]at*;rw[be];dsimp only[sO,nM];rw[hY,if_neg (by rw[beq_iff_eq];exact Ne.symm h.1),a];rfl
structure Lz(L:List (aG×List Str))(P:List (Str×Nat))(st:List (Str×List Str))(kvs:List (V×V)):Prop where
 kv:kvs=sI P (λ j=>.ref (gt L j).1)
 ix:∀p∈P,p.2<L.length
 ni:(P.map (·.2)).Nodup
 st:st=P.map λ p=>(p.1,(gt L p.2).2)
theorem Lz.keys{L:List (aG×List Str)}{P:List (Str×Nat)}{st:List (Str×List Str)}(A:Lz L P st kvs):st.map (·.1)=P.map (·.1):=by simp only[A.st,bu];rfl
theorem H7{L:List (aG×List Str)}(post:Mu):∀{P:List (Str×Nat)},(∀p∈P,p.2<L.length)->y6 ⟨[],je V.str L++post⟩ (sI P (λ j=>.ref (gt L j).1)) (P.map λ p=>(p.1,(gt L p.2).2)):=by
 intro P;induction P with
 |nil=>intro Z;exact .nil
 |cons p P b=>intro h;exact .cons (.led _ (lW (h p (.head _)) post)) (b λ q a=>h q (.tail _ a))
theorem Lz.add{L:List (aG×List Str)}{P:List (Str×Nat)}{st:List (Str×List Str)}{kvs:List (V×V)}(A:Lz L P st kvs)(nd:(P.map (·.1)).Nodup){x n:Str}{j:Nat}(o:P.lookup x=ah j)(m:(gt L j).2.any (· ==n)=ao):
 Lz (L.set (L.length-1-j) ((gt L j).1,(gt L j).2++[n])) P (nQ x n st) kvs:=by
 have k:(x,j)∈P:=by refine hQ (bO.mp o) λ a b e Z=>?_;rw[e];exact ax _ (.head _)
 have i:∀p∈P,gt (L.set (L.length-1-j) ((gt L j).1,(gt L j).2++[n])) p.2=if j=p.2 then ((gt L j).1,(gt L j).2++[n])else gt L p.2:=λ p c=>CQ (A.ix _ k) (A.ix p c) _;have inj:∀p∈P,(j=p.2↔p.1=x):=λ p c=>by
  refine Eu (dJ.mp k) λ u f g=>?_;refine Eu (dJ.mp c) λ v l d=>?_;constructor
  ·intro e;have:u=v:=by exact (fk (by simpa using f) A.ni).mp (by simp only[aN,aN,ay f,ay l,g,d];exact congrArg ah e)
   subst this;rw[g]at d;exact congrArg _ (bA d)
  ·intro e;have:u=v:=by exact (fk (by simpa using f) nd).mp (by simp only[aN,aN,ay f,ay l,g,d];exact congrArg ah e.symm)
   subst this;rw[g]at d;rw[<-d]
 refine ⟨?_,λ p c=>by simp only[b0];exact A.ix p c,A.ni,?_⟩
 ·refine A.kv.trans ?_;refine bF λ p c=>?_;show (V.str p.1,V.ref _)=(V.str p.1,V.ref _);rw[i p c];split
  ·rename_i e;rw[<-e]
  ·rfl
 ·rw[A.st];unfold nQ;refine bu.trans ?_;refine bF λ p c=>?_;show (if p.1=x then (p.1,fV (gt L p.2).2 n)else (p.1,(gt L p.2).2))=(p.1,_);rw[i p c];by_cases e:p.1=x
  ·refine (if_pos e).trans ?_;rw[if_pos ((inj p c).mpr e),<-(inj p c).mpr e];unfold fV;exact congrArg _ (if_neg (by rw[m];decide))
  ·refine (if_neg e).trans ?_;rw[if_neg λ h=>e ((inj p c).mp h)]
theorem Lz.same{L:List (aG×List Str)}{P:List (Str×Nat)}{st:List (Str×List Str)}(A:Lz L P st kvs)(nd:(P.map (·.1)).Nodup){x n:Str}{j:Nat}(d:P.lookup x=ah j)(f:(gt L j).2.any (· ==n)=aj):nQ x n st=st:=by
 rw[A.st];skip
 conv=>rhs;rw[<-ej (P.map λ p=>(p.1,(gt L p.2).2))]
 refine bF λ q c=>?_;refine b5 (aC.mp c) λ p b a=>?_;subst a;show (if p.1=x then (p.1,fV (gt L p.2).2 n)else (p.1,(gt L p.2).2))=(p.1,(gt L p.2).2);by_cases e:p.1=x
 ·have:p.2=j:=by have h:P.lookup p.1=ah p.2:=gN nd b;rw[e,d]at h;cases h;rfl
  refine (if_pos e).trans ?_;rw[this];unfold fV;exact congrArg _ (if_pos f)
 ·exact if_neg e
theorem Lz.fresh{L:List (aG×List Str)}{P:List (Str×Nat)}{st:List (Str×List Str)}{kvs:List (V×V)}(A:Lz L P st kvs)(d:∀p∈st,p.2=[])(x:Str)(a:aG):
 Lz ((a,[])::L) (su x L.length P) ((fV (st.map (·.1)) x).map λ y=>(y,[])) (iw (.str x) (.ref a) kvs):=by
 have g:∀p∈P,gt ((a,[])::L) p.2=gt L p.2:=λ p b=>qm _ (A.ix p b);have f:∀i,i∈(su x L.length P).map (·.2)->i=L.length\/i∈P.map (·.2):=λ i=>sT;have j:∀p∈P,(gt L p.2).2=[]:=λ p b=>d (p.1,(gt L p.2).2) (by rw[A.st];exact aC.mpr ⟨p,b,rfl⟩);refine ⟨?_,λ p b=>?_,w9 A.ni λ h=>?_,?_⟩
 ·rw[A.kv,<-Ic];rw[ur];exact congrArg (iw _ _) (bF λ p b=>by show (V.str p.1,V.ref (gt L p.2).1)=(V.str p.1,V.ref (gt ((a,[])::L) p.2).1);rw[g p b])
 ·rcases f p.2 (bq b)with h|h
  ·rw[h];exact ce _
  ·refine b5 (aC.mp h) λ q c e=>?_;rw[<-e];exact cD (A.ix q c)
 ·refine b5 (aC.mp h) λ q c e=>?_;have:=A.ix q c;exact absurd ‹_› (cm ‹_›)
 ·simp only[A.keys,<-zv x L.length P,bu];refine bF λ p b=>?_;show (p.1,[])=(p.1,(gt ((a,[])::L) p.2).2);rcases f p.2 (bq b)with h|h
  ·rw[h,ur]
  ·refine b5 (aC.mp h) λ q c e=>?_;simp only[<-e,g q c,j q c]
theorem H_{L:List (aG×List Str)}(h:∀j<L.length,((gt L j).1,MO.list ((gt L j).2.map V.str))∈J):∀{P:List (Str×Nat)},(∀p∈P,p.2<L.length)->md J (sI P (λ j=>.ref (gt L j).1)) (vp (P.map λ p=>(p.1,(gt L p.2).2))):=by
 intro P;induction P with
 |nil=>intro Z;exact .nil
 |cons p P c=>intro a;exact .cons (.list (h p.2 (a p (.head _))) (RE.refl _ _)) (c λ q b=>a q (.tail _ b))
section
variable{f:aG}
noncomputable abbrev yg(L:List (aG×List Str))(ae:aG)(em:List (Str×Bool))(as:aG)(kvs:List (V×V))(J:Mu):Mu:=je V.str L++(ae,.dict (j1 em))::(as,.dict kvs)::J
theorem JB{L:List (aG×List Str)}{as:aG}{em:List (Str×Bool)}:(yg L ae em as kvs J)[L.length+1]? =ah (as,.dict kvs):=by dsimp only[yg,je];refine (bH (by rw[au];exact b3 _ _)).trans ?_;rw[au,cE];rfl
theorem Oj{L:List (aG×List Str)}{as:aG}{em:List (Str×Bool)}{a:List (V×V)}:(yg L ae em as kvs J).set (L.length+1) (as,.dict a)=yg L ae em as a J:=by dsimp only[yg,je];refine (d6 _ _ (by rw[au];exact b3 _ _)).trans ?_;rw[au,cE];rfl
theorem Qj{L:List (aG×List Str)}{as:aG}{em:List (Str×Bool)}:(yg L ae em as kvs J)[L.length]? =ah (ae,.dict (j1 em)):=li _ _
theorem JC{L:List (aG×List Str)}{as:aG}{em a:List (Str×Bool)}:(yg L ae em as kvs J).set L.length (ae,.dict (j1 a))=yg L ae a as kvs J:=v7 _ _ _
theorem BK(C:Cmn G CG CR)(Yb:Fn G "_law_begin" "_law_begin" (top 32) ["symbols","ahead","starts","empties"] [])(Yy:Fn G "_law_starts" "_law_starts" (top 33) ["pairs"] [])(pairs:List Pr)(hp:F9 pairs):
 cF G (d+2) (.ref Yy.f) [.list (pairs.map pV)] J (λ v J'=>v=.tup [.dict (vp (dz pairs).1),.dict (j1 (dz pairs).2)]/\J'=J):=by
 refine di Yy.y _ _ _ rfl λ O I=>?_;have R:=hp.len;have UD:=mx pairs;have U:=jO pairs;let Xr:V:=.list (pairs.map pV)
 refine aB<|sl I 1<|hV I.ok λ as=>aB<|sl I 2<|hV I.ok λ ae=>?_;let mo:(List (aG×List Str)×List (Str×Nat)×g4×List (V×V))×List (Option V)->St:=λ a=>⟨[ah Xr,ah (.ref as),ah (.ref ae),ov a.2 0,ov a.2 1,ov a.2 2,ov a.2 3,ai,ai,ai],yg a.1.1 ae a.1.2.2.1.2 as a.1.2.2.2 J⟩
 let VL:Nat->(List (aG×List Str)×List (Str×Nat)×g4×List (V×V))×List (Option V)->Prop:=λ i a=>Lz a.1.1 a.1.2.1 a.1.2.2.1.1 a.1.2.2.2/\a.1.1.length<=i/\a.1.2.2.1.1=(ba (pairs.take i)).map (λ x=>(x,[]))/\a.1.2.2.1.2=(ba (pairs.take i)).map λ x=>(x,ao)
 have WL:Lz [] [] [] []:=⟨rfl,λ p hp=>(nomatch hp),bL,rfl⟩;refine aB<|iL mo VL<|nl I 0 rfl ⟨_,_,_,va pairs I.ok.hand,(([],[],([],[]),[]),[]),rfl,⟨WL,aT _,rfl,rfl⟩,λ Z Z Z Z=>trivial,λ i a hi c=>?_,λ a c=>?_⟩
 ·obtain ⟨⟨L,P,⟨st,em⟩,kvs⟩,o⟩:=a;refine w2 c λ A E z g=>?_;have E:L.length<=i:=E;have z:st=(ba (pairs.take i)).map λ x=>(x,[]):=z;have g:em=(ba (pairs.take i)).map λ x=>(x,ao):=g;have A:Lz L P st kvs:=A;have ht:ba (pairs.take (i+1))=fV (ba (pairs.take i)) (pairs.getD i ("",[])).1:=fN _ _ hi ("",[]);have Tt:st.map (·.1)=ba (pairs.take i):=by rw[z,bu];exact ej _
  have D:em.map (·.1)=ba (pairs.take i):=by rw[g,bu];exact ej _
  have Q:=jO (pairs.take i);have K:(P.map (·.1)).Nodup:=by rw[<-A.keys,Tt];exact Q
  have hlen:(ba (pairs.take i)).length<=10:=by have:=mx (pairs.take i);rw[bb]at this;exact Ly this R
  have UE:kvs.length<=2^20:=by rw[A.kv];unfold sI;rw[au];exact Lx (by rw[<-Tt,A.keys,au]) hlen
  have Vq:(j1 em).length<=2^20:=by unfold j1;rw[au,<-au (f:=(·.1)),D];exact aA ‹_› (by decide)
  show XA _ _ _ _ (ql _ _ _ (oz _ (At mo (λ a=>Lz a.1.1 a.1.2.1 a.1.2.2.1.1 a.1.2.2.2/\a.1.1.length<=i+1/\a.1.2.2.1.1=(ba (pairs.take (i+1))).map (λ x=>(x,[]))/\a.1.2.2.1.2=(ba (pairs.take (i+1))).map λ x=>(x,ao))))) _;rw[ht];generalize pairs.getD i ("",[])=p;have X0:iw (.str p.1) (.bool ao) (j1 em)=j1 ((fV (ba (pairs.take i)) p.1).map λ x=>(x,ao)):=by
   by_cases h:p.1∈em.map (·.1)
   ·rw[yq p.1 ao em (by rw[D];exact Q) h];have e1:(em.map λ q=>if q.1=p.1 then (q.1,ao)else q)=em:=by
     conv=>rhs;rw[<-ej em]
     refine bF λ q M=>?_;rw[g]at M;refine b5 (aC.mp M) λ y Z SH=>?_;subst SH;split<;>rfl
    have e2:fV (ba (pairs.take i)) p.1=ba (pairs.take i):=by unfold fV;rw[D]at h;rw[if_pos (dM.mpr ⟨_,h,by rw[beq_iff_eq]⟩)]
    rw[e1,e2,<-g]
   ·rw[vx p.1 ao em h];have e2:fV (ba (pairs.take i)) p.1=ba (pairs.take i)++[p.1]:=by unfold fV;rw[D]at h;rw[if_neg λ q=>h (by refine b5 (dM.mp q) λ y hy e=>?_;rw[beq_iff_eq]at e;exact e▸hy)]
    rw[e2,aK,<-g];rfl
  refine AD I<|Mine.al I 3<|Mine.al I 4<|aB<|ss<|eC I.ok<|cz ⟨bg _,λ a=>?_⟩;have F:=A.fresh (λ q M=>by rw[z]at M;refine b5 (aC.mp M) λ y Z SV=>?_;subst SV;rfl) p.1 a;rw[Tt]at F;have H:f9 (.str p.1) kvs:=by rw[A.kv];exact vH _ _ K
  refine nl I 1 rfl<|nl I 3 rfl<|jd (m:=yg ((a,[])::L) ae em as (iw (.str p.1) (.ref a) kvs) J) (L.length+1+1) I.ok (JB (L:=(a,[])::L)) H UE (Oj (L:=(a,[])::L)) ?_;refine aB<|ss<|i3<|nl I 2 rfl<|nl I 3 rfl<|jd (m:=yg ((a,[])::L) ae ((fV (ba (pairs.take i)) p.1).map λ x=>(x,ao)) as (iw (.str p.1) (.ref a) kvs) J) (L.length+1) I.ok (Qj (L:=(a,[])::L)) (oO (by rw[D];exact Q) _) Vq (by rw[X0];exact JC (L:=(a,[])::L)) ?_;exact bm ⟨(((a,[])::L,_,(_,_),_),[_,_,_,_]),rfl,F,ee E,rfl,rfl⟩
 obtain ⟨⟨L,P,⟨st,em⟩,kvs⟩,o⟩:=a;refine w2 c λ A E z g=>?_;have E:L.length<=pairs.length:=E;have z:st=(ba (pairs.take pairs.length)).map λ x=>(x,[]):=z;have g:em=(ba (pairs.take pairs.length)).map λ x=>(x,ao):=g;have A:Lz L P st kvs:=A;rw[a0]at z g;have VY:(st,em)=f7 pairs 0:=by rw[z,g];rfl
 let w:g4->(List (aG×List Str)×List (Str×Nat)×g4×List (V×V))×List (Option V)->Prop:=λ s a=>Lz a.1.1 a.1.2.1 a.1.2.2.1.1 a.1.2.2.2/\a.1.1.length<=10/\a.1.2.2.1=s
 refine aB<|iL mo (λ i=>w (f7 pairs i))<|cb I 7 C.range<|a1<|bx<|cb I 8 C.len<|a1<|nl I 0 rfl<|mB (aR R (by decide))<|xn 1<|fQ<|jv ⟨_,_,_,m9 I.ok.hand (Lw R),((L,P,(st,em),kvs),o),rfl,⟨A,aA ‹_› ‹_›,VY⟩,λ Z Z Z Z=>trivial,λ t a ht c=>?_,λ a c=>?_⟩
 ·clear A z g VY E;obtain ⟨⟨L,P,⟨st,em⟩,kvs⟩,o⟩:=a;have S0:=ik.rounds pairs t;show XA _ _ _ _ (ql _ _ _ (oz _ (At mo (w (oS pairs (f7 pairs t)))))) _;have c:w (f7 pairs t) ((L,P,(st,em),kvs),o):=c;generalize f7 pairs t=s0 at S0 c ⊢;let Gp:(List (aG×List Str)×List (Str×Nat)×g4×List (V×V))×List (Option V)->St:=λ a=>⟨[ah Xr,ah (.ref as),ah (.ref ae),ov a.2 0,ov a.2 1,ah (.nat t),ov a.2 2,ai,ai,ai],yg a.1.1 ae a.1.2.2.1.2 as a.1.2.2.2 J⟩
  refine Mine.al I 5<|aB<|iL Gp (λ i=>w ((pairs.take i).foldl eu s0))<|nl I 0 rfl ⟨_,_,_,va pairs I.ok.hand,((L,P,(st,em),kvs),[ov o 0,ov o 1,ov o 3]),rfl,c,λ Z Z Z Z=>trivial,λ i a hi c=>?_,λ a c=>?_⟩
  ·obtain ⟨⟨L,P,⟨st,em⟩,kvs⟩,o⟩:=a;have W:ik pairs ((pairs.take i).foldl eu s0):=ik.round _ S0 λ p h=>cG h;have T:=bd hi ("",[]);have c:w ((pairs.take i).foldl eu s0) ((L,P,(st,em),kvs),o):=c;have X:=hp.right _ T;show XA _ _ _ _ (ql _ _ _ (oz _ (At Gp (w ((pairs.take (i+1)).foldl eu s0))))) _;rw[(fN _ _ hi ("",[]))];generalize pairs.getD i ("",[])=p at T X ⊢;generalize (pairs.take i).foldl eu s0=s1 at W c ⊢;refine jA c λ A E SU=>?_;subst SU;have A:Lz L P st kvs:=A;have WH:=W.names T;have V1:p.1∈ba pairs:=gs.mpr ⟨p,T,rfl⟩;have WN:(pairs.flatMap (·.2)).length<=30:=by
    have:∀l:List Pr,(∀q∈l,q.2.length<=3)->(l.flatMap (·.2)).length<=3*l.length:=λ l=>by
     induction l with
     |nil=>intro _;exact aT _
     |cons q l ih=>intro h;rw[df,aF,bj];exact GI (h q (.head _)) (ih λ r hr=>h r (.tail _ hr))
    have:=this pairs hp.right;exact Lv this R
   have T6:∀q∈st,q.2.length<=30:=λ q M=>aA (aU (W.row q M).1 (W.row q M).2) WN;have YW:=yr (d:=d) Yb.y p.2 "" (J:=je V.str L++[(ae,.dict (j1 em)),(as,.dict kvs)]) (vs:=.ref as) (ve:=.ref ae) (kvs:=kvs) st em
    (.led (L.length+1) (by unfold je;rw[bH (by rw[au];exact b3 _ _),au,cE];rfl))
    (by have:=H7 (L:=L) [(ae,.dict (j1 em)),(as,.dict kvs)] A.ix;rw[<-A.st,<-A.kv]at this;exact this)
    (.led L.length (li _ _)) (by rw[W.ks];exact U) (by rw[show em.map (·.1)=_ from W.ke,W.ks]) (λ q M=>aA (T6 q M) (by decide)) (aA X (by decide))
   have T8:(ed st em "" [] p.2).length<=2^20:=aA (tE T6 p.2 []) (by simp only[hH];exact Lu X);have Sk:∀k,ik pairs (((ed st em "" [] p.2).take k).foldl (qc p.1) (st,em)):=λ k=>ik.VQ p.1 _ W λ n hn=>WH n (cG hn);show XA _ _ _ _ (ql _ _ _ (oz _ (At Gp (w ((ed st em "" [] p.2).foldl (qc p.1) (st,em)))))) _;generalize ed st em "" [] p.2=ns at WH YW T8 Sk ⊢;let stC:(List (aG×List Str)×List (Str×Nat)×g4×List (V×V))×List (Option V)->St:=λ a=>⟨[ah Xr,ah (.ref as),ah (.ref ae),ah (.str p.1),ah (.list (p.2.map .str)),ah (.nat t),ov a.2 0,ai,ai,ai],yg a.1.1 ae a.1.2.2.1.2 as a.1.2.2.2 J⟩
   refine AD I<|Mine.al I 3<|Mine.al I 4<|aB<|iL stC (λ k=>w ((ns.take k).foldl (qc p.1) (st,em)))<|cg I 9 Yb<|an<|nl I 4 rfl<|an<|c4<|an<|nl I 1 rfl<|a1<|nl I 2 rfl<|sp I J YW kD (bW (je V.str L) [(ae,MO.dict (j1 em)),(as,MO.dict kvs)] J).symm λ v J' zf=>za zf λ e1 e2=>?_;subst e1;subst e2;refine ⟨_,_,_,lF V.str ns "" I.ok.hand,((L,P,(st,em),kvs),[ov o 2]),congrArg (St.mk _) (bW (je V.str L) [(ae,MO.dict (j1 em)),(as,MO.dict kvs)] J),⟨A,E,rfl⟩,λ Z Z Z Z=>trivial,λ k a hk c=>?_,λ a c=>?_⟩
   ·obtain ⟨⟨L,P,⟨B,u⟩,kvs⟩,o⟩:=a;have c:w ((ns.take k).foldl (qc p.1) (st,em)) ((L,P,(B,u),kvs),o):=c;have S:=Sk k;show XA _ _ _ _ (ql _ _ _ (oz _ (At stC (w ((ns.take (k+1)).foldl (qc p.1) (st,em)))))) _;rw[(fN _ _ hk "")];generalize ns.getD k ""=n;generalize (ns.take k).foldl (qc p.1) (st,em)=s2 at c S ⊢;refine jA c λ A E Te=>?_;subst Te;have A:Lz L P B kvs:=A;have K:(P.map (·.1)).Nodup:=by rw[<-A.keys,show B.map (·.1)=_ from S.ks];exact U
    have H:f9 (.str p.1) kvs:=by rw[A.kv];exact vH _ _ K
    have D:u.map (·.1)=ba pairs:=S.ke;have Vq:(j1 u).length<=2^20:=by unfold j1;rw[au,<-au (f:=(·.1)),D];exact GM UD R
    have X0:iw (.str p.1) (.bool aj) (j1 u)=j1 (xQ p.1 u):=yq p.1 aj u (by rw[D];exact U) (by rw[D];exact V1);obtain ⟨j,Y⟩:∃j,P.lookup p.1=ah j:=by refine b5 (aC.mp (by rw[<-A.keys,show B.map (·.1)=_ from S.ks];exact V1)) λ q M e=>?_;exact ⟨q.2,gN K (by rw[<-e];exact M)⟩
    have YK:j<L.length:=A.ix (p.1,j) (by refine hQ (bO.mp Y) λ a b e Z=>?_;rw[e];exact ax _ (.head _));have hv:eE kvs (.str p.1)=ah (.ref (gt L j).1):=by rw[A.kv,Ie,Y];rfl
    have N:=lW (f:=V.str) YK ((ae,MO.dict (j1 u))::(as,MO.dict kvs)::J);have UB:(gt L j).2.length<=2^20:=by
     have:=S.row (p.1,(gt L j).2) (by show _∈B;rw[A.st];refine hQ (bO.mp Y) λ a b e Z=>?_;exact aC.mpr ⟨(p.1,j),by rw[e];exact ax _ (.head _),rfl⟩)
     exact aA (aA (aU this.1 this.2) WN) (by decide)
    refine Mine.al I 6<|aB<|e4<|tq<|nl I 6 rfl<|c4<|Cd ⟨_,rfl,?_⟩;unfold qc;by_cases hn:n=""
    ·rw[if_pos hn];refine iD (by rw[beq_iff_eq];exact hn)<|aB<|ss<|i3<|nl I 2 rfl<|nl I 3 rfl<|jd (m:=yg L ae (xQ p.1 u) as kvs J) L.length I.ok Qj (oO (by rw[D];exact U) _) Vq (by rw[X0];exact JC)<|bm<|bm ⟨((L,P,(B,_),kvs),[_]),rfl,A,E,rfl⟩
    ·rw[if_neg hn];refine fX (beq_eq_false_iff_ne.mpr hn)<|aB<|e4<|tq<|nl I 6 rfl<|sb<|nl I 1 rfl<|nl I 3 rfl ⟨⟨_,.dict (.led (L.length+1) JB)⟩,jt I.ok (.led (L.length+1) JB) H hv<|n0 (.led _ N) ⟨_,rfl,?_⟩⟩;cases hc:(gt L j).2.any (· ==n)with
     |true=>exact fX rfl<|bm<|bm<|bm ⟨((L,P,(B,u),kvs),[_]),rfl,A,E,by rw[A.same K Y hc]⟩
     |false=>exact iD rfl<|aB<|xe I<|gj I<|sb<|nl I 1 rfl<|nl I 3 rfl ⟨⟨_,.dict (.led (L.length+1) JB)⟩,jt I.ok (.led (L.length+1) JB) H hv ⟨_,_,_,rfl,N,nl I 6 rfl<|uL Str (x:=n) _ N UB (v6 YK _ _ _)<|bm<|bm<|bm ⟨((_,P,(nQ p.1 n B,u),kvs),[_]),rfl,(A.add K Y hc),by show (L.set _ _).length<=10;rw[b0];exact E,rfl⟩⟩⟩
   ·obtain ⟨⟨L,P,⟨B,u⟩,kvs⟩,o⟩:=a;have c:w ((ns.take ns.length).foldl (qc p.1) (st,em)) ((L,P,(B,u),kvs),o):=c;rw[a0]at c;exact bm ⟨((L,P,(B,u),kvs),[_,_,_]),rfl,c⟩
  ·obtain ⟨⟨L,P,⟨st,em⟩,kvs⟩,o⟩:=a;have c:w ((pairs.take pairs.length).foldl eu s0) ((L,P,(st,em),kvs),o):=c;rw[a0]at c;exact bm ⟨((L,P,(st,em),kvs),[_,_,_,_]),rfl,c⟩
 ·clear A z g VY E;obtain ⟨⟨L,P,⟨st,em⟩,kvs⟩,o⟩:=a;refine jA c λ A E e=>?_;have A:Lz L P st kvs:=A;have e:(st,em)=dz pairs:=e;refine aB<|dF<|t2<|nl I 1 rfl<|nl I 2 rfl ?_;rw[<-e];refine ⟨je V.str L++[(ae,MO.dict (j1 em)),(as,MO.dict kvs)],J,J,.tup [.dict (vp st),.dict (j1 em)],(bW (je V.str L) [(ae,MO.dict (j1 em)),(as,MO.dict kvs)] J).symm,λ Z h=>h,dI.refl _ _,.Xd (.cons (.dict (xs:=kvs) (ax _ (.tail _ (.head _))) ?_) (.cons (.dict (ax _ (.head _)) (s_ _ _)) .nil)),rfl,rfl⟩;rw[A.kv,A.st];exact H_ (λ j Y=>jM (lW Y _)) A.ix
end
noncomputable abbrev Tr:=Nat×Nat×Str
variable{Rk:List Tr->e7->Prop}{SN K' Kk K K_:List Tr}
noncomputable def iM(t:Tr):V:=.tup [.nat t.1,.nat t.2.1,.str t.2.2]
theorem qa{a b:Tr}(h:iM a=iM b):a=b:=by unfold iM at h;simp at h;have c:=h;exact lA (GH c.1) (lA (GH c.2.1) c.2.2)
theorem nX{f:α->β}{ys j:List β}(h:ys.Perm j):∀{l:List α},j=l.map f->∃m:List α,m.Perm l/\ys=m.map f:=by
 induction h with
 |nil=>intro l e;exact ⟨l,.refl _,e⟩
 |cons x _ o=>
  intro l e;cases l with
  |nil=>cases e
  |cons a l=>rw[be,List.cons.injEq]at e;refine b5 (o e.2) λ m i c=>?_;exact ⟨a::m,i.cons a,by rw[c,e.1];rfl⟩
 |swap x y l'=>
  intro l e;cases l with
  |nil=>cases e
  |cons a l=>
   cases l with
   |nil=>cases e
   |cons b l=>rw[be,be,List.cons.injEq,List.cons.injEq]at e;exact ⟨b::a::l,.swap ..,by rw[e.1,e.2.1,e.2.2];rfl⟩
 |trans _ _ d g=>intro l e;refine b5 (g e) λ m i c=>?_;refine b5 (d c) λ n k p=>?_;exact ⟨n,k.trans i,p⟩
noncomputable def iO(l:List Tr):List (V×V):=l.map λ t=>(iM t,.bool aj)
theorem Nj(t:Tr):kk (iM t)=3:=rfl
theorem xa(l:List Tr):(iO l).map (·.1)=l.map iM:=by unfold iO;rw[bu];rfl
theorem zr{l:List Tr}(h:l.Nodup):(l.map iM).Nodup:=by rw[aO,bU];exact (aO.mp h).imp λ h e=>h (qa e)
theorem lP{l:List Tr}(t:Tr)(h:l.Nodup):f9 (iM t) (iO l):=
 ⟨by rw[Nj];decide,λ p b=>by refine b5 (aC.mp b) λ q Z a=>?_;subst a;rfl,by rw[xa];exact zr h⟩
theorem sZ(t:Tr):∀l:List Tr,(eE (iO l) (iM t)).isSome=aj↔t∈l:=by
 intro l;induction l with
 |nil=>exact ⟨λ h=>(nomatch h),λ h=>(nomatch h)⟩
 |cons x l a=>
  unfold eE iO at*;rw[be,cX];by_cases e:x=t
  ·rw[show gE (iM x) (iM t)=aj by rw[f6,e]];exact ⟨λ Z=>by rw[e];exact .head _,λ Z=>rfl⟩
  ·rw[iy λ h=>e (qa h),aI];exact (a).trans ⟨.inr,λ h=>h.resolve_left (Ne.symm e)⟩
theorem sX{t:Tr}:∀{l:List Tr},t∉l->iw (iM t) (.bool aj) (iO l)=iO (l++[t]):=by
 intro l;induction l with
 |nil=>intro Z;exact rfl
 |cons x l a=>intro h;rw[aI,not_or]at h;unfold iO at*;rw[be,nM,if_neg (by rw[f6];exact λ e=>h.1 (qa e).symm),(a h.2)];rfl
noncomputable def d9(R:List Pr)(n:Nat):List Str:=(R.getD n ("",[])).2
inductive LC(R:List Pr)(st:List (Str×List Str))(em:List (Str×Bool))(K:List Tr):Tr->Prop
 |base {t:Tr}:t∈K->LC R st em K t
 |step {n k o:Nat} {a look:Str}:LC R st em K (n,k,a)->k<(d9 R n).length->(d9 R n).getD k ""∈st.map (·.1)->look∈ed st em a [] ((d9 R n).drop (k+1))->1<=o->o<R.length->(R.getD o ("",[])).1=(d9 R n).getD k ""->LC R st em K (o,0,look)
noncomputable def rC(R:List Pr)(st:List (Str×List Str))(em:List (Str×Bool))(l:List Tr)(t:Tr):Prop:=
 t.2.1<(d9 R t.1).length->(d9 R t.1).getD t.2.1 ""∈st.map (·.1)->∀look∈ed st em t.2.2 [] ((d9 R t.1).drop (t.2.1+1)),∀o,1<=o->o<R.length->(R.getD o ("",[])).1=(d9 R t.1).getD t.2.1 ""->(o,0,look)∈l
theorem LC.closed{st:List (Str×List Str)}{em:List (Str×Bool)}{l:List Tr}(i:∀t∈K,t∈l)(hk:∀t∈l,rC R st em l t){t:Tr}(h:LC R st em K t):t∈l:=by
 induction h with
 |base h=>exact i _ h
 |step _ a b c d e f g=>exact hk _ g a b _ c _ d e f
theorem EK(x:Str):∀st:List (Str×List Str),eE (vp st) (.str x)=(st.lookup x).map λ l=>.list (l.map .str):=by
 intro st;induction st with
 |nil=>exact rfl
 |cons c l d=>
  obtain ⟨a,b⟩:=c;unfold eE vp at*;rw[be,cX,br,hY];cases e:x==a with
  |true=>rw[show (a==x)=aj by rw[<-e];exact fw ..];rfl
  |false=>rw[show (a==x)=ao by rw[<-e];exact fw ..];exact (d)
theorem Gn(Y:St):∀st:List (Str×List Str),y6 Y (vp st) st:=by
 intro st;induction st with
 |nil=>exact .nil
 |cons p st a=>exact .cons .frozen (a)
theorem vn{st:List (Str×List Str)}:(eE (vp st) (.str x)).isSome=aj↔x∈st.map (·.1):=by
 rw[EK];cases e:st.lookup x with
 |some l=>refine hQ (bO.mp e) λ a b c Z=>?_;exact ⟨λ Z=>by rw[c];simp,λ Z=>rfl⟩
 |none=>refine ⟨λ h=>(nomatch h),λ h=>?_⟩;refine b5 (aC.mp h) λ p d c=>?_;have:=dK.mp e p d;rw[c]at this;simp at this
section
variable{f:aG}
theorem HS{n:Nat}(c:O.A.handled=ai)(hz:n<1000000):i7 O O.A (.Tf 1 n) (n-1) (λ i=>.nat (i+1)) (λ Z=>True) Y:=by have:=(Gi (O:=O) (Y:=Y) (A:=O.A) (a:=1) (b:=(n:Int)) c ⟨bs _,bs _,bs _,GY hz⟩);rw[show ((n:Int)-1).toNat=n-1 from Lr]at this;exact this.as _ λ i hi=>by show V.int _=V.int _;congr 1;exact Lq
theorem Gx{f:α->V}(ok:O.Ok)(hz:l.length<=2^20)(h:Q (.list ((l.drop b).map f)) Y):l_ O Ex (.list (l.map f)) (.int b) .none Q Y:=EQ ok .frozen (by rw[au];exact hz) (.F (by rw[<-oy];exact h))
theorem z9{st:List (Str×List Str)}{em:List (Str×Bool)}{l l':List Tr}(h:∀x∈l,x∈l'){t:Tr}(k:rC R st em l t):rC R st em l' t:=λ a b g c o d e f=>h _ (k a b g c o d e f)
theorem nW{l':List α}(h:l<+:l'){i:Nat}(hi:i<l.length)(d:α):l'.getD i d=l.getD i d:=by obtain ⟨q,rfl⟩:=h;rw[e8 (by rw[aF];exact GO hi),e8 hi,g7]
structure UP(R:List Pr)(st:List (Str×List Str))(em:List (Str×Bool))(K l:List Tr):Prop where
 nd:l.Nodup
 mem:∀t,t∈l↔LC R st em K t
theorem vF(C:Cmn G CG CR)(Yb:Fn G "_law_begin" "_law_begin" (top 32) ["symbols","ahead","starts","empties"] [])(Yy:Fn G "_law_close" "_law_close" (top 34) ["kernel","rules","starts","empties"] [])(R:List Pr)(st:List (Str×List Str))(em:List (Str×Bool))(K U:List Tr)
 (hR:R.length<=12) (Z9:∀r∈R,r.2.length<=3) (nd:(st.map (·.1)).Nodup) (XU:em.map (·.1)=st.map (·.1)) (hb:∀p∈st,p.2.length<=30) (X6:K.Nodup) (WQ:K.length<64) (hK1:∀t∈K,t.1<R.length) (hU:∀t,LC R st em K t->t∈U) (We:U.length<=100000):
 cF G (d+2) (.ref Yy.f) [.list (K.map iM),.list (R.map pV),.dict (vp st),.dict (j1 em)] J (λ v J'=>(∃l,v=.list (l.map iM)/\UP R st em K l)/\J'=J):=by
 refine di Yy.y _ _ _ rfl λ O I=>?_;have X5:∀t,LC R st em K t->t.1<R.length:=λ t h=>by
  cases h with
  |base h=>exact hK1 _ h
  |step _ _ _ _ _ h _=>exact h
 have ZE:∀n,(d9 R n).length<=3:=λ n=>by
  unfold d9;by_cases h:n<R.length
  ·exact Z9 _ (bd h _)
  ·rw[aD,bl (bT.mp ‹_›)];exact bg _
 let kv:V:=.list (K.map iM)
 let rv:V:=.list (R.map pV)
 refine aB<|sl I 4<|cb I 15 C.sorted<|a1<|nl I 0 rfl<|kK (k:=3) I.ok .frozen (by rw[au];exact WQ) (λ x Y=>by refine b5 (aC.mp Y) λ t Z SV=>?_;subst SV;exact .Yl _ _ _) λ ys hp hs=>?_;refine b5 (nX hp rfl) λ M N SU=>?_;subst SU;clear hp hs;have Q:M.Nodup:=N.nodup_iff.mpr X6;refine .M λ al=>aB<|sl I 5<|hV I.ok λ as=>?_;let Um:List Tr×List (Option V)->St:=λ a=>⟨[ah kv,ah rv,ah (.dict (vp st)),ah (.dict (j1 em)),ah (.ref al),ah (.ref as),ov a.2 0,ai,ai,ai,ai,ai,ai,ai,ai,ai,ai,ai,ai],(as,.dict (iO a.1))::(al,.list (M.map iM))::J⟩
 refine aB<|iL Um (λ i a=>a.1=M.take i)<|nl I 4 rfl ⟨_,_,_,HT iM M (0,0,"") I.ok.hand (.tail _ (.head _)),([],[]),rfl,rfl,λ Z Z Z Z=>.tail _ (.head _),λ i a hi B=>?_,λ a B=>?_⟩
 ·obtain ⟨l,o⟩:=a;have B:l=M.take i:=B;have ht:M.take (i+1)=l++[M.getD i (0,0,"")]:=by rw[dR (ay hi),B,e8 hi]
  have TJ:(l++[M.getD i (0,0,"")]).Nodup:=by rw[<-ht];exact Q.sublist (fj _ _)
  have UD:(iO l).length<=2^20:=by unfold iO;rw[au,B,bb];exact Lp N.length_eq WQ
  show XA _ _ _ _ (ql _ _ _ (oz _ (At Um (λ a=>a.1=M.take (i+1))))) _;rw[ht];generalize M.getD i (0,0,"")=t at TJ ⊢;rw[aV]at TJ;exact Mine.al I 6<|aB<|ss<|i3<|nl I 5 rfl<|nl I 6 rfl<|jd 0 I.ok rfl (lP t TJ.1) UD (by rw[sX λ h=>TJ.2.2 t h t (.head _) rfl];rfl)<|bm ⟨(l++[t],[_]),rfl,rfl⟩
 obtain ⟨l,o⟩:=a;have B:l=M.take M.length:=B;rw[a0]at B;subst B;let TF:(List Tr×Nat)×List (Option V)->St:=λ a=>⟨[ah kv,ah rv,ah (.dict (vp st)),ah (.dict (j1 em)),ah (.ref al),ah (.ref as),ov o 0,ah (.nat a.1.2),ov a.2 0,ov a.2 1,ov a.2 2,ov a.2 3,ov a.2 4,ov a.2 5,ov a.2 6,ai,ai,ai,ai],(as,.dict (iO a.1.1))::(al,.list (a.1.1.map iM))::J⟩
 let Ul:Nat->(List Tr×Nat)×List (Option V)->Prop:=λ n a=>n=U.length-a.1.2/\a.1.2<=a.1.1.length/\a.1.1.Nodup/\(∀t∈a.1.1,LC R st em K t)/\(∀t∈K,t∈a.1.1)/\∀i,i<a.1.2->rC R st em a.1.1 (a.1.1.getD i (0,0,""))
 have h0:Ul (U.length-0) ((l,0),[]):=⟨rfl,bg _,Q,λ t h=>.base (N.mem_iff.mp h),λ t h=>N.mem_iff.mpr h,λ i h=>absurd h (c9 _)⟩;refine aB<|sl I 7<|xn 0<|aB<|tK TF Ul _ ((l,0),[]) rfl h0 λ n a B=>?_;clear h0 N Q;obtain ⟨⟨l,t⟩,o'⟩:=a;refine Qi B λ Te XE hn E hK D=>?_;subst Te;have hn:l.Nodup:=hn;have E:∀t∈l,LC R st em K t:=E;have hK:∀t∈K,t∈l:=hK;have D:∀i,i<t->rC R st em l (l.getD i (0,0,"")):=D;have WK:l.length<=U.length:=aU hn λ x Y=>hU x (E x Y);refine tq<|nl I 7 rfl<|cb I 16 C.len<|a1<|nl I 4 rfl<|uJ 1 rfl (show l.length<2^62 from Lo WK We)<|t8 ⟨_,rfl,?_⟩;by_cases u:t<l.length
 ·refine iD (decide_eq_true u) ?_;have S:=X5 _ (E _ (bd u (0,0,"")));have YF:rC R st em l (l.getD t (0,0,""))->∀i,i<t+1->rC R st em l (l.getD i (0,0,"")):=λ h i hi=>(cH.mp hi).elim (D i) λ e=>e▸h;have VD:=E _ (bd u (0,0,""));refine ze (show ∃x,l.getD t (0,0,"")=x from ⟨_,rfl⟩) λ x Y=>?_;refine aB<|xT I<|sb<|nl I 4 rfl<|nl I 7 rfl<|CO iM (0,0,"") 1 rfl u (show t<2^62 from Ln u WK We) ?_;rw[Y]at S VD YF ⊢;obtain ⟨n,k,X⟩:=x;have S:n<R.length:=S;have W:=ZE n;refine Ob I<|Mine.al I 8<|Mine.al I 9<|Mine.al I 10<|aB<|sl I 7<|bx<|nl I 7 rfl<|xn 1<|fQ ?_;refine aB<|sl I 11<|sb<|sb<|nl I 1 rfl<|nl I 8 rfl<|lZ pV ("",[]) S (show n<2^62 from Lm S hR)<|xn 1 ⟨⟨_,.tup⟩,pA (k:=1) rfl (by decide) ?_⟩;have P:rC R st em l (n,k,X)->∀o',Ju (U.length-t) TF Ul (TF ((l,t+1),o')):=λ h o'=>⟨U.length-(t+1),yC u WK,((l,t+1),o'),rfl,rfl,u,hn,E,hK,YF h⟩;refine aB<|e4<|lx<|tq<|nl I 9 rfl<|cb I 16 C.len<|a1<|nl I 11 rfl<|mB (aR W (by decide))<|t8 ⟨_,rfl,?_⟩;by_cases hk:k<(d9 R n).length;rotate_left
  ·exact fX (decide_eq_false hk)<|fX rfl<|bm<|bm<|P (λ h=>absurd h hk) [_,_,_,_,_,_,_]
  refine iD (decide_eq_true hk)<|lx<|tq<|sb<|nl I 11 rfl<|nl I 9 rfl<|lZ V.str "" hk (aH hk (aA W (by decide)))<|nl I 2 rfl<|M7 I.ok .frozen ((Gn ⟨[],[]⟩ st).keyed nd _) ⟨_,rfl,?_⟩;by_cases WB:(d9 R n).getD k ""∈st.map (·.1);rotate_left
  ·exact fX (by rw[ip];exact λ h=>WB (vn.mp h))<|fX rfl<|bm<|bm<|P (λ Z h=>absurd h WB) [_,_,_,_,_,_,_]
  refine iD (vn.mpr WB)<|ji<|iD rfl ?_;clear P;have T8:=tE (em:=em) (ahead:=X) hb ((d9 R n).drop (k+1)) [];have V_:((d9 R n).drop (k+1)).length<=3:=by rw[fK];exact Ll W
  have L:=yr (d:=d) (J:=[]) Yb.y ((d9 R n).drop (k+1)) X (vs:=.dict (vp st)) (ve:=.dict (j1 em)) st em .frozen (Gn _ st) .frozen nd XU (λ p hp=>aA (hb p hp) (by decide)) (aA V_ (by decide));refine aB<|sl I 12<|cg I 17 Yb<|an<|me<|nl I 11 rfl<|oV<|bx<|nl I 9 rfl<|xn 1<|fQ<|oW ⟨⟨_,.list .frozen⟩,Gx I.ok (aA W (by decide))<|an<|nl I 10 rfl<|an<|nl I 2 rfl<|a1<|nl I 3 rfl<|iA I L kD ?_⟩;have T:∀g∈ed st em X [] ((d9 R n).drop (k+1)),∀q,1<=q->q<R.length->(R.getD q ("",[])).1=(d9 R n).getD k ""->LC R st em K (q,0,g):=λ g a q b c e=>.step VD hk WB a b c e;have YG:∀l',(∀g∈ed st em X [] ((d9 R n).drop (k+1)),∀q,1<=q->q<R.length->(R.getD q ("",[])).1=(d9 R n).getD k ""->(q,0,g)∈l')->rC R st em l' (n,k,X):=λ l' h Z Z g a q b c e=>h g a q b c e;have T8:(ed st em X [] ((d9 R n).drop (k+1))).length<=1000:=by rw[hH]at T8;exact Lk T8 V_
  clear L;generalize ed st em X [] ((d9 R n).drop (k+1))=RF at T YG T8 ⊢;let Vy:List Tr×List (Option V)->St:=λ a=>⟨[ah kv,ah rv,ah (.dict (vp st)),ah (.dict (j1 em)),ah (.ref al),ah (.ref as),ov o 0,ah (.nat (t+1)),ah (.nat n),ah (.nat k),ah (.str X),ah (.list ((d9 R n).map .str)),ah (.list (RF.map .str)),ov a.2 0,ov a.2 1,ai,ai,ai,ai],(as,.dict (iO a.1))::(al,.list (a.1.map iM))::J⟩
  let P3:List Tr->Prop:=λ l'=>l<+:l'/\l'.Nodup/\∀t∈l',LC R st em K t
  let Ws:Nat->List Tr×List (Option V)->Prop:=λ i a=>P3 a.1/\∀g∈RF,∀q,1<=q->q<i+1->(R.getD q ("",[])).1=(d9 R n).getD k ""->(q,0,g)∈a.1
  refine aB<|iL Vy Ws<|cb I 18 C.range<|an<|xn 1<|a1<|cb I 16 C.len<|a1<|nl I 1 rfl<|mB (aR hR (by decide))<|Dp ⟨_,_,_,HS I.ok.hand (aR hR (by decide)),(l,[_,_]),rfl,⟨⟨d_ _,hn,E⟩,λ g Z q a b=>absurd ‹_<_› (bT.mpr ‹_›)⟩,λ Z Z Z Z=>trivial,λ i a hi B=>?_,λ a B=>?_⟩
  ·obtain ⟨l',o3⟩:=a;refine za B λ hp hq=>?_;have hp:P3 l':=hp;have hq:∀g∈RF,∀q,1<=q->q<i+1->(R.getD q ("",[])).1=(d9 R n).getD k ""->(q,0,g)∈l':=hq;have XW:i+1<R.length:=Lj hi;refine Mine.al I 13<|aB<|e4<|tq<|sb<|sb<|nl I 1 rfl<|nl I 13 rfl<|lZ pV ("",[]) XW (show i+1<2^62 from Lh XW hR)<|xn 0 ⟨⟨_,.tup⟩,pA (k:=0) rfl (by decide)<|sb<|nl I 11 rfl<|nl I 9 rfl<|lZ V.str "" hk (aH hk (aA W (by decide)))<|Cd ⟨_,rfl,?_⟩⟩;by_cases he:(R.getD (i+1) ("",[])).1=(d9 R n).getD k ""
   ·refine iD (by rw[beq_iff_eq];exact he) ?_;let Wx:List Tr×List (Option V)->St:=λ a=>⟨[ah kv,ah rv,ah (.dict (vp st)),ah (.dict (j1 em)),ah (.ref al),ah (.ref as),ov o 0,ah (.nat (t+1)),ah (.nat n),ah (.nat k),ah (.str X),ah (.list ((d9 R n).map .str)),ah (.list (RF.map .str)),ah (.nat (i+1)),ov a.2 0,ai,ai,ai,ai],(as,.dict (iO a.1))::(al,.list (a.1.map iM))::J⟩
    let Yi:Nat->List Tr×List (Option V)->Prop:=λ j a=>P3 a.1/\(∀x∈l',x∈a.1)/\∀g∈RF.take j,(i+1,0,g)∈a.1
    refine aB<|iL Wx Yi<|nl I 12 rfl ⟨_,_,_,lF V.str RF "" I.ok.hand,(l',[_]),rfl,⟨hp,λ Z h=>h,λ g h=>(nomatch h)⟩,λ Z Z Z Z=>trivial,λ j b hj hb=>?_,λ b hb=>?_⟩
    ·obtain ⟨l2,o4⟩:=b;refine jA hb λ Y6 s A=>?_;obtain ⟨z,w,H⟩:=Y6;have z:l<+:l2:=z;have w:l2.Nodup:=w;have H:∀t∈l2,LC R st em K t:=H;have s:∀x∈l',x∈l2:=s;have A:∀g∈RF.take j,(i+1,0,g)∈l2:=A;have V2:l2.length<=100000:=aA (aU w λ x Y=>hU x (H x Y)) We;have V1:=bd hj "";show XA _ _ _ _ (ql _ _ _ (oz _ (At Wx (λ a=>P3 a.1/\(∀x∈l',x∈a.1)/\∀g∈RF.take (j+1),(i+1,0,g)∈a.1)))) _;rw[dR (ay hj),<-e8 hj ""];generalize RF.getD j ""=g at V1 ⊢;refine Mine.al I 14<|aB<|e4<|tq<|t3<|nl I 13 rfl<|xn 0<|nl I 14 rfl<|nl I 5 rfl<|xy I.ok (.led 0 rfl) (lP (i+1,0,g) w) ⟨_,rfl,?_⟩;by_cases hm:(i+1,0,g)∈l2
     ·refine fX (congrArg (λ b=>!b) ((sZ (i+1,0,g) l2).mpr hm))<|bm<|bm ⟨(l2,[_]),rfl,⟨z,w,H⟩,s,λ y F=>?_⟩;refine b7 (aM.mp F) (λ h=>?_) λ h=>?_
      ·exact A y h
      ·rw[aE.mp h];exact hm
     ·have XO:(l2++[(i+1,0,g)]).Nodup:=by rw[aV];exact ⟨w,by simp,λ a B b hb e=>hm (by rw[aE]at hb;rw[<-hb,<-e];exact B)⟩
      refine iD (congrArg (λ b=>!b) (ip.mpr λ h=>hm ((sZ (i+1,0,g) l2).mp h)))<|aB<|ss<|i3<|nl I 5 rfl<|t3<|nl I 13 rfl<|xn 0<|nl I 14 rfl<|jd (k:=iM (i+1,0,g)) (m:=(as,.dict (iO (l2++[(i+1,0,g)])))::(al,.list (l2.map iM))::J) 0 I.ok rfl (lP (i+1,0,g) w) (by unfold iO;rw[au];exact aA V2 (by decide)) (by rw[sX hm];rfl) ?_;refine aB<|xe I<|gj I<|nl I 4 rfl ⟨al,_,1,rfl,rfl,t3<|nl I 13 rfl<|xn 0<|nl I 14 rfl<|uL Tr (f:=iM) (x:=(i+1,0,g)) 1 rfl (aA V2 (by decide)) rfl<|bm<|bm ⟨(l2++[(i+1,0,g)],[_]),rfl,⟨z.trans (jU _ _),XO,λ y F=>?_⟩,λ y F=>aJ _ (s y F),λ y F=>?_⟩⟩
      ·refine b7 (aM.mp F) (λ h=>?_) λ h=>?_
       ·exact H y h
       ·rw[aE.mp h];exact T g V1 (i+1) (bK _ _) XW he
      ·refine b7 (aM.mp F) (λ h=>?_) λ h=>?_
       ·exact aJ _ (A y h)
       ·rw[aE.mp h];exact ax _ (.head _)
    ·obtain ⟨l2,o4⟩:=b;refine jA hb λ w s A=>?_;have A:∀g∈RF.take RF.length,(i+1,0,g)∈l2:=A;rw[a0]at A;refine bm<|bm ⟨(l2,[_,_]),rfl,w,λ y F q a b c=>?_⟩;refine b7 (cH.mp b) (λ h=>?_) λ h=>?_
     ·exact s _ (hq y F q a h c)
     ·subst h;exact A y F
   ·refine fX (beq_eq_false_iff_ne.mpr he)<|bm<|bm ⟨(l',[_,_]),rfl,hp,λ y F q a b c=>?_⟩;refine b7 (cH.mp b) (λ h=>?_) λ h=>?_
    ·exact hq y F q a h c
    ·subst h;exact absurd c he
  ·obtain ⟨l',o3⟩:=a;refine za B λ Y5 hq=>?_;obtain ⟨z,w,H⟩:=Y5;have z:l<+:l':=z;have s:∀x∈l,x∈l':=λ x Y=>z.subset Y;refine bm<|bm ⟨U.length-(t+1),(show U.length-(t+1)<U.length-t from yC u WK),((l',t+1),[_,_,_,_,_,_,_]),rfl,rfl,aA u z.length_le,w,H,λ y F=>s y (hK y F),λ i hi=>?_⟩;refine b7 (cH.mp hi) (λ h=>?_) λ h=>?_
   ·show rC R st em l' (l'.getD i (0,0,""));rw[nW z (bD h u)];exact z9 s (D i h)
   ·subst h;show rC R st em l' (l'.getD i (0,0,""));rw[(λ l' h=>nW h u _) l' z,Y];exact YG l' λ g a q b c e=>hq g a q b (Lg c) e
 ·refine fX (decide_eq_false u)<|aB<|dF<|nl I 4 rfl ?_;have e:t=l.length:=gd ‹_› (bT.mp ‹_›);subst e;refine ⟨[(as,.dict (iO l)),(al,.list (l.map iM))],J,J,.list (l.map iM),rfl,λ Z h=>h,dI.refl _ _,.list (.tail _ (.head _)) (RE.refl _ _),⟨l,rfl,hn,λ x=>⟨E x,λ h=>h.closed hK λ y F=>?_⟩⟩,rfl⟩;refine Eu (dJ.mp F) λ i hi e=>?_;have:=D i hi;rw[e8 hi,e]at this;exact this
end
noncomputable def lG(g:Gr)(t:Tr):Nat:=g.off t.1+t.2.1
noncomputable def ix(g:Gr)(x:Str):Nat:=g.names.idxOf x
noncomputable def fA(g:Gr)(ms:List (Nat×Nat))(t:Tr):List (Nat×Nat):=
 if t.2.2="" then gc (lG g t) ((ms.lookup (lG g t)).getD 0) ms else gc (lG g t) ((ms.lookup (lG g t)).getD 0|||2^ix g t.2.2) (gc (lG g t) ((ms.lookup (lG g t)).getD 0) ms)
noncomputable def f8(g:Gr)(l:List Tr):List (Nat×Nat):=l.foldl (fA g) []
structure AE(g:Gr)(l:List Tr):Prop where
 rule:∀t∈l,t.1<g.rules.length
 look:∀t∈l,t.2.2=""\/t.2.2∈g.names
 len:l.length<=100000
theorem v8{t:Tr}(h:(ms.map (·.1)).Nodup):((fA g ms t).map (·.1)).Nodup:=by
 unfold fA;split
 ·exact gk h
 ·exact gk (gk h)
theorem Ae{l:List (Nat×Nat)}:(gc k a (gc k b l)).length<=l.length+1:=by have h:k∈(gc k b l).map (·.1):=eQ.mp ⟨b,by rw[cN,if_pos rfl]⟩;have:=kJ k a (gc k b l);rw[if_pos h]at this;have:=congrArg dB this;simp only[au,au]at this;rw[this];exact jR ..
theorem zZ{t:Tr}:(fA g ms t).length<=ms.length+1:=by
 unfold fA;split
 ·exact jR ..
 ·exact Ae
theorem v_:∀(l:List Tr) (ms:List (Nat×Nat)),(ms.map (·.1)).Nodup->((l.foldl (fA g) ms).map (·.1)).Nodup/\(l.foldl (fA g) ms).length<=ms.length+l.length:=by
 intro l;induction l with
 |nil=>intro Z h;exact ⟨h,aT _⟩
 |cons t l b=>intro ms h;have a:=b (fA g ms t) (v8 h);skip;exact ⟨a.1,by show (l.foldl (fA g) (fA g ms t)).length<=_;exact Lf a.2 (zZ (g:=g) (ms:=ms) (t:=t))⟩
theorem jN(g:Gr)(l:List Tr):((f8 g l).map (·.1)).Nodup:=(v_ l [] bL).1
theorem Cf(h:x∈g.names):g.num x=((ix g x:Nat):Int):=by unfold Gr.num;refine (if_pos (dM.mpr ⟨x,h,by rw[beq_iff_eq]⟩)).trans ?_;rfl
section
variable{f:aG}
theorem IF(l:List (Nat×Nat))(k:Nat):CW l k 0=.nat ((l.lookup k).getD 0):=by unfold CW;cases l.lookup k<;>rfl
theorem IU{a:aG}{l:List (Nat×Nat)}(i:Nat){Q:V->St->Prop}(ok:O.Ok)(hi:Y.mu[i]? =ah (a,.dict (dV l)))(nd:(l.map (·.1)).Nodup)(h:Q (.nat ((l.lookup k).getD 0)) Y):cU O Ex (.builtin "dict.get") [.ref a,.nat k,.int 0] Q Y:=
 Ds i ok hi nd (by rw[IF];exact h)
theorem pj(C:Cmn G CG CR)(Yy:Fn G "_law_masks" "_law_masks" (top 35) ["triples","grammar"] [])(g:Gr)(y:de g)(l:List Tr)(w:AE g l):
 cF G (d+2) (.ref Yy.f) [.list (l.map iM),g.v CG CR] J (λ v J'=>v=.dict (dV (f8 g l))/\J'=J):=by
 refine di Yy.y _ _ _ rfl λ O I=>?_;refine aB<|sl I 2<|hV I.ok λ u=>?_;let st:List (Nat×Nat)×List (Option V)->St:=λ a=>⟨[ah (.list (l.map iM)),ah (g.v CG CR),ah (.ref u),ov a.2 0,ov a.2 1,ov a.2 2,ov a.2 3],(u,.dict (dV a.1))::J⟩
 let B:Nat->List (Nat×Nat)×List (Option V)->Prop:=λ i a=>a.1=(l.take i).foldl (fA g) []
 refine aB<|iL st B<|nl I 0 rfl ⟨_,_,_,lF iM l (0,0,"") I.ok.hand,([],[]),rfl,rfl,λ Z Z Z Z=>trivial,λ i a hi c=>?_,λ a c=>?_⟩
 ·obtain ⟨ms,o⟩:=a;have c:ms=(l.take i).foldl (fA g) []:=c;obtain ⟨s,f⟩:=v_ (g:=g) (l.take i) [] bL;rw[<-c]at s f;have q:=w.len;rw[bb,hH]at f;have A:=w.rule _ (bd hi (0,0,""));have z:=w.look _ (bd hi (0,0,""));show XA _ _ _ _ (ql _ _ _ (oz _ (At st (λ a=>a.1=(l.take (i+1)).foldl (fA g) [])))) _;rw[(show (l.take (i+1)).foldl (fA g) []=fA g ms (l.getD i (0,0,""))from by rw[c];exact fN _ _ hi (0,0,""))];generalize l.getD i (0,0,"")=t at A z ⊢;obtain ⟨n,k,x⟩:=t;have m:=gk (k:=g.off n+k) (v:=(ms.lookup (g.off n+k)).getD 0) s;refine Ob I<|Mine.al I 3<|Mine.al I 4<|Mine.al I 5<|aB<|sl I 6<|gm I C.item g<|nl I 1 rfl<|og<|an<|nl I 3 rfl<|a1<|nl I 4 rfl<|iA I (qS (d:=d) C.F C.item.y g n k A y.toSmall) kD ?_;refine aB<|ss<|mb I PySem.F.plainAttrs_dict PySem.F.slot_dict_get PySem.F.type_dict_get<|nl I 2 rfl ⟨.dict (.led 0 rfl),an<|nl I 6 rfl<|a1<|dN<|IU (k:=g.off n+k) 0 I.ok rfl s<|nl I 2 rfl<|nl I 6 rfl<|xk (k:=g.off n+k) 0 I.ok rfl s (aA f (aA (cQ _▸Nat.min_le_right _ _) (aA q (by decide)))) rfl ?_⟩;refine aB<|e4<|tq<|nl I 5 rfl<|c4<|M5 ⟨_,rfl,?_⟩;by_cases p:x=""
  ·have e:fA g ms (n,k,x)=gc (g.off n+k) ((ms.lookup (g.off n+k)).getD 0) ms:=if_pos p;exact fX (by rw[p];rfl)<|bm<|bm ⟨(_,[_,_,_,_]),rfl,e.symm⟩
  ·have r:=(show x=""\/x∈g.names from z).resolve_left p;have j:=vD (d:=d) (J:=[]) C.F C.number.y g x y.toSmall;rw[Cf r]at j;exact iD (congrArg (λ b=>!b) (beq_eq_false_iff_ne.mpr p))<|aB<|ss<|bx<|sb<|nl I 2 rfl<|nl I 6 rfl<|Nz (k:=g.off n+k) 0 I.ok rfl m (show (gc (g.off n+k) ((ms.lookup (g.off n+k)).getD 0) ms).lookup (g.off n+k)=ah ((ms.lookup (g.off n+k)).getD 0)from by rw[cN,if_pos rfl])<|bx<|dN<|gm I C.number g<|nl I 1 rfl<|og<|a1<|nl I 5 rfl<|iA I j kD<|Hb (aA (bc (sL r)) (aA (bc y.VA) (by decide)))<|Ck<|nl I 2 rfl<|nl I 6 rfl<|xk (k:=g.off n+k) 0 I.ok rfl m (show (gc (g.off n+k) ((ms.lookup (g.off n+k)).getD 0) ms).length<=2^20 from aA (jR ..) (by have:l.length<2^20:=aR q (by decide);exact Le f this)) rfl<|bm<|bm ⟨(_,[_,_,_,_]),rfl,(if_neg p).symm⟩
 ·obtain ⟨ms,o⟩:=a;have c:ms=(l.take l.length).foldl (fA g) []:=c;rw[a0]at c;refine aB<|dF<|nl I 2 rfl ?_;subst c;exact ⟨[(u,.dict (dV (f8 g l)))],J,J,.dict (dV (f8 g l)),rfl,λ Z h=>h,dI.refl _ _,.dict (.head _) (s_ _ _),rfl,rfl⟩
end
noncomputable def i4(tc m:Nat):List Nat:=(aZ tc).filter λ t=>m/2^t%2==1
noncomputable def ue(R:List Pr)(r k:Nat):List Str:=(d9 R r).take k++[bo "."]++(d9 R r).drop k
noncomputable def nr(R:List Pr)(g:Gr)(i m:Nat):Str:=(R.getD (g.Ro i) ("",[])).1++bo " : "++Txt.join (bo " ") (ue R (g.Ro i) (g.Rt i))++bo "  ["++Txt.join (bo " ") ((i4 g.tc m).map (pu g))++bo "]"
structure AF(R:List Pr):Prop where
 len:R.length<=12
 right:∀r∈R,r.2.length<=3
 left:∀r∈R,r.1.length<=20/\∀x∈r.2,x.length<=20
theorem qf(h:AF R)(n:Nat):(d9 R n).length<=3/\∀x∈d9 R n,x.length<=20:=by
 dsimp only[d9];by_cases a:n<R.length
 ·exact ⟨h.right _ (bd a _),(h.left _ (bd a _)).2⟩
 ·rw[aD,bl (bT.mp ‹_›)];exact ⟨bg _,λ x b=>(nomatch b)⟩
theorem CD(h:AF R)(r k:Nat):((ue R r k).map (·.length)).sum+(ue R r k).length*(bo " ").length<=84:=by
 refine za (qf h r) λ d a=>?_;have c:∀x∈ue R r k,x.length<=20:=λ x b=>by
  unfold ue at b;rcases aM.mp b with q|q
  ·rcases aM.mp q with q|q
   ·exact a x (cG q)
   ·rw[aE.mp q];decide+kernel
  ·exact a x (cC q)
 exact GL (tQ 20 _ c) (by unfold ue;simp only[aF,bb,fK,cM];exact Ld d)
section
variable{f:aG}
theorem Gw{f:α->V}(ok:O.Ok)(hz:l.length<=2^20)(h:Q (.list ((l.take b).map f)) Y):l_ O Ex (.list (l.map f)) .none (.int b) Q Y:=EO ok .frozen (by rw[au];exact hz) (.F ((g5)▸h))
theorem zO{f:α->V}{l':List α}(ok:O.Ok)(hz:l.length+l'.length<=2^20)(h:Q (.list ((l++l').map f)) Y):iF O Ex (dT .Add) (VR O.P) (.list (l.map f)) (.list (l'.map f)) Q Y:=
 ng ok .frozen .frozen (by simp only[au,au];exact hz) (.F (by rw[<-aK];exact h))
theorem Na{m t:Nat}(h:Q (.nat (m/2^t)) Y):iF O Ex (dT .RShift) (VR O.P) (.nat m) (.nat t) Q Y:=
 B_ (bs _) (by
  dsimp only[gp];have:Int.fdiv (m:Int) (2^t)=((m/2^t:Nat):Int):=by simp only[(show ((2:Int)^t)=((2^t:Nat):Int)from by push_cast;rfl),rK]
  rw[this];exact h)
theorem vE(C:Cmn G CG CR)(Yy:Fn G "_law_shown" "_law_shown" (top 36) ["masks","rules","grammar"] [])(g:Gr)(z:de g)(h3:AV g)(R:List Pr)(P:AF R)(S:R.length=g.rules.length)(es:List (Nat×Nat))(nd:(es.map (·.1)).Nodup)(hi:∀p∈es,p.1<g.owners.length)(hl:es.length<60):
 cF G (d+2) (.ref Yy.f) [.dict (dV es),.list (R.map pV),g.v CG CR] J (λ v J'=>(∃ys,v=.list ys/\ys.Perm ((es.map λ p=>nr R g p.1 p.2).map .str)/\dA ys)/\J'=J):=by
 refine l7 Yy.y _ _ _ rfl λ O I Oo=>?_;let gv:V:=g.v CG CR
 let rv:V:=.list (R.map pV)
 refine aB<|sl I 3<|eC I.ok<|cz ⟨bg _,λ E=>?_⟩;let st:List Str×List (Option V)->St:=λ a=>⟨[ah (.dict (dV es)),ah rv,ah gv,ah (.ref E),ov a.2 0,ov a.2 1,ov a.2 2,ov a.2 3,ov a.2 4,ai,ai],(E,.list (a.1.map .str))::J⟩
 let In:Nat->List Str×List (Option V)->Prop:=λ i a=>a.1=(es.take i).map λ p=>nr R g p.1 p.2
 refine aB<|iL st In<|nc I 0 rfl ⟨_,_,_,Bo I.ok.hand nd,([],[]),rfl,rfl,λ Z Z Z Z=>trivial,λ i a q f=>?_,λ a f=>?_⟩
 ·obtain ⟨l,o⟩:=a;have f:l=(es.take i).map λ p=>nr R g p.1 p.2:=f;have y:l.length<=2^20:=by rw[f,au,bb];exact Lc hl
  have ht:(es.take (i+1)).map (λ p=>nr R g p.1 p.2)=l++[nr R g (es.getD i (0,0)).1 (es.getD i (0,0)).2]:=by rw[dR (ay q),<-e8 q (0,0),aK,<-f];rfl
  have M:=g2 nd q;have n:=hi _ (bd q (0,0));show XA _ _ _ _ (ql _ _ _ (oz _ (At st (λ a=>a.1=(es.take (i+1)).map λ p=>nr R g p.1 p.2)))) _;rw[ht];generalize es.getD i (0,0)=p at M n ⊢;refine jA (g.item_at n) λ Q hq2 hq3=>?_;have B:g.Ro p.1<R.length:=by rw[S];exact Q
  refine za (qf P (g.Ro p.1)) λ r TK=>?_;have e:=(P.left _ (bd B ("",[]))).1;refine ac I Oo 4<|aB<|xT I<|sb<|nl I 1 rfl<|gm I C.RH g<|nc I 2 rfl<|og<|a1<|nc I 4 rfl<|iA I (kz (d:=d) C.F C.RH.y g p.1 z.toSmall n) kD<|lZ pV ("",[]) B (aH B (aA P.len (by decide)))<|AD I<|Mine.al I 5<|Mine.al I 6 ?_;refine aB<|sl I 7<|gm I C.R8 g<|nc I 2 rfl<|og<|a1<|nc I 4 rfl<|iA I (nS (d:=d) C.F C.R8.y g p.1 z.toSmall n) kD ?_;refine aB<|Ng I 8<|cb I 9 C.range<|a1<|ga I C.F g (.nat g.tc)<|nc I 2 rfl ⟨rfl,jv ⟨_,_,_,m9 I.ok.hand (aR z.VO (by decide)),aA z.VO (by decide),(λ j b acc m=>∃o,b=[ai,o,ah gv,ah (.nat p.1),ah (.dict (dV es))]/\acc=(((aZ j).filter λ t=>p.2/2^t%2==1).map (pu g)).map .str/\m=(E,.list (l.map .str))::J),⟨_,oi I,rfl,rfl⟩,?_,?_,?_⟩⟩
  ·rintro j b acc m hj ⟨o,rfl,rfl,rfl⟩;refine ⟨?_,λ Z=>trivial⟩;rw[au,au];have:=db (λ t=>p.2/2^t%2==1) (aZ j);rw[bf]at this;exact this
  ·rintro O' C' j b acc m D hj ⟨o,rfl,rfl,rfl⟩;have w:=C'.S7 I;have K:j<g.names.length:=aH hj z.Wv;refine Mine.al w 1<|HE<|tq<|bx<|bx<|sb<|nc w 4 rfl<|nc w 3 rfl<|uq w.ok nd M<|nl w 1 rfl<|Na<|xn 2<|Cm (by decide)<|xn 1<|zV ⟨_,rfl,?_⟩;rw[cW,oC];by_cases N:p.2/2^j%2=1
   ·rw[lC (by rw[beq_iff_eq];exact N)];refine iD (by rw[beq_iff_eq];exact N)<|sb<|ga w C.F g (.list (g.names.map .str))<|nc w 2 rfl ⟨rfl,nl w 1 rfl<|lZ V.str "" K (gG K z.names) ⟨[],rfl,_,rfl,?_,rfl⟩⟩;rw[aK,aK];rfl
   ·rw[lD (by rw[beq_iff_eq];exact N),List.filter_nil,cJ];exact fX (beq_eq_false_iff_ne.mpr N) ⟨[],rfl,_,rfl,rfl,rfl⟩
  ·rintro b acc m ⟨o,rfl,rfl,rfl⟩;have L:(((i4 g.tc p.2).map (pu g)).map (·.length)).sum+((i4 g.tc p.2).map (pu g)).length*(bo " ").length<=210:=by
    have h1:=tQ 20 ((i4 g.tc p.2).map (pu g)) λ x X=>by refine b5 (aC.mp X) λ s Z T=>?_;subst T;exact n2 h3 s
    have Y:=db (λ t=>p.2/2^t%2==1) (aZ g.tc);rw[au]at h1 ⊢;rw[zF.2.2.2];exact Lb h1 (by rw[bf]at Y;exact Y) z.VO
   have H:=aA (lY (bo " ") ((i4 g.tc p.2).map (pu g))) L;have F:=CD P (g.Ro p.1) (g.Rt p.1);have u:=aA (lY (bo " ") (ue R (g.Ro p.1) (g.Rt p.1))) F;refine w2 zF λ c A U Z=>?_;refine .F<|aB<|xe I<|gj I<|nl I 3 rfl ⟨E,_,0,rfl,rfl,bx<|bx<|bx<|bx<|bx<|nl I 5 rfl<|c4<|i5 (by rw[c];exact GK e)<|mb I PySem.F.plainAttrs_str PySem.F.slot_str_join PySem.F.type_str_join<|c4 ⟨.str,a1<|bx<|bx<|me<|nl I 6 rfl<|oW<|oV<|nl I 7 rfl ⟨⟨_,.list .frozen⟩,Gw I.ok (aA r (by decide))<|l1<|c4<|zO (l':=[bo "."]) I.ok ?_<|me<|nl I 6 rfl<|oV<|nl I 7 rfl<|oW ⟨⟨_,.list .frozen⟩,Gx I.ok (aA r (by decide))<|zO I.ok ?_ ?_⟩⟩⟩⟩
   ·rw[bb];show min _ (d9 R (g.Ro p.1)).length+1<=_;exact K9 r
   ·rw[aF,bb,fK];show min _ (d9 R (g.Ro p.1)).length+1+((d9 R (g.Ro p.1)).length-_)<=_;exact K8 r
   refine uK (xs:=ue R (g.Ro p.1) (g.Rt p.1)) .frozen (aA F (by decide)) ?_;refine i5 ?_ ?_
   ·rw[cj,c];exact GJ e u
   refine c4<|i5 ?_ ?_
   ·rw[cj,cj,c,A];exact K7 e u
   refine mb I PySem.F.plainAttrs_str PySem.F.slot_str_join PySem.F.type_str_join<|c4 ⟨.str,a1<|nl I 8 rfl ?_⟩;refine uK (xs:=(i4 g.tc p.2).map (pu g)) .frozen (aA L (by decide)) ?_;refine i5 ?_ ?_
   ·rw[cj,cj,cj,c,A];exact K6 e u H
   refine c4<|i5 ?_ ?_
   ·rw[cj,cj,cj,cj,c,A,U];exact K5 e u H
   exact uL Str (x:=nr R g p.1 p.2) 0 rfl y rfl<|bm ⟨(l++[nr R g p.1 p.2],[_,_,_,_,_]),rfl,rfl⟩
 ·obtain ⟨l,o⟩:=a;have f:l=(es.take es.length).map λ p=>nr R g p.1 p.2:=f;rw[a0]at f;rw[<-f];have y:l.length<64:=by rw[f,au];exact aH ‹_› (by decide)
  clear f;refine aB<|dF<|cb I 10 C.sorted<|a1<|nl I 3 rfl<|kK (k:=1) I.ok (.led 0 rfl) (by rw[au];exact y) (λ x X=>by refine b5 (aC.mp X) λ t Z W=>?_;subst W;exact .str _) λ ys hp hs=>.F ?_;exact ⟨[(E,.list (l.map .str))],J,J,.list ys,rfl,λ Z h=>h,dI.refl _ _,.refl _,⟨ys,rfl,hp,hs⟩,rfl⟩
end
noncomputable def fB(R:List Pr)(g:Gr)(ms acc:List (Nat×Nat))(t:Tr):List (Nat×Nat):=if 0<t.1/\t.2.1=(d9 R t.1).length then gc t.1 ((ms.lookup (lG g t)).getD 0) acc else acc
noncomputable def wj(R:List Pr)(g:Gr)(ms:List (Nat×Nat))(l:List Tr):List (Nat×Nat):=l.foldl (fB R g ms) []
theorem tz:∀(l:List Tr) (acc:List (Nat×Nat)),(acc.map (·.1)).Nodup->(∀t∈l,t.1<R.length)->(∀x∈acc.map (·.1),x<R.length)->((l.foldl (fB R g ms) acc).map (·.1)).Nodup/\∀x∈(l.foldl (fB R g ms) acc).map (·.1),x<R.length:=by
 intro l;induction l with
 |nil=>intro Z h Z k;exact ⟨h,k⟩
 |cons t l c=>
  intro acc h b k;refine c (fB R g ms acc t) ?_ (λ x a=>b x (.tail _ a)) ?_
  ·dsimp only[fB];split
   ·exact gk h
   ·exact h
  ·unfold fB;split
   ·intro x a;rw[kJ]at a;split at a
    ·exact k x a
    ·rcases aM.mp a with q|q
     ·exact k x q
     ·rw[aE.mp q];exact b t (.head _)
   ·exact k
structure I8(g:Gr)(R:List Pr)(s:fD)(K tr:List Tr):Prop where
 items:Dg (dV s.items) (dV (f8 g tr))=aj
 Sv:s.kernel.Perm (f8 g K)/\s.kernel.Pairwise λ a b=>a.1<b.1
 Rq:s.Rq.Perm ((wj R g (f8 g tr) tr).map (·.1))/\s.Rq.Pairwise (·<·)
 Rp:Dg (dV s.Rp) (dV (wj R g (f8 g tr) tr))=aj
theorem yT(l:List (Nat×Nat)):∀p∈dV l,kk p.1=1/\lU 8 p.2=aj:=λ p b=>by refine b5 (aC.mp b) λ q Z a=>?_;subst a;exact ⟨rfl,rfl⟩
theorem qh(l:List (Nat×Nat)):∀x∈l.map du,lU 8 x=aj:=λ x b=>by refine b5 (aC.mp b) λ q Z a=>?_;subst a;rfl
theorem nj(l:List Nat):∀x∈l.map V.nat,lU 8 x=aj:=λ x b=>by refine b5 (aC.mp b) λ q Z a=>?_;subst a;rfl
section
variable{f:aG}
theorem xg(C:Cmn G CG CR)(A:Ge G CS CA)(Ym:Fn G "_law_masks" "_law_masks" (top 35) ["triples","grammar"] [])(Yy:Fn G "_law_is_state" "_law_is_state" (top 37) ["state","kernel","triples","rules","grammar"] [])(g:Gr)(hg:de g)(R:List Pr)(hR:AF R)(Q:R.length=g.rules.length)(s:fD)(K f:List Tr)(hK:AE g K)(hT:AE g f)
 (H:I8 g R s K f) (UE:s.kernel.length<60):
 cF G (d+3) (.ref Yy.f) [s.v CS,.list (K.map iM),.list (f.map iM),.list (R.map pV),g.v CG CR] J (λ v J'=>v=.bool aj/\J'=J):=by
 refine l7 Yy.y _ _ _ rfl λ O I Oo=>?_;have T:=jN g f;have E:=jN g K;have hhl:(f8 g K).length<60:=by rw[<-H.Sv.1.length_eq];exact UE
 refine aB<|sl I 5<|cg I 11 Ym<|an<|nl I 2 rfl<|a1<|nl I 4 rfl<|iA I (pj (d:=d) C Ym g hg f hT) td ?_;refine aB<|DZ I Oo 6<|cg I 11 Ym<|an<|nl I 1 rfl<|a1<|nl I 4 rfl<|iA I (pj (d:=d) C Ym g hg K hK) td ?_;refine aB<|e4<|na<|tq<|sa I A s (.dict (dV s.items))<|nl I 0 rfl ⟨rfl,nl I 5 rfl<|G8 I.ok .frozen .frozen (c:=1) (by decide) (yT _) (yT _) (fS T) ⟨_,rfl,fX (congrArg (λ b=>!b) H.items) ?_⟩⟩;refine na<|tq<|sa I A s (e_ s.kernel)<|nl I 0 rfl ⟨rfl,cb I 12 C.tup<|a1<|lc I<|cb I 13 C.sorted<|a1<|nc I 6 rfl<|kL I.ok .frozen (by rw[show (dV (f8 g K)).length=(f8 g K).length from au ..];exact aH ‹_› (by decide)) (pE _) (fS E) λ ys u Y=>?_⟩;rw[lm]at u;have z:ys=(s.kernel.map (·.1)).map V.nat:=dA.uniq (k:=0) (u.trans ((H.Sv.1.map (·.1)).symm.map _)) (λ x B=>qb _ x (u.mem_iff.mp B)) Y (jK (by rw[bU];exact H.Sv.2));subst z;clear u Y;refine .F ⟨_,_,_,lF V.nat (s.kernel.map (·.1)) 0 I.ok.hand,by rw[au];exact bc (aH ‹_› (by decide)),(λ i j acc m=>∃o,j=[ai,o,ah (.dict (dV (f8 g K)))]/\acc=(s.kernel.take i).map du/\m=J),⟨_,oi I,rfl,rfl⟩,?_,?_,?_⟩
 ·rintro i j acc m hi ⟨o,rfl,rfl,rfl⟩;exact ⟨by rw[au,bb];exact ra,λ Z=>trivial⟩
 ·rintro O' C' i j acc m D hi ⟨o,rfl,rfl,rfl⟩;have S:=C'.S7 I;have hi:i<s.kernel.length:=by rw[au]at hi;exact hi
  have U:(f8 g K).lookup (s.kernel.getD i (0,0)).1=ah (s.kernel.getD i (0,0)).2:=eO E (H.Sv.1.mem_iff.mp (bd hi (0,0)));rw[(show (s.kernel.map (·.1)).getD i 0=(s.kernel.getD i (0,0)).1 by rw[e8 (by simpa using hi),bY,e8 hi]),dR (ay hi),<-e8 hi (0,0)];generalize s.kernel.getD i (0,0)=p at U ⊢;refine Mine.al S 1<|gy<|t2<|nl S 1 rfl<|sb<|nc S 2 rfl<|nl S 1 rfl<|uq S.ok E U ⟨[],rfl,_,rfl,?_,rfl⟩;rw[aK];rfl
 rintro j acc m ⟨o,rfl,rfl,rfl⟩;rw[au,a0];refine .F<|rS .frozen (by rw[au];exact bc (aH ‹_› (by decide)))<|M4 I.ok (qh _) (qh _) ⟨_,rfl,fX (by rw[eN];rfl)<|jq<|fX rfl<|bm ?_⟩;refine aB<|sl I 7<|hV I.ok λ ad=>?_;let ms:=f8 g f
 let st:List (Nat×Nat)×List (Option V)->St:=λ a=>⟨[ah (s.v CS),ah (.list (K.map iM)),ah (.list (f.map iM)),ah (.list (R.map pV)),ah (g.v CG CR),ah (.dict (dV ms)),ah (.dict (dV (f8 g K))),ah (.ref ad),ov a.2 0,ov a.2 1,ov a.2 2,ai,ai,ai,ai],(ad,.dict (dV a.1))::m⟩
 let In:Nat->List (Nat×Nat)×List (Option V)->Prop:=λ i a=>a.1=(f.take i).foldl (fB R g ms) []
 have N:∀t∈f,t.1<R.length:=λ t ht=>by rw[Q];exact hT.rule t ht
 have W:∀i,(((f.take i).foldl (fB R g ms) []).map (·.1)).Nodup/\((f.take i).foldl (fB R g ms) []).length<=12:=λ i=>by refine za (tz (R:=R) (g:=g) (ms:=ms) (f.take i) [] bL (λ t ht=>N t (cG ht)) (λ x B=>(nomatch B))) λ a b=>?_;have:=aU a (l₂:=aZ R.length) λ x B=>bP.mpr (b x B);rw[au,bf]at this;exact ⟨a,aA this hR.len⟩
 refine aB<|iL st In<|nl I 2 rfl ⟨_,_,_,lF iM f (0,0,"") I.ok.hand,([],[]),rfl,rfl,λ Z Z Z Z=>trivial,λ i a hi q=>?_,λ a q=>?_⟩
 ·obtain ⟨acc,o⟩:=a;have q:acc=(f.take i).foldl (fB R g ms) []:=q;refine za (W i) λ M X=>?_;rw[<-q]at M X;have L:=N _ (bd hi (0,0,""));have w:=bd hi (0,0,"");show XA _ _ _ _ (ql _ _ _ (oz _ (At st (λ a=>a.1=(f.take (i+1)).foldl (fB R g ms) [])))) _;rw[(show (f.take (i+1)).foldl (fB R g ms) []=fB R g ms acc (f.getD i (0,0,""))from by rw[q];exact fN _ _ hi (0,0,""))];generalize f.getD i (0,0,"")=t at L w ⊢;obtain ⟨n,k,x⟩:=t;have L:n<R.length:=L;refine Ob I<|Mine.al I 8<|Mine.al I 9<|Mine.al I 10<|aB<|e4<|lx<|tq<|nl I 8 rfl<|dN<|Cc ⟨_,rfl,?_⟩;by_cases F:0<n;rotate_left
  ·exact fX (decide_eq_false (by show ¬(0:Int)<(n:Int);exact GG F))<|fX rfl<|bm<|bm ⟨(acc,[_,_,_]),rfl,(if_neg λ h=>F h.1:fB R g ms acc (n,k,x)=acc).symm⟩
  refine iD (decide_eq_true (by show (0:Int)<(n:Int);exact cY.mpr ‹_›))<|lx<|tq<|nl I 9 rfl<|cb I 14 C.len<|a1<|sb<|sb<|nl I 3 rfl<|nl I 8 rfl<|lZ pV ("",[]) L (aH L (aA hR.len (by decide)))<|xn 1 ⟨⟨_,.tup⟩,pA (k:=1) rfl (by decide)<|mB (l:=d9 R n) (aR ((qf hR n).1) (by decide))<|zV ⟨_,rfl,?_⟩⟩;by_cases hk:k=(d9 R n).length;rotate_left
  ·exact fX (beq_eq_false_iff_ne.mpr hk)<|fX rfl<|bm<|bm ⟨(acc,[_,_,_]),rfl,(if_neg λ h=>hk h.2:fB R g ms acc (n,k,x)=acc).symm⟩
  obtain ⟨m',P⟩:∃m',ms.lookup (g.off n+k)=ah m':=by
   refine eQ.mpr ?_;have key:∀(l:List Tr) (acc:List (Nat×Nat)),((n,k,x)∈l\/g.off n+k∈acc.map (·.1))->g.off n+k∈(l.foldl (fA g) acc).map (·.1):=λ l=>by
    have r:∀(acc:List (Nat×Nat)) (t:Tr),(∀y∈acc.map (·.1),y∈(fA g acc t).map (·.1))/\lG g t∈(fA g acc t).map (·.1):=λ acc t=>by
     have hd:∀(k v:Nat) (l:List (Nat×Nat)),(∀y∈l.map (·.1),y∈(gc k v l).map (·.1))/\k∈(gc k v l).map (·.1):=λ k v l=>by
      rw[kJ];split
      ·rename_i h;exact ⟨λ Z h=>h,h⟩
      ·exact ⟨λ Z h=>aJ _ h,ax _ (.head _)⟩
     unfold fA;split
     ·exact hd _ _ _
     ·exact ⟨λ y hy=>(hd _ _ _).1 y ((hd _ _ _).1 y hy),(hd _ _ _).2⟩
    induction l with
    |nil=>intro acc h;exact h.elim (λ h=>(nomatch h)) id
    |cons t l ih=>
     intro acc h;refine ih (fA g acc t) ?_;rcases h with h|h
     ·rcases aI.mp h with h|h
      ·rw[<-h];exact .inr (r acc (n,k,x)).2
      ·exact .inl h
     ·exact .inr ((r acc t).1 _ h)
   exact key f [] (.inl w)
  have e:fB R g ms acc (n,k,x)=gc n m' acc:=by unfold fB;rw[if_pos ⟨F,hk⟩];show gc n ((ms.lookup (g.off n+k)).getD 0) acc=_;rw[P];rfl
  exact iD (by rw[beq_iff_eq];exact hk)<|ji<|iD rfl<|aB<|ss<|sb<|nl I 5 rfl<|gm I C.item g<|nl I 4 rfl<|og<|an<|nl I 8 rfl<|a1<|nl I 9 rfl<|iA I (qS (d:=d) C.F C.item.y g n k (by rw[<-Q];exact L) hg.toSmall) yB<|uq (k:=g.off n+k) I.ok T P<|nl I 7 rfl<|nl I 8 rfl<|xk (k:=n) 0 I.ok rfl M (aA X (by decide)) rfl<|bm<|bm ⟨(_,[_,_,_]),rfl,e.symm⟩
 ·obtain ⟨acc,o⟩:=a;have q:acc=(f.take f.length).foldl (fB R g ms) []:=q;refine za (W f.length) λ M X=>?_;rw[<-q]at M X;rw[a0]at q;have q:acc=wj R g ms f:=q;refine aB<|dF<|HP<|yj (sa I A s (.list (s.Rq.map .nat))<|nl I 0 rfl ⟨rfl,cb I 13 C.sorted<|a1<|nl I 7 rfl<|kL I.ok (.led 0 rfl) (by rw[show (dV acc).length=acc.length from au ..];exact aR ‹_› (by decide)) (pE _) (fS M) λ ys u Y=>?_⟩) rfl;rw[lm]at u;have z:ys=s.Rq.map V.nat:=dA.uniq (k:=0) (u.trans ((show s.Rq.Perm (acc.map (·.1))from by rw[q];exact H.Rq.1).symm.map _)) (λ x B=>qb _ x (u.mem_iff.mp B)) Y (jK H.Rq.2);subst z;refine .F<|Ce I.ok .frozen .frozen (nj _) (nj _) ?_;rw[eN];refine ⟨aj,rfl,iD rfl<|yj (sa I A s (.dict (dV s.Rp))<|nl I 0 rfl ⟨rfl,nl I 7 rfl<|M8 I.ok .frozen (.led 0 rfl) (c:=1) (by decide) (yT _) (yT _) (fS M) ?_⟩) rfl⟩;rw[(show Dg (dV s.Rp) (dV acc)=aj by rw[q];exact H.Rp)];exact ⟨[(ad,.dict (dV acc))],m,m,.bool aj,rfl,λ Z h=>h,dI.refl _ _,.refl _,rfl,rfl⟩
end
noncomputable def rh:List Str:=["xyz","xzy","yxz","yzx","zxy","zyx"]
noncomputable def nZ:List (Str×Str×Str):=[("x","y","z"),("x","z","y"),("y","x","z"),("y","z","x"),("z","x","y"),("z","y","x")]
noncomputable def ti:List Str:=["x","y","z","a","b","z"]
noncomputable def lX:List Str:=["x","y","s","a"]
noncomputable def mz(row:List Nat):Pr:=((["s","a","b"]:List Str).getD (pick row 3 3) "",(aZ (pick row 4 3)).map λ k=>ti.getD (pick row (5+k) 6) "")
noncomputable def ib(t:Str×Str×Str):List Pr:=[("s",[t.2.2,t.2.2]),("s",[t.1,"a",t.1]),("s",[t.2.1,"a",t.2.1]),("s",[t.1,"b",t.2.1]),("s",[t.2.1,"b",t.1]),("a",[t.2.2]),("b",[t.2.2])]
noncomputable def C7(row:List Nat):List Pr:=ib (nZ.getD (pick row 1 6) ("","",""))++if 0<pick row 2 3 then [mz row]else []
noncomputable def mR(row:List Nat)(base:Nat):List Str:=(aZ (pick row base 3)).map λ k=>(["x","y"]:List Str).getD (pick row (base+1+k) 2) ""
noncomputable def qF(row:List Nat)(place:Nat):List Str:=(aZ (1+pick row place 2)).map λ k=>lX.getD (pick row (place+1+k) 4) ""
noncomputable def pG(row:List Nat)(b:Nat×Str):List Pr:=(b.2,mR row b.1)::(aZ (1+pick row (b.1+4) 2)).map λ t=>(b.2,qF row (b.1+5+5*t))
noncomputable def om:List (Nat×Str):=[(8,"s"),(24,"a")]
noncomputable def gr(row:List Nat):List Pr:=if pick row 0 4<2 then C7 row else om.flatMap (pG row)
theorem d8{row:List Nat}{m:Nat}(a:0<m):pick row i m<m:=Nat.mod_lt _ a
theorem zM:∀i,i<6->((rh.getD i "").cps.toList.map λ c=>V.str ⟨#[c]⟩)=[.str (nZ.getD i ("","","")).1,.str (nZ.getD i ("","","")).2.1,.str (nZ.getD i ("","","")).2.2]
 |0,_=>by kernel_rfl
 |1,_=>by kernel_rfl
 |2,_=>by kernel_rfl
 |3,_=>by kernel_rfl
 |4,_=>by kernel_rfl
 |5,_=>by kernel_rfl
 |n+6,h=>absurd h ((GF h).elim)
theorem B9:∀i,i<6->(rh.getD i "").cps.size<=2^20
 |0,_=>by decide+kernel
 |1,_=>by decide+kernel
 |2,_=>by decide+kernel
 |3,_=>by decide+kernel
 |4,_=>by decide+kernel
 |5,_=>by decide+kernel
 |n+6,h=>absurd h ((GF h).elim)
section
variable{f:aG}
theorem P5(I:f_ O G d T){c b f:Expr}{k:Nat}{pos:gY}{u v w:V}{Q:St->Prop}(h:XA O Ex (ec c O.env) u (CL O Ex b v (CL O Ex f w Q)) Y)
 (n:autoParam ((d3 [c,b,f] O.env).map (·.2)=[ec c O.env,ec b O.env,ec f O.env]) rf) (m:autoParam ((d3 [c,b,f] O.env).length=3) rf) (a:autoParam ((d3 [c,b,f] O.env).findIdx? (·.1)=ai) rf):
 XA O Ex (ec (.Tuple [c,b,f] k pos) O.env) (.list [u,v,w]) Q Y:=I3 I.ok .frozen n m a (jS (λ Kp Jj s u R g=>aY (h Kp Jj s u R g) (λ Z Z l=>by refine b5 l λ Y' R' q=>?_;exact ⟨Y',R',jS (λ Kp Jj s u R g=>aY (q Kp Jj s u R g) (λ Z Z i=>by refine b5 i λ Y' R' q=>?_;exact ⟨Y',R',jS (λ Kp Jj s u R g=>aY (q Kp Jj s u R g) (λ Z Z j=>by refine b5 j λ Y' R' q=>?_;exact ⟨Y',R',x0 q⟩) λ Z Z e=>e)⟩) λ Z Z e=>e)⟩) λ Z Z e=>e))
theorem EI{l:List V}(h:l.length<=16):l.length<=eZ:=QG h
theorem l2{a b:Expr}{pos:gY}{Q:V->St->Prop}(h:XV O Ex (bw a O.env) (kR O Ex b (λ v w Y=>Q (.list [v,w]) Y)) Y)(d:autoParam (bk [a,b] O.env=(ao,bw a O.env)::bk [b] O.env) rf)(c:autoParam (bk [b] O.env=(ao,bw b O.env)::bk [] O.env) rf):
 XV O Ex (bw (.List [a,b] pos) O.env) Q Y:=f5 (an (h.mono λ Z Z h=>a1 (X.mono h λ Z Z q=>⟨EI (aP rfl),q⟩) c) d)
noncomputable def Q4(Q:V->St->Prop)(u v w:V)(Y:St):Prop:=Q (.list [u,v,w]) Y
noncomputable def PT(O:FC)(Ex:Value->aQ->Prop)(c:Expr)(Q:V->St->Prop)(u v:V)(Y:St):Prop:=XV O Ex (bw c O.env) (Q4 Q u v) Y
theorem l3{a b c:Expr}(h:XV O Ex (bw a O.env) (kR O Ex b (PT O Ex c Q)) Y)(f:autoParam (bk [a,b,c] O.env=(ao,bw a O.env)::bk [b,c] O.env) rf)(e:autoParam (bk [b,c] O.env=(ao,bw b O.env)::bk [c] O.env) rf)(d:autoParam (bk [c] O.env=(ao,bw c O.env)::bk [] O.env) rf):XV O Ex (bw (.List [a,b,c] pos) O.env) Q Y:=
 f5 (an (h.mono λ Z Z h=>an (X.mono h λ Z Z h=>a1 (X.mono h λ Z Z q=>⟨EI (aP rfl),q⟩) d) e) f)
theorem pk(I:f_ O G d T)(C:Cmn G CG CR)(b:Fn G "_law_pick" "_law_pick" (top 30) ["row","at","most"] []){row:List Nat}(f:0<row.length)(e:row.length<64)(i m:Nat)(hi:i<1000)(c:0<m)(a:m<3000)(hd:1<=d){Q:V->St->Prop}(h:Q (.nat (pick row i m)) Y):
 rE O Ex (.ref b.f) Q [.list (row.map .nat),.nat i,.nat m] Y:=iA I (BN (d:=0) (J:=[]) b.y C.len row i m f e hi c a) hd h
theorem F4(i:Nat):(om.getD i (0,"")).1<=24:=by
 cases i with
 |zero=>decide
 |succ i=>
  cases i with
  |zero=>decide
  |succ i=>exact bg _
theorem EX(C:Cmn G CG CR)(r:Fn G "_law_pick" "_law_pick" (top 30) ["row","at","most"] [])(Go:Gl G "_law_orders" (.tup (rh.map .str)))(Yy:Fn G "_law_pairs" "_law_pairs" (top 31) ["row"] [])(row:List Nat)(B:0<row.length)(A:row.length<64):
 cF G (d+2) (.ref Yy.f) [.list (row.map .nat)] J (λ v J'=>v=.list ((gr row).map pV)/\J'=J):=by
 refine l7 Yy.y _ _ _ rfl λ O I Oo=>?_;let P:V:=.list (row.map .nat)
 refine aB<|e4<|tq<|cg I 10 r<|an<|nc I 0 rfl<|an<|xn 0<|a1<|xn 4<|pk I C r B A 0 4 (by decide) (by decide) (by decide) (bK _ _)<|xn 2<|t8 ⟨_,rfl,?_⟩;by_cases W:pick row 0 4<2
 ·have L:gr row=C7 row:=if_pos W;rw[L];have H:=d8 (row:=row) (i:=1) (m:=6) (by decide);refine iD (decide_eq_true W)<|aB<|xT I<|cb I 11 C.list<|a1<|sb<|gl I 12 Go<|cg I 10 r<|an<|nc I 0 rfl<|an<|xn 1<|a1<|xn 6<|pk I C r B A 1 6 (by decide) (by decide) (by decide) (bK _ _)<|P0 V.str "" (l:=rh) H (bD H (by decide))<|Ak I.ok (B9 _ H)<|.F ?_;rw[zM _ H];generalize N:nZ.getD (pick row 1 6) ("","","")=t;obtain ⟨x,y,z⟩:=t;have hf:C7 row=ib (x,y,z)++if 0<pick row 2 3 then [mz row]else []:=by unfold C7;rw[N]
  rw[hf];refine P5 I<|Mine.al I 1<|Mine.al I 2<|Mine.al I 3 ?_;refine aB<|sl I 4<|f5 (an<|t2<|c4<|l2<|nl I 3 rfl<|nl I 3 rfl<|an<|t2<|c4<|l3<|nl I 1 rfl<|c4<|nl I 1 rfl<|an<|t2<|c4<|l3<|nl I 2 rfl<|c4<|nl I 2 rfl<|an<|t2<|c4<|l3<|nl I 1 rfl<|c4<|nl I 2 rfl<|a1<|t2<|c4<|l3<|nl I 2 rfl<|c4<|nl I 1 rfl ⟨EI (aP rfl),?_⟩);refine aB<|sl I 4<|bx<|nl I 4 rfl<|f5 (an<|t2<|c4<|l1<|nl I 3 rfl<|a1<|t2<|c4<|l1<|nl I 3 rfl ⟨EI (aP rfl),ng I.ok .frozen .frozen (aP rfl)<|.M λ u=>?_⟩);have E:∀(l:List Pr) (a b c e f:Option V),XF O dP (eL [sub (sub (top 31) 0) 4] O.env) (IA O dP ((cA (top 31)).drop 1) (AG J λ v J'=>v=.list (l.map pV)/\J'=J)) ⟨[ah P,a,b,c,ah (.ref u),e,f,ai,ai,ai,ai,ai,ai,ai],(u,.list (l.map pV))::J⟩:=λ l a b c e f=>aB<|dF<|nl I 4 rfl<|C6 (J1:=[(u,.list (l.map pV))]) (.head _) ⟨rfl,rfl⟩
  refine aB<|e4<|tq<|cg I 10 r<|an<|nc I 0 rfl<|an<|xn 2<|a1<|xn 3<|pk I C r B A 2 3 (by decide) (by decide) (by decide) (bK _ _)<|dN<|Cc ⟨_,rfl,?_⟩;by_cases Y:0<pick row 2 3
  ·have Q:=d8 (row:=row) (i:=3) (m:=3) (by decide);have K:=d8 (row:=row) (i:=4) (m:=3) (by decide);rw[if_pos Y]at hf ⊢;refine iD (decide_eq_true (by show (0:Int)<((pick row 2 3:Nat):Int);exact cY.mpr ‹_›))<|aB<|sl I 5<|sb<|f5 (an<|c4<|an<|c4<|a1<|c4 ⟨EI (aP rfl),cg I 10 r<|an<|nc I 0 rfl<|an<|xn 3<|a1<|xn 3<|pk I C r B A 3 3 (by decide) (by decide) (by decide) (bK _ _)<|lZ V.str "" (l:=["s","a","b"]) Q (bD Q (by decide)) ?_⟩);refine aB<|sl I 6<|cg I 10 r<|an<|nc I 0 rfl<|an<|xn 4<|a1<|xn 3<|pk I C r B A 4 3 (by decide) (by decide) (by decide) (bK _ _) ?_;refine aB<|xe I<|gj I<|nl I 4 rfl ⟨u,_,0,rfl,rfl,t2<|nl I 5 rfl<|lc I<|cb I 13 C.range<|a1<|nl I 6 rfl<|jv ⟨_,_,_,m9 I.ok.hand (bD K (by decide)),aA (bc K) (by decide),(λ j g acc m=>∃o,g=[ai,o,ai,ah P]/\acc=((aZ j).map λ k=>ti.getD (pick row (5+k) 6) "").map .str/\m=(u,.list ((ib (x,y,z)).map pV))::J),⟨_,oi I,rfl,rfl⟩,?_,?_,?_⟩⟩
   ·rintro j g acc m hj ⟨o,rfl,rfl,rfl⟩;exact ⟨by rw[au,au,bf];exact aT _,λ Z=>trivial⟩
   ·rintro O' C' j g acc m D hj ⟨o,rfl,rfl,rfl⟩;have s:=C'.S7 I;have T:=d8 (row:=row) (i:=5+j) (m:=6) (by decide);refine Mine.al s 1<|gy<|sb<|f5 (an<|c4<|an<|c4<|an<|c4<|an<|c4<|an<|c4<|a1<|c4 ⟨EI (aP rfl),cg s 2 r<|an<|nc s 3 rfl<|an<|bx<|xn 5<|nl s 1 rfl<|fQ<|a1<|xn 6<|pk s C r B A (5+j) 6 (K2 hj K) (by decide) (by decide) (bK _ _)<|lZ V.str "" (l:=ti) T (bD T (by decide)) ⟨[],rfl,_,rfl,?_,rfl⟩⟩);rw[cW,aK,aK];rfl
   ·rintro g acc m ⟨o,rfl,rfl,rfl⟩;exact .F<|uL Pr (f:=pV) (l:=ib (x,y,z)) (x:=mz row) 0 rfl (aP rfl) rfl<|bm<|E _ _ _ _ _ _
  ·rw[if_neg Y,cJ];exact fX (decide_eq_false (by show ¬(0:Int)<((pick row 2 3:Nat):Int);exact GG Y))<|bm<|E (ib (x,y,z)) _ _ _ _ _
 ·have L:gr row=om.flatMap (pG row):=if_neg W;rw[L];refine fX (decide_eq_false W)<|bm<|aB<|sl I 4<|eC I.ok<|cz ⟨bg _,λ u=>?_⟩;let st:List Pr×List (Option V)->St:=λ a=>⟨[ah P,ai,ai,ai,ah (.ref u),ov a.2 0,ov a.2 1,ov a.2 2,ov a.2 3,ov a.2 4,ai,ai,ai,ai],(u,.list (a.1.map pV))::J⟩
  let In:Nat->List Pr×List (Option V)->Prop:=λ i a=>a.1=(om.take i).flatMap (pG row)
  have X:∀b,(pG row b).length<=3:=λ b=>by unfold pG;rw[bj,au,bf];exact MU (d8 (row:=row) (i:=b.1+4) (m:=2) (by decide))
  refine aB<|iL st In<|t2<|t2<|xn 8<|c4<|t2<|xn 24<|c4 ⟨_,_,_,JJ (λ b:Nat×Str=>.tup [.nat b.1,.str b.2]) om (0,"") I.ok.hand,([],[]),rfl,rfl,λ Z Z Z Z=>trivial,λ i a hi w=>?_,λ a w=>?_⟩
  ·obtain ⟨l,o⟩:=a;have ZR:i<2:=hi;have R:l.length<=6:=by
    rw[(show l=(om.take i).flatMap (pG row)from w)];have:∀(q:List (Nat×Str)),(q.flatMap (pG row)).length<=3*q.length:=λ q=>by
     induction q with
     |nil=>exact aT _
     |cons b q ih=>rw[df,aF,bj];have:=X b;exact GI this ih
    have h:=this (om.take i);rw[bb]at h;exact K0 h ZR
   have N:(om.take (i+1)).flatMap (pG row)=l++pG row (om.getD i (0,"")):=by rw[dR (ay hi),dX,<-w,e8 hi];simp
   have p:=F4 i;show XA _ _ _ _ (ql _ _ _ (oz _ (At st (λ a=>a.1=(om.take (i+1)).flatMap (pG row))))) _;rw[N];generalize om.getD i (0,"")=b at p ⊢;obtain ⟨n,F⟩:=b;have p:n<=24:=p;have Q:=d8 (row:=row) (i:=n) (m:=3) (by decide);refine AD I<|ac I Oo 7<|Mine.al I 5<|aB<|xe I<|gj I<|nl I 4 rfl ⟨u,_,0,rfl,rfl,t2<|nl I 5 rfl<|lc I<|cb I 13 C.range<|a1<|cg I 10 r<|an<|nc I 0 rfl<|an<|nc I 7 rfl<|a1<|xn 3<|pk I C r B A n 3 (aR ‹_› (by decide)) (by decide) (by decide) (bK _ _)<|jv ⟨_,_,_,m9 I.ok.hand (bD Q (by decide)),aA (bc Q) (by decide),(λ j g acc m=>∃o,g=[ai,o,ai,ah (.nat n),ah P]/\acc=((aZ j).map λ k=>(["x","y"]:List Str).getD (pick row (n+1+k) 2) "").map .str/\m=(u,.list (l.map pV))::J),⟨_,oi I,rfl,rfl⟩,?_,?_,?_⟩⟩
   ·rintro j g acc m hj ⟨o,rfl,rfl,rfl⟩;exact ⟨by rw[au,au,bf];exact aT _,λ Z=>trivial⟩
   ·rintro O' C' j g acc m D hj ⟨o,rfl,rfl,rfl⟩;have s:=C'.S7 I;have T:=d8 (row:=row) (i:=n+1+j) (m:=2) (by decide);refine Mine.al s 1<|gy<|sb<|l2<|c4<|c4<|cg s 2 r<|an<|nc s 4 rfl<|an<|bx<|bx<|nc s 3 rfl<|xn 1<|fQ<|nl s 1 rfl<|fQ<|a1<|xn 2<|pk s C r B A (n+1+j) 2 (KZ p hj Q) (by decide) (by decide) (bK _ _)<|lZ V.str "" (l:=["x","y"]) T (bD T (by decide)) ⟨[],rfl,_,rfl,?_,rfl⟩;rw[cW,aK,aK];rfl
   rintro g acc m ⟨o',rfl,rfl,rfl⟩;refine .F<|uL Pr (f:=pV) (l:=l) (x:=(F,mR row n)) 0 rfl (aA R (by decide)) rfl ?_;have K:=d8 (row:=row) (i:=n+4) (m:=2) (by decide);let M:Nat->Pr:=λ t=>(F,qF row (n+5+5*t))
   let S:List Pr×List (Option V)->St:=λ a=>⟨[ah P,ai,ai,ai,ah (.ref u),ah (.str F),ov a.2 0,ah (.nat n),ov a.2 1,ov a.2 2,ai,ai,ai,ai],(u,.list (a.1.map pV))::J⟩
   let Ul:Nat->List Pr×List (Option V)->Prop:=λ i a=>a.1=l++(F,mR row n)::(aZ i).map M
   refine aB<|iL S Ul<|cb I 13 C.range<|a1<|bx<|xn 1<|cg I 10 r<|an<|nc I 0 rfl<|an<|bx<|nc I 7 rfl<|xn 4<|fQ<|a1<|xn 2<|pk I C r B A (n+4) 2 (KY p) (by decide) (by decide) (bK _ _)<|fQ<|jv ⟨_,_,_,m9 I.ok.hand (GE K),(l++[(F,mR row n)],[ov o 1,ov o 3,ov o 4]),rfl,rfl,λ Z Z Z Z=>trivial,λ t a N w=>?_,λ a w=>?_⟩
   ·obtain ⟨l',o2⟩:=a;have w:l'=l++(F,mR row n)::(aZ t).map M:=w;show XA _ _ _ _ (ql _ _ _ (oz _ (At S (λ a=>a.1=l++(F,mR row n)::(aZ (t+1)).map M)))) _;rw[(show l++(F,mR row n)::(aZ (t+1)).map M=l'++[M t] by rw[w,cW,aK,bW];rfl)];have U:t<2:=KW N K;have H:=d8 (row:=row) (i:=n+5+5*t) (m:=2) (by decide);refine Mine.al I 8<|aB<|DZ I Oo 9<|bx<|bx<|nc I 7 rfl<|xn 5<|fQ<|bx<|xn 5<|nl I 8 rfl<|Hc (by decide)<|fQ ?_;refine aB<|sl I 6<|bx<|xn 1<|cg I 10 r<|an<|nc I 0 rfl<|an<|nc I 9 rfl<|a1<|xn 2<|pk I C r B A (n+5+5*t) 2 (KV p U) (by decide) (by decide) (bK _ _)<|fQ ?_;refine aB<|xe I<|gj I<|nl I 4 rfl ⟨u,_,0,rfl,rfl,t2<|nl I 5 rfl<|lc I<|cb I 13 C.range<|a1<|nl I 6 rfl<|jv ⟨_,_,_,m9 I.ok.hand (GE H),aA (show 1+pick row (n+5+5*t) 2<=3 from KU H) (by decide),(λ j g acc m=>∃o,g=[ai,o,ai,ah (.nat (n+5+5*t)),ah P]/\acc=((aZ j).map λ k=>lX.getD (pick row (n+5+5*t+1+k) 4) "").map .str/\m=(u,.list (l'.map pV))::J),⟨_,oi I,rfl,rfl⟩,?_,?_,?_⟩⟩
    ·rintro j g acc m hj ⟨o,rfl,rfl,rfl⟩;exact ⟨by rw[au,au,bf];exact aT _,λ Z=>trivial⟩
    ·rintro O' C' j g acc m D hj ⟨o,rfl,rfl,rfl⟩;have s:=C'.S7 I;have h7:=d8 (row:=row) (i:=n+5+5*t+1+j) (m:=4) (by decide);refine Mine.al s 1<|gy<|sb<|f5 (an<|c4<|an<|c4<|an<|c4<|a1<|c4 ⟨EI (aP rfl),cg s 2 r<|an<|nc s 4 rfl<|an<|bx<|bx<|nc s 3 rfl<|xn 1<|fQ<|nl s 1 rfl<|fQ<|a1<|xn 4<|pk s C r B A (n+5+5*t+1+j) 4 (KT p U hj H) (by decide) (by decide) (bK _ _)<|lZ V.str "" (l:=lX) h7 (bD h7 (by decide)) ⟨[],rfl,_,rfl,?_,rfl⟩⟩);rw[cW,aK,aK];rfl
    ·rintro g acc m ⟨o,rfl,rfl,rfl⟩;exact .F<|uL Pr (f:=pV) (l:=l') (x:=M t) 0 rfl (aA (by rw[w,aF,bj,au,bf];exact KX R N K) (by decide)) rfl<|bm ⟨(l'++[M t],[_,_,_]),rfl,rfl⟩
   ·obtain ⟨l',o2⟩:=a;exact bm ⟨(l',[_,_,_,_,_]),rfl,w⟩
  ·obtain ⟨l,o⟩:=a;have w:l=om.flatMap (pG row):=w;rw[<-w];exact aB<|dF<|nl I 4 rfl<|C6 (J1:=[(u,.list (l.map pV))]) (.head _) ⟨rfl,rfl⟩
end
noncomputable def pT(X:Nat)(v:List Tr):List (Nat×List Tr)->List (Nat×List Tr)
 |[]=>[(X,v)]
 |p::r=>if p.1=X then (p.1,v)::r else p::pT X v r
theorem yW{X:Nat}{v:List Tr}:pT X v []=([(X,v)]):=rfl
theorem wv{X:Nat}{v:List Tr}{p r}:pT X v (p::r)=(if p.1=X then (p.1,v)::r else p::pT X v r):=rfl
noncomputable def oM(g:Gr)(R:List Pr)(t:Tr):Nat:=ix g ((d9 R t.1).getD t.2.1 "")
noncomputable def fU(g:Gr)(R:List Pr)(b:List (Nat×List Tr))(t:Tr):List (Nat×List Tr):=
 if t.2.1<(d9 R t.1).length then pT (oM g R t) ((b.lookup (oM g R t)).getD []++[(t.1,t.2.1+1,t.2.2)]) b else b
noncomputable def DE(g:Gr)(R:List Pr)(l:List Tr):List (Nat×List Tr):=l.foldl (fU g R) []
noncomputable def bV(b:List (Nat×List Tr)):List (V×V):=b.map λ p=>(.nat p.1,.list (p.2.map iM))
theorem An(X:Nat)(v:List Tr):∀l:List (Nat×List Tr),(pT X v l).map (·.1)=if X∈l.map (·.1)then l.map (·.1)else l.map (·.1)++[X]:=by
 intro l;induction l with
 |nil=>exact rfl
 |cons p r a=>
  have a:=a;dsimp only[yW,wv];by_cases e:p.1=X
  ·rw[if_pos e,if_pos (by simp[e])];rfl
  ·rw[if_neg e,be,a,be];by_cases h:X∈r.map (·.1)
   ·rw[if_pos h,if_pos (b_ _ h)]
   ·rw[if_neg h,if_neg (by simp only[aI,not_or];exact ⟨λ q=>e q.symm,h⟩)];rfl
theorem xX{X:Nat}{v:List Tr}{l:List (Nat×List Tr)}(h:(l.map (·.1)).Nodup):((pT X v l).map (·.1)).Nodup:=by
 rw[An];by_cases q:X∈l.map (·.1)
 ·rw[if_pos q];exact h
 ·rw[if_neg q,aV];exact ⟨h,by simp,λ a c b d e=>q (by simp only[aE.mp d]at e;simp only[<-e];exact c)⟩
theorem IZ(X:Nat)(v:List Tr):∀l,iw (.nat X) (.list (v.map iM)) (bV l)=bV (pT X v l):=by
 intro l;induction l with
 |nil=>exact rfl
 |cons p r a=>
  have a:=a;unfold bV at*;rw[be];dsimp only[sO,nM];rw[wv];by_cases e:p.1=X
  ·rw[if_pos e,if_pos (by rw[f6,e])];rfl
  ·rw[if_neg e,if_neg (by rw[f6];intro h;simp at h;exact KR h e),a];rfl
theorem xZ(X:Nat):∀b:List (Nat×List Tr),eE (bV b) (.nat X)=(b.lookup X).map λ l=>.list (l.map iM):=by
 intro b;induction b with
 |nil=>exact rfl
 |cons a r c=>
  obtain ⟨k,l⟩:=a;have c:=c;dsimp only[eE,bV]at*;simp only[be,cX,br,k7];by_cases e:X=k
  ·subst e;simp
  ·have f:((k:Int)==(X:Int))=ao:=by simp;exact B3 e
   have d:(X==k)=ao:=by simpa using e
   simp only[f,d];exact c
theorem y0(b:List (Nat×List Tr)):(bV b).map (·.1)=(b.map (·.1)).map V.nat:=by unfold bV;(refine bu.trans ?_;rw[bu]);rfl
theorem Hq(b:List (Nat×List Tr)):∀p∈bV b,kk p.1=1:=λ p c=>by refine b5 (aC.mp c) λ q Z a=>?_;subst a;rfl
theorem wA{b:List (Nat×List Tr)}(nd:(b.map (·.1)).Nodup):((bV b).map (·.1)).Nodup:=by simp only[y0];exact nh nd
theorem oo{b:List (Nat×List Tr)}(X:Nat)(nd:(b.map (·.1)).Nodup):f9 (.nat X) (bV b):=⟨λ h=>(nomatch (show (1:Nat)=0 from h)),λ p a=>Hq b p a,wA nd⟩
theorem wB{b:List (Nat×List Tr)}{t:Tr}(h:(b.map (·.1)).Nodup):((fU g R b t).map (·.1)).Nodup:=by
 unfold fU;split
 ·exact xX h
 ·exact h
theorem wC:∀(l:List Tr) (b:List (Nat×List Tr)),(b.map (·.1)).Nodup->((l.foldl (fU g R) b).map (·.1)).Nodup:=by
 intro l;induction l with
 |nil=>intro Z h;exact h
 |cons t l a=>intro b h;exact a _ (wB h)
theorem Dw(X:Nat)(v:List Tr):∀b:List (Nat×List Tr),(pT X v b).length<=b.length+1:=by
 intro b;induction b with
 |nil=>exact aT _
 |cons p r a=>
  have:=a;dsimp only[yW,wv];split
  ·simp
  ·dsimp only[bj];exact dh ‹_›
theorem Am{X n:Nat}{v:List Tr}(c:v.length<=n):∀{b:List (Nat×List Tr)},(∀p∈b,p.2.length<=n)->∀p∈pT X v b,p.2.length<=n:=by
 intro b;induction b with
 |nil=>intro Z p a;rw[aE.mp a];exact c
 |cons q r d=>
  intro h p a;simp only[wv]at a;split at a
  ·rcases aI.mp a with e|e
   ·rw[e];exact c
   ·exact h p (.tail _ e)
  ·rcases aI.mp a with e|e
   ·rw[e];exact h q (.head _)
   ·exact d (λ x f=>h x (.tail _ f)) p e
theorem Ay:∀(l:List Tr) (b:List (Nat×List Tr)) (n:Nat),b.length<=n->(∀p∈b,p.2.length<=n)->(l.foldl (fU g R) b).length<=n+l.length/\∀p∈l.foldl (fU g R) b,p.2.length<=n+l.length:=by
 intro l;induction l with
 |nil=>intro Z Z i h;exact ⟨i,h⟩
 |cons t l j=>
  intro b n i h;have d:(fU g R b t).length<=n+1/\∀p∈fU g R b t,p.2.length<=n+1:=by
   dsimp only[fU];split
   ·refine ⟨aA (Dw ..) (dh ‹_›),Am ?_ λ p f=>c1 (h p f)⟩;simp only[aF,cM];refine AI ?_ 1;cases e:b.lookup (oM g R t)with
    |none=>exact bg _
    |some r=>obtain ⟨a,c,k,_⟩:=bO.mp e;exact h (oM g R t,r) (by simp only[k];exact ax _ (.head _))
   ·exact ⟨c1 i,λ p f=>c1 (h p f)⟩
  obtain ⟨a,c⟩:=j (fU g R b t) (n+1) d.1 d.2;skip;exact ⟨aA (show (l.foldl (fU g R) (fU g R b t)).length<=n+1+l.length from a) KQ,λ p f=>by have:p.2.length<=n+1+l.length:=c p f;exact KP this⟩
noncomputable def iz(m:List Tr):V:=.tup (m.map iM)
theorem nP{a b:List Tr}(h:iz a=iz b):a=b:=by
 unfold iz at h;have h:a.map iM=b.map iM:=by simpa using h
 exact (oA λ x y h=>qa h).mp h
theorem ug(m:List Tr):kk (iz m)=3:=by
 have:js 7 (iz m)=aj:=by unfold iz;rw[Hh,cc];intro x b;refine b5 (aC.mp b) λ p Z a=>?_;subst a;rfl
 show (js 7 (iz m)).toNat*3=3;rw[this];rfl
noncomputable def q0(l:List (List Tr)):List (V×V):=l.zipIdx.map λ p=>(iz p.1,.nat p.2)
theorem vN(l:List (List Tr)):(q0 l).map (·.1)=l.map iz:=by unfold q0;refine bu.trans ?_;apply dW;intro i;simp only[aN,mY,aN];cases l[i]?<;>rfl
theorem BW(l:List (List Tr))(m:List Tr):q0 (l++[m])=q0 l++[(iz m,.nat l.length)]:=by unfold q0;simp only[AY,aK];simp
theorem oU{l:List (List Tr)}(h:l.Nodup)(m:List Tr):f9 (iz m) (q0 l):=by
 refine ⟨by rw[ug];decide,λ p b=>?_,?_⟩
 ·refine b5 (aC.mp b) λ q Z a=>?_;subst a;show kk (iz _)=_;rw[ug,ug]
 ·simp only[vN,aO,bU];exact (aO.mp h).imp λ h e=>h (nP e)
theorem yx(m:List Tr)(l:List (List Tr)):eE (q0 l) (iz m)=(l.idxOf? m).map V.nat:=by
 have a:∀(l:List (List Tr)) (n:Nat),eE ((l.zipIdx n).map λ p=>(iz p.1,V.nat p.2)) (iz m)=(l.idxOf? m).map λ i=>V.nat (i+n):=λ l=>by
  induction l with
  |nil=>intro n;rfl
  |cons q l b=>
   intro n;have b:=b (n+1);simp only[D6,be,fM];unfold eE at*;dsimp only[cX];by_cases e:q=m
   ·rw[show gE (iz (q,n).1) (iz m)=aj by simp only[f6];exact congrArg iz e,if_pos (by rw[beq_iff_eq];exact e)];show ah (V.nat n)=ah (V.nat (0+n));rw[cQ]
   ·rw[iy (λ h=>e (nP h)),if_neg (by rw[beq_iff_eq];exact e),b];cases l.idxOf? m with
    |none=>rfl
    |some i=>show ah (V.nat (i+(n+1)))=ah (V.nat (i+1+n));simp only[gf,ft 1 n]
 exact a l 0
theorem Fd{l:List (List Tr)}{m:List Tr}(h:l.idxOf? m=ai):iw (iz m) (.nat l.length) (q0 l)=q0 (l++[m]):=by simp only[BW];refine ml ?_;rw[dv];intro p a;rw[ie]at h;refine iy λ e=>h ?_;have:p.1∈(q0 l).map (·.1):=bq a;rw[vN]at this;refine b5 (aC.mp this) λ q b c=>?_;rw[<-c]at e;exact nP e▸b
theorem BH(l:List Tr):∀x∈l.map iM,Sh 3 x:=λ x b=>by refine b5 (aC.mp b) λ t Z a=>?_;subst a;exact .Yl _ _ _
theorem Bz{a b:List Tr}(h:a.Perm b)(d:dA (a.map iM))(c:dA (b.map iM)):a=b:=nP (by unfold iz;exact congrArg _ (dA.uniq (k:=3) (h.map _) (BH a) d c))
theorem xo{l:List (Nat×e7)}(hi:i<l.length):(eJ ks l).2[i]? =ah ((l.getD i (0,[])).1,(j3 (l.getD i (0,[])).1 (l.getD i (0,[])).2 (eJ ks (l.take i)).1).2):=by
 have d:∀(l:List (Nat×e7)) (a:List (e7×Int)×List (Nat×Nat)),a.2<+:(l.foldl mo a).2:=λ l=>by
  induction l with
  |nil=>intro a;exact d_ _
  |cons p l f=>intro a;exact (jU _ _).trans (f (mo a p))
 have hk:=g0 (l.take i) (ks,[]);have c:(eJ ks (l.take i)).2.length=i:=by have:=congrArg dB hk;simp at this;unfold eJ;refine this.trans ?_;exact KO hi
 have b:(eJ ks (l.take (i+1))).2<+:(eJ ks l).2:=by
  unfold eJ
  conv=>rhs;rw[<-c_ (i+1) l,fm]
  exact d _ _
 refine ze b λ q e=>?_;rw[<-e,oQ hi (0,[]),c3 (by show i<(dB (_++[_]));simp only[aF,c];simp)];show ((eJ ks (l.take i)).2++[_])[i]? =_;refine (bH (by rw[c];exact aT _)).trans ?_;rw[c,eU];rfl
theorem l8{n:Nat}(h:(d2 g n).length<=n):∀m,n<=m->d2 g m=d2 g n:=λ m a=>by
 induction a with
 |refl=>rfl
 |step a b=>simp only[Aw,b,bl (aA h a)]
theorem c2.lt{bz:List fD}(A:c2 g bz){n:Nat}(h:n<(d2 g n).length):n<bz.length:=by have a:=A.len;refine eg λ b=>?_;simp only[l8 (cu a) n b,a]at h;exact absurd ‹_<_› (bT.mpr ‹_›)
theorem c2.eq{bz:List fD}(A:c2 g bz){n:Nat}(h:n=(d2 g n).length):n=bz.length:=by
 have a:=A.len;rcases pY bz.length n with q|q
 ·simp only[l8 (cu a) n (bc q),a]at h;exact h
 ·rw[l8 (cu h.symm) _ q,<-h]at a;exact a
theorem m8(bz:List fD):∀(l:List Nat) (s:Int) (X:Nat),jH bz s (l++[X])=if jH bz s l<0 then -1 else wS bz (jH bz s l).toNat X:=by
 intro l;induction l with
 |nil=>intro s X;show (if s<0 then -1 else jH bz (wS bz s.toNat X) [])=_;rfl
 |cons x l a=>
  intro s X;dsimp only[dt];rw[qG,qG];by_cases h:s<0
  ·refine (if_pos h).trans ?_;rw[if_pos h,if_pos (by decide)]
  ·refine (if_neg h).trans ?_;rw[if_neg h,a]
theorem wf[BEq α][LawfulBEq α][BEq β][LawfulBEq β]{a:α}{b:β}:∀{l:List α} {m:List β},l.length=m.length->(∀(j:Nat) (x:α) (y:β),l[j]? =ah x->m[j]? =ah y->(x=a↔y=b))->l.idxOf? a=m.idxOf? b:=by
 intro l;induction l with
 |nil=>
  intro m h Z;cases m with
  |nil=>rfl
  |cons y m=>exact nomatch h
 |cons x l d=>
  intro m h k;cases m with
  |nil=>exact nomatch h
  |cons y m=>
   refine (fM).trans ?_;rw[fM,d (m:=m) (by simpa using h) λ j u v f c=>k (j+1) u v f c];have:=k 0 x y rfl rfl;by_cases e:x=a
   ·refine (if_pos (by rw[beq_iff_eq];exact e)).trans ?_;rw[if_pos (by rw[beq_iff_eq];exact this.mp e)]
   ·refine (if_neg (by rw[beq_iff_eq];exact e)).trans ?_;rw[if_neg (by rw[beq_iff_eq];exact λ h=>e (this.mpr h))]
structure uO(g:Gr)(R:List Pr)(st:List (Str×List Str))(em:List (Str×Bool))(Rk:List Tr->e7->Prop):Prop where
 r0:Rk [(0,0,"")] [(0,0)]
 nd:∀{K k},Rk K k->K.Nodup/\K.length<64/\AE g K/\gw g k
 inj:∀{K k K' k'},Rk K k->Rk K' k'->(K.Perm K'↔k=k')
 U:∀{K k},Rk K k->∃U:List Tr,(∀t,LC R st em K t->t∈U)/\U.length<=100000
 tok:∀{K k l},Rk K k->UP R st em K l->AE g l
 sym:∀n,∀x∈d9 R n,x∈g.names
 VV:∀{K k l} {s:fD},Rk K k->UP R st em K l->s.kernel=k->j4 g k s.items->s.Rq.Perm ((cR g [] s.items).map (·.1))->s.Rq.Pairwise (·<=·)->s.Rp=cR g [] s.items->I8 g R s K l
 keys:∀{K k l},Rk K k->UP R st em K l->∀X,X∈(DE g R l).map (·.1)↔X∈(fu g k).map (·.1)
 rows:∀{K k l},Rk K k->UP R st em K l->∀p∈fu g k,∃r,(DE g R l).lookup p.1=ah r/\Rk r p.2
 err:∀{K k},Rk K k->1∉(fu g k).map (·.1)
structure Wk(bz:List fD)(Rk:List Tr->e7->Prop)(ks:List (e7×Int))(KL PL:List (List Tr))(RD:List (List Nat)):Prop where
 kl:KL.length=ks.length
 pl:PL.length=ks.length
 rl:RD.length=ks.length
 rk:∀j<ks.length,Rk (KL.getD j []) (ks.getD j ([],0)).1
 ps:∀j<ks.length,(PL.getD j []).Perm (KL.getD j [])/\dA ((PL.getD j []).map iM)
 rd:∀j<ks.length,jH bz 0 (RD.getD j [])=(j:Int)/\(RD.getD j []).length<=j/\(0<j->∃r X,RD.getD j []=r++[X]/\(ks.getD j ([],0)).2=((X:Nat):Int))
theorem vv{x d:α}:(l++[x]).getD j d=if j<l.length then l.getD j d else if j=l.length then x else d:=by
 by_cases h:j<l.length
 ·rw[if_pos h,e8 (by simp only[aF];exact cD ‹_›),e8 h,g7]
 ·rw[if_neg h];by_cases e:j=l.length
  ·subst e;rw[e8 (by simp),uV (aT _)];simp
  ·rw[if_neg e,aD,bl (by simp;exact KN h e)];rfl
section
variable{st:List (Str×List Str)}{em:List (Str×Bool)}{bz:List fD}{KL PL:List (List Tr)}{RD:List (List Nat)}
theorem Wk.same(H:uO g R st em Rk)(W:Wk bz Rk ks KL PL RD){rows m:List Tr}{k:e7}(d:Rk rows k)(f:m.Perm rows)(i:dA (m.map iM)):PL.idxOf? m=(ks.map (·.1)).idxOf? k:=
 wf (by simp only[au];exact W.pl) λ j x y l a=>by
  have b:j<ks.length:=by rw[aN]at a;cases e:ks[j]? with|none=>rw[e]at a;cases a|some q=>exact (bh.mp e).1
  have h:x=PL.getD j []:=by simp only[aD,l];rfl
  have n:y=(ks.getD j ([],0)).1:=by rw[aN,ay b]at a;cases a;simp only[e8 b]
  have c:=W.ps j b;have rk:=W.rk j b;rw[h,n];refine ⟨λ e=>(H.inj rk d).mp (c.1.symm.trans (e▸f)),λ e=>Bz (c.1.trans (((H.inj rk d).mpr e).trans f.symm)) c.2 i⟩
theorem Wk.nodup(H:uO g R st em Rk)(W:Wk bz Rk ks KL PL RD)(hk:(ks.map (·.1)).Nodup):PL.Nodup:=by
 simp only[aO,kf];intro i j hi c d e;have b:i<ks.length:=by rw[<-W.pl];exact hi
 have a:j<ks.length:=by rw[<-W.pl];exact c
 have p1:=(W.ps i b).1;have p2:=(W.ps j a).1;rw[e8 hi]at p1;rw[e8 c,<-e]at p2;have:=(H.inj (W.rk i b) (W.rk j a)).mp (p1.symm.trans p2);rw[e8 b,e8 a]at this;have q:=(List.getElem_inj (i:=i) (j:=j) (h₀:=by rw[au];exact b) (h₁:=by simp only[au];exact a) hk).mp (by simp only[bY,bY];exact this);exact absurd ‹_› (cm ‹_›)
theorem Wk.add(W:Wk bz Rk ks KL PL RD){n X:Nat}{rows m:List Tr}{k:e7}(d:Rk rows k)(b:m.Perm rows)(f:dA (m.map iM))(h:n<ks.length)(g:wS bz n X=(ks.length:Int)):
 Wk bz Rk (ks++[(k,(X:Int))]) (KL++[rows]) (PL++[m]) (RD++[RD.getD n []++[X]]):=by
 refine jA (W.rd n h) λ c i Z=>?_;refine ⟨by simp[W.kl],by simp[W.pl],by simp[W.rl],λ j a=>?_,λ j a=>?_,λ j a=>?_⟩
 all_goals
  simp only[aF,cM]at a;simp only[vv,W.kl,W.pl,W.rl];by_cases e:j<ks.length
 ·simp only[if_pos e];exact W.rk j e
 ·have:j=ks.length:=B2 a e;subst this;simp only[if_neg e,if_true];exact d
 ·simp only[if_pos e];exact W.ps j e
 ·have:j=ks.length:=B2 a e;subst this;simp only[if_neg e,if_true];exact ⟨b,f⟩
 ·simp only[if_pos e];exact W.rd j e
 ·have:j=ks.length:=B2 a e;subst this;simp only[if_neg e,if_true];refine ⟨?_,by simp only[aF,cM];exact aR ‹_› ‹_›,λ Z=>⟨_,_,rfl,rfl⟩⟩;rw[m8,c,if_neg yz];dsimp only[gp];rw[g]
theorem Wk.init(H:uO g R st em Rk):Wk bz Rk (d2 g 0) [[(0,0,"")]] [[(0,0,"")]] [[]]:=by
 refine ⟨rfl,rfl,rfl,λ j a=>?_,λ j a=>?_,λ j a=>?_⟩
 all_goals
  have:j=0:=KM a;subst this
 ·exact H.r0
 ·refine ⟨.refl _,?_⟩;show List.Pairwise _ [_];exact wO ..
 ·exact ⟨rfl,aT _,λ h=>absurd h (bB _)⟩
end
structure wL(G:GC)(CG CR CS CA:aG):Prop where
 B:D3 G CG CR CS CA
 P:NW G CG CR
 int:fC G "int" (.type "int")
 ord:Gl G "_law_orders" (.tup (rh.map .str))
 bits:Fn G "bits" "bits" (top 4) ["mask"] []
 TG:Fn G "show_rule" "show_rule" (top 10) ["grammar","number","dot"] []
 TH:Fn G "show_item" "show_item" (top 11) ["grammar","item"] []
 plain:Fn G "plain_grammar" "plain_grammar" (top 13) ["pairs","start"] [.none]
 build:Fn G "build_canonical" "build_canonical" (top 25) ["grammar","most"] [.nat 2000]
 S6:Fn G "masks_of" "masks_of" (top 26) ["canonical"] []
 R4:Fn G "show_canonical" "show_canonical" (top 27) ["canonical","number"] []
 pick:Fn G "_law_pick" "_law_pick" (top 30) ["row","at","most"] []
 pairs:Fn G "_law_pairs" "_law_pairs" (top 31) ["row"] []
 begin:Fn G "_law_begin" "_law_begin" (top 32) ["symbols","ahead","starts","empties"] []
 starts:Fn G "_law_starts" "_law_starts" (top 33) ["pairs"] []
 close:Fn G "_law_close" "_law_close" (top 34) ["kernel","rules","starts","empties"] []
 Rp:Fn G "_law_masks" "_law_masks" (top 35) ["triples","grammar"] []
 shown:Fn G "_law_shown" "_law_shown" (top 36) ["masks","rules","grammar"] []
 Sq:Fn G "_law_is_state" "_law_is_state" (top 37) ["state","kernel","triples","rules","grammar"] []
 Sb:Fn G "_law_allowed" "_law_allowed" (top 38) ["grammar","most"] []
 Sy:Me G CA "state_count" "CanonicalAutomaton.state_count" (mem 21 1) ["self"] []
 goto:Me G CA "goto" "CanonicalAutomaton.goto" (mem 21 2) ["self","state","symbol"] []
 walk:Me G CA "walk" "CanonicalAutomaton.walk" (mem 21 3) ["self","state","symbols"] []
noncomputable def Ni:Stmt:=sub (top 39) 12
noncomputable def kV(K:List Tr):V:=.list (K.map iM)
noncomputable def xq(r:List Nat):V:=.list (r.map .nat)
noncomputable def y4(s:fD):List ((Nat×Nat)×Nat):=s.Rp.map λ p=>((s.number,p.1),p.2)
noncomputable def pa(bz:List fD)(n:Nat):List ((Nat×Nat)×Nat):=(bz.take n).flatMap y4
structure DP(g:Gr)(R:List Pr)(st:List (Str×List Str))(em:List (Str×Bool)):Prop where
 ok:AF R
 len:R.length=g.rules.length
 nd:(st.map (·.1)).Nodup
 ke:em.map (·.1)=st.map (·.1)
 b:∀p∈st,p.2.length<=30
 pos:0<g.owners.length
theorem wd{k:e7}{l:List Nat}(h:l.Nodup)(m:∀X,X∈l↔X∈(fu g k).map (·.1))(a:ys.Perm (l.map V.nat))(c:dA ys):ys=((fu g k).map (·.1)).map V.nat:=by
 have hi:((fu g k).map (·.1)).Pairwise (·<·):=by dsimp only[fu,Sl];simp only[bu];show ((pU g (iT g k)).map λ X=>X).Pairwise _;rw[List.map_id'];exact (mE g (iT g k))
 have b:l.Perm ((fu g k).map (·.1)):=(dU h (aO.mpr (hi.imp cm))).mpr m;exact dA.uniq (k:=0) (a.trans (b.map _)) (λ x d=>qb _ x (a.mem_iff.mp d)) c (jK hi)
theorem uM(g:Gr)(k:e7):((fu g k).map (·.1)).Pairwise (·<·):=by dsimp only[fu,Sl];simp only[bu];show ((pU g (iT g k)).map λ X=>X).Pairwise _;rw[List.map_id'];exact (mE g (iT g k))
noncomputable def qN:fD:=⟨0,[],0,[],[],[],[]⟩
theorem xK{bz:List fD}{n:Nat}(a:n<bz.length)(X:Nat):wS bz n X=match (bz.getD n qN).moves.lookup X with|some m=>((m:Nat):Int)|none=> -1:=by
 dsimp only[wS];rw[show (bz.map (·.moves)).getD n []=(bz.getD n qN).moves by rw[e8 (by simp only[au];exact a),bY,e8 a]]
 all_goals cases zh X (bz.getD n qN).moves<;>rfl
theorem DH{s:fD}(nd:(s.Rp.map (·.1)).Nodup)(h:s.Rq.Perm (s.Rp.map (·.1))):(fi s).Perm (y4 s):=by skip;refine (h.map _).trans (List.Perm.of_eq ?_);skip;refine bu.trans ?_;refine bF λ p a=>?_;show ((s.number,p.1),(s.Rp.lookup p.1).getD 0)=_;rw[eO nd a];rfl
theorem y3{bz:List fD}(S:sG bz):(bz.flatMap fi).Perm (bz.flatMap y4):=by
 have:∀l:List fD,(∀s∈l,s∈bz)->(l.flatMap fi).Perm (l.flatMap y4):=λ l=>by
  induction l with
  |nil=>intro _;exact .refl _
  |cons s l b=>intro h;have a:=S.nd s (h s (.head _));rw[df];exact (DH a.1 a.2.1).append (b λ t c=>h t (.tail _ c))
 exact this bz λ Z h=>h
theorem rY{bz:List fD}(S:sG bz):((bz.flatMap y4).map (·.1)).Nodup:=(((y3 S).map (·.1)).nodup_iff).mp (vY S)
theorem I1{bz:List fD}(S:sG bz)(n:Nat):(pa bz n).length<=120000:=by
 have:∀l:List fD,(∀s∈l,s∈bz)->(l.flatMap y4).length<=60*l.length:=λ l=>by
  induction l with
  |nil=>intro _;exact aT _
  |cons s l b=>intro h;have a:=S.nd s (h s (.head _));have e:=a.2.1.length_eq;simp only[au]at e;simp only[df,aF,bj];have d:(y4 s).length=s.Rp.length:=au ..;rw[pW,ft];exact gB (b λ t c=>h t (.tail _ c)) (by rw[d,<-e];exact a.2.2)
 have h:=this (bz.take n) λ s a=>cG a;simp only[bb]at h;exact KJ h S.len
theorem Hr{bz:List fD}{n:Nat}(a:n<bz.length):pa bz (n+1)=pa bz n++y4 (bz.getD n qN):=by unfold pa;simp only[dR (ay a),dX,<-e8 a qN];simp
theorem AB{bz:List fD}(S:sG bz)(n:Nat):((pa bz n).map (·.1)).Nodup:=by
 refine (rY S).sublist (hJ _ ?_);skip
 conv=>rhs;rw[<-c_ n bz,dX]
 exact u3 _ _
theorem gw.le{k:e7}(h:gw g k):k.length<=g.owners.length:=by
 have:=aU h.nd (l₂:=aZ g.owners.length) λ x c=>by refine b5 (aC.mp c) λ p b a=>?_;subst a;exact bP.mpr (h.it p b).1
 simp only[au,bf]at this;exact this
theorem Bh{t:Sem Value}(r:V){Q:V->St->Prop}(h:∀a:V->St->Prop,a r Y->XV O Ex t a Y)(k:Q r Y):XV O Ex t Q Y:=h Q k
section
variable{f:aG}
theorem Fe(l:List (List Tr)):(q0 l).length=l.length:=by unfold q0;simp only[au,f1]
theorem Im{a:List Expr}{Q:Bool->St->Prop}(h:XB O Ex (ez (.BoolOp .Or a pos) O.env whole) Q Y):kN (PQ O Ex a pos whole Q) aj Y:=by dsimp only[kN,PQ];exact fX rfl h
theorem Hl(f:α->V){l:List α}{k:Nat}{d y:α}{Q:V->St->Prop}(e:l.getD k d=y)(hk:k<l.length)(hz:k<2^62)(h:Q (f y) Y):mU O Ex Q (.list (l.map f)) (.nat k) Y:=lZ f d hk hz (e▸h)
theorem IT{a:aG}{b:List (Nat×List Tr)}{X:Nat}(i:Nat){Q:V->St->Prop}(ok:O.Ok)(hi:Y.mu[i]? =ah (a,.dict (bV b)))(nd:(b.map (·.1)).Nodup)(h:Q (.list (((b.lookup X).getD []).map iM)) Y):cU O Ex (.builtin "dict.get") [.ref a,.nat X,.list []] Q Y:=
 yV ok (.led i hi) (oo X nd) (by rw[xZ];cases e:b.lookup X<;>(rw[e]at h;exact h))
theorem CB(L:wL G CG CR CS CA){g:Gr}{R:List Pr}{st:List (Str×List Str)}{em:List (Str×Bool)}{Rk:List Tr->e7->Prop}{bz:List fD}(hg:de g)(H:uO g R st em Rk)(HR:DP g R st em)(A:c2 g bz)(hz:pJ bz)(S:sG bz)
 (I:f_ O G (d+5) (mO (bG (top 39)))) (Oo:Jr O) (sv rv pv:V) (ro:Option V) (ak ap ar aa:aG) {Q:Option (Option V)->St->Prop}
 (fin:∀KL PL RD old o,Wk bz Rk (d2 g bz.length) KL PL RD->Q ai ⟨[ah sv,ah rv,ah pv,ah (.list (R.map pV)),ah (.dict (vp st)),ah (.dict (j1 em)),ov o 0,ah (g.v CG CR),ah (kP CG CR CS CA g bz),ah (.ref ak),ah (.ref ap),ah (.ref ar),ah (.ref aa),ah (.nat bz.length),ov o 1,ov o 2,ov o 3,ov o 4,ov o 5,ov o 6,ov o 7,ov o 8,ov o 9,ai,ai,ai,ai,ai,ai,ai,ai,ai,ai,ai,ai,ai,ai,ai,ai,ai],
  (aa,.dict (pw (pa bz bz.length)))::(ar,.list (RD.map xq))::(ap,.dict (q0 PL))::(ak,.list (KL.map kV))::old⟩):
 XF O Ex (gg Ni O.env) Q ⟨[ah sv,ah rv,ah pv,ah (.list (R.map pV)),ah (.dict (vp st)),ah (.dict (j1 em)),ro,ah (g.v CG CR),ah (kP CG CR CS CA g bz),ah (.ref ak),ah (.ref ap),ah (.ref ar),ah (.ref aa),ah (.nat 0),ai,ai,ai,ai,ai,ai,ai,ai,ai,ai,ai,ai,ai,ai,ai,ai,ai,ai,ai,ai,ai,ai,ai,ai,ai,ai],
  (aa,.dict (pw (pa bz 0)))::(ar,.list (([[]]:List (List Nat)).map xq))::(ap,.dict (q0 [[(0,0,"")]]))::(ak,.list (([[(0,0,"")]]:List (List Tr)).map kV))::J⟩:=by
 let gv:V:=g.v CG CR
 let av:V:=kP CG CR CS CA g bz
 let Rv:V:=.list (R.map pV)
 let sV:V:=.dict (vp st)
 let eV:V:=.dict (j1 em)
 let S0:(Nat×(List (List Tr)×List (List Tr)×List (List Nat))×Mu)×List (Option V)->St:=λ a=>⟨[ah sv,ah rv,ah pv,ah Rv,ah sV,ah eV,ov a.2 0,ah gv,ah av,ah (.ref ak),ah (.ref ap),ah (.ref ar),ah (.ref aa),ah (.nat a.1.1),ov a.2 1,ov a.2 2,ov a.2 3,ov a.2 4,ov a.2 5,ov a.2 6,ov a.2 7,ov a.2 8,ov a.2 9,ai,ai,ai,ai,ai,ai,ai,ai,ai,ai,ai,ai,ai,ai,ai,ai,ai],
  (aa,.dict (pw (pa bz a.1.1)))::(ar,.list (a.1.2.1.2.2.map xq))::(ap,.dict (q0 a.1.2.1.2.1))::(ak,.list (a.1.2.1.1.map kV))::a.1.2.2⟩
 let In0:Nat->(Nat×(List (List Tr)×List (List Tr)×List (List Nat))×Mu)×List (Option V)->Prop:=λ m a=>m=bz.length-a.1.1/\a.1.1<=(d2 g a.1.1).length/\Wk bz Rk (d2 g a.1.1) a.1.2.1.1 a.1.2.1.2.1 a.1.2.1.2.2
 have WO:=S.len;have C:Cmn G CG CR:=L.B.toCmn;refine tK S0 In0 (bz.length-0) ((0,([[(0,0,"")]],[[(0,0,"")]],[[]]),J),[ro]) rfl ⟨rfl,bg _,Wk.init H⟩ λ m a z=>?_;obtain ⟨⟨n,⟨KL,PL,RD⟩,old⟩,o⟩:=a;refine jA z λ SH XN W=>?_;subst SH;have W:Wk bz Rk (d2 g n) KL PL RD:=W;have UE:=W.kl;have T8:∀n,(d2 g n).length<=bz.length:=λ n=>by
  rcases pY n bz.length with h|h
  ·conv=>rhs;rw[<-A.len]
   exact (iU g (bc h)).length_le
  ·rw[l8 (cu A.len) n h,A.len];exact aT _
 refine tq<|nc I 13 rfl<|cb I 30 C.len<|a1<|nl I 9 rfl<|uJ 3 rfl (show KL.length<2^62 from GN UE (T8 n) WO)<|t8 ⟨_,rfl,?_⟩;by_cases VF:n<KL.length;rotate_left
 ·have e:n=(d2 g n).length:=KI XN UE VF;have e2:=A.eq e;subst e2;exact fX (decide_eq_false VF) (fin KL PL RD old o W)
 have hn:n<(d2 g n).length:=G5 VF UE;have F:n<bz.length:=A.lt hn;have VJ:n<2^62:=yy F WO;refine ze (show ∃s,bz.getD n qN=s from ⟨_,rfl⟩) λ s VE=>?_;have XH:bz[n]? =ah s:=by rw[ay F,<-e8 F qN,VE]
 refine Og (A.st n s XH) λ a1 a2 a3 a4 a5 a6 a7=>?_;rw[(nW (iU g (bc F)) hn _)]at a2;have YI:((d2 g n).getD n ([],0)).1=s.kernel:=(congrArg jT a2).symm;have YH:((d2 g n).getD n ([],0)).2=s.symbol:=(congrArg Prod.snd a2).symm;refine ze (show ∃K,KL.getD n []=K from ⟨_,rfl⟩) λ K hK=>?_;have rk:Rk K s.kernel:=by rw[<-hK,<-YI];exact W.rk n hn
 refine w2 (H.nd rk) λ X6 WQ Y0 V4=>?_;refine b5 (H.U rk) λ U hU We=>?_;refine za (xY g hn) λ Vr UH=>?_;rw[YI]at Vr UH;refine jA (W.rd n hn) λ Wy Vz Yn=>?_;have YZ:n<RD.length:=by rw[W.rl];exact hn
 refine ze (show ∃rd,RD.getD n []=rd from ⟨_,rfl⟩) λ rd WE=>?_;rw[WE]at Wy Vz Yn;refine iD (decide_eq_true VF) ?_;refine aB<|e4<|tq<|nc I 13 rfl<|cb I 30 C.len<|Mine.a1<|fa I<|nc I 8 rfl ⟨CA,mP CG CR CS g bz,.list (bz.map (fD.v CS)),rfl,L.B.A.a _ (by decide+kernel),by kernel_rfl,mB (show bz.length<2^62 from aR ‹_› (by decide))<|Nc ⟨_,rfl,fX (decide_eq_false (pe.mpr F))<|bm ?_⟩⟩;refine aB<|DZ I Oo 14<|sb<|fa I<|nc I 8 rfl ⟨CA,mP CG CR CS g bz,.list (bz.map (fD.v CS)),rfl,L.B.A.a _ (by decide+kernel),by kernel_rfl,nc I 13 rfl<|Hl (fD.v CS) VE F VJ ?_⟩;refine aB<|sl I 15<|cg I 31 L.close<|an<|sb<|nl I 9 rfl<|nc I 13 rfl<|rH kV 3 hK rfl VF VJ<|an<|nl I 3 rfl<|an<|nl I 4 rfl<|Mine.a1<|nl I 5 rfl<|sp I _ (vF (d:=d) (J:=[]) C L.begin L.close R st em K U HR.ok.len HR.ok.right HR.nd HR.ke HR.b X6 WQ (λ t ht=>by rw[HR.len];exact Y0.rule t ht) hU We) tb rfl λ v J' zf=>za zf λ zg e2=>b5 zg λ l e Cl=>?_;subst e;subst e2;have hT:=H.tok rk Cl;refine aB<|e4<|na<|tq<|sa I L.B.A s (.nat s.number)<|nc I 14 rfl ⟨rfl,nc I 13 rfl<|Fl ⟨_,rfl,fX (by rw[a1];exact bne_self_eq_false n) ?_⟩⟩;refine na<|sR<|tv<|cg I 32 L.Sq<|an<|nc I 14 rfl<|an<|sb<|nl I 9 rfl<|nc I 13 rfl<|rH kV 3 hK rfl VF VJ<|an<|nl I 15 rfl<|an<|nl I 3 rfl<|Mine.a1<|nl I 7 rfl<|iA I (xg (d:=d) (J:=[]) C L.B.A L.Rp L.Sq g hg R HR.ok HR.len s K l Y0 hT (H.VV rk Cl rfl a3 a5 a6 a7) (aR V4.le hg.own)) B1<|jp<|Im<|jq<|fX rfl<|bm ?_;refine aB<|e4<|na<|tq<|sa I L.B.A s (.int s.symbol)<|nc I 14 rfl ⟨rfl,Bh (.int s.symbol) (λ Q' q=>mh<|tq<|nc I 13 rfl<|xn 0<|Cc ⟨_,rfl,?_⟩) ?_⟩
 ·by_cases h0:0<n
  ·refine hQ (Yn h0) λ r X e1 e2=>?_;rw[YH]at e2;refine iD (decide_eq_true (show (0:Int)<(n:Int)from cY.mpr ‹_›))<|sb<|sb<|nl I 11 rfl<|nc I 13 rfl<|rH xq 1 (WE.trans e1) rfl YZ VJ<|iu<|dN<|kF ⟨⟨_,.list .frozen⟩,xL (xs:=r.map .nat) (r:=.nat X) ?_ ?_ ?_⟩
   ·rw[show r.map V.nat++[V.nat X]=(r++[X]).map .nat by simp];exact .frozen
   ·rw[au];rw[e1,aF]at Vz;exact KH Vz F WO
   ·rw[show V.nat X=V.int s.symbol by rw[e2]];exact q
  ·have h0:n=0:=KG h0;refine fX (decide_eq_false (show ¬(0:Int)<(n:Int)from KF h0))<|iu<|dN<|kF ?_;rw[show (-1:Int)=s.symbol by rw[<-YH,h0];rfl];exact q
 refine vR ⟨_,rfl,fX (bne_self_eq_false _) ?_⟩;refine na<|tq<|mc I L.walk<|nc I 8 rfl ⟨mP CG CR CS g bz,.frozen,by kernel_rfl,an<|dN<|Mine.a1<|sb<|nl I 11 rfl<|nc I 13 rfl<|rH xq 1 WE rfl YZ VJ<|iA I (BJ (d:=d) (J:=[]) L.B.A L.walk.y L.goto g bz hz 0 (KE F) rd) tb<|nc I 13 rfl<|vR ⟨_,rfl,fX (by rw[Wy];exact bne_self_eq_false _)<|jq<|fX rfl<|bm ?_⟩⟩;have UC:=(S.nd s (aX XH)).1;have ZK:∀i,pa bz n++(y4 s).take i=pa bz n++(s.Rp.take i).map λ p=>((s.number,p.1),p.2):=λ i=>by unfold y4;rw[g5]
 let S1:List ((Nat×Nat)×Nat)×List (Option V)->St:=λ a=>⟨[ah sv,ah rv,ah pv,ah Rv,ah sV,ah eV,ov o 0,ah gv,ah av,ah (.ref ak),ah (.ref ap),ah (.ref ar),ah (.ref aa),ah (.nat n),ah (s.v CS),ah (.list (l.map iM)),ov a.2 0,ov o 4,ov o 5,ov o 6,ov o 7,ov o 8,ov o 9,ai,ai,ai,ai,ai,ai,ai,ai,ai,ai,ai,ai,ai,ai,ai,ai,ai],
  (aa,.dict (pw a.1))::(ar,.list (RD.map xq))::(ap,.dict (q0 PL))::(ak,.list (KL.map kV))::old⟩
 refine aB<|iL S1 (λ i a=>a.1=pa bz n++(s.Rp.take i).map λ p=>((n,p.1),p.2))<|sa I L.B.A s (.dict (dV s.Rp))<|nc I 14 rfl ⟨rfl,_,_,_,Bo I.ok.hand UC,(pa bz n,[_]),rfl,(cJ _).symm,λ Z Z Z Z=>trivial,λ i a hi z=>?_,λ a z=>?_⟩
 ·obtain ⟨al,o1⟩:=a;have z:al=pa bz n++(s.Rp.take i).map λ p=>((n,p.1),p.2):=z;have P:=g2 UC hi;have ht:pa bz n++(s.Rp.take (i+1)).map (λ p=>((n,p.1),p.2))=al++[((n,(s.Rp.getD i (0,0)).1),(s.Rp.getD i (0,0)).2)]:=by rw[dR (ay hi),<-e8 hi (0,0),aK,<-bW,<-z];rfl
  have B:pa bz n++s.Rp.map (λ p=>((n,p.1),p.2))=pa bz (n+1):=by rw[Hr F,VE];unfold y4;rw[a1]
  have TJ:((al++[((n,(s.Rp.getD i (0,0)).1),(s.Rp.getD i (0,0)).2)]).map (·.1)).Nodup:=by rw[<-ht];refine (AB S (n+1)).sublist (hJ _ ?_);rw[<-B];exact pM (hJ _ (fj _ _)) _
  have UD:al.length<=2^20:=by have h2:=congrArg dB B;have h3:=congrArg dB z;simp only[aF,au,bb]at h2 h3;exact KD h3 h2 (I1 S (n+1))
  show XA _ _ _ _ (ql _ _ _ (oz _ (At S1 (λ a=>a.1=pa bz n++(s.Rp.take (i+1)).map λ p=>((n,p.1),p.2))))) _;rw[ht];clear ht B z;generalize s.Rp.getD i (0,0)=p at P TJ ⊢;obtain ⟨q,m⟩:=p;rw[aK,aV]at TJ;have hq:(n,q)∉al.map (·.1):=λ h=>TJ.2.2 _ h _ (.head _) rfl;exact Mine.al I 16<|aB<|ss<|sb<|sa I L.B.A s (.dict (dV s.Rp))<|nc I 14 rfl ⟨rfl,nl I 16 rfl<|uq I.ok UC P<|nl I 12 rfl<|t2<|nc I 13 rfl<|nl I 16 rfl<|BM (k:=(n,q)) 0 I.ok rfl TJ.1 UD (by rw[vZ hq];rfl)<|bm ⟨(al++[((n,q),m)],[_]),rfl,rfl⟩⟩
 obtain ⟨al,o1⟩:=a;have z:al=pa bz n++(s.Rp.take s.Rp.length).map λ p=>((n,p.1),p.2):=z;have Wd:al=pa bz (n+1):=by rw[Hr F,VE,z,a0];unfold y4;rw[a1]
 subst Wd;clear z ZK;have hlen:l.length<=100000:=hT.len;have Vn:∀i,(((l.take i).foldl (fU g R) []).map (·.1)).Nodup/\((l.take i).foldl (fU g R) []).length<=100000/\∀p∈(l.take i).foldl (fU g R) [],p.2.length<=100000:=λ i=>by refine za (Ay (g:=g) (R:=R) (l.take i) [] 0 (aT _) (λ p hp=>(nomatch hp))) λ b1 b2=>?_;rw[bb]at b1 b2;exact ⟨wC _ _ bL,GD b1 hlen,λ p hp=>by have:=b2 p hp;exact GD this hlen⟩
 let S2:aG->List (Nat×List Tr)×List (Option V)->St:=λ ab a=>⟨[ah sv,ah rv,ah pv,ah Rv,ah sV,ah eV,ov a.2 0,ah gv,ah av,ah (.ref ak),ah (.ref ap),ah (.ref ar),ah (.ref aa),ah (.nat n),ah (s.v CS),ah (.list (l.map iM)),ov a.2 1,ah (.ref ab),ov a.2 2,ov a.2 3,ov a.2 4,ov o 8,ov o 9,ai,ai,ai,ai,ai,ai,ai,ai,ai,ai,ai,ai,ai,ai,ai,ai,ai],
  (ab,.dict (bV a.1))::(aa,.dict (pw (pa bz (n+1))))::(ar,.list (RD.map xq))::(ap,.dict (q0 PL))::(ak,.list (KL.map kV))::old⟩
 refine aB<|sl I 17<|hV I.ok λ ab=>?_;refine aB<|iL (S2 ab) (λ i a=>a.1=(l.take i).foldl (fU g R) [])<|nl I 15 rfl ⟨_,_,_,lF iM l (0,0,"") I.ok.hand,([],[_,_,_,_,_]),rfl,rfl,λ Z Z Z Z=>trivial,λ i a hi z=>?_,λ a z=>?_⟩
 ·obtain ⟨b,o2⟩:=a;have z:b=(l.take i).foldl (fU g R) []:=z;refine jA (Vn i) λ Th VH YX=>?_;rw[<-z]at Th VH YX;have ht:(l.take (i+1)).foldl (fU g R) []=fU g R b (l.getD i (0,0,"")):=by rw[z];exact fN _ _ hi (0,0,"")
  have hr:=hT.rule _ (bd hi (0,0,""));show XA _ _ _ _ (ql _ _ _ (oz _ (At (S2 ab) (λ a=>a.1=(l.take (i+1)).foldl (fU g R) [])))) _;rw[ht];clear ht z;generalize l.getD i (0,0,"")=t at hr ⊢;obtain ⟨q,k,x⟩:=t;have hr:q<R.length:=by rw[HR.len];exact hr
  have YA:=(qf HR.ok q).1;have X4:=HR.ok.len;refine Ob I<|Mine.al I 16<|Mine.al I 18<|Mine.al I 19<|aB<|sl I 6<|sb<|sb<|nl I 3 rfl<|nl I 16 rfl<|lZ pV ("",[]) hr (aH hr (aA X4 (by decide)))<|xn 1 ⟨⟨_,.tup⟩,pA (k:=1) rfl (by decide) ?_⟩;refine aB<|e4<|tq<|nl I 18 rfl<|cb I 30 C.len<|Mine.a1<|nl I 6 rfl<|mB (l:=d9 R q) (aR YA (by decide))<|t8 ⟨_,rfl,?_⟩;by_cases hk:k<(d9 R q).length;rotate_left
  ·have e:fU g R b (q,k,x)=b:=if_neg hk;exact fX (decide_eq_false hk)<|bm<|bm ⟨(b,[_,_,_,_,_]),rfl,e.symm⟩
  ·have hX:=H.sym q _ (bd hk "");have VZ:=vD (d:=d) (J:=[]) C.F C.number.y g ((d9 R q).getD k "") hg.toSmall;rw[Cf hX]at VZ;have e:fU g R b (q,k,x)=pT (ix g ((d9 R q).getD k "")) ((b.lookup (ix g ((d9 R q).getD k ""))).getD []++[(q,k+1,x)]) b:=if_pos hk;have UB:((b.lookup (ix g ((d9 R q).getD k ""))).getD []).length<=100000:=by
    cases e:b.lookup (ix g ((d9 R q).getD k ""))with
    |none=>exact bg _
    |some r=>refine hQ (bO.mp e) λ u v e' Z=>?_;exact YX (_,r) (by rw[e'];exact ax _ (.head _))
   refine iD (decide_eq_true hk)<|aB<|sl I 20<|gm I C.number g<|nl I 7 rfl<|og<|Mine.a1<|sb<|nl I 6 rfl<|nl I 18 rfl<|lZ V.str "" hk (aH hk (aA YA (by decide)))<|iA I VZ rb ?_;generalize ix g ((d9 R q).getD k "")=X at UB e ⊢;exact aB<|ss<|bx<|mb I PySem.F.plainAttrs_dict PySem.F.slot_dict_get PySem.F.type_dict_get<|nl I 17 rfl ⟨.dict (.led 0 rfl),an<|nl I 20 rfl<|Mine.a1<|f5 (cz ⟨bg _,IT (X:=X) 0 I.ok rfl Th<|l1<|t3<|nl I 16 rfl<|bx<|nl I 18 rfl<|xn 1<|fQ<|nl I 19 rfl<|zO (f:=iM) (l':=[(q,k+1,x)]) I.ok (aA (AI UB 1) (by decide))<|nl I 17 rfl<|nl I 20 rfl<|jd 0 I.ok rfl (oo X Th) (by unfold bV;rw[au];exact aA VH (by decide)) (by rw[IZ];rfl)<|bm<|bm ⟨(_,[_,_,_,_,_]),rfl,e.symm⟩⟩)⟩
 obtain ⟨b,o2⟩:=a;have z:b=(l.take l.length).foldl (fU g R) []:=z;rw[a0]at z;refine jA (Vn l.length) λ Th Z Z=>?_;rw[a0,<-z]at Th;have z:b=DE g R l:=z;clear Vn;have XQ:s∈bz:=aX XH;have T7:=hz.keys s XQ;have Ti:=H.keys rk Cl;rw[<-z]at Ti;have WC:=H.rows rk Cl;rw[<-z]at WC;have UI:∀p∈fu g s.kernel,gw g p.2/\p.1<g.names.length:=λ p hp=>pb hg V4 hp;have Wb:(bV b).length<64:=by
  have:=aU Th (l₂:=aZ g.names.length) λ x hx=>by refine b5 (aC.mp ((Ti x).mp hx)) λ p hp SV=>?_;subst SV;exact bP.mpr (UI p hp).2
  rw[au,bf]at this;rw[show (bV b).length=b.length from au ..];exact Ij this hg.VA
 let S3:aG->((List (List Tr)×List (List Tr)×List (List Nat))×List (Nat×Nat))×List (Option V)->St:=λ am a=>⟨[ah sv,ah rv,ah pv,ah Rv,ah sV,ah eV,ov o2 0,ah gv,ah av,ah (.ref ak),ah (.ref ap),ah (.ref ar),ah (.ref aa),ah (.nat n),ah (s.v CS),ah (.list (l.map iM)),ov o2 1,ah (.ref ab),ov o2 2,ov o2 3,ov a.2 0,ah (.ref am),ov a.2 1,ai,ai,ai,ai,ai,ai,ai,ai,ai,ai,ai,ai,ai,ai,ai,ai,ai],
  (am,.list (a.1.2.map du))::(ab,.dict (bV b))::(aa,.dict (pw (pa bz (n+1))))::(ar,.list (a.1.1.2.2.map xq))::(ap,.dict (q0 a.1.1.2.1))::(ak,.list (a.1.1.1.map kV))::old⟩
 let rA:Nat->List (e7×Int)×List (Nat×Nat):=λ i=>eJ (d2 g n) ((fu g s.kernel).take i)
 let Ws:Nat->((List (List Tr)×List (List Tr)×List (List Nat))×List (Nat×Nat))×List (Option V)->Prop:=λ i a=>Wk bz Rk (rA i).1 a.1.1.1 a.1.1.2.1 a.1.1.2.2/\a.1.2=(rA i).2/\a.1.1.2.2.getD n []=rd
 have T6:∀i,(rA i).1.length<=2000/\n<(rA i).1.length:=λ i=>by have h2:=T8 (n+1);rw[Vr]at h2;exact ⟨aA ((s5 (ks:=d2 g n) (l:=fu g s.kernel) i).length_le) (aA h2 WO),KC hn ((nU ((fu g s.kernel).take i) (d2 g n,[])).length_le)⟩
 have V3:∀i,ny g (rA i).1:=λ i=>ny.run _ _ (rW hg HR.pos n) λ p hp=>(UI p (cG hp)).1;refine aB<|sl I 21<|eC I.ok<|cz ⟨bg _,λ am=>?_⟩;refine aB<|iL (S3 am) Ws<|cb I 33 C.sorted<|Mine.a1<|nl I 17 rfl<|kL I.ok (.led 1 rfl) Wb (Hq _) (wA Th) λ ys hp hs=>.F ?_;rw[y0]at hp;have Zr:=wd Th Ti hp hs;subst Zr;clear hp hs;refine ⟨_,_,_,lF V.nat ((fu g s.kernel).map (·.1)) 0 I.ok.hand,(((KL,PL,RD),[]),[_,_]),rfl,⟨W,rfl,WE⟩,λ Z Z Z Z=>trivial,λ i a hi z=>?_,λ a z=>?_⟩
 ·obtain ⟨⟨⟨M,w,E⟩,mv⟩,o3⟩:=a;refine jA z λ W' Uo N=>?_;have W':Wk bz Rk (rA i).1 M w E:=W';have Uo:mv=(rA i).2:=Uo;have N:E.getD n []=rd:=N;have hi:i<(fu g s.kernel).length:=by rw[au]at hi;exact hi
  have hX:((fu g s.kernel).map (·.1)).getD i 0=((fu g s.kernel).getD i (0,[])).1:=by rw[e8 (by rw[au];exact hi),bY,e8 hi]
  have Vg:rA (i+1)=mo (rA i) ((fu g s.kernel).getD i (0,[])):=oQ hi (0,[]);have VG:s.moves.lookup ((fu g s.kernel).getD i (0,[])).1=ah (j3 ((fu g s.kernel).getD i (0,[])).1 ((fu g s.kernel).getD i (0,[])).2 (rA i).1).2:=eO T7 (by rw[a4,UH];exact aX (xo hi));refine b5 (WC _ (bd hi (0,[]))) λ rows P Vj=>?_;show XA _ _ _ _ (ql _ _ _ (oz _ (At (S3 am) (λ a=>Wk bz Rk (rA (i+1)).1 a.1.1.1 a.1.1.2.1 a.1.1.2.2/\a.1.2=(rA (i+1)).2/\a.1.1.2.2.getD n []=rd)))) _;rw[hX,Vg];have Tt:=V3 i;refine za (T6 i) λ Ts TK=>?_;have XP:mv.length=i:=by have h1:=congrArg dB (g0 ((fu g s.kernel).take i) (d2 g n,[]));simp only[au,aF,bb,hH]at h1;rw[Uo,(show (rA i).2.length=((fu g s.kernel).take i |>.foldl mo (d2 g n,[])).2.length from rfl)];exact KB h1 hi
  have ZQ:i<=2^20:=by
   have h1:((fu g s.kernel).map (·.1)).length<=g.names.length:=by
    have:=aU (aO.mpr ((uM g s.kernel).imp cm)) (l₂:=aZ g.names.length) λ x hx=>by refine b5 (aC.mp hx) λ p hp SU=>?_;subst SU;exact bP.mpr (UI p hp).2
    rw[bf]at this;exact this
   rw[au]at h1;exact GT hi h1 hg.VA
  clear hX Vg WC;generalize (fu g s.kernel).getD i (0,[])=p at P Vj VG ⊢;obtain ⟨X,k'⟩:=p;have P:b.lookup X=ah rows:=P;have Vj:Rk rows k':=Vj;generalize rA i=rs at Tt Ts TK Uo W' VG ⊢;obtain ⟨ks,ms⟩:=rs;subst Uo;have W':Wk bz Rk ks M w E:=W';have Ts:ks.length<=2000:=Ts;have TK:n<ks.length:=TK;have Tt:ny g ks:=Tt;have V7:wS bz n X=(((j3 X k' ks).2:Nat):Int):=by rw[xK F,VE,(show s.moves.lookup X=ah (j3 X k' ks).2 from VG)]
  have Wf:=W'.nodup H Tt.2;refine w2 (H.nd Vj) λ hRn X3 Z Z=>?_;have T:=W'.pl;have Vi:=W'.rl;refine Mine.al I 20<|aB<|sl I 22<|cb I 34 C.tup<|Mine.a1<|cb I 33 C.sorted<|Mine.a1<|sb<|nl I 17 rfl<|nl I 20 rfl ⟨⟨_,.dict (.led 1 rfl)⟩,jt I.ok (.led 1 rfl) (oo X Th) (by rw[xZ,P];rfl)<|kK (k:=3) I.ok .frozen (by rw[au];exact X3) (BH rows) λ ys hp hs=>.F<|rS .frozen (by rw[hp.length_eq,au];exact bc (aH ‹_› (by decide))) ?_⟩;refine b5 (nX hp rfl) λ m hm Te=>?_;subst Te;have Vp:=W'.same H Vj hm hs;let S4:(List (List Tr)×List (List Tr)×List (List Nat))->St:=λ a=>S3 am ((a,mv),[ah (.nat X),ah (iz m)])
  refine w3 (At S4 λ a=>Wk bz Rk (j3 X k' ks).1 a.1 a.2.1 a.2.2/\a.2.1.Nodup/\a.2.1.idxOf? m=ah (j3 X k' ks).2/\a.2.2.getD n []=rd/\a.2.1.length<=2^20) (e4<|tq<|nl I 22 rfl<|nl I 10 rfl<|xy (k:=iz m) I.ok (.led 4 rfl) (oU Wf m) ⟨_,rfl,?_⟩) λ Y Xz=>?_
  ·rw[yx];cases e:w.idxOf? m with
   |some j=>
    refine fX rfl<|bm ⟨(M,w,E),rfl,?_,Wf,?_,N,(show w.length<=2^20 from BZ T Ts)⟩
    ·rw[iE (Vp.symm.trans e)];exact W'
    ·rw[iE (Vp.symm.trans e)];exact e
   |none=>
    have e1:=Vp.symm.trans e;rw[fY e1]at V7;have W2:=W'.add Vj hm hs TK V7;have XS:M.length=w.length:=KA W'.kl T;refine iD rfl<|aB<|ss<|cb I 30 C.len<|Mine.a1<|nl I 9 rfl<|rT 5 XS rfl (show M.length<2^62 from Kz XS T Ts)<|nl I 10 rfl<|nl I 22 rfl<|jd (k:=iz m) 4 I.ok rfl (oU Wf m) (show (q0 w).length<=2^20 by rw[Fe];exact BZ T Ts) (by rw[Fd e]) ?_;refine aB<|xe I<|gj I<|nl I 9 rfl ⟨ak,_,5,rfl,rfl,sb<|nl I 17 rfl<|nl I 20 rfl ⟨⟨_,.dict (.led 1 rfl)⟩,jt I.ok (.led 1 rfl) (oo X Th) (by rw[xZ,P];rfl)<|uL (List Tr) (f:=kV) (x:=rows) 5 rfl (show M.length<=2^20 from Kx XS T Ts) rfl ?_⟩⟩;refine aB<|xe I<|gj I<|nl I 11 rfl ⟨ar,_,3,rfl,rfl,bx<|sb<|nl I 11 rfl<|nc I 13 rfl<|rH xq 3 N rfl (show n<E.length from re TK Vi) VJ<|l1<|nl I 20 rfl<|zO (f:=V.nat) (l':=[X]) I.ok (show rd.length+1<=2^20 from Kw Vz TK Ts)<|uL (List Nat) (f:=xq) (x:=rd++[X]) 3 rfl (show E.length<=2^20 from BZ Vi Ts) rfl<|bm ⟨(M++[rows],w++[m],E++[rd++[X]]),rfl,?_,?_,?_,?_,?_⟩⟩
    ·rw[fY e1];rw[N]at W2;exact W2
    ·have:=W2.nodup H (by have:=(Tt.add (X:=X) (k:=k') (H.nd Vj).2.2.2).2;rw[fY e1]at this;exact this);exact this
    ·rw[fY e1];have:(w++[m]).idxOf? m=ah w.length:=by
      have key:∀(l:List (List Tr)),l.idxOf? m=ai->(l++[m]).idxOf? m=ah l.length:=λ l=>by
       induction l with
       |nil=>intro _;show List.idxOf? m [m]=_;rw[fM,if_pos (by rw[beq_iff_eq])];rfl
       |cons y l ih=>
        intro h;rw[fM]at h;rw[dt,fM];by_cases q:(y==m)=aj
        ·rw[if_pos q]at h;cases h
        ·rw[if_neg q]at h ⊢;rw[ih (by simpa using h)];rfl
      exact key _ e
     rw[this,T]
    ·show (E++[rd++[X]]).getD n []=rd;rw[vv,if_pos (re TK Vi)];exact N
    ·show (w++[m]).length<=_;rw[aF,cM];exact Kv T Ts
  ·obtain ⟨⟨KL2,PL2,RD2⟩,rfl,W2,hP2,hj,XJ,ZG⟩:=Xz;exact aB<|xe I<|gj I<|nl I 21 rfl ⟨am,_,0,rfl,rfl,t2<|nl I 20 rfl<|sb<|nl I 10 rfl<|nl I 22 rfl ⟨⟨_,.dict (.led 4 rfl)⟩,jt (k:=iz m) I.ok (.led 4 rfl) (oU hP2 m) (by rw[yx,hj];rfl)<|uL (Nat×Nat) (f:=du) (x:=(X,(j3 X k' ks).2)) 0 rfl (show mv.length<=2^20 from Ku XP ZQ) rfl<|bm ⟨(((KL2,PL2,RD2),mv++[(X,(j3 X k' ks).2)]),[_,_]),rfl,W2,rfl,XJ⟩⟩⟩
 obtain ⟨⟨⟨M,w,E⟩,mv⟩,o3⟩:=a;refine jA z λ W' Uo N=>?_;have B:rA ((fu g s.kernel).map (·.1)).length=eJ (d2 g n) (fu g s.kernel):=by show eJ _ (D7 _ _)=_;rw[au,a0]
 have W2:Wk bz Rk (rA ((fu g s.kernel).map (·.1)).length).1 M w E:=W';clear W';have Uo:mv=(rA ((fu g s.kernel).map (·.1)).length).2:=Uo;rw[B,<-Vr]at W2;rw[B,<-UH,<-a4]at Uo;subst Uo;clear B N T6 V3 WC Ti UI;have ZS:∀i<s.moves.length,wS bz n (s.moves.getD i (0,0)).1=(((s.moves.getD i (0,0)).2:Nat):Int):=λ i hi=>by rw[xK F,VE,g2 T7 hi]
 have Vk:s.moves.length<=2000:=by
  have h1:((fu g s.kernel).map (·.1)).length<=g.names.length:=by
   have:=aU (aO.mpr ((uM g s.kernel).imp cm)) (l₂:=aZ g.names.length) λ x hx=>by refine b5 (aC.mp hx) λ p hp TL=>?_;subst TL;exact bP.mpr (pb hg V4 hp).2
   rw[bf]at this;exact this
  have h3:=congrArg dB (g0 (fu g s.kernel) (d2 g n,[]));rw[<-show (eJ (d2 g n) (fu g s.kernel)).2=((fu g s.kernel).foldl mo (d2 g n,[])).2 from rfl,<-UH,<-a4]at h3;simp only[au,aF,hH]at h3 h1;exact Kt h3 h1 hg.VA
 let mu:Mu:=(am,.list (s.moves.map du))::(ab,.dict (bV b))::(aa,.dict (pw (pa bz (n+1))))::(ar,.list (E.map xq))::(ap,.dict (q0 w))::(ak,.list (M.map kV))::old
 refine aB<|e4<|tq<|lc I<|sa I L.B.A s (.dict (dV s.moves))<|nc I 14 rfl ⟨rfl,⟨_,_,_,Bo I.ok.hand T7,aA Vk (by decide),(λ i c acc m=>∃o,c=[ai,o,ah (s.v CS)]/\acc=(s.moves.take i).map du/\m=mu),⟨_,oi I,rfl,rfl⟩,?_,?_,?_⟩⟩
 ·intro i c acc m hi U4;refine eB U4 λ o TC SH SV=>?_;subst TC;subst SH;subst SV;exact ⟨by rw[au,bb];exact ra,λ Z=>trivial⟩
 ·intro O' C' i c acc m D hi U3;refine eB U3 λ o SU Te TL=>?_;subst SU;subst Te;subst TL;have I':=C'.S7 I;have P:=g2 T7 hi;rw[dR (ay hi),<-e8 hi (0,0)];generalize s.moves.getD i (0,0)=p at P ⊢;refine Mine.al I' 1<|gy<|t2<|nl I' 1 rfl<|sb<|sa I' L.B.A s (.dict (dV s.moves))<|nc I' 2 rfl ⟨rfl,nl I' 1 rfl<|uq I'.ok T7 P ⟨[],rfl,_,rfl,?_,rfl⟩⟩;rw[aK];rfl
 intro c acc m Uv;refine eB Uv λ o' Us Ur UT=>?_;subst Us;subst Ur;subst UT;rw[a0];refine .F<|nl I 21 rfl<|Ca I.ok .frozen (.led 0 rfl) (qh _) (qh _) ⟨_,rfl,fX (by rw[eN];rfl)<|bm ?_⟩;refine aB<|e4<|tq<|lc I<|nl I 21 rfl ⟨_,_,_,HT du s.moves (0,0) I.ok.hand (.head _),aA Vk (by decide),(λ i c acc m=>∃o1 o2,c=[ai,o1,o2,ah (.nat n),ah av]/\acc=((s.moves.take i).map (·.2)).map V.nat/\m=mu),⟨_,_,oi I,rfl,rfl⟩,?_,?_,?_⟩
 ·intro i c acc m hi Uu;refine fx Uu λ o1 o2 U1 U0 TM=>?_;subst U1;subst U0;subst TM;exact ⟨by rw[au,au,bb];exact ra,λ Z=>.tail _ (.head _)⟩
 ·intro O' C' i c acc m D hi Ut;refine fx Ut λ o1 o2 UZ UY UX=>?_;subst UZ;subst UY;subst UX;have I':=C'.S7 I;have VG:=ZS i hi;rw[dR (ay hi),<-e8 hi (0,0)];generalize s.moves.getD i (0,0)=p at VG ⊢;have Ys:=xh (d:=d) (J:=[]) L.B.A L.goto.y g bz hz n p.1 F (CG:=CG) (CR:=CR);rw[VG]at Ys;refine AD I'<|Mine.al I' 1<|Mine.al I' 2<|gy<|mc I' L.goto<|nc I' 4 rfl ⟨mP CG CR CS g bz,.frozen,by kernel_rfl,an<|nc I' 3 rfl<|Mine.a1<|nl I' 1 rfl<|iA I' Ys rb ⟨[],rfl,_,_,rfl,?_,rfl⟩⟩;rw[aK,aK];rfl
 intro c acc m U2;refine fx U2 λ o1 Zg UW UU W5=>?_;subst UW;subst UU;subst W5;rw[a0];refine .F<|lc I<|nl I 21 rfl ⟨_,_,_,HT du s.moves (0,0) I.ok.hand (.head _),aA Vk (by decide),(λ i c acc m=>∃o1 o2,c=[ai,o1,o2]/\acc=((s.moves.take i).map (·.2)).map V.nat/\m=mu),⟨_,_,oi I,rfl,rfl⟩,?_,?_,?_⟩
 ·intro i c acc m hi W8;refine fx W8 λ o1 o2 W4 W3 W0=>?_;subst W4;subst W3;subst W0;exact ⟨by rw[au,au,bb];exact ra,λ Z=>.tail _ (.head _)⟩
 ·intro O' C' i c acc m D hi W7;refine fx W7 λ o1 o2 WZ WY WX=>?_;subst WZ;subst WY;subst WX;have I':=C'.S7 I;rw[dR (ay hi),<-e8 hi (0,0)];generalize s.moves.getD i (0,0)=p;refine AD I'<|Mine.al I' 1<|Mine.al I' 2<|gy<|nl I' 2 rfl ⟨[],rfl,_,_,rfl,?_,rfl⟩;rw[aK,aK];rfl
 intro c acc m W6;refine fx W6 λ o1 Zg WW WV WU=>?_;subst WW;subst WV;subst WU;rw[a0];refine .F<|Ca I.ok .frozen .frozen (nj _) (nj _) ⟨_,rfl,fX (by rw[eN];rfl)<|bm ?_⟩;refine X.perm (J':=(aa,.dict (pw (pa bz (n+1))))::(ar,.list (E.map xq))::(ap,.dict (q0 w))::(ak,.list (M.map kV))::(am,.list (s.moves.map du))::(ab,.dict (bV b))::old) (List.perm_append_comm_assoc [(aa,MO.dict (pw (pa bz (n+1)))),(ar,.list (E.map xq)),(ap,.dict (q0 w)),(ak,.list (M.map kV))] [(am,.list (s.moves.map du)),(ab,.dict (bV b))] old) ?_;exact aB<|DZ I Oo 13<|bx<|nc I 13 rfl<|xn 1<|fQ<|bm ⟨bz.length-(n+1),(show bz.length-(n+1)<bz.length-n from Ks F),((n+1,(M,w,E),_),[_,_,_,_,_,_,_,_,_,_]),rfl,rfl,(aA hn (iU g (gA n)).length_le),W2⟩
end
theorem nn:∀(l acc:List (Nat×Nat)),(acc.map (·.1)).Nodup->(∀x∈acc.map (·.1),x<g.rules.length)->(∀p∈l,p.1<g.owners.length)->((cR g acc l).map (·.1)).Nodup/\∀x∈(cR g acc l).map (·.1),x<g.rules.length:=by
 intro l;induction l with
 |nil=>intro acc h k Z;exact ⟨h,k⟩
 |cons p l d=>
  intro acc h k b;skip;refine d _ ?_ ?_ λ q c=>b q (.tail _ c)
  ·split
   ·exact gk h
   ·exact h
  ·split
   ·intro x a;rw[kJ]at a;split at a
    ·exact k x a
    ·rcases aM.mp a with q|q
     ·exact k x q
     ·rw[aE.mp q];exact (g.item_at (b p (.head _))).1
   ·exact k
theorem nV(g:Gr):g.rules.length<=g.owners.length:=by
 have a:∀(l:List Ru) (b:Nat),l.length<=(gU b l).length:=λ l=>by
  induction l with
  |nil=>intro b;exact aT _
  |cons q l c=>intro b;simp only[ja,aF,bR,bj];have:=c (b+1);exact Kr this
 exact a g.rules 0
theorem Cq(g:Gr)(n:Nat):∀p∈Fp g n,p.2<(d2 g (n+1)).length:=by
 have c:∀(l:List (Nat×e7)) (a:List (e7×Int)×List (Nat×Nat)),(∀p∈a.2,p.2<a.1.length)->∀p∈(l.foldl mo a).2,p.2<(l.foldl mo a).1.length:=λ l=>by
  induction l with
  |nil=>intro a h;exact h
  |cons q l d=>
   intro a h;refine d (mo a q) λ p b=>?_;rcases aM.mp b with e|e
   ·exact aH (h p e) ((wF q.1 q.2 a.1).length_le)
   ·simp only[aE.mp e];show (j3 q.1 q.2 a.1).2<(j3 q.1 q.2 a.1).1.length;cases e:(a.1.map (·.1)).idxOf? q.2 with
    |some j=>simp only[iE e];have:=(List.findIdx?_eq_some_iff_findIdx_eq.mp e).1;simp only[au]at this;exact this
    |none=>rw[fY e];simp
 dsimp only[F5,Aw];dsimp only[Fp];cases h:(d2 g n)[n]? with
 |none=>intro p b;exact nomatch b
 |some q=>exact c (fu g q.1) (d2 g n,[]) λ p b=>(nomatch b)
theorem c2.ok{bz:List fD}(A:c2 g bz)(e:bz.length<=2000):pJ bz:=by
 refine ⟨aR ‹_› (by decide),λ s b=>?_,λ s b p c=>?_⟩
 ·refine ze (cL.mp b) λ j a=>?_;refine Oi (A.st j s a) λ Z Z Z h Z=>?_;rw[h];unfold Fp;cases (d2 g j)[j]? with
  |none=>exact bL
  |some q=>show ((eJ (d2 g j) (fu g q.1)).2.map (·.1)).Nodup;unfold eJ;simp only[g0];exact aO.mpr ((uM g q.1).imp cm)
 ·refine ze (cL.mp b) λ j a=>?_;have d:=A.st j s a;rw[d.2.2.2.1]at c;refine aH (Cq g j p c) ?_
  conv=>rhs;rw[<-A.len]
  exact (iU g ((bh.mp a).1)).length_le
theorem c2.Xj(f:de g)(l:0<g.owners.length){bz:List fD}(A:c2 g bz)(n:bz.length<=2000):sG bz:=by
 refine ⟨n,λ j s b=>(A.st j s b).1,λ s o=>?_⟩;refine ze (cL.mp o) λ j b=>?_;have a:=A.st j s b;have c:=(bh.mp b).1;have e:gw g s.kernel:=by simp only[show s.kernel=((d2 g bz.length).getD j ([],0)).1 from congrArg jT a.2.1];exact (rW f l bz.length).1 _ (bd (by simp only[A.len];exact c) _)
 refine za (nn (g:=g) s.items [] bL (λ x d=>(nomatch d)) λ p m=>((a.2.2.1.mem p).mp m).1.lt e) λ i k=>?_;rw[a.2.2.2.2.2.2];refine ⟨i,a.2.2.2.2.1,?_⟩;rw[a.2.2.2.2.1.length_eq];have h:=aU i (l₂:=aZ g.rules.length) λ x d=>bP.mpr (k x d);rw[bf]at h;exact aA h (aA (nV g) (bc f.own))
theorem ww:∀(n i m:Nat),m<2^n->dq i m=(i4 n m).map (·+i):=by
 intro n;induction n with
 |zero=>intro i m h;have:m=0:=Kq h;subst this;rfl
 |succ n c=>
  intro i m h;have e:(i4 (n+1) m).map (·+i)=(if m%2=1 then [i]else [])++(i4 n (m/2)).map (·+(i+1)):=by
   unfold i4;rw[wT,Ea];have d:((zc j8 (aZ n)).filter λ t=>m/2^t%2==1)=((aZ n).filter λ t=>m/2/2^t%2==1).map j8:=by
    refine List.filter_map.trans ?_;congr 1
    refine List.filter_congr λ t Z=>?_;show (m/2^(t+1)%2==1)=_;simp only[Nat.pow_succ,Nat.mul_comm,Nat.div_div_eq_div_mul]
   rw[d];by_cases a:m%2=1
   ·rw[if_pos (by simpa using a),if_pos a,be,bu];show (0+i)::_=i::_;rw[cQ];congr 1
    exact bF λ t Z=>by show t+1+i=t+(i+1);exact cT _ _ _
   ·rw[if_neg (by simpa using a),if_neg a,bu];exact bF λ t Z=>by show t+1+i=t+(i+1);exact cT _ _ _
  simp only[e,<-(c (i+1) (m/2) (Nat.div_lt_of_lt_mul (show m<2*2^n by rw[Nat.mul_comm];exact h)))];by_cases b:m=0
  ·subst b;rfl
  ·rw[Dz i b]
theorem Hp{n m:Nat}(h:m<2^n):dq 0 m=i4 n m:=by (refine (ww n 0 m h).trans ?_);simp
theorem Bq{p:V×V}:∀{kb:List (V×V)},(kb.map (·.1)).Nodup->p∈kb->eE kb p.1=ah p.2:=by
 intro kb;induction kb with
 |nil=>intros;first|contradiction|exact absurd ‹_<_› (c9 _)
 |cons q kb a=>
  intro nd h;rw[be,bC]at nd;unfold eE;rw[cX];rcases aI.mp h with e|h
  ·subst e;rw[eN];rfl
  ·rw[iy λ e=>nd.1 (by rw[e];exact bq h)];exact a nd.2 h
theorem rN(a:ka.Perm kb)(nd:(kb.map (·.1)).Nodup):Dg ka kb=aj:=by unfold Dg;rw[cZ,beq_iff_eq,cc];refine ⟨a.length_eq,λ p h=>?_⟩;unfold rI;rw[Bq nd (a.mem_iff.mp h)];exact eN _
noncomputable def ly(TR:List Int):List Nat:=if TR.take 24=[]then [0]else (TR.take 24).map λ i=>(i.fmod 999983).toNat
noncomputable def dO(pairs:List Pr):List Pr:=(bo "$accept",["s",bo "$end"])::pairs
structure Ga(pairs:List Pr)(Rk:List Tr->e7->Prop):Prop where
 pr:F9 pairs
 good:de (bZ pairs)
 WM:∀p∈pairs,p.1∈cf pairs/\∀x∈p.2,x∈cf pairs
 VK:0<(ba pairs).length
 sh:AV (bZ pairs)
 most:∀n,(d2 (bZ pairs) n).length<=2000
 H:uO (bZ pairs) (dO pairs) (dz pairs).1 (dz pairs).2 Rk
 HR:DP (bZ pairs) (dO pairs) (dz pairs).1 (dz pairs).2
 shown:∀i<(bZ pairs).owners.length,∀m<2^(bZ pairs).tc,i_ (bZ pairs) i m=nr (dO pairs) (bZ pairs) i m
section
variable{f:aG}
theorem BF(I:f_ O G d T)(i:Nat){x:Str}{pos' pos b:gY}{K W:Expr}{Q:Option (Option V)->St->Prop}(e g:V)(hk:∀{Y':St} {c:V->St->Prop},c e Y'->XV O Ex (bw K O.env) c Y')(l:∀{Y':St} {c:V->St->Prop},c g Y'->XV O Ex (bw W O.env) c Y')(f:kk e≠0)
 (h:∀a,Q ai (St.set ⟨Y.vals,(a,.dict [(e,g)])::Y.mu⟩ i (.ref a))) (k:autoParam (∀n,(T n)[i]? =ah (x,.loc)) rf) (j:autoParam (eo (.Dict [ah K] [W] b) (ah (.Name x pos')) pos.line O.env=pure ao) rf):
 XF O Ex (gg (.Assign [.Name x pos'] (.Dict [ah K] [W] b) pos) O.env) Q Y:=sl I i (yi I.ok λ a=>hk (l ⟨f,0,rfl,h a⟩)) k j
theorem JD{i:Str}(x:Str)(h:Q (.str x) Y)(e:autoParam (i=x) rk):XV O Ex (bw (.Constant (.str i) k pos) O.env) Q Y:=c4 (by rw[e];exact h)
noncomputable def lz:Stmt:=sub (top 39) 8
noncomputable def e0:List (Option Expr)×List Expr×gY×Str:=([],[],JU,"")
noncomputable def eP(e:Expr):List (Option Expr)×List Expr×gY×Str:=
 Expr.casesOn (motive_1:=λ Z=>List (Option Expr)×List Expr×gY×Str) e (λ Z Z Z=>e0) (λ Z Z Z=>e0) (λ Z Z Z Z=>e0) (λ Z Z Z=>e0) (λ Z Z Z Z=>e0) (λ Z Z Z Z=>e0) (λ k v q=>(k,v,q,"")) (λ Z Z Z=>e0) (λ Z Z Z Z=>e0) (λ Z Z Z Z=>e0) (λ Z Z Z Z Z=>e0) (λ Z Z Z Z=>e0) (λ Z Z=>e0) (λ Z Z=>e0) (λ Z Z=>e0) (λ Z Z Z Z=>e0) (λ Z Z Z Z=>e0) (λ Z Z Z Z=>e0) (λ Z Z=>e0) (λ Z Z q=>([],[],q,"")) (λ Z Z Z=>e0) (λ Z Z Z=>e0) (λ Z Z=>e0) (λ x q=>([],[],q,x)) (λ Z Z=>e0) (λ Z Z Z=>e0) (λ Z Z Z Z=>e0)
noncomputable def IN(s:Stmt):Expr:=((eP (nY s).2.2.2.2.1).1.headD ai).getD Hn
noncomputable def rQ(s:Stmt):gY×gY×gY×gY×Str:=((eP ((nY s).2.2.2.1.headD Hn)).2.2.1,(eP (nY s).2.2.2.2.1).2.2.1,(nY s).2.2.2.2.2,(eP ((eP (nY s).2.2.2.2.1).2.1.headD Hn)).2.2.1,(eP ((nY s).2.2.2.1.headD Hn)).2.2.2)
inductive Qd(O:FC)(st:Stmt)(Q:Option (Option V)->St->Prop)(Y:St):Prop
 |mk (h:XF O dP (gg st O.env) Q Y)
theorem JH{st:Stmt}{a:List Stmt}{Q:Option (Option V)->St->Prop}(h:Qd O st (IA O dP a Q) Y):XF O dP (eL (st::a) O.env) Q Y:=by obtain ⟨h⟩:=h;exact aB h
theorem xH(I:f_ O G d (mO (bG (top 39)))){Q:Option (Option V)->St->Prop}(h:∀a,Q ai (St.set ⟨Y.vals,(a,.dict [(iz [(0,0,"")],.nat 0)])::Y.mu⟩ 10 (.ref a))):Qd O lz Q Y:=by
 refine ⟨?_⟩;have hk:∀{Y':St} {b:V->St->Prop},b (iz [(0,0,"")]) Y'->XV O dP (bw (IN lz) O.env) b Y':=by intro Y' b q;refine t1 ?_;refine t3 ?_;refine xn 0 ?_;refine xn 0 ?_;refine JD "" ?_;exact q
 have e:lz=.Assign [.Name (rQ lz).2.2.2.2 (rQ lz).1] (.Dict [ah (IN lz)] [.Constant (.int 0) 0 (rQ lz).2.2.2.1] (rQ lz).2.1) (rQ lz).2.2.1:=by rfl
 have c:∀n,(mO (bG (top 39)) n)[10]? =ah ((rQ lz).2.2.2.2,.loc):=by intro n;rfl
 rw[e];generalize IN lz=K at hk ⊢;generalize rQ lz=p at c ⊢;exact BF I 10 _ _ hk (λ q=>xn 0 q) (by rw[ug];decide) h c
theorem CU{bz:List fD}(A:c2 g bz){R:List Pr}{st:List (Str×List Str)}{em:List (Str×Bool)}(H:uO g R st em Rk){n:Nat}(b:n<bz.length)(hk:Rk K ((d2 g bz.length).getD n ([],0)).1):wS bz n 1= -1:=by
 rw[xK b];refine ze (show ∃s,bz.getD n qN=s from ⟨_,rfl⟩) λ s a=>?_;rw[a,(A.st n s (by rw[ay b,<-e8 b qN,a])).2.2.2.1];have c:=H.err hk;by_cases h:n<(d2 g n).length
 ·rw[(λ h=>nW (iU g (bc b)) h _) h]at c;rw[(xY g h).2];cases e:zh 1 (eJ (d2 g n) (fu g ((d2 g n).getD n ([],0)).1)).2 with
  |none=>rfl
  |some m=>exact absurd (aC.mpr ⟨_,c8 e,rfl⟩) (by unfold eJ;rw[g0];exact c)
 ·unfold Fp;rw[bl (e6 h)];rfl
theorem BC(l:List Str):∀x∈l.map V.str,lU 8 x=aj:=λ x b=>by refine b5 (aC.mp b) λ q Z a=>?_;subst a;rfl
theorem yn(l:List Str):∀x∈l.map V.str,Sh 1 x:=λ x b=>by refine b5 (aC.mp b) λ q Z a=>?_;subst a;exact .str q
noncomputable def y8(g:Gr)(CG CR:aG)(n:Nat)(f:Option (Option V))(Y:St):Prop:=∃most:Nat,f=ai/\Y.vals[7]? =ah (ah (g.v CG CR))/\Y.vals[23]? =ah (ah (.nat n))/\Y.vals[25]? =ah (ah (.nat most))/\(most=n\/most+1=n)
theorem FA(L:wL G CG CR CS CA){g:Gr}{R:List Pr}{st:List (Str×List Str)}{em:List (Str×Bool)}{Rk:List Tr->e7->Prop}{bz:List fD}(E:de g)(H:uO g R st em Rk)(HR:DP g R st em)(A:c2 g bz)(hz:pJ bz)(S:sG bz)(U:AV g)
 (o:∀i<g.owners.length,∀m<2^g.tc,i_ g i m=nr R g i m) (B:0<bz.length) (row:List Nat) (Ts:0<row.length) (TK:row.length<64)
 (I:f_ O G (d+5) (mO (bG (top 39)))) {KL PL:List (List Tr)} {RD:List (List Nat)} (W:Wk bz Rk (d2 g bz.length) KL PL RD)
 (sv pv v4 v5:V) (o6 Zm Zl Zk Zj Zi Zh Zf Ze Zd:Option V) (ak ap ar aa:aG) (Y:Mu):
 XF O dP (eL ((cA (top 39)).drop 13).dropLast O.env) (y8 g CG CR bz.length) ⟨[ah sv,ah (.list (row.map .nat)),ah pv,ah (.list (R.map pV)),ah v4,ah v5,o6,ah (g.v CG CR),ah (kP CG CR CS CA g bz),ah (.ref ak),ah (.ref ap),ah (.ref ar),ah (.ref aa),ah (.nat bz.length),Zm,Zl,Zk,Zj,Zi,Zh,Zf,Ze,Zd,ai,ai,ai,ai,ai,ai,ai,ai,ai,ai,ai,ai,ai,ai,ai,ai,ai],
  (aa,.dict (pw (pa bz bz.length)))::(ar,.list (RD.map xq))::(ap,.dict (q0 PL))::(ak,.list (KL.map kV))::Y⟩:=by
 have C:Cmn G CG CR:=L.B.toCmn;have y:=W.kl;rw[A.len]at y;have j:=S.len;refine aB<|sl I 23<|cb I 30 C.len<|Mine.a1<|nl I 9 rfl<|rT 3 y rfl (show KL.length<2^62 from Ko y j) ?_;have P:∀i m,i<1000->0<m->m<3000->_:=λ i m h1 X U=>BN (G:=G) (d:=d) (J:=[]) L.pick.y C.len row i m Ts TK h1 X U;refine aB<|sl I 24<|cg I 35 L.pick<|an<|nl I 1 rfl<|an<|xn 7<|Mine.a1<|nl I 23 rfl<|iA I (P 7 bz.length (by decide) B (aR ‹_› (by decide))) rb ?_;have a:pick row 7 bz.length<bz.length:=d8 B;generalize pick row 7 bz.length=b at a ⊢;have r:b<(d2 g bz.length).length:=by rw[A.len];exact a
 refine jA (W.rd b r) λ Wy Vz Z=>?_;have K:wS bz b 1= -1:=CU A H a (W.rk b r);have hw:jH bz 0 (RD.getD b []++[1,0])= -1:=by rw[show RD.getD b []++[1,0]=(RD.getD b []++[1])++[0] by simp,m8,(show jH bz 0 (RD.getD b []++[1])= -1 by rw[m8,Wy,if_neg yz,gp,K]),if_pos (by decide)]
 refine aB<|e4<|na<|tq<|mc I L.Sy<|nc I 8 rfl ⟨mP CG CR CS g bz,.frozen,by kernel_rfl,cz<|iA I (sx (d:=d) (J:=[]) L.B.A L.Sy.y C.len g bz hz) rb<|nl I 23 rfl<|Fl ⟨_,rfl,fX (bne_self_eq_false _) ?_⟩⟩;have u:pa bz bz.length=bz.flatMap y4:=by unfold pa;rw[a0]
 refine na<|tq<|cg I 36 L.S6<|Mine.a1<|nc I 8 rfl<|iA I (xf (d:=d) (J:=[]) L.B.A L.S6 g bz S) rb<|nl I 12 rfl<|G8 (c:=3) I.ok .frozen (.led 0 rfl) (by decide) ?_ ?_ ?_ ⟨_,rfl,?_⟩
 ·intro p h;refine b5 (aC.mp h) λ q Z SV=>?_;subst SV;exact ⟨uh _,rfl⟩
 ·intro p h;refine b5 (aC.mp h) λ q Z SU=>?_;subst SU;exact ⟨uh _,rfl⟩
 ·rw[u];exact oX (rY S)
 refine fX ?_ ?_
 ·have e:Dg (pw (bz.flatMap fi)) (pw (bz.flatMap y4))=aj:=rN ((y3 S).map _) (oX (rY S));rw[u,e];rfl
 refine na<|tq<|mc I L.walk<|nc I 8 rfl ⟨mP CG CR CS g bz,.frozen,by kernel_rfl,an<|dN<|Mine.a1<|bx<|sb<|nl I 11 rfl<|nl I 24 rfl<|CO xq [] 1 rfl (by rw[W.rl];exact r) (yy a j)<|l2<|xn 1<|xn 0<|zO (f:=V.nat) (l':=[1,0]) I.ok (show _+2<=2^20 from Km Vz a j)<|iA I (BJ (d:=d) (J:=[]) L.B.A L.walk.y L.goto g bz hz 0 (cY.mpr ‹_›) (RD.getD b []++[1,0])) tb<|iu<|dN<|kF<|vR ⟨_,rfl,fX (by rw[hw];rfl)<|jq<|fX rfl<|bm ?_⟩⟩;have Q:=xh (d:=d) (J:=[]) L.B.A L.goto.y g bz hz b 1 a (CG:=CG) (CR:=CR);rw[K]at Q;refine aB<|e4<|tq<|mc I L.goto<|nc I 8 rfl ⟨mP CG CR CS g bz,.frozen,by kernel_rfl,an<|nl I 24 rfl<|Mine.a1<|xn 1<|iA I Q rb<|iu<|dN<|kF<|vR ⟨_,rfl,fX rfl<|bm ?_⟩⟩;refine ze (show ∃s,bz.getD b qN=s from ⟨_,rfl⟩) λ s M=>?_;have N:bz[b]? =ah s:=by rw[ay a,<-e8 a qN,M]
 refine Og (A.st b s N) λ Z a2 F Z Z Z Z=>?_;have V4:gw g s.kernel:=by rw[(show s.kernel=((d2 g bz.length).getD b ([],0)).1 from congrArg jT a2)];exact (H.nd (W.rk b r)).2.2.2
 have n:∀p∈s.items,p.1<g.owners.length:=λ p h=>((F.mem p).mp h).1.lt V4;have T:∀p∈s.items,p.2<2^g.tc:=λ p h=>by rw[((F.mem p).mp h).2];exact oY _ _
 have Vq:s.items.length<60:=by
  have:=aU F.nd (l₂:=aZ g.owners.length) λ x w=>by refine b5 (aC.mp w) λ p h Te=>?_;subst Te;exact bP.mpr (n p h)
  have X:=E.own;rw[au,bf]at this;exact aR ‹_› ‹_›
 have z:∀p∈s.items,(dq 0 p.2).length<=60/\∀t∈dq 0 p.2,t<g.names.length:=λ p h=>by
  rw[Hp (T p h)];unfold i4;have h1:=E.VO;have X:=E.Wv;refine ⟨?_,λ t ht=>?_⟩
  ·have:=db (λ t=>p.2/2^t%2==1) (aZ g.tc);rw[bf]at this;exact Kl this h1
  ·have:=bP.mp (b4.mp ht).1;exact aH ‹_› ‹_›
 have Zy:(s.items.map λ p=>i_ g p.1 p.2)=s.items.map λ p=>nr R g p.1 p.2:=bF λ p h=>o p.1 (n p h) p.2 (T p h);refine aB<|e4<|tq<|cb I 33 C.sorted<|Mine.a1<|cg I 37 L.R4<|an<|nc I 8 rfl<|Mine.a1<|nl I 24 rfl<|iA I (oP (d:=d) (J:=[]) C L.B.A L.TG L.TH L.bits L.R4 g E U bz b a (yy a j) s N F.nd n z (bc ‹_›)) B1<|kK (k:=1) I.ok .frozen (by rw[au,au];exact aH ‹_› (by decide)) (yn _) λ ys h hs=>.F ?_;refine cg I 38 L.shown<|an<|sa I L.B.A s (.dict (dV s.items))<|sb<|fa I<|nc I 8 rfl ⟨CA,mP CG CR CS g bz,.list (bz.map (fD.v CS)),rfl,L.B.A.a _ (by decide+kernel),by kernel_rfl,nl I 24 rfl<|Hl (fD.v CS) M a (yy a j) ⟨rfl,?_⟩⟩;refine an<|nl I 3 rfl<|Mine.a1<|nl I 7 rfl<|sp I _ (vE (d:=d) (J:=[]) C L.shown g E U R HR.ok HR.len s.items F.nd n Vq) tb rfl λ v J' zf=>za zf λ zg e2=>eB zg λ zs e ZH XI=>?_;subst e;subst e2;rw[Zy]at h;have Zq:ys=zs:=dA.uniq (h.trans ZH.symm) (λ x w=>yn _ x (h.mem_iff.mp w)) hs XI;subst Zq;refine Ca I.ok .frozen .frozen (λ x w=>BC _ x (h.mem_iff.mp w)) (λ x w=>BC _ x (h.mem_iff.mp w)) ⟨_,rfl,fX (by rw[eN];rfl)<|bm ?_⟩;have D:pick row 6 2<2:=d8 (by decide);refine aB<|sl I 25<|bx<|nl I 23 rfl<|cg I 35 L.pick<|an<|nl I 1 rfl<|an<|xn 6<|Mine.a1<|xn 2<|iA I (P 6 2 (by decide) (by decide) (by decide)) rb<|yJ (Kj D a) ?_;refine ze (show ∃l,bz.length-pick row 6 2=l from ⟨_,rfl⟩) λ l hm=>?_;rw[hm];exact bm ⟨l,rfl,rfl,rfl,rfl,Ki hm D⟩
end
section
variable{f:aG}
inductive Qc(O:FC)(l:List Stmt)(Q:Option (Option V)->St->Prop)(Y:St):Prop
 |mk (h:XF O dP (eL l O.env) Q Y)
theorem Fz(L:wL G CG CR CS CA){g:Gr}{R:List Pr}{st:List (Str×List Str)}{em:List (Str×Bool)}{Rk:List Tr->e7->Prop}{bz:List fD}(r:de g)(H:uO g R st em Rk)(s:DP g R st em)(A:c2 g bz)(hz:pJ bz)(S:sG bz)(y:AV g)
 (b:∀i<g.owners.length,∀m<2^g.tc,i_ g i m=nr R g i m) (row:List Nat) (p:0<row.length) (h:row.length<64)
 (I:f_ O G (d+5) (mO (bG (top 39)))) (v:Jr O)
 {Q:Option (Option V)->St->Prop} (x:∀f Y,y8 g CG CR bz.length f Y->Q f Y) (n k:V) (c:aG) {t:Stmt} (l:∀{Q:Option (Option V)->St->Prop} {Y:St},(∀a,Q ai (St.set ⟨Y.vals,(a,.dict [(iz [(0,0,"")],.nat 0)])::Y.mu⟩ 10 (.ref a)))->Qd O t Q Y):
 Qc O (t::((cA (top 39)).drop 9).dropLast) Q ⟨[ah n,ah (.list (row.map .nat)),ah k,ah (.list (R.map pV)),ah (.dict (vp st)),ah (.dict (j1 em)),ai,ah (g.v CG CR),ah (kP CG CR CS CA g bz),ah (.ref c),ai,ai,ai,ai,ai,ai,ai,ai,ai,ai,ai,ai,ai,ai,ai,ai,ai,ai,ai,ai,ai,ai,ai,ai,ai,ai,ai,ai,ai,ai],
  [(c,.list (([[(0,0,"")]]:List (List Tr)).map kV))]⟩:=by
 refine ⟨JH<|l λ w=>?_⟩;refine aB<|sl I 11<|eC I.ok<|Mine.a1<|f5 (cz ⟨bg _,EI (aP rfl),λ q=>?_⟩);refine aB<|sl I 12<|hV I.ok λ u=>?_;refine aB<|DZ I v 13<|xn 0 ?_;refine aB<|CB L r H s A hz S I v n (.list (row.map .nat)) k ai c w q u λ KL PL RD j o W=>?_;have e:0<bz.length:=by have:=F6 g bz.length;simp only[A.len]at this;exact this
 refine X.mono (FA L r H s A hz S y b e row p h I W n k _ _ _ _ _ _ _ _ _ _ _ _ c w q u j) x
theorem Cz(L:wL G CG CR CS CA){Rk:List Tr->e7->Prop}(a:List Int)(hs:a.length<=63)(P:Ga (gr (ly a)) Rk)(I:f_ O G (d+5) (mO (bG (top 39))))(Oo:Jr O):
 XF O dP (eL (cA (top 39)).dropLast O.env) (λ f Y=>∃bz,c2 (bZ (gr (ly a))) bz/\bz.length<=2000/\y8 (bZ (gr (ly a))) CG CR bz.length f Y) ⟨[ah (.list (a.map .int)),ai,ai,ai,ai,ai,ai,ai,ai,ai,ai,ai,ai,ai,ai,ai,ai,ai,ai,ai,ai,ai,ai,ai,ai,ai,ai,ai,ai,ai,ai,ai,ai,ai,ai,ai,ai,ai,ai,ai],[]⟩:=by
 have C:Cmn G CG CR:=L.B.toCmn;let sv:V:=.list (a.map .int)
 refine aB<|Ng I 1<|me<|nl I 0 rfl<|oW<|oV<|xn 24 ⟨⟨_,.list .frozen⟩,Gw (f:=V.int) I.ok (aA hs (by decide)) ?_⟩;refine ⟨_,_,_,lF V.int (a.take 24) 0 I.ok.hand,by rw[bb];exact Kh,(λ i b acc m=>∃o,b=[ai,o,ai]/\acc=(((a.take 24).take i).map λ i=>(i.fmod 999983).toNat).map .nat/\m=[]),⟨_,oi I,rfl,rfl⟩,?_,?_,?_⟩
 ·intro i b acc m hi U4;refine eB U4 λ o TC SH SV=>?_;subst TC;subst SH;subst SV;exact ⟨by rw[au,au,bb];exact ra,λ Z=>trivial⟩
 ·intro O' C' i b acc m D hi U3;refine eB U3 λ o SU Te TL=>?_;subst SU;subst Te;subst TL;have c:=C'.S7 I;rw[dR (ay hi),<-e8 hi 0];generalize (a.take 24).getD i 0=z;refine Mine.al c 1<|gy<|bx<|cb c 2 L.int<|Mine.a1<|nl c 1 rfl<|NJ<|dN<|G9 (by decide) ⟨[],rfl,_,rfl,?_,rfl⟩;rw[aK,aK];rw[((gW (Int.fmod_nonneg_of_pos z (by decide))).symm)];rfl
 intro b acc m Uv;refine eB Uv λ o Us Ur UT=>?_;subst Us;subst Ur;subst UT;rw[a0];refine .F ?_;let rw0:List Nat:=(a.take 24).map λ i=>(i.fmod 999983).toNat
 refine w3 (λ Y=>Y=⟨[ah sv,ah (.list ((ly a).map .nat)),ai,ai,ai,ai,ai,ai,ai,ai,ai,ai,ai,ai,ai,ai,ai,ai,ai,ai,ai,ai,ai,ai,ai,ai,ai,ai,ai,ai,ai,ai,ai,ai,ai,ai,ai,ai,ai,ai],[]⟩) (e4<|tq<|nl I 1 rfl<|f5 (cz ⟨bg _,Ce I.ok .frozen .frozen (nj _) (λ x hx=>(nomatch hx)) ⟨_,rfl,?_⟩⟩)) λ Y Xz=>?_
 ·by_cases h:a.take 24=[]
  ·refine iD (by rw[h];exact eN _)<|aB<|sl I 1<|l1<|xn 0<|bm ?_;show _=(⟨_,_⟩:St);unfold ly;rw[if_pos h];rfl
  ·refine fX ?_<|bm ?_
   ·refine iy λ e=>h ?_;injection e with e
    rw[nH,nH]at e;exact e
   ·show _=(⟨_,_⟩:St);unfold ly;rw[if_neg h];rfl
 subst Xz;have j:0<(ly a).length/\(ly a).length<64:=by
  unfold ly;split
  ·exact ⟨by decide,by decide⟩
  ·rename_i h;rw[au];exact ⟨List.length_pos_iff.mpr h,by rw[bb];exact Kg⟩
 generalize ly a=row at P j ⊢;refine za j λ j w=>?_;refine aB<|sl I 2<|cg I 26 L.pairs<|Mine.a1<|nl I 1 rfl<|iA I (EX (d:=d) (J:=[]) C L.pick L.ord L.pairs row j w) tb ?_;let rv:V:=.list (row.map .nat)
 generalize hpr:gr row=pairs at P ⊢;have y:=P.pr.len;refine aB ?_;refine sl I 3 ?_;refine bx ?_;refine l1 ?_;refine t2 ?_;refine JD (bo "$accept") ?_;refine l2 ?_;refine JD "s" ?_;refine JD (bo "$end") ?_;refine nl I 2 rfl ?_;refine zO (f:=pV) (l:=([(bo "$accept",["s",bo "$end"])]:List Pr)) (l':=pairs) I.ok (show 1+pairs.length<=2^20 from Kf y) ?_;refine aB<|xT I<|cg I 27 L.starts<|Mine.a1<|nl I 2 rfl<|iA I (BK (d:=d) (J:=[]) C L.begin L.starts pairs P.pr) tb<|AD I<|Mine.al I 4<|Mine.al I 5 ?_;refine aB<|sl I 7<|cg I 28 L.plain<|Mine.a1<|lc I<|nl I 2 rfl ⟨_,_,_,lF pV pairs ("",[]) I.ok.hand,aA y (by decide),(λ i b acc m=>∃X W,b=[ai,X,W,ai]/\acc=(pairs.take i).map pV/\m=[]),⟨_,_,oi I,rfl,rfl⟩,?_,?_,?_⟩
 ·intro i b acc m hi Uu;refine fx Uu λ X W R M T=>?_;subst R;subst M;subst T;exact ⟨by rw[au,bb];exact ra,λ Z=>trivial⟩
 ·intro O' C' i b acc m D hi Ut;refine fx Ut λ X W F B E=>?_;subst F;subst B;subst E;have c:=C'.S7 I;have h3:=P.pr.right _ (bd hi ("",[]));rw[dR (ay hi),<-e8 hi ("",[])];generalize pairs.getD i ("",[])=p at h3 ⊢;refine AD c<|Mine.al c 1<|Mine.al c 2<|gy<|t2<|nl c 1 rfl<|cb c 3 C.list<|Mine.a1<|nl c 2 rfl<|uI c.ok .frozen (by rw[au];exact aA ‹_› (by decide))<|.F ⟨[],rfl,_,_,rfl,?_,rfl⟩;rw[aK];rfl
 intro b acc m U2;refine fx U2 λ X W u S K=>?_;subst u;subst S;subst K;rw[a0];obtain ⟨N,U,t,n,h3,s,H,HR,k⟩:=P;refine .F<|iA I (EW (d:=d) (J:=[]) L.P L.plain pairs N U.toSmall t n) B1 ?_;have VY:0<(bZ pairs).rules.length:=cr _;clear t n;generalize bZ pairs=g at*;refine aB<|DZ I Oo 8<|cg I 29 L.build<|Mine.a1<|nl I 7 rfl<|sp I _ (EY (d:=d) (J:=[]) L.B L.build g U VY s) GB rfl λ v J' zf=>za zf λ zg e2=>eB zg λ bz e A r=>?_;subst e;subst e2;let gv:V:=g.v CG CR
 let av:V:=kP CG CR CS CA g bz
 let pv:V:=.list (pairs.map pV)
 refine aB ?_;refine sl I 9 ?_;refine eC I.ok ?_;refine Mine.a1 ?_;refine l1 ?_;refine t3 ?_;refine xn 0 ?_;refine xn 0 ?_;refine JD "" ?_;refine ⟨EI (aP rfl),λ ak=>?_⟩;obtain ⟨h⟩:=Fz L U H HR A (A.ok r) (A.Xj U HR.pos r) h3 k row j w I Oo (Q:=λ f Y=>∃bz,c2 g bz/\bz.length<=2000/\y8 g CG CR bz.length f Y) (λ f Y q=>⟨bz,A,r,q⟩) sv pv ak λ h=>xH I h;assumption
end
noncomputable def gH:List Str:=["x","y","z"]
noncomputable def eR:List Str:=["s","a","b"]
structure dC(ps:List Pr):Prop where
 lf:∀p∈ps,p.1∈eR
 rt:∀p∈ps,∀x∈p.2,x∈gH\/x∈ba ps
 r3:∀p∈ps,p.2.length<=3
 pd:∀x∈ba ps,∃p∈ps,p.1=x/\∀y∈p.2,y∈gH
 ln:ps.length<=8
 l2:2*(ba ps).length<=ps.length+1
 hd:(ba ps)[0]? =ah ("s":Str)
 cn:∀X,((dO ps).flatMap (·.2)).count X<=15
noncomputable def lr:Str:=bo "$accept"
noncomputable def ia:Str:=bo "$end"
noncomputable def yI:List Str:=iQ++gH++[lr]++eR
theorem DK{y:Str}:y∈jw ls acc x↔y∈acc\/(y=x/\x∉ls):=by
 unfold jw;have b:ls.any (· ==x)=aj↔x∈ls:=by refine dM.trans ?_;exact ⟨λ a=>by refine b5 a λ z hz e=>?_;exact (beq_iff_eq.mp e)▸hz,λ h=>⟨x,h,beq_self_eq_true x⟩⟩
 by_cases h:x∈ls
 ·rw[if_pos (b.mpr h)];exact ⟨.inl,λ q=>q.elim id λ q=>absurd h q.2⟩
 ·rw[if_neg λ q=>h (b.mp q),kQ];exact ⟨λ q=>q.elim .inl λ q=>.inr ⟨q,h⟩,λ q=>q.elim .inl λ q=>.inr q.1⟩
theorem AC{y:Str}:∀(l acc:List Str),y∈l.foldl (jw ls) acc↔y∈acc\/(y∈l/\y∉ls):=by
 intro l;induction l with
 |nil=>intro acc;simp
 |cons x l a=>
  intro acc;simp only[c6,a,DK,aI];constructor
  ·rintro ((h|⟨rfl,h⟩)|⟨h,k⟩)
   ·exact .inl h
   ·exact .inr ⟨.inl rfl,h⟩
   ·exact .inr ⟨.inr h,k⟩
  ·rintro (h|⟨rfl|h,k⟩)
   ·exact .inl (.inl h)
   ·exact .inl (.inr ⟨rfl,k⟩)
   ·exact .inr ⟨h,k⟩
theorem DJ(ls acc:List Str)(x:Str):acc<+:jw ls acc x:=by
 dsimp only[jw,fV];split
 ·exact d_ _
 ·split
  ·exact d_ _
  ·exact jU _ _
theorem tu(f:List Str->α->List Str)(h:∀acc x,acc<+:f acc x):∀(l:List α) (acc:List Str),acc<+:l.foldl f acc:=by
 intro l;induction l with
 |nil=>intro Z;exact d_ _
 |cons x l a=>intro acc;exact (h acc x).trans (a _)
theorem x1(h:acc.Nodup):(jw ls acc x).Nodup:=by
 unfold jw;split
 ·exact h
 ·exact nw h
theorem pC(f:List Str->α->List Str)(h:∀acc x,acc.Nodup->(f acc x).Nodup):∀(l:List α) (acc:List Str),acc.Nodup->(l.foldl f acc).Nodup:=by
 intro l;induction l with
 |nil=>intro Z k;exact k
 |cons x l a=>intro acc k;exact a _ (h acc x k)
theorem gZ{y:Str}(ps:List Pr):y∈jJ ls ps↔y∈iQ\/∃p∈ps,y∈p.2/\y∉ls:=by
 have:∀(ps:List Pr) (acc:List Str),y∈ps.foldl (λ acc p=>p.2.foldl (jw ls) acc) acc↔y∈acc\/∃p∈ps,y∈p.2/\y∉ls:=λ ps=>by
  induction ps with
  |nil=>intro acc;simp
  |cons q ps b=>
   intro acc;dsimp only[c6];rw[b,AC];constructor
   ·rintro ((h|h)|⟨p,a,h⟩)
    ·exact .inl h
    ·exact .inr ⟨q,.head _,h⟩
    ·exact .inr ⟨p,.tail _ a,h⟩
   ·rintro (h|⟨p,a,h⟩)
    ·exact .inl (.inl h)
    ·rcases aI.mp a with rfl|a
     ·exact .inl (.inr h)
     ·exact .inr ⟨p,a,h⟩
 exact this ps iQ
theorem sQ(ls:List Str)(ps:List Pr):iQ<+:jJ ls ps:=tu (λ acc (p:Pr)=>p.2.foldl (jw ls) acc) (λ acc p=>tu _ (DJ ls) p.2 acc) ps iQ
theorem vk(ls:List Str)(ps:List Pr):(jJ ls ps).Nodup:=pC (λ acc (p:Pr)=>p.2.foldl (jw ls) acc) (λ acc p h=>pC _ (λ Z Z h=>x1 h) p.2 acc h) ps iQ (by decide+kernel)
noncomputable abbrev fO(ps:List Pr):List Str:=jJ (ba ps) ps
theorem dC.R6(F:dC ps):∀x∈ba ps,x∈eR:=λ x c=>by refine b5 (gs.mp c) λ p b a=>?_;subst a;exact F.lf p b
theorem dC.SX(F:dC ps):∀x∈fO ps,x∈iQ\/x∈gH:=λ x b=>by
 rcases (gZ ps).mp b with h|⟨p,a,h,k⟩
 ·exact .inl h
 ·exact .inr ((F.rt p a x h).resolve_right k)
theorem dC.R5(F:dC ps):(cf ps).Nodup:=by
 have g:∀x∈fO ps,x∉lr::eR:=λ x c=>by
  have:∀y∈iQ++gH,y∉lr::eR:=by decide+kernel
  exact this x ((F.SX x c).elim (λ h=>aJ _ h) λ h=>ax _ h)
 have f:∀x∈ba ps,x≠lr:=λ x c=>by
  have:∀y∈eR,y≠lr:=by decide+kernel
  exact this x (F.R6 x c)
 show (fO ps++[lr]++ba ps).Nodup;rw[bW,aV];refine ⟨vk _ _,bC.mpr ⟨λ h=>f _ h rfl,jO ps⟩,λ a d b i e=>g a d ?_⟩;cases e;rcases aI.mp i with e|e
 ·exact aI.mpr (.inl e)
 ·exact aI.mpr (.inr (F.R6 a e))
theorem dC.names10(F:dC ps):∀x∈cf ps,x∈yI:=λ x a=>by
 unfold yI;rcases aM.mp (show x∈fO ps++[lr]++ba ps from a)with h|h
 ·rcases aM.mp h with h|h
  ·exact aJ _ (aJ _ ((F.SX x h).elim (λ h=>aJ _ h) λ h=>ax _ h))
  ·exact aJ _ (ax _ h)
 ·exact ax _ (F.R6 x h)
theorem dC.SK(F:dC ps):(cf ps).length<=10:=aU F.R5 (l₂:=yI) F.names10
theorem fy:cf ps=fO ps++(lr::ba ps):=by show fO ps++[lr]++ba ps=_;rw[bW];rfl
theorem JL:(bZ ps).tc=(fO ps).length:=rfl
theorem iB(h:x∈fO ps):x∈cf ps:=by rw[fy];exact aJ _ h
theorem fH(h:x∈ba ps):x∈cf ps:=by rw[fy];exact ax _ (.tail _ h)
theorem dC.RM(F:dC ps){p:Pr}(a:p∈ps){x:Str}(b:x∈p.2):x∈fO ps\/x∈ba ps:=by
 by_cases h:x∈ba ps
 ·exact .inr h
 ·exact .inl ((gZ ps).mpr (.inr ⟨p,a,b,h⟩))
theorem dC.Sz(F:dC ps){p:Pr}(a:p∈ps){x:Str}(b:x∈p.2):x∈cf ps:=(F.RM a b).elim iB fH
theorem n6(h:x∈cf ps):ix (bZ ps) x<(cf ps).length/\(cf ps).getD (ix (bZ ps) x) ""=x:=by have a:(cf ps).idxOf x<(cf ps).length:=g6.mpr h;refine ⟨a,?_⟩;show (cf ps).getD ((cf ps).idxOf x) ""=x;rw[e8 a,oB a]
theorem oZ{y:Str}(h:x∈cf ps)(k:y∈cf ps)(e:ix (bZ ps) x=ix (bZ ps) y):x=y:=by refine (bA ((n6 h).2)).trans ?_;rw[<-(n6 k).2,e]
theorem dC.UR(F:dC ps){i:Nat}(h:i<(cf ps).length):ix (bZ ps) ((cf ps).getD i "")=i:=by show (cf ps).idxOf _=i;rw[e8 h];exact F.R5.idxOf_getElem i h
theorem to:x∈fO ps↔ix (bZ ps) x<(bZ ps).tc:=by
 show _↔(cf ps).idxOf x<(fO ps).length;rw[fy];constructor
 ·intro h;rw[pL,if_pos h];exact g6.mpr h
 ·intro h;refine Classical.byContradiction λ k=>?_;rw[pL,if_neg k]at h;exact absurd h (bT.mpr (bK ..))
theorem JK{t:Nat}(h:t<(bZ ps).tc):(cf ps).getD t ""∈fO ps:=by rw[fy,aD,c3 h];exact bd h ""
theorem CM:ix (bZ ps) ia=0:=by show (cf ps).idxOf ia=0;refine ze (sQ (ba ps) ps) λ q a=>?_;rw[fy,show fO ps=iQ++q from a.symm];rfl
theorem dC.Xy(F:dC ps):(bZ ps).start=ix (bZ ps) "s":=by show n7 ps ((ba ps).getD 0 "")=_;rw[aD,F.hd];rfl
theorem dC.T5(F:dC ps):ix (bZ ps) lr=(bZ ps).tc:=by
 show (cf ps).idxOf lr=(fO ps).length;have a:lr∉fO ps:=λ h=>by have:=F.R5;rw[fy,aV]at this;exact this.2.2 _ h _ (.head _) rfl
 rw[fy,pL,if_neg a,List.idxOf_cons_self,cQ]
theorem ei:(bZ ps).rules.length=(dO ps).length:=by show (_::ps.map (sA ps)).length=(_::ps).length;simp only[bj,bj,au]
theorem dC.rule(F:dC ps)(n:Nat):(bZ ps).right n=(d9 (dO ps) n).map (ix (bZ ps))/\(n<(dO ps).length->(bZ ps).left n=ix (bZ ps) ((dO ps).getD n ("",[])).1):=by
 cases n with
 |zero=>refine ⟨?_,λ Z=>F.T5.symm⟩;show [(bZ ps).start,0]=[ix (bZ ps) "s",ix (bZ ps) ia];rw[F.Xy,CM]
 |succ n=>
  unfold d9;rw[(show (bZ ps).right (n+1)=((ps.map (sA ps)).map (·.right)).getD n [] from rfl),(show (bZ ps).left (n+1)=((ps.map (sA ps)).map (·.left)).getD n 0 from rfl),(show (dO ps).getD (n+1) ("",[])=ps.getD n ("",[])from rfl)];by_cases h:n<ps.length
  ·refine ⟨?_,λ Z=>?_⟩
   ·rw[e8 (by rw[au,au];exact h),bY,bY,e8 h];rfl
   ·rw[e8 (by simp only[au,au];exact h),bY,bY,e8 h];rfl
  ·refine ⟨?_,λ k=>absurd (eW k) h⟩;refine (aD).trans ?_;rw[bl (by rw[au,au];exact bT.mp ‹_›),aD,bl (bT.mp ‹_›)];rfl
theorem dC.Tq(F:dC ps)(n:Nat):∀x∈d9 (dO ps) n,x∈fO ps\/x∈ba ps:=λ x a=>by
 cases n with
 |zero=>
  rcases aI.mp a with h|h
  ·subst h;exact .inr (aX F.hd)
  ·rw[aE.mp h];exact .inl ((gZ ps).mpr (.inl (.head _)))
 |succ n=>
  have a:x∈(ps.getD n ("",[])).2:=a;by_cases h:n<ps.length
  ·exact F.RM (bd h _) a
  ·rw[aD,bl (bT.mp ‹_›)]at a;exact nomatch a
theorem dC.RZ(F:dC ps)(n:Nat):∀x∈d9 (dO ps) n,x∈(bZ ps).names:=λ x a=>(F.Tq n x a).elim iB fH
theorem dC.Ux(F:dC ps)(n:Nat):(d9 (dO ps) n).length<=3:=by
 cases n with
 |zero=>exact gA 2
 |succ n=>
  show (ps.getD n ("",[])).2.length<=3;by_cases h:n<ps.length
  ·exact F.r3 _ (bd h _)
  ·rw[aD,bl (bT.mp ‹_›)];exact bg _
theorem dC.TU(F:dC ps)(n:Nat):((bZ ps).right n).length<=3:=by simp only[(F.rule n).1,au];exact F.Ux n
theorem dC.T4(F:dC ps){n:Nat}(h:n<ps.length):((dO ps).getD (n+1) ("",[])).1∈ba ps:=gs.mpr ⟨ps.getD n ("",[]),bd h _,rfl⟩
theorem B7:∀(l:List Ru) (b:Nat),(∀r∈l,r.right.length<=3)->(gU b l).length<=4*l.length:=by
 intro l;induction l with
 |nil=>intro Z Z;exact aT _
 |cons r l c=>intro b h;simp only[ja,aF,bR,bj];exact QM (h r (.head _)) (c (b+1) λ q a=>h q (.tail _ a))
theorem dC.pr(F:dC ps):F9 ps:=by have a:=F.ln;exact ⟨QL ((bh.mp F.hd).1) F.l2,aA ‹_› (by decide),F.lf,F.r3⟩
theorem dC.good(F:dC ps):de (bZ ps):=by
 have g:=F.SK;have f:(bZ ps).rules.length<=9:=by rw[ei];exact ee F.ln
 have c:∀r∈(bZ ps).rules,r.right.length<=3:=λ r f=>by refine Eu (dJ.mp f) λ n o e=>?_;have:=F.TU n;unfold Gr.right at this;rw[e8 (by simp only[au];exact o),bY,e]at this;exact this
 have d:=B7 (bZ ps).rules 0 c;have d:(bZ ps).owners.length<=36:=aA d (AX 4 f);have b:(bZ ps).tc+1<=(cf ps).length:=by simp only[fy,aF,bj,JL];exact QK
 have a:∀{n:Nat},n<=36->n<2^10:=λ h=>aR h (by decide);refine ⟨⟨a (aA g (by decide)),a (aA f (by decide)),a d,λ r h=>a (aA (c r h) (by decide))⟩,λ r h=>?_,λ r h x j=>?_,aR d (by decide),aR g (by decide),aA (iG b) g,iG b⟩
 ·simp only[ei]at h;rw[(F.rule r).2 h];cases r with
  |zero=>show ix (bZ ps) lr<_/\_<=ix (bZ ps) lr;rw[F.T5];exact ⟨b,aT _⟩
  |succ n=>have l:=F.T4 (eW h);refine ⟨(n6 (fH l)).1,e6 λ k=>?_⟩;have nd:=F.R5;rw[fy,aV]at nd;exact nd.2.2 _ (to.mpr k) _ (.tail _ l) rfl
 ·rw[(F.rule r).1]at j;refine b5 (aC.mp j) λ y m i=>?_;subst i;exact (n6 (F.RZ r y m)).1
theorem dC.WM(F:dC ps):∀p∈ps,p.1∈cf ps/\∀x∈p.2,x∈cf ps:=λ p a=>⟨fH (gs.mpr ⟨p,a,rfl⟩),λ x b=>F.Sz a b⟩
theorem dC.VK(F:dC ps):0<(ba ps).length:=(bh.mp F.hd).1
theorem dC.Vb(F:dC ps):∀x∈cf ps,x.length<=20:=λ x a=>by
 have:∀y∈yI,y.length<=20:=by decide+kernel
 exact this x (F.names10 x a)
theorem dC.sh(F:dC ps):AV (bZ ps):=⟨F.Vb,F.TU⟩
theorem dC.T1(F:dC ps)(n:Nat):((bZ ps).right n).map (pu (bZ ps))=d9 (dO ps) n:=by
 simp only[(F.rule n).1,bu]
 conv=>rhs;rw[<-ej (d9 (dO ps) n)]
 exact bF λ x a=>(n6 (F.RZ n x a)).2
theorem dC.Uk(F:dC ps){n:Nat}(h:n<(dO ps).length):((dO ps).getD n ("",[])).1∈cf ps:=by
 cases n with
 |zero=>rw[fy];exact ax _ (.head _)
 |succ n=>exact fH (F.T4 (eW h))
theorem dC.shown(F:dC ps):∀i<(bZ ps).owners.length,∀m<2^(bZ ps).tc,i_ (bZ ps) i m=nr (dO ps) (bZ ps) i m:=λ i hi m b=>by
 have a:(bZ ps).Ro i<(dO ps).length:=by rw[<-ei];exact ((bZ ps).item_at hi).1
 have c:pu (bZ ps) ((bZ ps).left ((bZ ps).Ro i))=((dO ps).getD ((bZ ps).Ro i) ("",[])).1:=by rw[(F.rule _).2 a];exact (n6 (F.Uk a)).2
 dsimp only[i_,sU,nr,hW,ue];simp only[Hp b,c,F.T1,bW];rfl
theorem dC.Xo(F:dC ps):AF (dO ps):=by
 refine ⟨ee (aA F.ln (by decide)),λ r a=>?_,λ r a=>?_⟩
 ·rcases aI.mp a with h|h
  ·subst h;exact gA 2
  ·exact F.r3 r h
 ·rcases aI.mp a with h|h
  ·subst h;exact ⟨by decide+kernel,by decide+kernel⟩
  ·exact ⟨F.Vb _ (F.WM r h).1,λ x b=>F.Vb x ((F.WM r h).2 x b)⟩
theorem dC.VU(F:dC ps):DP (bZ ps) (dO ps) (dz ps).1 (dz ps).2:=by
 have S:=ik.rounds ps (ps.length+1);refine ⟨F.Xo,ei.symm,by simp only[show (dz ps).1.map (·.1)=ba ps from S.ks];exact jO ps,S.ke.trans S.ks.symm,λ p b=>?_,?_⟩
 ·refine za (S.row p b) λ nd h=>?_;refine aA (aU nd (l₂:=cf ps) λ x a=>?_) (aA F.SK (by decide));refine b5 (bX.mp (h x a)) λ q c a=>?_;exact F.Sz c a
 ·exact aH (by exact cr _) (nV (bZ ps))
noncomputable def Em(a:g4)(x:Str):Prop:=a.2.lookup x=ah aj
noncomputable def x4(a:g4)(t x:Str):Prop:=∃l,a.1.lookup x=ah l/\t∈l
noncomputable def y_(a:g4)(t:Str):List Str->Prop
 |[]=>False
 |x::r=>match a.1.lookup x with
  |none=>t=x
  |some l=>t∈l\/(Em a x/\y_ a t r)
theorem Rl{a:g4}:y_ a t []=(False):=rfl
theorem N7{a:g4}{t:Str}{x r}:y_ a t (x::r)=(match a.1.lookup x with
 |none=>t=x
 |some l=>t∈l\/(Em a x/\y_ a t r)):=rfl
noncomputable def x8(a:g4)(l:List Str):Prop:=∀x∈l,(∃r,a.1.lookup x=ah r)/\Em a x
theorem kO{a:g4}{r:List Str}(h:a.1.lookup x=ai):y_ a t (x::r)↔t=x:=by simp only[N7,h]
theorem iX{a:g4}{r l:List Str}(h:a.1.lookup x=ah l):y_ a t (x::r)↔t∈l\/(Em a x/\y_ a t r):=by simp only[N7,h]
theorem kM{a:g4}:∀(l acc:List Str),t∈ed a.1 a.2 ahead acc l↔t∈acc\/y_ a t l\/(x8 a l/\t=ahead):=by
 intro l;induction l with
 |nil=>intro acc;simp only[qp,aM,aE];exact ⟨λ h=>h.elim .inl λ h=>.inr (.inr ⟨λ x g=>(nomatch g),h⟩),λ h=>h.elim .inl λ h=>h.elim (λ h=>h.elim) λ h=>.inr h.2⟩
 |cons x l d=>
  intro acc;dsimp only[qp,mD];cases e:a.1.lookup x with
  |none=>show t∈acc++[x]↔_;refine aM.trans ?_;rw[aE,kO e];refine ⟨λ h=>h.elim .inl λ h=>.inr (.inl h),λ h=>h.elim .inl λ h=>h.elim .inr λ h=>?_⟩;refine ze ((h.1 x (.head _)).1) λ r c=>?_;rw[e]at c;exact nomatch c
  |some r=>
   show t∈(if a.2.lookup x=ah aj then _ else acc++r)↔_;rw[iX e];by_cases h:a.2.lookup x=ah aj
   ·rw[if_pos h,d,aM];have f:x8 a (x::l)↔x8 a l:=⟨λ q y b=>q y (.tail _ b),λ q y b=>by
     rcases aI.mp b with rfl|b
     ·exact ⟨⟨r,e⟩,h⟩
     ·exact q y b⟩
    rw[f];constructor
    ·rintro ((q|q)|q|q)
     ·exact .inl q
     ·exact .inr (.inl (.inl q))
     ·exact .inr (.inl (.inr ⟨h,q⟩))
     ·exact .inr (.inr q)
    ·rintro (q|(q|q)|q)
     ·exact .inl (.inl q)
     ·exact .inl (.inr q)
     ·exact .inr (.inl q.2)
     ·exact .inr (.inr q)
   ·rw[if_neg h,aM];constructor
    ·rintro (q|q)
     ·exact .inl q
     ·exact .inr (.inl (.inl q))
    ·rintro (q|(q|q)|q)
     ·exact .inl q
     ·exact .inr q
     ·exact absurd q.1 h
     ·exact absurd (q.1 x (.head _)).2 h
theorem ry(x y:Str)(f:β->β):∀l:List (Str×β),(l.map λ p=>if p.1=x then (p.1,f p.2)else p).lookup y=(l.lookup y).map λ v=>if y=x then f v else v:=by
 intro l;induction l with
 |nil=>exact rfl
 |cons b l a=>
  obtain ⟨k,v⟩:=b;have a:=a;rw[be];dsimp only[br];by_cases h:k=x
  ·rw[if_pos h];dsimp only[br];by_cases e:y=k
   ·subst e;rw[beq_self_eq_true];exact (congrArg ah (if_pos h)).symm
   ·rw[beq_eq_false_iff_ne.mpr e];exact a
  ·rw[if_neg h];dsimp only[br];by_cases e:y=k
   ·subst e;rw[beq_self_eq_true];exact (congrArg ah (if_neg h)).symm
   ·rw[beq_eq_false_iff_ne.mpr e];exact a
theorem BD(x n y:Str)(st:List (Str×List Str)):(nQ x n st).lookup y=(st.lookup y).map λ v=>if y=x then fV v n else v:=ry x y (λ l=>fV l n) st
theorem FQ(x y:Str)(em:List (Str×Bool)):(xQ x em).lookup y=(em.lookup y).map λ v=>if y=x then aj else v:=ry x y (λ Z=>aj) em
theorem xw{n y:Str}{a:g4}:Em (qc x a n) y↔Em a y\/(n=""/\y=x/\∃b,a.2.lookup y=ah b):=by
 dsimp only[qc,Em];by_cases h:n=""
 ·rw[if_pos h];show (xQ x a.2).lookup y=_↔_;rw[FQ];cases e:a.2.lookup y with
  |none=>exact ⟨λ h=>(nomatch h),λ h=>h.elim (λ h=>(nomatch h)) λ c=>by refine JA c λ Z Z b h=>?_;exact (nomatch h)⟩
  |some b=>
   show ah (if y=x then aj else b)=ah aj↔_;by_cases q:y=x
   ·rw[if_pos q];exact ⟨λ Z=>.inr ⟨h,q,b,rfl⟩,λ Z=>rfl⟩
   ·rw[if_neg q];exact ⟨.inl,λ h=>h.elim id λ h=>absurd h.2.1 q⟩
 ·rw[if_neg h];exact ⟨.inl,λ q=>q.elim id λ q=>absurd q.1 h⟩
theorem xu{n y:Str}{a:g4}:x4 (qc x a n) t y↔x4 a t y\/(n≠""/\y=x/\t=n/\∃l,a.1.lookup y=ah l):=by
 dsimp only[qc,x4];by_cases h:n=""
 ·rw[if_pos h];exact ⟨.inl,λ q=>q.elim id λ q=>absurd h q.1⟩
 ·rw[if_neg h];show (∃l,(nQ x n a.1).lookup y=ah l/\_)↔_;rw[BD];cases e:a.1.lookup y with
  |none=>exact ⟨λ f=>by refine b5 f λ l h Z=>?_;exact (nomatch h),λ h=>h.elim (λ b=>by refine b5 b λ l h Z=>?_;exact (nomatch h)) λ c=>by refine Jz c λ Z Z Z l h=>?_;exact (nomatch h)⟩
  |some r=>
   show (∃l,ah (if y=x then fV r n else r)=ah l/\_)↔_;by_cases q:y=x
   ·rw[if_pos q];constructor
    ·intro i;refine b5 i λ l d g=>?_;cases d;exact (kQ.mp g).elim (λ k=>.inl ⟨r,rfl,k⟩) λ k=>.inr ⟨h,q,k,r,rfl⟩
    ·rintro (⟨l,d,g⟩|⟨_,_,k,_⟩)
     ·cases d;exact ⟨_,rfl,kQ.mpr (.inl g)⟩
     ·exact ⟨_,rfl,kQ.mpr (.inr k)⟩
   ·rw[if_neg q];exact ⟨.inl,λ h=>h.elim id λ h=>absurd h.2.1 q⟩
noncomputable def x6(a b:g4):Prop:=(∀x,Em a x->Em b x)/\(∀t x,x4 a t x->x4 b t x)/\(a.1.map (·.1)=b.1.map (·.1)/\a.2.map (·.1)=b.2.map (·.1))
theorem x6.refl(a:g4):x6 a a:=⟨λ Z h=>h,λ Z Z h=>h,rfl,rfl⟩
theorem x6.trans{a b c:g4}(h:x6 a b)(k:x6 b c):x6 a c:=⟨λ x q=>k.1 x (h.1 x q),λ t x q=>k.2.1 t x (h.2.1 t x q),h.2.2.1.trans k.2.2.1,h.2.2.2.trans k.2.2.2⟩
theorem xv(x n:Str)(a:g4):x6 a (qc x a n):=by
 refine ⟨λ y h=>xw.mpr (.inl h),λ t y h=>xu.mpr (.inl h),?_,?_⟩
 ·unfold qc;split
  ·rfl
  ·exact (qM ..).symm
 ·unfold qc;split
  ·exact (tw ..).symm
  ·rfl
theorem tY(x:Str):∀(l:List Str) (a:g4),x6 a (l.foldl (qc x) a):=by
 intro l;induction l with
 |nil=>intro a;exact .refl a
 |cons n l b=>intro a;exact (xv x n a).trans (b _)
theorem tZ(a:g4)(p:Pr):x6 a (eu a p):=tY p.1 _ a
theorem q_:∀(l:List Pr) (a:g4),x6 a (l.foldl eu a):=by
 intro l;induction l with
 |nil=>intro a;exact .refl a
 |cons p l b=>intro a;exact (tZ a p).trans (b _)
theorem rD{l:List (Str×β)}:(∃v,l.lookup x=ah v)↔x∈l.map (·.1):=by
 constructor
 ·intro d;refine ze d λ v h=>?_;refine hQ (bO.mp h) λ a b e Z=>?_;rw[e];simp
 ·intro h;cases e:l.lookup x with
  |some v=>exact ⟨v,rfl⟩
  |none=>refine b5 (aC.mp h) λ p f c=>?_;subst c;have:=dK.mp e p f;rw[bne_self_eq_false]at this;exact nomatch this
noncomputable def uP(ls:List Str)(a:g4):Prop:=a.1.map (·.1)=ls/\a.2.map (·.1)=ls
theorem uP.mono{a b:g4}(h:uP ls a)(k:x6 a b):uP ls b:=⟨k.2.2.1.symm.trans h.1,k.2.2.2.symm.trans h.2⟩
theorem uP.st{a:g4}(h:uP ls a){x:Str}:(∃l,a.1.lookup x=ah l)↔x∈ls:=by (refine rD.trans ?_;rw[h.1])
theorem uP.em{a:g4}(h:uP ls a){x:Str}:(∃l,a.2.lookup x=ah l)↔x∈ls:=by (refine rD.trans ?_;rw[h.2])
theorem uP.no{a:g4}(h:uP ls a){x:Str}(q:x∉ls):a.1.lookup x=ai:=by
 cases e:a.1.lookup x with
 |none=>rfl
 |some l=>exact absurd (h.st.mp ⟨l,e⟩) q
theorem Fb(c:x∈ls):∀(l:List Str) {a:g4},uP ls a->("":Str)∈l->Em (l.foldl (qc x) a) x:=by
 intro l;induction l with
 |nil=>intros;first|contradiction|exact absurd ‹_<_› (c9 _)
 |cons n l b=>
  intro a hk h;rcases aI.mp h with e|h
  ·exact (tY x l _).1 x (xw.mpr (.inr ⟨e.symm,rfl,hk.em.mpr c⟩))
  ·exact b (hk.mono (xv x n a)) h
theorem Fa(d:x∈ls)(c:t≠""):∀(l:List Str) {a:g4},uP ls a->t∈l->x4 (l.foldl (qc x) a) t x:=by
 intro l;induction l with
 |nil=>intros;first|contradiction|exact absurd ‹_<_› (c9 _)
 |cons n l b=>
  intro a hk h;rcases aI.mp h with e|h
  ·exact (tY x l _).2.1 t x (xu.mpr (.inr ⟨e▸c,rfl,e,hk.st.mpr d⟩))
  ·exact b (hk.mono (xv x n a)) h
theorem zK(N:Str->Prop)(B:Str->Str->Prop):∀(l:List Str) {a:g4},(∀y,Em a y->N y)->(∀t y,x4 a t y->B t y)->(("":Str)∈l->N x)->(∀t∈l,t≠""->B t x)->(∀y,Em (l.foldl (qc x) a) y->N y)/\∀t y,x4 (l.foldl (qc x) a) t y->B t y:=by
 intro l;induction l with
 |nil=>intro a d b Z Z;exact ⟨d,b⟩
 |cons n l m=>intro a d b i j;exact m (λ y h=>(xw.mp h).elim (d y) λ f=>by refine jA f λ e g Z=>?_;exact g▸i (e▸.head _)) (λ t y h=>(xu.mp h).elim (b t y) λ c=>by refine w2 c λ e g k Z=>?_;exact g▸k▸j n (.head _) e) (λ h=>i (.tail _ h)) λ t h=>j t (.tail _ h)
theorem DF{a b:g4}(h:x6 a b)(ka:uP ls a){t:Str}:∀{l:List Str},y_ a t l->y_ b t l:=by
 intro l;induction l with
 |nil=>intros;first|contradiction|exact absurd ‹_<_› (c9 _)
 |cons x l j=>
  intro q;have kb:=ka.mono h;cases e:a.1.lookup x with
  |none=>rw[kO e]at q;rw[kO (kb.no (λ i=>by refine ze (ka.st.mpr i) λ v f=>?_;rw[e]at f;exact nomatch f))];exact q
  |some r=>
   rw[iX e]at q;refine ze (kb.st.mpr (ka.st.mp ⟨r,e⟩)) λ m d=>?_;rw[iX d];rcases q with q|⟨q1,k⟩
   ·refine b5 (h.2.1 t x ⟨r,e,q⟩) λ l' c g=>?_;rw[d]at c;cases c;exact .inl g
   ·exact .inr ⟨h.1 x q1,j k⟩
theorem AA{a b:g4}(h:x6 a b)(ka:uP ls a){l:List Str}(q:x8 a l):x8 b l:=λ x c=>⟨(ka.mono h).st.mpr (ka.st.mp (q x c).1),h.1 x (q x c).2⟩
noncomputable def Jt(ps:List Pr)(t:Str)(a:g4):Prop:=∀p∈ps,(x8 a p.2->Em a p.1)/\(y_ a t p.2->x4 a t p.1)
theorem zH(c:∀p∈ps,p.1∈ls){t:Str}(g:t≠""):∀(l:List Pr) {a:g4},(∀p∈l,p∈ps)->uP ls a->∀p∈l,(x8 a p.2->Em (l.foldl eu a) p.1)/\(y_ a t p.2->x4 (l.foldl eu a) t p.1):=by
 intro l;induction l with
 |nil=>intros;first|contradiction|exact absurd ‹_<_› (c9 _)
 |cons q l f=>
  intro a d hk p b;rcases aI.mp b with rfl|b
  ·have L:=q_ l (eu a p);have e:=c p (d p (.head _));refine ⟨λ h=>L.1 _ (Fb e _ hk ((kM _ _).mpr (.inr (.inr ⟨h,rfl⟩)))),λ h=>L.2.1 _ _ (Fa e g _ hk ((kM _ _).mpr (.inr (.inl h))))⟩
  ·have L:=tZ a q;have:=f (λ p b=>d p (.tail _ b)) (hk.mono L) p b;exact ⟨λ h=>this.1 (AA L hk h),λ h=>this.2 (DF L hk h)⟩
noncomputable def N_(a:g4)(x:Str):Bool:=a.2.lookup x==ah aj
noncomputable def Gp(a:g4)(t x:Str):Bool:=(a.1.lookup x).any λ l=>l.contains t
theorem mA{a:g4}:N_ a x=aj↔Em a x:=by dsimp only[N_,Em];exact beq_iff_eq
theorem mn{a:g4}:Gp a t x=aj↔x4 a t x:=by
 dsimp only[Gp,x4];cases e:a.1.lookup x with
 |none=>exact ⟨λ h=>(nomatch h),λ c=>by refine b5 c λ l h Z=>?_;exact (nomatch h)⟩
 |some l=>show l.contains t=aj↔_;refine ye.trans ?_;exact ⟨λ h=>⟨l,rfl,h⟩,λ b=>by refine b5 b λ Z h k=>?_;exact by cases h;exact k⟩
noncomputable def FT(ls:List Str)(t:Str)(a:g4):Nat:=ls.countP (N_ a)+ls.countP (Gp a t)
theorem wm{P Q:α->Bool}:∀{l:List α},(∀x∈l,P x=aj->Q x=aj)->l.countP Q<=l.countP P->∀x∈l,Q x=aj->P x=aj:=by
 intro l;induction l with
 |nil=>intros;first|contradiction|exact absurd ‹_<_› (c9 _)
 |cons y l c=>
  intro h k x a b;simp only[lE,lE]at k;rcases aI.mp a with rfl|a
  ·cases e:P x with
   |true=>rfl
   |false=>rw[e,b,if_neg dj]at k;exact absurd (aH (dh (mI λ z hz=>h z (.tail _ hz))) k) (bB _)
  ·refine c (λ z hz=>h z (.tail _ hz)) ?_ x a b;cases e:P y with
   |true=>rw[e,(h y (.head _)) e]at k;exact Nat.le_of_add_le_add_right k
   |false=>rw[e]at k;exact aA (b3 _ _) k
theorem Jt.TY(b:∀p∈ps,p.1∈ls){t:Str}(f:t≠""){a:g4}(hk:uP ls a)(h:FT ls t (oS ps a)<=FT ls t a):Jt ps t a:=by have L:x6 a (oS ps a):=q_ ps a;unfold FT at h;intro p c;have e:=b p c;have d:=zH b f ps (λ Z h=>h) hk p c;refine ⟨λ q=>mA.mp (wm (Q:=N_ (oS ps a)) (λ x Z h=>mA.mpr (L.1 x (mA.mp h))) (Px h (mI λ x Z h=>mn.mpr (L.2.1 t x (mn.mp h)))) p.1 e (mA.mpr (d.1 q))),λ q=>mn.mp (wm (Q:=Gp (oS ps a) t) (λ x Z h=>mn.mpr (L.2.1 t x (mn.mp h))) (Pw h (mI λ x Z h=>mA.mpr (L.1 x (mA.mp h)))) p.1 e (mn.mpr (d.2 q)))⟩
theorem tn(ps:List Pr):∀n,uP (ba ps) (f7 ps n):=λ n=>⟨(ik.rounds ps n).ks,(ik.rounds ps n).ke⟩
theorem s8(ps:List Pr){n m:Nat}(h:n<=m):x6 (f7 ps n) (f7 ps m):=by
 induction h with
 |refl=>exact .refl _
 |step _ a=>exact a.trans (q_ ps _)
theorem iI(e:t≠""){N:Nat}(f:2*(ba ps).length<=N):∃n,n<=N/\Jt ps t (f7 ps n):=by
 refine Classical.byContradiction λ g=>?_;have a:∀n,n<=N+1->n<=FT (ba ps) t (f7 ps n):=λ n=>by
  induction n with
  |zero=>intro _;exact bg _
  |succ n d=>intro b;refine eg λ h=>g ⟨n,Nat.le_of_succ_le_succ b,Jt.TY (λ p c=>gs.mpr ⟨p,c,rfl⟩) e (tn ps n) (aA h (d (iG b)))⟩
 exact (Pv f (a (N+1) (aT _)) (gB mJ mJ)).elim
theorem dC.RH(F:dC ps){p:Pr}(d:p∈ps):∃n,n+1<(bZ ps).rules.length/\(dO ps).getD (n+1) ("",[])=p/\(bZ ps).left (n+1)=ix (bZ ps) p.1/\(bZ ps).right (n+1)=p.2.map (ix (bZ ps)):=by
 refine Eu (dJ.mp d) λ n c e=>?_;have a:(dO ps).getD (n+1) ("",[])=p:=(e8 c _).trans e;have b:n+1<(dO ps).length:=lI c;refine ⟨n,by simp only[ei];exact b,a,?_,?_⟩
 ·refine ((F.rule _).2 b).trans ?_;rw[a]
 ·refine ((F.rule _).1).trans ?_;rw[show d9 (dO ps) (n+1)=p.2 from congrArg Prod.snd a]
theorem wK{n:Nat}(h:n+1<(dO ps).length):(dO ps).getD (n+1) ("",[])∈ps:=bd (eW h) _
theorem dC.Sf(F:dC ps){x:Str}(h:x∈fO ps):x∉ba ps:=λ k=>by have nd:=F.R5;rw[fy,aV]at nd;exact nd.2.2 _ h _ (.tail _ k) rfl
theorem dC.Sx(F:dC ps){x:Str}(h:x∈fO ps):x≠"":=λ e=>by
 have:("":Str)∉iQ++gH:=by decide+kernel
 exact this (e▸(F.SX x h).elim (λ h=>aJ _ h) λ h=>ax _ h)
noncomputable def Sym(ps:List Pr)(x:Str):Prop:=x∈fO ps\/x∈ba ps
theorem Sym.mem(h:Sym ps x):x∈cf ps:=h.elim iB fH
structure r4(ps:List Pr)(a:g4):Prop where
 k:uP (ba ps) a
 n:∀y,Em a y->Su (bZ ps) (ix (bZ ps) y)
 b:∀t y,x4 a t y->t∈fO ps/\x7 (bZ ps) (ix (bZ ps) t) (ix (bZ ps) y)
theorem r4.VK{a:g4}(S:r4 ps a){t:Str}:∀{l:List Str},(∀x∈l,Sym ps x)->y_ a t l->t∈fO ps/\DQ (bZ ps) (ix (bZ ps) t) (l.map (ix (bZ ps))):=by
 intro l;induction l with
 |nil=>exact λ Z q=>q.elim
 |cons x l g=>
  intro h q;have f:=h x (.head _);cases e:a.1.lookup x with
  |none=>
   rw[kO e]at q;subst q;have b:=f.resolve_right λ k=>by refine ze (S.k.st.mpr k) λ v c=>?_;rw[e]at c;exact nomatch c
   exact ⟨b,j5.cons.mpr (.inl (.term (to.mp b)))⟩
  |some r=>
   rw[iX e]at q;rcases q with q|⟨q1,i⟩
   ·have:=S.b t x ⟨r,e,q⟩;exact ⟨this.1,j5.cons.mpr (.inl this.2)⟩
   ·have:=g (λ y d=>h y (.tail _ d)) i;exact ⟨this.1,j5.cons.mpr (.inr ⟨S.n x q1,this.2⟩)⟩
theorem r4.pair(F:dC ps){a:g4}(S:r4 ps a){p:Pr}(i:p∈ps):r4 ps (eu a p):=by
 refine k4 (F.RH i) λ n l Z j k=>?_;have f:∀x∈p.2,Sym ps x:=λ x q=>F.RM i q;have d:=zK (x:=p.1) (λ y=>Su (bZ ps) (ix (bZ ps) y)) (λ t y=>t∈fO ps/\x7 (bZ ps) (ix (bZ ps) t) (ix (bZ ps) y)) (ed a.1 a.2 "" [] p.2) S.n S.b (λ h=>?_) λ t h o=>?_
 ·exact ⟨S.k.mono (tZ a p),d.1,d.2⟩
 ·rcases (kM p.2 []).mp h with h|h|h
  ·cases h
  ·exact absurd rfl (F.Sx (S.VK f h).1)
  ·have:=Su.rule l (by rw[k];intro s f;refine b5 (aC.mp f) λ y m g=>?_;subst g;exact S.n y (h.1 y m).2);simp only[j]at this;exact this
 ·rcases (kM p.2 []).mp h with h|h|h
  ·cases h
  ·refine Be (S.VK f h) λ r c s b e q1 u=>?_;have:=x7.rule l (k.trans e) q1 u;simp only[j]at this;exact ⟨r,this⟩
  ·exact absurd h.2 o
theorem r4.round(F:dC ps):∀(l:List Pr) {a:g4},r4 ps a->(∀p∈l,p∈ps)->r4 ps (l.foldl eu a):=by
 intro l;induction l with
 |nil=>intro Z S Z;exact S
 |cons p l c=>intro Z S h;exact c (S.pair F (h p (.head _))) λ q b=>h q (.tail _ b)
theorem dC.snd(F:dC ps):∀n,r4 ps (f7 ps n):=by
 intro n;induction n with
 |zero=>
  have d:∀{β:Type} (v:β) (y:Str) (w:β),((ba ps).map λ x=>(x,v)).lookup y=ah w->w=v:=λ v y w h=>by refine hQ (bO.mp h) λ a b e Z=>?_;refine b5 (aC.mp (show (y,w)∈(ba ps).map λ x=>(x,v)from by rw[e];simp)) λ x Z e=>?_;cases e;rfl
  exact ⟨tn ps 0,λ y h=>(nomatch d ao y aj h),λ t y c=>by refine b5 c λ l h k=>?_;exact by rw[d [] y l h]at k;exact nomatch k⟩
 |succ n f=>exact r4.round F ps f λ Z h=>h
theorem dC.fin(F:dC ps):r4 ps (dz ps):=F.snd _
theorem dC.SS(F:dC ps){a:g4}(hk:uP (ba ps) a){t:Str}(C:Jt ps t a){n:Nat}(h:Su (bZ ps) n):∀x,Sym ps x->ix (bZ ps) x=n->x∈ba ps/\Em a x:=by
 induction h with
 |@rule r c k g=>
  intro x j e;simp only[ei]at c;cases r with
  |zero=>have i:(0:Nat)∈(bZ ps).right 0:=.tail _ (.head _);exact absurd (g 0 i ia (.inl ((gZ ps).mpr (.inl (.head _)))) CM).1 (F.Sf ((gZ ps).mpr (.inl (.head _))))
  |succ m=>simp only[(F.rule (m+1)).2 c]at e;have b:=wK c;have d:=gs.mpr ⟨_,b,rfl⟩;have e:=oZ j.mem (fH d) e;subst e;refine ⟨d,(C _ b).1 λ y f=>?_⟩;have:=g (ix (bZ ps) y) (by rw[(F.rule (m+1)).1];exact bq f) y (F.RM b f) rfl;exact ⟨hk.st.mpr this.1,this.2⟩
theorem dC.TA(F:dC ps){a:g4}(hk:uP (ba ps) a){t:Str}(E:t∈fO ps)(C:Jt ps t a){u n:Nat}(J:ix (bZ ps) t=u)(h:x7 (bZ ps) u n):∀x,Sym ps x->ix (bZ ps) x=n->(x∈ba ps->x4 a t x)/\(x∈fO ps->t=x):=by
 induction h with
 |term _=>intro x f e;have e:=oZ f.mem (iB E) (e.trans J.symm);subst e;exact ⟨λ k=>absurd k (F.Sf E),λ Z=>rfl⟩
 |@rule r s c b p g H _ K=>
  intro x f e;rw[ei]at p;cases r with
  |zero=>simp only[(F.rule 0).2 p]at e;have e:ix (bZ ps) x=ix (bZ ps) lr:=e;have e:=oZ f.mem ((bA fy)▸ax _ (.head _)) e;subst e;exact absurd f (by exact λ h=>(show lr∉iQ++gH++eR by decide+kernel) (h.elim (λ h=>aJ _ ((F.SX _ h).elim (λ h=>aJ _ h) λ h=>ax _ h)) λ h=>ax _ (F.R6 _ h)))
  |succ m=>
   simp only[(F.rule (m+1)).2 p]at e;have o:=wK p;have D:=gs.mpr ⟨_,o,rfl⟩;have e:=oZ f.mem (fH D) e;subst e;refine ⟨λ Z=>(C _ o).2 ?_,λ k=>absurd D (F.Sf k)⟩;rw[(F.rule (m+1)).1]at g;have d:∀y∈d9 (dO ps) (m+1),Sym ps y:=λ y i=>F.RM o i;show y_ a t (d9 (dO ps) (m+1));generalize d9 (dO ps) (m+1)=l at g d;clear o D f;induction l generalizing c with
   |nil=>cases c<;>cases g
   |cons y l A=>
    have i:=d y (.head _);cases c with
    |nil=>
     injection g with e1 e2
     have:=K y i e1;cases e:a.1.lookup y with
     |none=>exact (kO e).mpr (this.2 (i.resolve_right λ k=>by refine ze (hk.st.mpr k) λ v q=>?_;rw[e]at q;exact nomatch q))
     |some v=>refine b5 (this.1 (hk.st.mp ⟨v,e⟩)) λ L G I=>?_;rw[e]at G;cases G;exact (iX e).mpr (.inl I)
    |cons z c=>
     injection g with e1 e2
     have j:=F.SS hk C (H z (.head _)) y i e1;refine ze (hk.st.mpr j.1) λ v q=>?_;exact (iX q).mpr (.inr ⟨j.2,A (λ w B=>H w (.tail _ B)) e2 λ w B=>d w (.tail _ B)⟩)
theorem dC.Ud(F:dC ps){x:Str}(a:Sym ps x):Em (dz ps) x↔Su (bZ ps) (ix (bZ ps) x):=by refine ⟨F.fin.n x,λ h=>?_⟩;refine b5 (iI (ps:=ps) (t:=ia) (by decide+kernel) F.l2) λ n b C=>?_;exact (s8 ps b).1 x (F.SS (tn ps n) C h x a rfl).2
theorem dC.U8(F:dC ps){x t:Str}(b:x∈ba ps)(a:t∈fO ps):x4 (dz ps) t x↔x7 (bZ ps) (ix (bZ ps) t) (ix (bZ ps) x):=by refine ⟨λ h=>(F.fin.b t x h).2,λ h=>?_⟩;refine b5 (iI (ps:=ps) (F.Sx a) F.l2) λ n c C=>?_;exact (s8 ps c).2.1 t x ((F.TA (tn ps n) a C rfl h x (.inr b) rfl).1 b)
theorem dC.So(F:dC ps){x:Str}(a:Sym ps x)(h:Su (bZ ps) (ix (bZ ps) x)):x∈ba ps:=by refine b5 (iI (ps:=ps) (t:=ia) (by decide+kernel) F.l2) λ n b C=>?_;exact (F.SS (tn ps n) C h x a rfl).1
theorem dC.Ry(F:dC ps){a ahead:Str}{l:List Str}(c:∀x∈l,Sym ps x):a∈ed (dz ps).1 (dz ps).2 ahead [] l↔(a∈fO ps/\DQ (bZ ps) (ix (bZ ps) a) (l.map (ix (bZ ps))))\/((∀n∈l.map (ix (bZ ps)),Su (bZ ps) n)/\a=ahead):=by
 rw[kM];have hk:=F.fin.k;constructor
 ·rintro (h|h|h)
  ·exact nomatch h
  ·exact .inl (F.fin.VK c h)
  ·exact .inr ⟨λ n j=>by refine b5 (aC.mp j) λ y b g=>?_;subst g;exact F.fin.n y (h.1 y b).2,h.2⟩
 ·rintro (⟨ht,h⟩|⟨h,e⟩)
  ·refine .inr (.inl ?_);induction l with
   |nil=>exact absurd h j5.nil
   |cons y l p=>
    have b:=c y (.head _);skip;rcases j5.cons.mp h with h|⟨d,f⟩
    ·by_cases k:y∈ba ps
     ·refine b5 ((F.U8 k ht).mpr h) λ v d f=>?_;exact (iX d).mpr (.inl f)
     ·refine b5 (iI (ps:=ps) (F.Sx ht) F.l2) λ n j C=>?_;exact (kO (hk.no k)).mpr ((F.TA (tn ps n) ht C rfl h y b rfl).2 (b.resolve_right k))
    ·refine ze (hk.st.mpr (F.So b d)) λ v o=>?_;exact (iX o).mpr (.inr ⟨(F.Ud b).mpr d,p (λ w m=>c w (.tail _ m)) f⟩)
  ·refine .inr (.inr ⟨λ x i=>?_,e⟩);have:=h _ (bq i);exact ⟨hk.st.mpr (F.So (c x i) this),(F.Ud (c x i)).mpr this⟩
theorem dC.Tn(F:dC ps)(ahead:Str):∀{l:List Str},(∀x∈l,Sym ps x)->∃c,c∈ed (dz ps).1 (dz ps).2 ahead [] l:=by
 intro l;induction l with
 |nil=>exact λ Z=>⟨ahead,.head _⟩
 |cons y l C=>
  intro h;have v:=h y (.head _);by_cases k:y∈ba ps
  ·refine eB (F.pd y k) λ p o e B=>?_;refine k4 (F.RH o) λ n d Z j q=>?_;simp only[e]at j;cases i:p.2 with
   |nil=>
    have g:Su (bZ ps) (ix (bZ ps) y):=j▸Su.rule d (by rw[q,i];intro s A;exact nomatch A);refine ze (C λ x f=>h x (.tail _ f)) λ c u=>?_;refine ⟨c,(F.Ry h).mpr ?_⟩;rcases (F.Ry λ x f=>h x (.tail _ f)).mp u with ⟨a,b⟩|⟨a,b⟩
    ·exact .inl ⟨a,j5.cons.mpr (.inr ⟨g,b⟩)⟩
    ·refine .inr ⟨λ n d=>?_,b⟩;rcases aI.mp d with e|d
     ·exact e▸g
     ·exact a n d
   |cons z r=>
    have m:z∈gH:=B z ((bA i)▸.head _);have hz:z∈fO ps:=(F.RM o ((bA i)▸.head _)).resolve_right λ k=>by
     have:∀w∈gH,w∉eR:=by decide+kernel
     exact this z m (F.R6 z k)
    refine ⟨z,(F.Ry h).mpr (.inl ⟨hz,j5.cons.mpr (.inl ?_)⟩)⟩;have:=x7.rule (t:=ix (bZ ps) z) (a:=[]) (s:=ix (bZ ps) z) (b:=r.map (ix (bZ ps))) d (by (refine q.trans ?_;rw[i]);rfl) (λ x f=>(nomatch f)) (.term (to.mp hz));simp only[j]at this;exact this
  ·have hz:=v.resolve_right k;exact ⟨y,(F.Ry h).mpr (.inl ⟨hz,j5.cons.mpr (.inl (.term (to.mp hz)))⟩)⟩
noncomputable def AT:List Str:=ia::gH
noncomputable abbrev bz(ps:List Pr):List (Str×List Str):=(dz ps).1
noncomputable abbrev D1(ps:List Pr):List (Str×Bool):=(dz ps).2
structure RV(ps:List Pr)(t:Tr):Prop where
 r:t.1<(dO ps).length
 d:t.2.1<=(d9 (dO ps) t.1).length
 z:t.1=0->t.2.2=""
 l:0<t.1->t.2.2∈fO ps/\t.2.2∈AT
structure uR(ps:List Pr)(l:List Tr)(es:List (Nat×Nat)):Prop where
 nd:(es.map (·.1)).Nodup
 it:∀i,i∈es.map (·.1)↔i<(bZ ps).owners.length/\∃x,((bZ ps).Ro i,(bZ ps).Rt i,x)∈l
 lt:∀p∈es,p.2<2^(bZ ps).tc
 bit:∀p∈es,∀x∈fO ps,p.2.testBit (ix (bZ ps) x)=aj↔((bZ ps).Ro p.1,(bZ ps).Rt p.1,x)∈l
theorem uR.ok{l:List Tr}{es:List (Nat×Nat)}(I:uR ps l es):gw (bZ ps) es:=⟨I.nd,λ p a=>⟨((I.it p.1).mp (bq a)).1,I.lt p a⟩⟩
theorem mV{t:Tr}(G:RV ps t)(F:dC ps):lG (bZ ps) t<(bZ ps).owners.length/\(bZ ps).Ro (lG (bZ ps) t)=t.1/\(bZ ps).Rt (lG (bZ ps) t)=t.2.1:=
 (bZ ps).at (by simp only[ei];exact G.r) (by rw[(F.rule _).1,au];exact G.d)
theorem gu(h:i<(bZ ps).owners.length)(x:Str):lG (bZ ps) ((bZ ps).Ro i,(bZ ps).Rt i,x)=i:=by have a:=(bZ ps).item_at h;show (bZ ps).off ((bZ ps).Ro i)+(i-(bZ ps).off ((bZ ps).Ro i))=i;exact Pu a.2.1
theorem dC.sym(F:dC ps)(n:Nat):∀x∈d9 (dO ps) n,Sym ps x:=F.Tq n
theorem tX{t:Tr}(G:RV ps t)(F:dC ps):(bZ ps).rest (lG (bZ ps) t)=((d9 (dO ps) t.1).drop (t.2.1+1)).map (ix (bZ ps)):=by have a:=mV G F;unfold Gr.rest;simp only[a.2.1,a.2.2,(F.rule _).1,oy]
theorem l9{t:Tr}(G:RV ps t)(F:dC ps):(bZ ps).after (lG (bZ ps) t)=if t.2.1<(d9 (dO ps) t.1).length then ((oM (bZ ps) (dO ps) t:Nat):Int)else -1:=by
 have a:=mV G F;unfold Gr.after;rw[a.2.1,a.2.2,(F.rule _).1,au];by_cases h:t.2.1<(d9 (dO ps) t.1).length
 ·rw[if_pos h,if_pos h,e8 (by simp only[au];exact h),bY];unfold oM;simp only[e8 h]
 ·refine (if_neg h).trans ?_;rw[if_neg h]
theorem DG(F:dC ps){n m:Nat}{a ahead:Str}(h:a∈ed (bz ps) (D1 ps) ahead [] ((d9 (dO ps) n).drop m)):a∈fO ps/\a∈AT\/a=ahead:=by
 rcases (F.Ry (λ x j=>F.sym n x (cC j))).mp h with ⟨c,_⟩|⟨_,d⟩
 ·rcases Ry _ _ h with b|b|b|⟨p,i,b⟩
  ·cases b
  ·exact .inr b
  ·refine .inl ⟨c,?_⟩;have b:=cC b;cases n with
   |zero=>
    have b:a∈(["s",ia]:List Str):=b;rcases aI.mp b with e|e
    ·exact absurd c (by rw[e];exact λ h=>F.Sf h (aX F.hd))
    ·rw[aE.mp e];exact .head _
   |succ n=>
    by_cases k:n<ps.length
    ·exact .tail _ ((F.rt _ (bd k ("",[])) a b).resolve_right (F.Sf c))
    ·have b:a∈(ps.getD n ("",[])).2:=b;rw[aD,bl (bT.mp ‹_›)]at b;exact nomatch b
  ·refine .inl ⟨c,?_⟩;obtain ⟨q,f,g⟩:=bX.mp (((ik.rounds ps (ps.length+1)).row p i).2 a b);exact .tail _ ((F.rt q f a g).resolve_right (F.Sf c))
 ·exact .inr d
theorem qo{t:Tr}(G:RV ps t)(F:dC ps){r:Nat}:(bZ ps).calls (lG (bZ ps) t) r↔t.2.1<(d9 (dO ps) t.1).length/\1<=r/\r<(dO ps).length/\((dO ps).getD r ("",[])).1=(d9 (dO ps) t.1).getD t.2.1 "":=by
 dsimp only[Gr.calls];rw[ei,l9 G F];constructor
 ·intro c;refine za c λ a h=>?_;by_cases hd:t.2.1<(d9 (dO ps) t.1).length
  ·rw[if_pos hd,(F.rule r).2 a]at h;have d:=F.sym t.1 _ (bd hd "");have e:=oZ (F.Uk a) d.mem (nI.inj h).symm;refine ⟨hd,cy λ e0=>?_,a,e⟩;subst e0;have:Sym ps lr:=(show lr=_ from e)▸d;have f:lr∉iQ++gH++eR:=by decide+kernel
   exact f (this.elim (λ h=>aJ _ ((F.SX _ h).elim (λ h=>aJ _ h) λ h=>ax _ h)) λ h=>ax _ (F.R6 _ h))
  ·rw[if_neg hd]at h;exact nomatch h
 ·intro b;refine w2 b λ hd Z a e=>?_;refine ⟨a,?_⟩;refine (if_pos hd).trans ?_;rw[(F.rule r).2 a,e];rfl
theorem rz{r:Nat}(a:1<=r)(b:r<(dO ps).length):((dO ps).getD r ("",[])).1∈ba ps:=by
 cases r with
 |zero=>cases a
 |succ r=>exact gs.mpr ⟨_,wK b,rfl⟩
theorem kx:(bz ps).map (·.1)=ba ps:=(ik.rounds ps _).ks
theorem dC.UQ(F:dC ps){d:Nat}(hd:d<(d9 (dO ps) 0).length)(a:(d9 (dO ps) 0).getD d ""∈(bz ps).map (·.1))(h:∀m∈((d9 (dO ps) 0).drop (d+1)).map (ix (bZ ps)),Su (bZ ps) m):False:=by
 have e:ia∈fO ps:=(gZ ps).mpr (.inl (.head _));cases d with
 |zero=>exact F.Sf e (F.So (.inl e) (h (ix (bZ ps) ia) (.head _)))
 |succ d=>
  cases d with
  |zero=>rw[kx]at a;exact F.Sf e a
  |succ d=>exact absurd hd (bT.mpr (bK 2 d))
theorem lj(F:dC ps){k:e7}(D:∀t∈K,RV ps t)(I:uR ps K k){t:Tr}(h:LC (dO ps) (bz ps) (D1 ps) K t):RV ps t/\lH (bZ ps) k (lG (bZ ps) t)/\(0<t.1->jC (bZ ps) k (ix (bZ ps) t.2.2) (lG (bZ ps) t)):=by
 induction h with
 |@base t v=>have G:=D t v;refine jA (mV G F) λ j l B=>?_;have hi:lG (bZ ps) t∈k.map (·.1):=(I.it _).mpr ⟨j,t.2.2,by rw[l,B];exact v⟩;refine ⟨G,.base hi,λ g=>?_⟩;refine b5 (aC.mp hi) λ p z e=>?_;simp only[<-e];exact .base z ((I.bit p z t.2.2 (G.l g).1).mpr (by simp only[e,l,B];exact v))
 |@step n d o a b N hd M f s u J L=>
  refine jA L λ G A C=>?_;have y:=(qo G F (r:=o)).mpr ⟨hd,s,u,J⟩;have hz:lG (bZ ps) (o,0,b)=(bZ ps).off o:=rfl;have E:∀x∈(d9 (dO ps) n).drop (d+1),Sym ps x:=λ x H=>F.sym n x (cC H);have c:=tX G F;have w:(∀m∈((d9 (dO ps) n).drop (d+1)).map (ix (bZ ps)),Su (bZ ps) m)->n≠0:=λ h e=>by subst e;exact F.UQ hd M h
  have i:b∈fO ps/\b∈AT/\jC (bZ ps) k (ix (bZ ps) b) ((bZ ps).off o):=by
   rcases (F.Ry E).mp f with ⟨j,l⟩|⟨j,l⟩
   ·refine ⟨j,?_,.first A y (by simp only[c];exact l)⟩;rcases DG F f with q|q
    ·exact q.2
    ·by_cases g:n=0
     ·have:=G.z g;exact absurd (q.trans this) (F.Sx j)
     ·exact q▸(G.l (cy g)).2
   ·have g:=cy (w j);rw[l];exact ⟨(G.l g).1,(G.l g).2,.pass (C g) y ((bA c)▸j)⟩
  exact ⟨⟨u,bg _,λ e=>absurd s (by rw[show o=0 from e];decide),λ Z=>⟨i.1,i.2.1⟩⟩,hz▸.step A y,λ Z=>hz▸i.2.2⟩
theorem wb(F:dC ps){k:e7}(q:∀t∈K,RV ps t)(I:uR ps K k){i:Nat}(h:lH (bZ ps) k i):∃x,LC (dO ps) (bz ps) (D1 ps) K ((bZ ps).Ro i,(bZ ps).Rt i,x):=by
 induction h with
 |base hi=>obtain ⟨_,x,e⟩:=(I.it _).mp hi;exact ⟨x,.base e⟩
 |@step j r o l p=>obtain ⟨a,g⟩:=p;have G:=(lj F q I g).1;rw[<-gu (o.lt I.ok) a]at l;have b:=(qo G F).mp l;obtain ⟨c,n⟩:=F.Tn a (λ x e=>F.sym _ x (cC e));obtain ⟨_,f,m⟩:=(bZ ps).at (r:=r) (d:=0) (by simp only[ei];exact b.2.2.1) (bg _);simp only[jD]at f m;simp only[f,m];exact ⟨c,.step g b.1 (by simp only[kx,<-b.2.2.2];exact rz b.2.1 b.2.2.1) n b.2.1 b.2.2.1 b.2.2.2⟩
theorem Fy(F:dC ps){k:e7}(q:∀t∈K,RV ps t)(I:uR ps K k){x:Str}(f:x∈fO ps){i:Nat}(h:jC (bZ ps) k (ix (bZ ps) x) i):LC (dO ps) (bz ps) (D1 ps) K ((bZ ps).Ro i,(bZ ps).Rt i,x):=by
 induction h with
 |base A w=>exact .base ((I.bit _ A x f).mp w)
 |@first j r p n v=>refine ze (wb F q I p) λ a u=>?_;have G:=(lj F q I u).1;have c:=p.lt I.ok;have b:=tX G F;simp only[gu c a]at b;rw[<-gu c a]at n;refine w2 ((qo G F).mp n) λ hd m e l=>?_;refine jA ((bZ ps).at (r:=r) (d:=0) (by simp only[ei];exact e) (bg _)) λ Z g o=>?_;simp only[jD]at g o;simp only[g,o];exact .step u hd (by simp only[kx,<-l];exact rz m e) ((F.Ry (λ x f=>F.sym _ x (cC f))).mpr (.inl ⟨f,b▸v⟩)) m e l
 |@pass j r p n z s=>have G:=(lj F q I s).1;have c:=p.Ve.lt I.ok;have b:=tX G F;rw[gu c x]at b;rw[<-gu c x]at n;refine w2 ((qo G F).mp n) λ hd m e l=>?_;have y:∀x∈(d9 (dO ps) ((bZ ps).Ro j)).drop ((bZ ps).Rt j+1),Sym ps x:=λ x f=>F.sym _ x (cC f);refine jA ((bZ ps).at (r:=r) (d:=0) (by simp only[ei];exact e) (bg _)) λ Z g o=>?_;simp only[jD]at g o;rw[g,o];exact .step s hd ((bA kx)▸(l)▸rz m e) ((F.Ry y).mpr (.inr ⟨b▸z,rfl⟩)) m e l
theorem kH(F:dC ps){l:List Tr}{k:e7}{es:List (Nat×Nat)}(b:∀t∈K,RV ps t)(I:uR ps K k)(C:UP (dO ps) (bz ps) (D1 ps) K l)(E:j4 (bZ ps) k es):(∀t∈l,RV ps t)/\uR ps l es:=by
 refine ⟨(λ t f=>(lj F b I ((C.mem t).mp f)).1),E.nd,λ i=>?_,λ p c=>by rw[E.val p c];exact oY _ _,λ p c x a=>?_⟩
 ·rw[E.keys];constructor
  ·intro h;refine ze (wb F b I h) λ x a=>?_;exact ⟨h.lt I.ok,x,(C.mem _).mpr a⟩
  ·intro d;obtain ⟨hi,x,a⟩:=d;have:=(lj F b I ((C.mem _).mp a)).2.1;simp only[gu hi x]at this;exact this
 ·have hi:p.1<(bZ ps).owners.length:=((E.keys _).mp (bq c)).lt I.ok;rw[E.val p c,lh];constructor
  ·exact λ h=>(C.mem _).mpr (Fy F b I a h.2)
  ·intro h;have Q:=lj F b I ((C.mem _).mp h);have g:0<(bZ ps).Ro p.1:=cy λ e=>F.Sx a (Q.1.z e);have:=Q.2.2 g;simp only[gu hi x]at this;exact ⟨to.mp a,this⟩
theorem pq{a b:List (Nat×Nat)}(d:(a.map (·.1)).Nodup)(f:(b.map (·.1)).Nodup)(h:∀i,a.lookup i=b.lookup i):a.Perm b:=by
 have nd:∀{l:List (Nat×Nat)},(l.map (·.1)).Nodup->l.Nodup:=λ {l} h=>by rw[aO,bU]at h;exact aO.mpr (h.imp λ h e=>h (congrArg _ e))
 refine (dU (nd d) (nd f)).mpr λ p=>⟨λ c=>?_,λ c=>?_⟩
 ·exact c8 (i:=p.1) (by rw[<-h];exact eO d c)
 ·exact c8 (i:=p.1) (by rw[h];exact eO f c)
theorem v9(g:Gr)(ms:List (Nat×Nat))(t:Tr)(i:Nat):(fA g ms t).lookup i=if i=lG g t then ah ((ms.lookup (lG g t)).getD 0|||if t.2.2="" then 0 else 2^ix g t.2.2)else ms.lookup i:=by
 unfold fA;by_cases h:t.2.2=""
 ·rw[if_pos h,cN,if_pos h,Nat.or_zero]
 ·rw[if_neg h,cN,cN,if_neg h];by_cases e:i=lG g t
  ·refine (if_pos e).trans ?_;rw[if_pos e]
  ·refine (if_neg e).trans ?_;refine (if_neg e).trans ?_;rw[if_neg e]
theorem z0(g:Gr)(i:Nat):∀(l:List Tr) (ms:List (Nat×Nat)),(∃m,(l.foldl (fA g) ms).lookup i=ah m)↔(∃m,ms.lookup i=ah m)\/∃t∈l,lG g t=i:=by
 intro l;induction l with
 |nil=>intro ms;exact ⟨.inl,λ h=>h.elim id λ b=>by refine b5 b λ Z h Z=>?_;exact (nomatch h)⟩
 |cons t l c=>
  intro ms;simp only[c6,c,v9];by_cases e:i=lG g t
  ·rw[if_pos e];exact ⟨λ Z=>.inr ⟨t,.head _,e.symm⟩,λ Z=>.inl ⟨_,rfl⟩⟩
  ·rw[if_neg e];exact ⟨λ h=>h.elim .inl λ a=>b5 a λ u h k=>.inr ⟨u,.tail _ h,k⟩,λ h=>h.elim .inl λ a=>b5 a λ u h k=>by
    rcases aI.mp h with rfl|h
    ·exact absurd k.symm e
    ·exact .inr ⟨u,h,k⟩⟩
theorem z4(g:Gr)(i b:Nat):∀(l:List Tr) (ms:List (Nat×Nat)),(((l.foldl (fA g) ms).lookup i).getD 0).testBit b=aj↔((ms.lookup i).getD 0).testBit b=aj\/∃t∈l,lG g t=i/\t.2.2≠""/\ix g t.2.2=b:=by
 intro l;induction l with
 |nil=>intro ms;exact ⟨.inl,λ h=>h.elim id λ a=>by refine b5 a λ Z h Z=>?_;exact (nomatch h)⟩
 |cons t l d=>
  intro ms;dsimp only[c6];rw[d,v9];have c:(∃u∈t::l,lG g u=i/\u.2.2≠""/\ix g u.2.2=b)↔(lG g t=i/\t.2.2≠""/\ix g t.2.2=b)\/∃u∈l,lG g u=i/\u.2.2≠""/\ix g u.2.2=b:=by simp only[aI,exists_eq_or_imp]
  simp only[c,<-or_assoc];refine or_congr ?_ Iff.rfl;by_cases e:i=lG g t
  ·subst e;rw[if_pos rfl];show (((ms.lookup (lG g t)).getD 0)|||_).testBit b=aj↔_;rw[e9,fg];refine or_congr Iff.rfl ?_;by_cases h:t.2.2=""
   ·rw[if_pos h,e5];exact ⟨λ h=>(nomatch h),λ q=>absurd h q.2.1⟩
   ·rw[if_neg h,jy,decide_eq_true_eq];exact ⟨λ q=>⟨rfl,h,q⟩,λ q=>q.2.2⟩
  ·rw[if_neg e];exact ⟨.inl,λ h=>h.elim id λ h=>absurd h.1.symm e⟩
theorem rG(F:dC ps){l:List Tr}{es:List (Nat×Nat)}(p:∀t∈l,RV ps t)(I:uR ps l es)(i:Nat):es.lookup i=(f8 (bZ ps) l).lookup i:=by
 have hk:(∃m,es.lookup i=ah m)↔∃m,(f8 (bZ ps) l).lookup i=ah m:=by
  refine eQ.trans ?_;rw[I.it];unfold f8;simp only[z0];constructor
  ·intro q;refine AR q λ hi x g=>?_;exact .inr ⟨_,g,gu hi x⟩
  ·rintro (⟨m,h⟩|⟨t,c,e⟩)
   ·cases h
   ·refine jA (mV (p t c) F) λ j d f=>?_;rw[e]at j d f;exact ⟨j,t.2.2,(bA d)▸(bA f)▸c⟩
 cases e:es.lookup i with
 |none=>
  cases n:(f8 (bZ ps) l).lookup i with
  |none=>rfl
  |some m=>refine ze (hk.mpr ⟨m,n⟩) λ m' h=>?_;rw[e]at h;cases h
 |some m=>
  refine ze (hk.mp ⟨m,e⟩) λ m' n=>?_;simp only[n];have r:=c8 e;have hi:=((I.it i).mp (bq r)).1;refine congrArg ah (nC λ b=>?_);have d:=z4 (bZ ps) i b l [];rw[show l.foldl (fA (bZ ps)) []=f8 (bZ ps) l from rfl,n]at d;rw[fh,(show m'.testBit b=aj↔∃t∈l,lG (bZ ps) t=i/\t.2.2≠""/\ix (bZ ps) t.2.2=b from d.trans ⟨λ h=>h.elim (λ h=>by rw[show ((([]:List (Nat×Nat)).lookup i).getD 0)=0 from rfl,e5]at h;exact nomatch h) id,.inr⟩)];by_cases k:b<(bZ ps).tc
  ·have g:=JK k;have a:=F.UR (i:=b) (aH k F.good.Wv);have j:=I.bit _ r _ g;rw[a]at j;refine j.trans ?_;constructor
   ·exact λ h=>⟨_,h,gu hi _,F.Sx g,a⟩
   ·intro o;refine k4 o λ t c q1 v u=>?_;have G:=p t c;refine jA (mV G F) λ Z f w=>?_;rw[q1]at f w;have y:0<t.1:=cy λ e=>v (G.z e);show ((bZ ps).Ro i,(bZ ps).Rt i,_)∈l;simp only[f,w,<-(oZ (iB (G.l y).1) (iB g) (u.trans a.symm))];exact c
  ·constructor
   ·intro h;rw[x_ (aH (I.lt _ r) (nA (by decide) (e6 k)))]at h;exact nomatch h
   ·intro s;refine k4 s λ t c q1 v u=>?_;have G:=p t c;exact absurd (u▸to.mp (G.l (cy λ e=>v (G.z e))).1) k
theorem n8(F:dC ps){l:List Tr}{es:List (Nat×Nat)}(a:∀t∈l,RV ps t)(I:uR ps l es):es.Perm (f8 (bZ ps) l):=pq I.nd (jN _ _) (rG F a I)
noncomputable def jQ(g:Gr)(r:Nat):Nat:=g.off r+(g.right r).length
theorem FR(g:Gr){i r:Nat}(hi:i<g.owners.length)(d:r<g.rules.length):i=jQ g r↔r=g.Ro i/\g.after i<0:=by
 have a:=g.at d (aT (g.right r).length);constructor
 ·intro b;subst b;dsimp only[jQ,Gr.after];rw[a.2.1,a.2.2,if_neg (bB _)];exact ⟨rfl,by decide⟩
 ·intro c;obtain ⟨e,h⟩:=c;subst e;have a:=g.item_at hi;unfold Gr.after at h;by_cases q:g.Rt i<(g.right (g.Ro i)).length
  ·rw[if_pos q]at h;exact (Ps h).elim
  ·skip;exact Pp a.2.1 rfl a.2.2 q
theorem xD{r:Nat}(f:r<g.rules.length)(h:0<r):∀(l acc:List (Nat×Nat)),(l.map (·.1)).Nodup->(∀p∈l,p.1<g.owners.length)->(cR g acc l).lookup r=((l.lookup (jQ g r)).or (acc.lookup r)):=by
 intro l;induction l with
 |nil=>intro acc Z Z;exact rfl
 |cons p l n=>
  intro acc nd a;simp only[be,bC]at nd;dsimp only[v3,rq];rw[n _ nd.2 λ q j=>a q (.tail _ j),br];have b:=FR g (a p (.head _)) f;by_cases e:p.1=jQ g r
  ·refine za (b.mp e) λ c d=>?_;have i:l.lookup (jQ g r)=ai:=by
    cases q:l.lookup (jQ g r)with
    |none=>rfl
    |some m=>exact absurd (aC.mpr ⟨_,c8 q,e.symm⟩) nd.1
   rw[i,<-e,beq_self_eq_true,if_pos ⟨c▸h,d⟩,cN,if_pos c];rfl
  ·simp only[beq_eq_false_iff_ne.mpr (Ne.symm e)];show (l.lookup (jQ g r)).or _=(l.lookup (jQ g r)).or _;congr 1
   by_cases q:0<g.Ro p.1/\g.after p.1<0
   ·rw[if_pos q,cN,if_neg λ k=>e (b.mpr ⟨k,q.2⟩)]
   ·exact congrArg _ (if_neg q)
theorem uc{r:Nat}(h:¬(0<r/\r<g.rules.length)):∀(l acc:List (Nat×Nat)),(∀p∈l,p.1<g.owners.length)->(cR g acc l).lookup r=acc.lookup r:=by
 intro l;induction l with
 |nil=>intro acc Z;exact rfl
 |cons p l c=>
  intro acc a;simp only[rq,c _ λ q b=>a q (.tail _ b)];by_cases q:0<g.Ro p.1/\g.after p.1<0
  ·rw[if_pos q,cN,if_neg λ k:r=g.Ro p.1=>h ⟨k▸q.1,k▸(g.item_at (a p (.head _))).1⟩]
  ·exact congrArg _ (if_neg q)
theorem FS(F:dC ps){l:List Tr}{es:List (Nat×Nat)}(I:uR ps l es)(k:∀t∈l,RV ps t){r:Nat}:∀(l' acc:List (Nat×Nat)) (d:List Tr),(∀t∈d,t∈l)->((d.foldl (fB (dO ps) (bZ ps) (f8 (bZ ps) l)) acc).lookup r)=if ∃t∈d,0<t.1/\t.2.1=(d9 (dO ps) t.1).length/\t.1=r then es.lookup (jQ (bZ ps) r)else acc.lookup r:=by
 intro l' acc d;induction d generalizing l' acc with
 |nil=>intro Z;rfl
 |cons t d p=>
  intro h;simp only[c6,p l' _ λ u c=>h u (.tail _ c)];unfold fB;have G:=k t (h t (.head _));by_cases f:∃u∈d,0<u.1/\u.2.1=(d9 (dO ps) u.1).length/\u.1=r
  ·rw[if_pos f,if_pos (by refine b5 f λ u a b=>?_;exact ⟨u,.tail _ a,b⟩)]
  ·refine (if_neg f).trans ?_;by_cases q:0<t.1/\t.2.1=(d9 (dO ps) t.1).length
   ·rw[if_pos q,cN];by_cases e:r=t.1
    ·subst e;have o:lG (bZ ps) t=jQ (bZ ps) t.1:=by unfold lG jQ;rw[(F.rule _).1,au,q.2]
     have g:=mV G F;have:lG (bZ ps) t∈es.map (·.1):=(I.it _).mpr ⟨g.1,t.2.2,(bA g.2.1)▸(bA g.2.2)▸h t (.head _)⟩;refine ze (eQ.mpr this) λ m n=>?_;refine (if_pos rfl).trans ?_;rw[if_pos ⟨t,.head _,q.1,q.2,rfl⟩,<-rG F k I,n,<-o,n];rfl
    ·refine (if_neg e).trans ?_;rw[if_neg];intro i;obtain ⟨u,c,b⟩:=i;rcases aI.mp c with rfl|c
     ·exact e b.2.2.symm
     ·exact f ⟨u,c,b⟩
   ·rw[if_neg q,if_neg];intro j;obtain ⟨u,c,b⟩:=j;rcases aI.mp c with rfl|c
    ·exact q ⟨b.1,b.2.1⟩
    ·exact f ⟨u,c,b⟩
theorem Af(F:dC ps){l:List Tr}{es:List (Nat×Nat)}(I:uR ps l es)(d:∀t∈l,RV ps t):(cR (bZ ps) [] es).Perm (wj (dO ps) (bZ ps) (f8 (bZ ps) l) l):=by
 have b:∀p∈es,p.1<(bZ ps).owners.length:=λ p k=>(I.ok.it p k).1;refine pq (nn (g:=bZ ps) es [] bL (λ x c=>(nomatch c)) b).1 (tz (R:=dO ps) (g:=bZ ps) (ms:=f8 (bZ ps) l) l [] bL (λ t i=>(d t i).r) (λ x c=>(nomatch c))).1 λ r=>?_;dsimp only[wj];rw[FS F I d [] [] l λ Z h=>h];by_cases h:0<r/\r<(bZ ps).rules.length
 ·refine (xD h.2 h.1 es [] I.nd b).trans ?_;rw[show (([]:List (Nat×Nat)).lookup r)=ai from rfl,Option.or_none];split
  ·rfl
  ·rename_i hc;cases e:es.lookup (jQ (bZ ps) r)with
   |none=>rfl
   |some m=>refine AR ((I.it _).mp (bq (f:=(·.1)) (c8 e))) λ hi x c=>?_;refine jA ((bZ ps).at h.2 (aT ((bZ ps).right r).length)) λ Z o n=>?_;simp only[(show (bZ ps).Ro (jQ (bZ ps) r)=r from o),(show (bZ ps).Rt (jQ (bZ ps) r)=((bZ ps).right r).length from n),(F.rule r).1,au]at c;exact absurd ⟨_,c,h.1,rfl,rfl⟩ hc
 ·refine (uc h es [] b).trans ?_;rw[if_neg];intro j;refine k4 j λ t i a Z e=>?_;exact h ⟨e▸a,by simp only[ei];exact e▸(d t i).r⟩
theorem Sq(F:dC ps){l:List Tr}{k:e7}(f:∀t∈K,RV ps t)(I:uR ps K k)(c:k.Pairwise λ a b=>a.1<b.1)(C:UP (dO ps) (bz ps) (D1 ps) K l){s:fD}(hk:s.kernel=k)(E:j4 (bZ ps) k s.items)(i:s.Rq.Perm ((cR (bZ ps) [] s.items).map (·.1)))(m:s.Rq.Pairwise (·<=·))(n:s.Rp=cR (bZ ps) [] s.items):I8 (bZ ps) (dO ps) s K l:=by
 refine za (kH F f I C E) λ d Jj=>?_;have hd:=Af F Jj d;have e:=nn (g:=bZ ps) s.items [] bL (λ x o=>(nomatch o)) (λ p j=>(Jj.ok.it p j).1);refine ⟨rN ((n8 F d Jj).map _) (fS (jN _ _)),⟨hk▸n8 F f I,hk▸c⟩,⟨i.trans (hd.map _),?_⟩,?_⟩
 ·exact (m.and (aO.mp ((i.nodup_iff).mpr e.1))).imp λ h=>j9 h.1 h.2
 ·rw[n];exact rN (hd.map _) (fS ((hd.map (·.1)).nodup_iff.mp e.1))
theorem QU{l:List (Nat×β)}{x:Nat}:(∃v,l.lookup x=ah v)↔x∈l.map (·.1):=by
 constructor
 ·intro d;refine ze d λ v h=>?_;refine hQ (bO.mp h) λ a b e Z=>?_;rw[e];simp
 ·intro h;cases e:l.lookup x with
  |some v=>exact ⟨v,rfl⟩
  |none=>refine b5 (aC.mp h) λ p f c=>?_;subst c;have:=dK.mp e p f;rw[bne_self_eq_false]at this;exact nomatch this
theorem yX(X Yy:Nat)(v:List Tr):∀b:List (Nat×List Tr),(pT X v b).lookup Yy=if Yy=X then ah v else b.lookup Yy:=by
 intro b;induction b with
 |nil=>
  simp only[yW,br];by_cases e:Yy=X
  ·subst e;rw[if_pos rfl,beq_self_eq_true]
  ·rw[if_neg e,beq_eq_false_iff_ne.mpr e]
 |cons a r c=>
  obtain ⟨k,w⟩:=a;dsimp only[yW,wv];by_cases e:k=X
  ·rw[if_pos e,br];dsimp only[br];by_cases h:Yy=X
   ·rw[if_pos h,h,e,beq_self_eq_true]
   ·rw[if_neg h,beq_eq_false_iff_ne.mpr (e▸h)]
  ·rw[if_neg e,br];dsimp only[br];rw[(c)];by_cases h:Yy=k
   ·subst h;rw[beq_self_eq_true];show ah w=if Yy=X then ah v else ah w;rw[if_neg e]
   ·rw[beq_eq_false_iff_ne.mpr h]
noncomputable def ES(t:Tr):Tr:=(t.1,t.2.1+1,t.2.2)
noncomputable def PY(g:Gr)(R:List Pr)(X:Nat)(t:Tr):Bool:=decide (t.2.1<(d9 R t.1).length/\oM g R t=X)
noncomputable def ext(g:Gr)(R:List Pr)(l:List Tr)(X:Nat):List Tr:=(l.filter (PY g R X)).map ES
theorem IY(g:Gr)(R:List Pr)(X:Nat):∀(l:List Tr) (b:List (Nat×List Tr)),(l.foldl (fU g R) b).lookup X=if ext g R l X=[]then b.lookup X else ah ((b.lookup X).getD []++ext g R l X):=by
 intro l;induction l with
 |nil=>intro b;exact rfl
 |cons t l c=>
  intro b;simp only[c6,c];unfold fU ext;rw[Ea];by_cases h:PY g R X t=aj
  ·refine za (of_decide_eq_true h) λ a d=>?_;rw[if_pos h,if_pos a,d,yX,if_pos rfl,be,if_neg (List.cons_ne_nil (ES t) ((l.filter (PY g R X)).map ES))];split
   ·rename_i q;simp only[q];rfl
   ·show ah (((b.lookup X).getD []++[ES t])++_)=_;simp only[bW];rfl
  ·rw[if_neg h];by_cases a:t.2.1<(d9 R t.1).length
   ·rw[if_pos a,yX,if_neg λ e:X=oM g R t=>h (decide_eq_true ⟨a,e.symm⟩)]
   ·rw[if_neg a]
theorem yZ(g:Gr)(R:List Pr)(X:Nat)(l:List Tr):(DE g R l).lookup X=if ext g R l X=[]then ai else ah (ext g R l X):=by unfold DE;simp only[IY];rfl
theorem jg{l:List Tr}{X:Nat}{q:Tr}:q∈ext (bZ ps) (dO ps) l X↔∃t∈l,t.2.1<(d9 (dO ps) t.1).length/\oM (bZ ps) (dO ps) t=X/\q=ES t:=by
 unfold ext;refine aC.trans ?_;constructor
 ·intro b;refine b5 b λ t f a=>?_;subst a;refine za (b4.mp f) λ i h=>?_;refine za (of_decide_eq_true h) λ g d=>?_;exact ⟨t,i,g,d,rfl⟩
 ·intro c;refine k4 c λ t f g d e=>?_;subst e;exact ⟨t,b4.mpr ⟨f,decide_eq_true ⟨g,d⟩⟩,rfl⟩
theorem qq(F:dC ps){l:List Tr}{es:List (Nat×Nat)}(d:∀t∈l,RV ps t)(I:uR ps l es)(X:Nat):(∃p∈es,(bZ ps).after p.1=((X:Nat):Int))↔ext (bZ ps) (dO ps) l X≠[]:=by
 constructor
 ·intro c;refine b5 c λ p a h=>?_;refine AR ((I.it p.1).mp (bq a)) λ hi x g=>?_;have:=l9 (d _ g) F;simp only[gu hi x,h]at this;by_cases q:(bZ ps).Rt p.1<(d9 (dO ps) ((bZ ps).Ro p.1)).length
  ·rw[if_pos q]at this;exact AZ (jg.mpr ⟨_,g,q,(nI.inj this).symm,rfl⟩)
  ·rw[if_neg q]at this;exact nomatch this
 ·intro h;refine ze (gI _ h) λ q j=>?_;refine k4 (jg.mp j) λ t f k i Z=>?_;have G:=d t f;have b:=mV G F;refine b5 (aC.mp ((I.it (lG (bZ ps) t)).mpr ⟨b.1,t.2.2,by rw[b.2.1,b.2.2];exact f⟩)) λ p a e=>?_;have:=l9 G F;rw[if_pos k,i]at this;exact ⟨p,a,by rw[e];exact this⟩
theorem ot(F:dC ps){k:e7}(X:Nat):X∈(fu (bZ ps) k).map (·.1)↔∃p∈iT (bZ ps) k,(bZ ps).after p.1=((X:Nat):Int):=by
 have e:(fu (bZ ps) k).map (·.1)=pU (bZ ps) (iT (bZ ps) k):=by dsimp only[fu,Sl];refine bu.trans ?_;exact ej _
 rw[e,uN F.good];unfold c0;rw[Ne,nH];constructor
 ·intro h;refine ze (gI _ h) λ p a=>?_;have c:=b4.mp a;exact ⟨p,c.1,beq_iff_eq.mp c.2⟩
 ·intro b;refine b5 b λ p a h=>?_;exact AZ (b4.mpr ⟨a,beq_iff_eq.mpr h⟩)
theorem FI(F:dC ps){l:List Tr}{es:List (Nat×Nat)}(B:∀t∈l,RV ps t)(I:uR ps l es)(X:Nat):uR ps (ext (bZ ps) (dO ps) l X) (wH (bZ ps) es X):=by
 have j:∀p∈es,p.1<(bZ ps).owners.length:=λ p a=>(I.ok.it p a).1;have m:∀q,q∈wH (bZ ps) es X↔∃p∈es,(bZ ps).after p.1=((X:Nat):Int)/\(p.1+1,p.2)=q:=λ q=>by
  rw[qr I.nd j];unfold c0;refine aC.trans ?_;constructor
  ·intro r;refine b5 r λ p a e=>?_;refine za (b4.mp a) λ z n=>?_;exact ⟨p,z,beq_iff_eq.mp n,e⟩
  ·intro y;refine eB y λ p a h e=>?_;exact ⟨p,b4.mpr ⟨a,beq_iff_eq.mpr h⟩,e⟩
 have f:∀p∈es,(bZ ps).after p.1=((X:Nat):Int)->p.1+1<(bZ ps).owners.length/\∀x,((bZ ps).Ro (p.1+1),(bZ ps).Rt (p.1+1),x)∈ext (bZ ps) (dO ps) l X↔((bZ ps).Ro p.1,(bZ ps).Rt p.1,x)∈l:=λ p a h=>by
  have hi:=j p a;have hd:(bZ ps).Rt p.1<((bZ ps).right ((bZ ps).Ro p.1)).length:=eg λ q=>by unfold Gr.after at h;rw[if_neg (bT.mpr q)]at h;exact nomatch h
  have b:=yG (bZ ps) hi hd;refine ⟨b.1,λ x=>?_⟩;rw[b.2.1,b.2.2];constructor
  ·intro q;refine k4 (jg.mp q) λ t k Z Z e=>?_;simp only[(show (bZ ps).Ro p.1=t.1 from congrArg jT e),Nat.succ.inj (congrArg (λ u=>u.2.1) e),(show x=t.2.2 from congrArg (λ u=>u.2.2) e)];exact k
  ·intro q;have c:=l9 (B _ q) F;simp only[gu hi x,h]at c;have hd:(bZ ps).Rt p.1<(d9 (dO ps) ((bZ ps).Ro p.1)).length:=by rw[(F.rule _).1,au]at hd;exact hd
   rw[if_pos hd]at c;exact jg.mpr ⟨_,q,hd,(nI.inj c).symm,rfl⟩
 refine ⟨?_,λ i=>?_,λ q g=>?_,λ q g x d=>?_⟩
 ·simp only[aO,bU];exact (ou (bZ ps) es X).imp cm
 ·constructor
  ·intro h;refine b5 (aC.mp h) λ q g o=>?_;subst o;refine eB ((m q).mp g) λ p a c w=>?_;subst w;have b:=f p a c;refine AR ((I.it p.1).mp (bq a)) λ Z x d=>?_;exact ⟨b.1,x,(b.2 x).mpr d⟩
  ·intro s;refine AR s λ hi x d=>?_;refine k4 (jg.mp d) λ t k z n e=>?_;have G:=B t k;have b:=mV G F;refine b5 (aC.mp ((I.it (lG (bZ ps) t)).mpr ⟨b.1,t.2.2,(bA b.2.1)▸(bA b.2.2)▸k⟩)) λ p a ep=>?_;have c:=l9 G F;rw[if_pos z,n]at c;refine aC.mpr ⟨(p.1+1,p.2),(m _).mpr ⟨p,a,by rw[ep];exact c,rfl⟩,?_⟩;show p.1+1=i;rw[<-gu hi x,e,ep];rfl
 ·refine eB ((m q).mp g) λ p a Z v=>?_;subst v;exact I.lt p a
 ·refine eB ((m q).mp g) λ p a c A=>?_;subst A;exact (I.bit p a x d).trans ((f p a c).2 x).symm
structure wJ(ps:List Pr)(K:List Tr)(k:e7):Prop where
 kn:K.Nodup
 tr:∀t∈K,RV ps t
 im:uR ps K k
 inc:k.Pairwise λ a b=>a.1<b.1
 sh:K=([(0,0,"")]:List Tr)\/∃X,∀t∈K,∃d,t.2.1=d+1/\(d9 (dO ps) t.1)[d]? =ah X
theorem qK:RV ps (0,0,""):=⟨cr _,bg _,λ Z=>rfl,λ h=>absurd h (bB _)⟩
theorem yt(F:dC ps):wJ ps [(0,0,"")] [(0,0)]:=by
 have f:=mV (ps:=ps) qK F;refine ⟨bC.mpr ⟨λ h=>(nomatch h),bL⟩,λ t d=>by simp only[aE.mp d];exact qK,⟨bC.mpr ⟨λ h=>(nomatch h),bL⟩,λ i=>?_,λ p a=>(bA (aE.mp a))▸Nat.two_pow_pos _,λ p a x c=>?_⟩,wO ..,.inl rfl⟩
 ·constructor
  ·intro h;rw[aE.mp h];exact ⟨f.1,"",.head _⟩
  ·intro b;refine AR b λ hi x c=>?_;have e:=aE.mp c;have:=gu hi x;rw[e]at this;rw[<-this];exact .head _
 ·rw[aE.mp a];constructor
  ·intro h;rw[e5]at h;exact nomatch h
  ·intro h;exact absurd (congrArg (λ u=>u.2.2) (aE.mp h)) (F.Sx c)
theorem FH{l l':List Tr}{es:List (Nat×Nat)}(I:uR ps l es)(h:∀t,t∈l↔t∈l'):uR ps l' es:=
 ⟨I.nd,λ i=>(I.it i).trans ⟨λ d=>by refine AR d λ a x b=>?_;exact ⟨a,x,(h _).mp b⟩,λ c=>by refine AR c λ a x b=>?_;exact ⟨a,x,(h _).mpr b⟩⟩,I.lt,λ p e x f=>(I.bit p e x f).trans (h _)⟩
theorem BR(F:dC ps){k k':e7}(h:wJ ps K k)(h':wJ ps K' k'):K.Perm K'↔k=k':=by
 constructor
 ·intro p;have d:=(n8 F h'.tr (FH h.im λ t=>p.mem_iff)).trans (n8 F h'.tr h'.im).symm;exact n5 (by unfold e_;exact congrArg _ (dA.uniq (k:=2) (d.map du) (qP k) (k9 h.inc) (k9 h'.inc)))
 ·intro c;subst c;have b:∀{K K':List Tr},wJ ps K k->wJ ps K' k->∀t∈K,t∈K':=λ {K K'} h h' t i=>by
   have G:=h.tr t i;refine jA (mV G F) λ a1 f g=>?_;have hi:lG (bZ ps) t∈k.map (·.1):=(h.im.it _).mpr ⟨a1,t.2.2,(bA f)▸(bA g)▸i⟩;by_cases j:t.1=0
   ·refine AR ((h'.im.it _).mp hi) λ Z x a=>?_;rw[f,g]at a;have l:=(h'.tr _ a).z j;have m:=G.z j;have l:x="":=l;rw[(show t=(t.1,t.2.1,x)from by simp only[l,<-m])];exact a
   ·refine b5 (aC.mp hi) λ p d e=>?_;have a:=(G.l (cy j)).1;have:=(h'.im.bit p d t.2.2 a).mp ((h.im.bit p d t.2.2 a).mpr (by rw[e,f,g];exact i));rw[e,f,g]at this;exact this
  exact (dU h.kn h'.kn).mpr λ t=>⟨b h h' t,b h' h t⟩
theorem ER{a b:Tr}(h:ES a=ES b):a=b:=by have c:(ES a).1=(ES b).1:=congrArg jT h;exact lA c (lA (Nat.succ.inj (congrArg (λ u=>u.2.1) h)) (congrArg (λ u=>u.2.2) h))
theorem BS(F:dC ps){l:List Tr}{es:List (Nat×Nat)}(nd:l.Nodup)(f:∀t∈l,RV ps t)(I:uR ps l es)(X:Nat):wJ ps (ext (bZ ps) (dO ps) l X) (wH (bZ ps) es X):=by
 refine ⟨?_,λ q d=>?_,FI F f I X,ou _ _ _,.inr ⟨(cf ps).getD X "",λ q d=>?_⟩⟩
 ·unfold ext;simp only[aO,bU];exact (aO.mp (nd.sublist List.filter_sublist)).imp λ h e=>h (ER e)
 ·refine k4 (jg.mp d) λ t g a Z b=>?_;subst b;have G:=f t g;exact ⟨G.r,a,G.z,G.l⟩
 ·refine k4 (jg.mp d) λ t g a i c=>?_;subst c;refine ⟨t.2.1,rfl,?_⟩;show (d9 (dO ps) t.1)[t.2.1]? =_;rw[<-i];unfold oM;show _=ah ((cf ps).getD _ "");rw[(n6 (F.RZ t.1 _ (bd a ""))).2,e8 a];exact ay a
noncomputable def RF(n:Nat):List Str:=if n=0 then [""]else AT
theorem z5(n:Nat):(RF n).length<=4:=by
 unfold RF;split
 ·decide
 ·exact aT 4
noncomputable def wX(X:Str)(n d:Nat):List Str->List Tr
 |[]=>[]
 |x::l=>(if x=X then (RF n).map λ a=>(n,d+1,a)else [])++wX X n (d+1) l
theorem QD{X:Str}{n:Nat}:wX X n d []=([]):=rfl
theorem Ql{X:Str}{n d:Nat}{x l}:wX X n d (x::l)=((if x=X then (RF n).map λ a=>(n,d+1,a)else [])++wX X n (d+1) l):=rfl
theorem HV(X:Str)(n:Nat):∀(l:List Str) (d:Nat),(wX X n d l).length<=4*l.count X:=by
 intro l;induction l with
 |nil=>intro Z;exact aT _
 |cons x l a=>
  intro d;have a:=a (d+1);simp only[Ql,aF,List.count_cons];by_cases h:x=X
  ·rw[if_pos h,au,if_pos (beq_iff_eq.mpr h),ft];exact gB a (z5 n)
  ·rw[if_neg h,if_neg λ q=>h (beq_iff_eq.mp q)];dsimp only[hH];rw[cQ];exact a
theorem HU{X a:Str}{n:Nat}(b:a∈RF n):∀{l:List Str} {d j:Nat},l[j]? =ah X->(n,d+j+1,a)∈wX X n d l:=by
 intro l;induction l with
 |nil=>exact λ h=>nomatch h
 |cons x l c=>
  intro d j h;cases j with
  |zero=>dsimp only[QD,Ql];rw[if_pos (Option.some.inj h)];exact aJ _ (aC.mpr ⟨a,b,rfl⟩)
  |succ j=>rw[show d+(j+1)+1=d+1+j+1 by rw[gf d 1 j,ft 1 j]];exact ax _ (c h)
noncomputable def uX(X:Str):Nat->List Pr->List Tr
 |_,[]=>[]
 |n,p::R=>wX X n 0 p.2++uX X (n+1) R
theorem Rn{X:Str}{w0}:uX X w0 []=([]):=rfl
theorem QF{X:Str}{n p R}:uX X n (p::R)=(wX X n 0 p.2++uX X (n+1) R):=rfl
theorem HZ(X:Str):∀(R:List Pr) (n:Nat),(uX X n R).length<=4*(R.flatMap (·.2)).count X:=by
 intro R;induction R with
 |nil=>intro Z;exact bg _
 |cons p R a=>intro n;simp only[QF,aF,df,gn,Nat.mul_add];exact gB (HV X n p.2 0) (a (n+1))
theorem HY{X a:Str}:∀{R:List Pr} {n m j:Nat} {p:Pr},a∈RF (n+m)->R[m]? =ah p->p.2[j]? =ah X->(n+m,j+1,a)∈uX X n R:=by
 intro R;induction R with
 |nil=>exact λ Z h=>nomatch h
 |cons q R f=>
  intro n m j p b h c;cases m with
  |zero=>have e:=Option.some.inj h;subst e;have:=HU (d:=0) b c;rw[cQ]at this;exact aJ _ this
  |succ m=>rw[(show n+(m+1)=n+1+m by simp only[gf n 1 m,ft 1 m])]at b ⊢;exact ax _ (f b h c)
theorem RV.RF{t:Tr}(G:RV ps t):t.2.2∈RF t.1:=by
 unfold Mine.RF;by_cases h:t.1=0
 ·rw[if_pos h,G.z h];exact .head _
 ·rw[if_neg h];exact (G.l (cy h)).2
theorem wJ.len(F:dC ps){k:e7}(h:wJ ps K k):K.length<64:=by
 rcases h.sh with e|⟨X,f⟩
 ·rw[e];exact aH Nat.one_lt_two (by decide)
 ·have c:=aU h.kn (l₂:=uX X 0 (dO ps)) λ t b=>by refine b5 (f t b) λ d e hd=>?_;have G:=h.tr t b;have:=HY (X:=X) (a:=t.2.2) (R:=dO ps) (n:=0) (m:=t.1) (j:=d) (p:=(dO ps).getD t.1 ("",[])) (by rw[cQ];exact G.RF) (by rw[e8 G.r];exact ay G.r) hd;simp only[cQ,<-e]at this;exact this
  exact aR (aA c (aA (HZ X _ 0) (AX 4 (F.cn X)))) (by decide)
noncomputable def uA:List Tr:=(aZ 9).flatMap λ r=>(aZ 4).flatMap λ d=>(("":Str)::AT).map λ x=>(r,d,x)
theorem Bx:uA.length<=100000:=by decide+kernel
theorem RV.WA(F:dC ps){t:Tr}(G:RV ps t):t∈uA:=by
 refine bX.mpr ⟨t.1,bP.mpr (aH G.r (ee F.ln)),bX.mpr ⟨t.2.1,bP.mpr (dh (aA G.d (F.Ux _))),aC.mpr ⟨t.2.2,?_,rfl⟩⟩⟩;by_cases h:t.1=0
 ·rw[G.z h];exact .head _
 ·exact .tail _ (G.l (cy h)).2
theorem RV.ok(F:dC ps){l:List Tr}(nd:l.Nodup)(b:∀t∈l,RV ps t):AE (bZ ps) l:=by
 refine ⟨λ t a=>by simp only[ei];exact (b t a).r,λ t a=>?_,aA (aU nd λ t a=>(b t a).WA F) Bx⟩;by_cases h:t.1=0
 ·exact .inl ((b t a).z h)
 ·exact .inr (iB ((b t a).l (cy h)).1)
theorem dC.err(F:dC ps){k:e7}{l:List Tr}(h:wJ ps K k)(C:UP (dO ps) (bz ps) (D1 ps) K l):1∉(fu (bZ ps) k).map (·.1):=λ g=>by
 refine za (kH F h.tr h.im C (g3 h.im.ok)) λ j Jj=>?_;rw[ot F,qq F j Jj]at g;refine ze (gI _ g) λ q p=>?_;refine k4 (jg.mp p) λ t o a b Z=>?_;have c:=bd a "";have i:=(n6 (F.sym t.1 _ c).mem).2;dsimp only[oM]at b;rw[b]at i;refine ze (sQ (ba ps) ps) λ u r=>?_;have s:(cf ps).getD 1 ""="error":=by rw[fy,show fO ps=iQ++u from r.symm];rfl
 simp only[<-i,s]at c;have d:("error":Str)∉("s":Str)::ia::(gH++eR):=by decide+kernel
 refine d ?_;cases f:t.1 with
 |zero=>
  rw[f]at c;rcases aI.mp c with e|e
  ·simp only[e];exact .head _
  ·simp only[aE.mp e];exact .tail _ (.head _)
 |succ n=>rw[f]at c;have m:=(j t o).r;rw[f]at m;exact .tail _ (.tail _ (aM.mpr ((F.rt _ (wK m) _ c).elim .inl λ h=>.inr (F.R6 _ h))))
theorem Do(R:List Pr)(st:List (Str×List Str))(em:List (Str×Bool))(K U:List Tr)(h:∀t,LC R st em K t->t∈U):∃l,UP R st em K l:=by
 classical
 have:∀U:List Tr,∃l:List Tr,l.Nodup/\∀t,t∈l↔t∈U/\LC R st em K t:=λ U=>by
  induction U with
  |nil=>exact ⟨[],bL,λ t=>⟨λ h=>(nomatch h),λ h=>(nomatch h.1)⟩⟩
  |cons u U f=>
   refine b5 f λ l nd a=>?_;by_cases b:u∉l/\LC R st em K u
   ·refine ⟨u::l,bC.mpr ⟨b.1,nd⟩,λ t=>?_⟩;refine aI.trans ?_;rw[a,aI];constructor
    ·rintro (rfl|h)
     ·exact ⟨.inl rfl,b.2⟩
     ·exact ⟨.inr h.1,h.2⟩
    ·rintro ⟨e|h,k⟩
     ·exact .inl e
     ·exact .inr ⟨h,k⟩
   ·refine ⟨l,nd,λ t=>?_⟩;rw[a,aI];refine ⟨λ h=>⟨.inr h.1,h.2⟩,λ d=>za d λ e k=>?_⟩;rcases e with rfl|e
    ·exact Classical.byContradiction λ c=>b ⟨λ q=>c ((a t).mp q),k⟩
    ·exact ⟨e,k⟩
 refine b5 (this U) λ l nd a=>?_;exact ⟨l,nd,λ t=>(a t).trans ⟨λ q=>q.2,λ q=>⟨h t q,q⟩⟩⟩
theorem dC.Xw(F:dC ps):uO (bZ ps) (dO ps) (dz ps).1 (dz ps).2 (wJ ps) where
 r0:=yt F
 nd h:=⟨h.kn,h.len F,RV.ok F h.kn h.tr,h.im.ok⟩
 inj h k:=BR F h k
 U h:=⟨uA,λ t i=>(lj F h.tr h.im i).1.WA F,Bx⟩
 tok h C:=RV.ok F C.nd (kH F h.tr h.im C (g3 h.im.ok)).1
 sym n x hx:=F.RZ n x hx
 VV h C e E a b c:=Sq F h.tr h.im h.inc C e E a b c
 keys h C X:=by
  refine za (kH F h.tr h.im C (g3 h.im.ok)) λ d Jj=>?_;rw[ot F,qq F d Jj,<-QU,yZ];split
  ·rename_i e;exact ⟨λ g=>by refine ze g λ v h=>?_;exact (nomatch h),λ h=>absurd e h⟩
  ·rename_i e;exact ⟨λ Z=>e,λ Z=>⟨_,rfl⟩⟩
 rows h C p hp:=by refine za (kH F h.tr h.im C (g3 h.im.ok)) λ d Jj=>?_;have hk:=(ot F p.1).mp (bq hp);simp only[qq F d Jj]at hk;refine ⟨ext (bZ ps) (dO ps) _ p.1,by rw[yZ,if_neg hk],?_⟩;refine b5 (aC.mp hp) λ X Z f=>?_;subst f;exact BS F C.nd d Jj X
 err h:=by refine ze (Do (dO ps) (bz ps) (D1 ps) _ uA λ t i=>(lj F h.tr h.im i).1.WA F) λ l C=>?_;exact F.err h C
noncomputable def init:List Tr:=[(0,0,"")]
noncomputable abbrev Gb(ps:List Pr)(K:List Tr)(t:Tr):Prop:=LC (dO ps) (bz ps) (D1 ps) K t
noncomputable def pI(ps:List Pr)(K:List Tr)(X:Str)(K':List Tr):Prop:=∀n d x,(n,d,x)∈K'↔∃e,d=e+1/\(d9 (dO ps) n)[e]? =ah X/\Gb ps K (n,e,x)
inductive RT(ps:List Pr):List Tr->Prop
 |zero:RT ps init
 |step {K K':List Tr} {X:Str} {t:Tr}:RT ps K->pI ps K X K'->(∀t∈K',RV ps t)->t∈K'->RT ps K'
inductive La(ps:List Pr)(K:List Tr)(B x:Str):Prop
 |mk (o:Nat) (h:1<=o) (l:Gb ps K (o,0,x)) (e:((dO ps).getD o ("",[])).1=B)
noncomputable def Nd(K:List Tr):Prop:=K=init\/∀n x,(n,0,x)∉K
theorem pI.nd{X:Str}(h:pI ps K X K'):∀n x,(n,0,x)∉K':=λ n x q=>by refine b5 ((h n 0 x).mp q) λ e h Z=>?_;cases h
theorem RT.nd(h:RT ps K):Nd K:=by
 cases h with
 |zero=>exact .inl rfl
 |step _ h _ _=>exact .inr h.nd
theorem La.all(h:Nd K){x:Str}(q:La ps K B x){n:Nat}(m:1<=n)(l:n<(dO ps).length)(e:((dO ps).getD n ("",[])).1=B):Gb ps K (n,0,x):=by
 obtain ⟨o,i,j,k⟩:=q;cases j with
 |base g=>
  rcases h with rfl|h
  ·cases aE.mp g;cases i
  ·exact absurd g (h _ _)
 |step a b c d _ _ f=>exact .step a b c d m l (e.trans (k.symm.trans f))
theorem Hg{n:Nat}(h:Gb ps K (n,d+1,x)):(n,d+1,x)∈K:=by
 cases h with
 |base h=>exact h
theorem pI.one{X:Str}(h:pI ps K X K')(hd:Nd K)(k:∀t∈K',RV ps t){n:Nat}(f:1<=n){x:Str}:(n,1,x)∈K'↔(d9 (dO ps) n)[0]? =ah X/\n<(dO ps).length/\La ps K ((dO ps).getD n ("",[])).1 x:=by
 constructor
 ·intro q;refine eB ((h n 1 x).mp q) λ e g j i=>?_;cases g;exact ⟨j,(k _ q).r,n,f,i,rfl⟩
 ·intro d;refine jA d λ a b c=>?_;exact (h n 1 x).mpr ⟨0,rfl,a,c.all hd f b rfl⟩
theorem pI.more{X:Str}(h:pI ps K X K'){n d:Nat}{x:Str}:(n,d+2,x)∈K'↔(d9 (dO ps) n)[d+1]? =ah X/\(n,d+1,x)∈K:=by
 constructor
 ·intro q;refine eB ((h n (d+2) x).mp q) λ e f i g=>?_;have f:=Nat.succ.inj f;subst f;exact ⟨i,Hg g⟩
 ·intro c;refine za c λ a b=>?_;exact (h n (d+2) x).mpr ⟨d+1,rfl,a,.base b⟩
theorem CE(F:dC ps)(h:∀n x,(n,0,x)∉K)(H:∀n d x B,(n,d+1,x)∈K->(d9 (dO ps) n)[d+1]? =ah B->B∈ba ps->∃g,(n,d+1,g)∈K'/\(g=x\/¬∀m∈((d9 (dO ps) n).drop (d+2)).map (ix (bZ ps)),Su (bZ ps) m)){x:Str}(q:La ps K B x):La ps K' B x:=by
 obtain ⟨o,A,j,C⟩:=q;refine ⟨o,A,?_,C⟩;have i:∀t,Gb ps K t->t.2.1=0->Gb ps K' t:=λ t y=>by
  induction y with
  |@base t z=>intro e;obtain ⟨n,d,x⟩:=t;subst e;exact absurd z (h _ _)
  |@step n k o a s j hk f b u l w G=>
   intro _;cases k with
   |zero=>exact .step (G rfl) hk f b u l w
   |succ k=>
    have v:∀x∈(d9 (dO ps) n).drop (k+2),Sym ps x:=λ x D=>F.sym n x (cC D);rw[e8 hk]at f;rw[kx]at f;refine b5 (H n k a _ (Hg j) (ay hk) f) λ g q1 I=>?_;refine .step (.base q1) hk (by rw[e8 hk,kx];exact f) ((F.Ry v).mpr ?_) u l w;rcases (F.Ry v).mp b with r|⟨p,E⟩
    ·exact .inl r
    ·exact .inr ⟨p,E.trans (I.resolve_right λ c=>c p).symm⟩
 exact i _ j rfl
noncomputable def Q2(ps:List Pr):Prop:=∀n B,(d9 (dO ps) n)[2]? =ah B->B∉ba ps
theorem Dc:ia∈fO ps:=(gZ ps).mpr (.inl (.head _))
theorem E6{e:Nat}{X:Str}(h:(d9 (dO ps) 0)[e]? =ah X):e=0/\X="s"\/e=1/\X=ia:=by
 cases e with
 |zero=>exact .inl ⟨rfl,(Option.some.inj h).symm⟩
 |succ e=>
  cases e with
  |zero=>exact .inr ⟨rfl,(Option.some.inj h).symm⟩
  |succ e=>cases h
theorem tm(F:dC ps)(j:Q2 ps){X:Str}(h:pI ps K_ X K)(hd:Nd K_)(g:∀t∈K,RV ps t)(H:∀n x B,1<=n->n<(dO ps).length->(d9 (dO ps) n)[0]? =ah X->La ps K_ ((dO ps).getD n ("",[])).1 x->(d9 (dO ps) n)[1]? =ah B->B∈ba ps->∃f,(n,1,f)∈K'/\(f=x\/¬∀m∈((d9 (dO ps) n).drop 2).map (ix (bZ ps)),Su (bZ ps) m)){x:Str}(q:La ps K B x):La ps K' B x:=by
 refine CE F h.nd (λ n d x B i a e=>?_) q;cases n with
 |zero=>exact (E6 a).elim (λ k=>nomatch k.1) λ k=>absurd e (F.Sf (k.2▸Dc))
 |succ n=>
  have b:=(bh.mp a).1;cases d with
  |zero=>have c:=(h.one hd g (cr n)).mp i;exact H (n+1) x B (cr n) c.2.1 c.1 c.2.2 a e
  |succ d=>
   cases d with
   |zero=>exact absurd e (j _ _ a)
   |succ d=>exact absurd (aH b (F.Ux (n+1))) (bT.mpr (bK 3 d))
theorem yL(F:dC ps)(g:Q2 ps){X:Str}(h:pI ps K_ X K)(hd:Nd K_)(e:∀t∈K,RV ps t)(h':pI ps SN X K')(b:Nd SN)(d:∀t∈K',RV ps t)(H:∀B x,La ps K_ B x->La ps SN B x):∀B x,La ps K B x->La ps K' B x:=λ B x q=>tm F g h hd e (λ n x B i f a c Z Z=>⟨x,(h'.one b d i).mpr ⟨a,f,H _ _ c⟩,.inl rfl⟩) q
structure D2(ps:List Pr)(Λ:List Str)(N3:List Nat){γ:Type}(Cs:List γ)(SI:List Tr->γ->Prop):Prop where
 q2:Q2 ps
 la:∀n,1<=n->∀x∈d9 (dO ps) n,x∈Λ
 s:("s":Str)∈Λ
 n3:∀n B,(d9 (dO ps) n)[2]? =ah B->n∈N3
 ex:∀{K},RT ps K->∃c∈Cs,SI K c
 eq:∀{K K' c},RT ps K->RT ps K'->SI K c->SI K' c->∀B x,La ps K B x->La ps K' B x
section
variable{Λ:List Str}{N3:List Nat}{γ:Type}{Cs:List γ}{SI:List Tr->γ->Prop}
inductive Qg(γ:Type) where
 |k0
 |kE
 |k1 (X:Str)
 |k2 (W Yy:Str) (c:γ)
 |k3 (n:Nat) (c:γ)
inductive Ri(ps:List Pr){γ:Type}(SI:List Tr->γ->Prop)(K:List Tr)(W Yy:Str)(c:γ):Prop
 |mk (K_ Kk:List Tr) (r0:RT ps K_) (r1:RT ps Kk) (sW:pI ps K_ W Kk) (sY:pI ps Kk Yy K) (hc:SI K_ c) (hE:Yy≠ia) (h3:∀n x,(n,3,x)∉K)
inductive Rh(ps:List Pr){γ:Type}(SI:List Tr->γ->Prop)(K:List Tr)(n:Nat)(c:γ):Prop
 |mk (Vu K_ Kk:List Tr) (V W Yy x:Str) (r2:RT ps Vu) (r0:RT ps K_) (r1:RT ps Kk) (sV:pI ps Vu V K_) (sW:pI ps K_ W Kk) (sY:pI ps Kk Yy K) (hc:SI Vu c) (hE:Yy≠ia) (h3:(n,3,x)∈K)
noncomputable def Kd(ps:List Pr){γ:Type}(SI:List Tr->γ->Prop)(K:List Tr):Qg γ->Prop
 |.k0=>K=init
 |.kE=>∃K_,pI ps K_ ia K
 |.k1 X=>pI ps init X K
 |.k2 W Yy c=>Ri ps SI K W Yy c
 |.k3 n c=>Rh ps SI K n c
noncomputable def Dl(Λ:List Str)(N3:List Nat)(Cs:List γ):List (Qg γ):=
 .k0::.kE::(Λ.map .k1++((Λ.flatMap λ W=>Λ.flatMap λ Yy=>Cs.map (.k2 W Yy))++N3.flatMap λ n=>Cs.map (.k3 n)))
theorem oa(f:α->List β)(k:Nat)(h:∀a,(f a).length=k):∀l:List α,(l.flatMap f).length=l.length*k:=by
 intro l;induction l with
 |nil=>exact (Nat.zero_mul k).symm
 |cons a l b=>simp only[df,aF,h,b,bj,ya,ft]
theorem Dk:(Dl Λ N3 Cs).length=Λ.length+(Λ.length*(Λ.length*Cs.length)+N3.length*Cs.length)+2:=by unfold Dl;simp only[bj,bj,aF,aF,au,oa _ _ (λ W=>oa _ _ (λ Yy=>au ..) Λ),oa _ _ λ n=>au ..]
theorem RT.tr(h:RT ps K):∀t∈K,RV ps t:=by
 cases h with
 |zero=>exact λ t a=>by simp only[aE.mp a];exact qK
 |step _ _ h _=>exact h
theorem uC(F:dC ps)(h:pI ps K ia K')(c:∀t∈K',RV ps t){n d:Nat}{x:Str}(q:(n,d,x)∈K'):n=0/\d=2/\x="":=by
 refine eB ((h n d x).mp q) λ e a b Z=>?_;subst a;cases n with
 |zero=>exact (E6 b).elim (λ k=>absurd k.2 (by decide+kernel)) λ k=>⟨rfl,congrArg j8 k.1,(c _ q).z rfl⟩
 |succ n=>have g:=(c _ q).r;have f:=aX b;have:=(F.rt _ (wK g) _ f).resolve_right (F.Sf Dc);exact absurd this (by decide+kernel)
theorem BB(D:D2 ps Λ N3 Cs SI){n e:Nat}{X:Str}(h:(d9 (dO ps) n)[e]? =ah X)(a:X≠ia):X∈Λ:=by
 cases n with
 |zero=>exact (E6 h).elim (λ k=>k.2.symm▸D.s) λ k=>absurd k.2 a
 |succ n=>exact D.la _ (cr n) _ (aX h)
theorem IK(F:dC ps){n e:Nat}{x:Str}(h:pI ps K_ ia K)(f:∀t∈K,RV ps t)(c:Gb ps K (n,e,x))(i:(d9 (dO ps) n)[e]? =ah Yy):False:=by
 have a:∀{u:Tr},Gb ps K u->u.1=0/\u.2.1=2:=λ b=>by
  induction b with
  |base b=>exact ⟨(uC F h f b).1,(uC F h f b).2.1⟩
  |step _ hk _ _ _ _ _ j=>refine za j λ g d=>?_;dsimp only at g d;rw[g,d]at hk;exact absurd hk (bB 2)
 have k1:n=0:=(a c).1;have k2:e=2:=(a c).2;rw[k1,k2]at i;exact nomatch i
theorem Iz(F:dC ps)(D:D2 ps Λ N3 Cs SI){W:Str}(h₀:RT ps K_)(h₁:RT ps Kk)(i:pI ps K_ W Kk)(j:pI ps Kk Yy K)(h:W∈Λ)(g:Yy∈Λ)(k:Yy≠ia):∃c∈Dl Λ N3 Cs,Kd ps SI K c:=by
 skip;by_cases l:∃n x,(n,3,x)∈K
 ·refine Jy l λ m y o=>?_;refine za (j.more.mp o) λ r s=>?_;cases h₀ with
  |zero=>cases aE.mp (i.more.mp s).2
  |step a p e d=>refine b5 (D.ex a) λ c f b=>?_;exact ⟨.k3 m c,.tail _ (.tail _ (ax _ (ax _ (bX.mpr ⟨m,D.n3 m _ r,bq f⟩)))),⟨_,_,_,_,_,_,_,a,.step a p e d,h₁,p,i,j,b,k,o⟩⟩
 ·refine b5 (D.ex h₀) λ c f b=>?_;exact ⟨.k2 W Yy c,.tail _ (.tail _ (ax _ (aJ _ (bX.mpr ⟨W,h,bX.mpr ⟨Yy,g,bq f⟩⟩)))),⟨_,_,h₀,h₁,i,j,b,k,λ n x q=>l ⟨n,x,q⟩⟩⟩
theorem Nk(F:dC ps)(D:D2 ps Λ N3 Cs SI)(h:RT ps K):∃c∈Dl Λ N3 Cs,Kd ps SI K c:=by
 cases h with
 |zero=>exact ⟨.k0,.head _,rfl⟩
 |@step Kk K Yy t h₁ j p o=>
  refine eB ((j t.1 t.2.1 t.2.2).mp o) λ e Z m n=>?_;by_cases k:Yy=ia
  ·exact ⟨.kE,.tail _ (.head _),Kk,k▸j⟩
  have f:=BB D m k;cases h₁ with
  |zero=>exact ⟨.k1 Yy,.tail _ (.tail _ (aJ _ (bq f))),j⟩
  |@step K_ _ W a h₀ i b d=>refine eB ((i a.1 a.2.1 a.2.2).mp d) λ l Z g Z=>?_;exact Iz F D h₀ (.step h₀ i b d) i j (BB D g λ q=>IK F (q▸i) b n m) f k
theorem By(F:dC ps)(w:Q2 ps){f:List Tr}{W:Str}(z:∀t∈K,RV ps t)(p:∀t∈K',RV ps t)(h₀:RT ps K_)(h₁:RT ps Kk)(o:pI ps K_ W Kk)(l:pI ps Kk Yy K)(r:Yy≠ia)(i:RT ps SN)(g:RT ps f)(k:pI ps SN W f)(j:pI ps f Yy K')(H:∀B x,La ps K_ B x->La ps SN B x){n d:Nat}{x:Str}(hd:d<=2)(h:(n,d,x)∈K):(n,d,x)∈K':=by
 have hz:∀e,(d9 (dO ps) 0)[e+1]?≠ah Yy:=λ e q=>by
  cases e with
  |zero=>exact r (Option.some.inj q).symm
  |succ e=>cases q
 cases d with
 |zero=>exact absurd h (l.nd n x)
 |succ d=>
  cases d with
  |zero=>
   cases n with
   |zero=>
    refine eB ((l 0 1 x).mp h) λ e y Z u=>?_;cases y;cases u with
    |base v=>exact absurd v (o.nd 0 x)
    |step _ _ _ _ s _ _=>exact nomatch s
   |succ n=>refine jA ((l.one h₁.nd z (cr n)).mp h) λ a b c=>?_;exact (j.one g.nd p (cr n)).mpr ⟨a,b,yL F w o h₀.nd h₁.tr k i.nd g.tr H _ _ c⟩
  |succ d=>
   cases d with
   |succ d=>exact absurd hd (pe.mpr (bK 3 d))
   |zero=>
   refine za (l.more.mp h) λ a b=>?_;cases n with
   |zero=>exact absurd a (hz 0)
   |succ n=>have m:=(o.one h₀.nd h₁.tr (cr n)).mp b;exact j.more.mpr ⟨a,(k.one i.nd g.tr (cr n)).mpr ⟨m.1,m.2.1,H _ _ m.2.2⟩⟩
theorem CH(F:dC ps)(D:D2 ps Λ N3 Cs SI){c:Qg γ}(A:∀t∈K,RV ps t)(l:∀t∈K',RV ps t)(M:∃t,t∈K')(h:Kd ps SI K c)(h':Kd ps SI K' c):∀t∈K,t∈K':=λ t j=>by
 obtain ⟨n,d,x⟩:=t;have Q:=aA (A _ j).d (F.Ux _);cases c with
 |k0=>exact (h.trans h'.symm)▸j
 |kE=>refine ze h λ Z b=>?_;refine ze h' λ Z w=>?_;refine ze M λ N T=>?_;obtain ⟨m,e,y⟩:=N;refine jA (uC F b A j) λ L e2 e3=>?_;have k:=uC F w l T;simp only[L,e2,e3,<-k.1,<-k.2.1,<-k.2.2];exact T
 |k1 X=>exact (h' n d x).mpr ((h n d x).mp j)
 |k2 W Yy c=>obtain ⟨_,_,r0,B,u,v,O,C,E⟩:=h;obtain ⟨_,_,a,s,f,g,o,_,_⟩:=h';exact By F D.q2 A l r0 B u v C a s f g (D.eq r0 a O o) (cp (j9 Q λ e=>E n x ((show d=3 from e)▸j))) j
 |k3 m c=>
  obtain ⟨_,_,_,V,W,Yy,y,J,r0,B,I,u,v,O,C,E⟩:=h;obtain ⟨_,_,_,V',W',Y',y',r,a,s,i,f,g,o,_,G⟩:=h';have b:=v.more.mp E;have w:=g.more.mp G;have c:=u.more.mp b.2;have S:=f.more.mp w.2;refine eB ((I m 1 y).mp c.2) λ Z L R Z=>?_;refine eB ((i m 1 y').mp S.2) λ Z P U Z=>?_;rw[<-Nat.succ.inj L]at R;rw[<-Nat.succ.inj P]at U;simp only[<-Option.some.inj (b.1.symm.trans w.1)]at g;simp only[<-Option.some.inj (c.1.symm.trans S.1)]at f;simp only[<-Option.some.inj (R.symm.trans U)]at i;have H:=D.eq J r O o;rcases pf Q with hd|e
  ·exact By F D.q2 A l r0 B u v C a s f g (yL F D.q2 I J.nd r0.tr i r.nd a.tr H) (cp hd) j
  ·subst e;have p:=v.more.mp j;have q:=u.more.mp p.2;have Y:1<=n:=cy λ z=>by rw[z]at p;cases p.1
   have k:=(I.one J.nd r0.tr Y).mp q.2;exact g.more.mpr ⟨p.1,f.more.mpr ⟨q.1,(i.one r.nd a.tr Y).mpr ⟨k.1,k.2.1,H _ _ k.2.2⟩⟩⟩
theorem Ii(P:α->β->Prop):∀(l:List α) (B:List β),l.Nodup->(∀a∈l,∃b∈B,P a b)->(∀a∈l,∀g∈l,∀b,P a b->P g b->a=g)->l.length<=B.length:=by
 intro l;induction l with
 |nil=>intro Z Z Z Z;exact bg _
 |cons a l i=>
  intro B nd m j
  classical
  simp only[bC]at nd;refine b5 (m a (.head _)) λ b p n=>?_;have i:=i (B.filter λ c=>decide (c≠b)) nd.2 (λ g d=>by refine b5 (m g (.tail _ d)) λ k h f=>?_;refine ⟨k,b4.mpr ⟨h,decide_eq_true λ e=>?_⟩,f⟩;subst e;exact nd.1 (j a (.head _) g (.tail _ d) k n f▸d)) λ x q y o=>j x (.tail _ q) y (.tail _ o)
  exact aR i (List.length_filter_lt_length_iff_exists.mpr ⟨b,p,by simp⟩)
theorem IX(F:dC ps):∀n,∀p∈d2 (bZ ps) n,∃K,RT ps K/\wJ ps K p.1:=by
 intro n;induction n with
 |zero=>intro p c;rw[aE.mp c];exact ⟨init,.zero,yt F⟩
 |succ n i=>
  intro p c;have i:=i;simp only[Aw]at c;cases e:(d2 (bZ ps) n)[n]? with
  |none=>simp only[e]at c;exact i p c
  |some q=>
   rw[e]at c;refine b5 (i q (aX e)) λ K H hk=>?_;have z:∀(l:List (Nat×e7)) (a:List (e7×Int)×List (Nat×Nat)),(∀p∈a.1,∃K,RT ps K/\wJ ps K p.1)->(∀q∈l,∃K,RT ps K/\wJ ps K q.2)->∀p∈(l.foldl mo a).1,∃K,RT ps K/\wJ ps K p.1:=λ l=>by
    induction l with
    |nil=>intro a h _;exact h
    |cons u l y=>
     intro a h g;refine y (mo a u) (λ p c=>?_) λ v r=>g v (.tail _ r);have c:p∈(j3 u.1 u.2 a.1).1:=c;cases e:(a.1.map (·.1)).idxOf? u.2 with
     |some m=>rw[iE e]at c;exact h p c
     |none=>
      rw[fY e]at c;rcases aM.mp c with c|c
      ·exact h p c
      ·rw[aE.mp c];exact g u (.head _)
   refine z (fu (bZ ps) q.1) (d2 (bZ ps) n,[]) i (λ u o=>?_) p c;refine ze (Do (dO ps) (bz ps) (D1 ps) K uA λ t k=>(lj F hk.tr hk.im k).1.WA F) λ l C=>?_;refine za (kH F hk.tr hk.im C (g3 hk.im.ok)) λ g Jj=>?_;have f:=(ot F u.1).mp (bq o);rw[qq F g Jj]at f;refine ze (gI _ f) λ t k=>?_;have R:=BS F C.nd g Jj u.1;refine b5 (aC.mp o) λ X Z e=>?_;refine ⟨ext (bZ ps) (dO ps) l u.1,.step (X:=(cf ps).getD u.1 "") H (λ n d x=>?_) R.tr k,by rw[<-e]at R ⊢;exact R⟩;refine jg.trans ?_;constructor
   ·intro s;obtain ⟨v,r,a,b,e⟩:=s;have A:n=v.1:=congrArg jT e;refine ⟨v.2.1,(congrArg (λ u=>u.2.1) e),?_,by simp only[A,(show x=v.2.2 from congrArg (λ u=>u.2.2) e)];exact (C.mem v).mp r⟩;have I:=bd a "";have:=(n6 (F.RZ v.1 _ I)).2;dsimp only[oM]at b;rw[b]at this;simp only[A,this,e8 a];exact ay a
   ·intro w;obtain ⟨G,D,B,E⟩:=w;have j:=(bh.mp B).1;refine ⟨(n,G,x),(C.mem _).mpr E,j,?_,by rw[D];rfl⟩;dsimp only[oM];simp only[e8 j,(bh.mp B).2];exact F.UR ((pb F.good hk.im.ok o).2)
theorem D2.most(F:dC ps)(D:D2 ps Λ N3 Cs SI)(h:(Dl Λ N3 Cs).length<=2000)(n:Nat):(d2 (bZ ps) n).length<=2000:=by
 refine aA ?_ h;have hk:=rW F.good F.VU.pos n;simp only[<-au (f:=(·.1)) (as:=d2 (bZ ps) n)];have s:∀k∈(d2 (bZ ps) n).map (·.1),∃K,RT ps K/\wJ ps K k:=λ k hk=>by refine b5 (aC.mp hk) λ p m e=>?_;subst e;exact IX F n p m
 refine Ii (λ k c=>∃K,RT ps K/\wJ ps K k/\Kd ps SI K c) _ _ hk.2 (λ k hk=>?_) λ k hk k' u c ⟨K,q,d,i⟩ ⟨K',g,a,b⟩=>?_
 ·refine b5 (s k hk) λ K l o=>?_;refine b5 (Nk F D l) λ c v r=>?_;exact ⟨c,v,K,l,o,r⟩
 ·have j:∀{K:List Tr},RT ps K->∃t,t∈K:=λ h=>by
   cases h with
   |zero=>exact ⟨_,.head _⟩
   |step _ _ _ h=>exact ⟨_,h⟩
  exact (BR F d a).mp ((dU d.kn a.kn).mpr λ t=>⟨CH F D d.tr a.tr (j g) i b t,CH F D a.tr d.tr (j q) b i t⟩)
end
theorem F8{l:List Str}(h:x∈l):fV l x=l:=by unfold fV;exact if_pos (show l.any (· ==x)=aj from dM.mpr ⟨x,h,beq_self_eq_true x⟩)
theorem nq:∀(l:List Pr) (acc:List Str),(∀p∈l,p.1∈acc)->l.foldl (λ l p=>fV l p.1) acc=acc:=by
 intro l;induction l with
 |nil=>intro Z Z;exact rfl
 |cons p l b=>intro acc h;dsimp only[c6];rw[F8 (h p (.head _))];exact b acc λ q a=>h q (.tail _ a)
noncomputable def sr{α:Type}:List α->List (List α)
 |[]=>[[]]
 |a::l=>sr l++(sr l).map (a::·)
theorem Qn:sr ([]:List α)=[[]]:=rfl
theorem Qo{α:Type}{a:α}{l}:sr (a::l)=(sr l++(sr l).map (a::·)):=rfl
theorem tR(p:α->Prop):∀l:List α,∃s∈sr l,∀x,x∈s↔x∈l/\p x:=by
 intro l;induction l with
 |nil=>exact ⟨[],.head _,λ x=>⟨λ h=>(nomatch h),λ h=>(nomatch h.1)⟩⟩
 |cons a l d=>
  refine b5 (d) λ s c h=>?_;by_cases b:p a
  ·refine ⟨a::s,ax _ (bq c),λ x=>?_⟩;refine aI.trans ?_;rw[aI,h];exact ⟨λ q=>q.elim (λ e=>⟨.inl e,e▸b⟩) λ q=>⟨.inr q.1,q.2⟩,λ q=>q.1.elim .inl λ k=>.inr ⟨k,q.2⟩⟩
  ·refine ⟨s,aJ _ c,λ x=>?_⟩;rw[aI,h];exact ⟨λ q=>⟨.inr q.1,q.2⟩,λ q=>⟨q.1.resolve_left λ e=>b (e▸q.2),q.2⟩⟩
theorem Cy(F:dC ps)(u:∀t∈K,RV ps t){t:Tr}(h:Gb ps K t):RV ps t:=by
 induction h with
 |base p=>exact u _ p
 |@step n d o a c w hd v b j l y k=>
  have r:∀x∈(d9 (dO ps) n).drop (d+1),Sym ps x:=λ x s=>F.sym n x (cC s);have i:c∈fO ps/\c∈AT:=by
   rcases (F.Ry r).mp b with ⟨g,m⟩|⟨g,m⟩
   ·rcases DG F b with q|q
    ·exact q
    ·by_cases f:n=0
     ·exact absurd (q.trans (k.z f)) (F.Sx g)
     ·exact ⟨g,q▸(k.l (cy f)).2⟩
   ·have f:0<n:=cy λ e=>by subst e;exact F.UQ hd v g
    rw[m];exact k.l f
  exact ⟨l,bg _,λ e=>absurd j (by rw[show o=0 from e];decide),λ Z=>i⟩
theorem La.look(F:dC ps)(c:∀t∈K,RV ps t){x:Str}(h:La ps K B x):x∈fO ps/\x∈AT:=by obtain ⟨o,a,b,_⟩:=h;exact (Cy F c b).l a
theorem La.left(F:dC ps)(c:∀t∈K,RV ps t){x:Str}(h:La ps K B x):B∈ba ps:=by
 obtain ⟨o,a,b,e⟩:=h;cases o with
 |zero=>cases a
 |succ n=>simp only[<-e];exact F.T4 (eW ((Cy F c b).r))
theorem lS{n:Nat}(a:1<=n){d:Nat}(h:(d9 (dO ps) n)[d]? =ah B):∃p∈ps,d9 (dO ps) n=p.2/\(dO ps).getD n ("",[])=p:=by
 cases n with
 |zero=>exact nomatch a
 |succ n=>
  have b:n<ps.length:=eg λ k=>by
   have e:d9 (dO ps) (n+1)=[]:=by show (ps.getD n ("",[])).2=[];rw[aD,bl k];rfl
   rw[e]at h;cases h
  exact ⟨_,bd b ("",[]),rfl,rfl⟩
noncomputable def z7:List Str:=["x","y"]
noncomputable def px:List Str:=[ia,"x","y"]
structure Gc(ps:List Pr):Prop where
 lf:ba ps=(["s","a"]:List Str)
 rt:∀p∈ps,p.2.length<=2/\∀x∈p.2,x∈lX
 pd:∀y∈ba ps,∃p∈ps,p.1=y/\∀x∈p.2,x∈z7
 l4:4<=ps.length
 l6:ps.length<=6
theorem yQ(f:α->List Str)(k:Nat):∀l:List α,(∀a∈l,(f a).length<=k)->(l.flatMap f).length<=l.length*k:=by
 intro l;induction l with
 |nil=>intro Z;exact bg _
 |cons a l c=>intro h;rw[df,aF];dsimp only[bj];rw[ya,ft];exact gB (c λ b d=>h b (.tail _ d)) (h a (.head _))
theorem Gc.X8(D:Gc ps):dC ps:=by
 refine ⟨λ p a=>?_,λ p a x b=>?_,λ p a=>c1 (D.rt p a).1,λ x b=>?_,aA D.l6 (by decide),?_,by rw[D.lf];rfl,λ X=>?_⟩
 ·have h:p.1∈ba ps:=gs.mpr ⟨p,a,rfl⟩;simp only[D.lf]at h;exact (show ∀y∈(["s","a"]:List Str),y∈eR by decide+kernel) _ h
 ·rw[D.lf];exact (show ∀y∈lX,y∈gH\/y∈(["s","a"]:List Str)by decide+kernel) _ ((D.rt p a).2 x b)
 ·refine eB (D.pd x b) λ p f c g=>?_;exact ⟨p,f,c,λ y d=>(show ∀y∈z7,y∈gH by decide+kernel) _ (g y d)⟩
 ·rw[D.lf];exact c1 D.l4
 ·refine aA jc ?_;refine aA (yQ (·.2) 2 (dO ps) λ p a=>?_) ?_
  ·rcases aI.mp a with e|e
   ·rw[e];exact aT _
   ·exact (D.rt p e).1
  ·show (ps.length+1)*2<=15;have:=D.l6;exact Po this
theorem Gc.ts(D:Gc ps){x:Str}(h:x∈fO ps)(h':x∈AT):x∈px:=by
 rcases (gZ ps).mp h with h|⟨p,a,h,_⟩
 ·exact (show ∀y∈AT,y∈iQ->y∈px by decide+kernel) x h' h
 ·exact (show ∀y∈AT,y∈lX->y∈px by decide+kernel) x h' ((D.rt p a).2 x h)
noncomputable def Rd:List (List Str×List Str):=(sr px).flatMap λ a=>(sr px).map λ b=>(a,b)
theorem Gc.Yc(D:Gc ps):D2 ps lX [] Rd λ K c=>∀x,(x∈c.1↔La ps K "s" x)/\(x∈c.2↔La ps K "a" x):=by
 have F:=D.X8;have f:∀n B,(d9 (dO ps) n)[2]?≠ah B:=λ n B h=>by
  cases n with
  |zero=>cases h
  |succ n=>refine eB (lS (cr n) h) λ p j e Z=>?_;rw[e]at h;exact absurd (aH (bh.mp h).1 (D.rt p j).1) (bB 2)
 refine ⟨λ n B h=>absurd h (f n B),λ n r x k=>?_,by decide+kernel,λ n B h=>absurd h (f n B),λ {K} h=>?_,λ {K K' c} h h' l d B x q=>?_⟩
 ·refine ze (cL.mp k) λ i hi=>?_;refine eB (lS r hi) λ p j e Z=>?_;simp only[e]at k;exact (D.rt p j).2 x k
 ·refine b5 (tR (La ps K "s") px) λ a s t=>?_;refine b5 (tR (La ps K "a") px) λ b o m=>?_;have lk:∀{B x},La ps K B x->x∈px:=λ q=>D.ts (q.look F h.tr).1 (q.look F h.tr).2;exact ⟨(a,b),bX.mpr ⟨a,s,aC.mpr ⟨b,o,rfl⟩⟩,λ x=>⟨(t x).trans ⟨(·.2),λ q=>⟨lk q,q⟩⟩,(m x).trans ⟨(·.2),λ q=>⟨lk q,q⟩⟩⟩⟩
 ·have g:=q.left F h.tr;rw[D.lf]at g;rcases aI.mp g with e|g
  ·subst e;exact (d x).1.mp ((l x).1.mpr q)
  ·have e:=aE.mp g;subst e;exact (d x).2.mp ((l x).2.mpr q)
theorem Gc.most(D:Gc ps):∀n,(d2 (bZ ps) n).length<=2000:=D2.most D.X8 D.Yc (by decide+kernel)
noncomputable def sB:List Str:=["x","y","z","s","a","b"]
structure NY(ps:List Pr)(A u:Str):Prop where
 F:dC ps
 lf:ba ps=(["s","a","b"]:List Str)
 ca:∀p∈ps,∀B,p.2[1]? =ah B->B∈ba ps->(p.1="s"/\∃y∈gH,p.2.drop 2=[y])\/(p.1=A/\p.2[0]? =ah u)
 q2:∀p∈ps,∀B,p.2[2]? =ah B->B∉ba ps
 n3:∀n B,(d9 (dO ps) n)[2]? =ah B->n∈[2,3,4,5]
 la:∀p∈ps,∀x∈p.2,x∈sB
noncomputable def P2(u:Str):List (Option (Str×Bool×List Str)):=ai::(((ia::sB).flatMap λ V=>[aj,ao].map λ e=>ah (V,e,[]))++[aj,ao].flatMap λ e=>(sr AT).map λ T=>ah (u,e,T))
noncomputable def Re(ps:List Pr)(A u:Str)(K:List Tr):Option (Str×Bool×List Str)->Prop
 |none=>K=init
 |some (V,e,T)=>∃K_,RT ps K_/\pI ps K_ V K/\(e=aj↔∃x,La ps K_ "s" x)/\(V=u->∀x,x∈T↔La ps K_ A x)
theorem NY.Yc{A u:Str}(D:NY ps A u):D2 ps sB [2,3,4,5] (P2 u) (Re ps A u):=by
 have F:=D.F;have J:Q2 ps:=λ n B h=>by
  cases n with
  |zero=>exact nomatch h
  |succ n=>refine eB (lS (cr n) h) λ p f e Z=>?_;rw[e]at h;exact D.q2 p f B h
 have M:∀n,1<=n->∀x∈d9 (dO ps) n,x∈sB:=λ n o x E=>by refine ze (cL.mp E) λ i hi=>?_;refine eB (lS o hi) λ p f e Z=>?_;simp only[e]at E;exact D.la p f x E
 have z:∀(e:Nat) (X:Str),(d9 (dO ps) 0)[e]? =ah X->X∈ia::sB:=λ e X r=>(E6 r).elim (λ k=>k.2▸(show ("s":Str)∈ia::sB by decide+kernel)) λ k=>k.2▸.head _;refine ⟨J,M,by decide+kernel,D.n3,λ {K} h=>?_,λ {K K' c} h h' s m B x q=>?_⟩
 ·cases h with
  |zero=>exact ⟨ai,.head _,rfl⟩
  |@step K_ _ X t a w hG P=>
   obtain ⟨n,d,x⟩:=t;refine eB ((w n d x).mp P) λ e' Z r Z=>?_;have G:X∈ia::sB:=by
    cases n with
    |zero=>exact z _ _ r
    |succ n=>exact .tail _ (M _ (cr n) _ (aX r))
   obtain ⟨e,j,l⟩:∃e:Bool,(e=aj↔∃x,La ps K_ "s" x)/\e∈[aj,ao]:=by
    by_cases k:∃x,La ps K_ "s" x
    ·exact ⟨aj,⟨λ Z=>k,λ Z=>rfl⟩,.head _⟩
    ·exact ⟨ao,⟨λ q=>(nomatch q),λ q=>absurd q k⟩,.tail _ (.head _)⟩
   by_cases N:X=u
   ·refine b5 (tR (La ps K_ A) AT) λ T R S=>?_;refine ⟨ah (X,e,T),.tail _ (ax _ (bX.mpr ⟨e,l,aC.mpr ⟨T,R,by rw[N]⟩⟩)),K_,a,w,j,λ Z x=>(S x).trans ⟨(·.2),λ q=>⟨(q.look F a.tr).2,q⟩⟩⟩
   ·exact ⟨ah (X,e,[]),.tail _ (aJ _ (bX.mpr ⟨X,G,aC.mpr ⟨e,l,rfl⟩⟩)),K_,a,w,j,λ k=>absurd k N⟩
 ·cases c with
  |none=>have s:K=init:=s;rw[m];rw[s]at q;exact q
  |some c=>
   obtain ⟨K_,r0,U,e0,t0⟩:=s;obtain ⟨Kk,I,L,Y,t1⟩:=m;refine tm F J U r0.nd h.tr (λ n x B o g a b H Q=>?_) q;refine eB (lS o H) λ p f ep C=>?_;rw[ep]at H;rw[C]at b;rcases D.ca p f B H Q with ⟨k1,y,W,k2⟩|⟨k1,k2⟩
   ·refine ze (Y.mp (e0.mpr ⟨x,k1▸b⟩)) λ V v=>?_;refine ⟨V,(L.one I.nd h'.tr o).mpr ⟨a,g,(bA C)▸(bA k1)▸v⟩,.inr λ k=>?_⟩;refine (show y∉ba ps by rw[D.lf];exact (show ∀y∈gH,y∉(["s","a","b"]:List Str)by decide+kernel) y W) (F.So (F.RM f (cC (i:=2) ((bA k2)▸.head _))) (k _ ?_));simp only[ep,k2];exact .head _
   ·have O:c.1=u:=Option.some.inj (a.symm.trans ((congrArg (·[0]?) ep).trans k2));refine ⟨x,(L.one I.nd h'.tr o).mpr ⟨a,g,?_⟩,.inl rfl⟩;simp only[C,k1];exact (t1 O x).mp ((t0 O x).mpr (k1▸b))
theorem NY.most{A u:Str}(D:NY ps A u):∀n,(d2 (bZ ps) n).length<=2000:=D2.most D.F D.Yc (by
 rw[Dk];have:(P2 u).length=47:=by unfold P2;rw[bj,aF,oa _ 2 (λ V=>rfl)];rfl
 rw[this];decide)
theorem Dy(row:List Nat)(b:Nat×Str):(∀p∈pG row b,p.1=b.2/\p.2.length<=2/\∀x∈p.2,x∈lX)/\2<=(pG row b).length/\(pG row b).length<=3/\∃p∈pG row b,p.1=b.2/\∀x∈p.2,x∈z7:=by
 have h:∀x∈mR row b.1,x∈z7:=λ x a=>by refine b5 (aC.mp a) λ k Z c=>?_;subst c;exact bd (xs:=z7) (d8 (by decide)) ""
 have j:∀q,∀x∈qF row q,x∈lX:=λ q x a=>by refine b5 (aC.mp a) λ k Z g=>?_;subst g;exact bd (xs:=lX) (d8 (by decide)) ""
 have hk:=d8 (row:=row) (i:=b.1+4) (m:=2) (by decide);refine ⟨λ p d=>?_,?_,?_,⟨_,.head _,rfl,h⟩⟩
 ·rcases aI.mp d with e|d
  ·subst e;refine ⟨rfl,?_,λ x a=>(show ∀y∈z7,y∈lX by decide+kernel) x (h x a)⟩;show (mR row b.1).length<=2;unfold mR;simp only[au,bf];exact cp (d8 (by decide))
  ·refine b5 (aC.mp d) λ t Z f=>?_;subst f;refine ⟨rfl,?_,j _⟩;show (qF row (b.1+5+5*t)).length<=2;unfold qF;simp only[au,bf];exact QJ (d8 (row:=row) (i:=b.1+5+5*t) (m:=2) (by decide))
 ·dsimp only[pG];dsimp only[bj];rw[au,bf];exact PD
 ·dsimp only[pG];dsimp only[bj];rw[au,bf];exact MU hk
theorem C4(row:List Nat):Gc (om.flatMap (pG row)):=by
 have e:om.flatMap (pG row)=pG row (8,"s")++pG row (24,"a"):=by show pG row (8,"s")++(pG row (24,"a")++[])=_;rw[cJ]
 simp only[e];refine Bg (Dy row (8,"s")) λ l o n p j w i=>?_;refine Bg (Dy row (24,"a")) λ a1 r u q h v m=>?_;have g:ba (pG row (8,"s")++pG row (24,"a"))=(["s","a"]:List Str):=by
  have s:∀q∈((aZ (1+pick row 12 2)).map λ t=>(("s":Str),qF row (8+5+5*t))),q.1∈(["s"]:List Str):=λ q d=>by refine b5 (aC.mp d) λ t Z c=>?_;subst c;exact .head _
  have k:∀q∈((aZ (1+pick row 28 2)).map λ t=>(("a":Str),qF row (24+5+5*t))),q.1∈(["s","a"]:List Str):=λ q d=>by refine b5 (aC.mp d) λ t Z f=>?_;subst f;exact .tail _ (.head _)
  unfold ba;refine fm.trans ?_;dsimp only[pG];simp only[c6,c6,show fV [] "s"=(["s"]:List Str)from rfl,nq _ _ s,show fV ["s"] ("a":Str)=(["s","a"]:List Str)by decide+kernel,nq _ _ k]
 refine ⟨g,λ p a=>?_,λ y b=>?_,by rw[aF];exact PC o r,by rw[aF];exact PB n u⟩
 ·rcases aM.mp a with a|a
  ·exact (l p a).2
  ·exact (a1 p a).2
 ·rw[g]at b;rcases aI.mp b with e|b
  ·exact ⟨p,aJ _ j,w.trans e.symm,i⟩
  ·exact ⟨q,ax _ h,v.trans (aE.mp b).symm,m⟩
noncomputable def cB(t:Str×Str×Str):List Str:="s"::ia::(ib t).flatMap (·.2)
theorem NP:∀t∈nZ,∀X∈cB t,(cB t).count X<=13:=by decide+kernel
theorem NL:∀t∈nZ,∀p∈ib t,p.1∈eR/\p.2.length<=3/\∀x∈p.2,x∈sB/\(x∈gH\/x∈eR):=by decide+kernel
theorem NQ:∀t∈nZ,∀p∈ib t,p.2.getD 1 "x"∉eR\/(p.1="s"/\∃y∈gH,p.2.drop 2=[y]):=by decide+kernel
theorem NM:∀t∈nZ,∀p∈ib t,p.2.getD 2 "x"∉eR:=by decide+kernel
theorem NN:∀t∈nZ,∀x∈eR,∃p∈ib t,p.1=x/\∀y∈p.2,y∈gH:=by decide+kernel
theorem NO:∀t∈nZ,∀n,n<7->3<=((ib t).getD n ("",[])).2.length->n+1∈[2,3,4,5]:=by decide+kernel
structure QB(e:List Pr)(A u:Str):Prop where
 l:e.length<=1
 o:∀p∈e,p.1∈eR/\p.2.length<=2/\∀x∈p.2,x∈ti
 a:∀p∈e,p.1=A/\∀x,p.2[0]? =ah x->x=u
theorem P4{l:List Str}{d:Str}(h:l[i]? =ah B):l.getD i d=B:=by (refine (aD).trans ?_;rw[h]);rfl
theorem C5{t:Str×Str×Str}(l:t∈nZ){e:List Pr}{A u:Str}(E:QB e A u):NY (ib t++e) A u:=by
 have j:ba (ib t++e)=eR:=by unfold ba;rw[fm];exact nq e eR λ p d=>(E.o p d).1
 have z:∀x∈ti,x∈sB/\(x∈gH\/x∈eR):=by decide+kernel
 have o:∀p∈ib t++e,p.1∈eR/\p.2.length<=3/\∀x∈p.2,x∈sB/\(x∈gH\/x∈eR):=λ p d=>by
  rcases aM.mp d with d|d
  ·exact NL t l p d
  ·refine jA (E.o p d) λ a b c=>?_;exact ⟨a,c1 b,λ x g=>z x (c x g)⟩
 have s:=E.l;refine ⟨⟨λ p d=>(o p d).1,λ p d x g=>by rw[j];exact ((o p d).2.2 x g).2,λ p d=>(o p d).2.1,λ x g=>?_,?_,?_,by rw[j];rfl,λ X=>?_⟩,j,λ p d B i m=>?_,λ p d B i m=>?_,λ n B i=>?_,λ p d x g=>((o p d).2.2 x g).1⟩
 ·rw[j]at g;refine b5 (NN t l x g) λ p q v=>?_;exact ⟨p,aJ _ q,v⟩
 ·rw[aF];exact PA s
 ·rw[j,aF];show 6<=7+e.length+1;exact Pz
 ·have y:(dO (ib t++e)).flatMap (·.2)=cB t++e.flatMap (·.2):=by show (["s",ia]:List Str)++(ib t++e).flatMap (·.2)=_;rfl
  simp only[y,gn];have q:(cB t).count X<=13:=by
   by_cases h:X∈cB t
   ·exact NP t l X h
   ·rw[List.count_eq_zero_of_not_mem h];exact bg _
  exact gB q (aA jc (aA (yQ (·.2) 2 e λ p d=>(E.o p d).2.1) (Nat.mul_le_mul_right 2 s)))
 ·rw[j]at m;rcases aM.mp d with d|d
  ·exact .inl ((NQ t l p d).resolve_left λ k=>k (by rw[P4 i];exact m))
  ·refine za (E.a p d) λ a c=>?_;have r:0<p.2.length:=aR (bg _) (bh.mp i).1;exact .inr ⟨a,(c _ (ay r))▸ay r⟩
 ·rw[j]at m;rcases aM.mp d with d|d
  ·exact NM t l p d (by rw[P4 i];exact m)
  ·exact absurd (aH (bh.mp i).1 (E.o p d).2.1) (bB 2)
 ·cases n with
  |zero=>cases i
  |succ n=>
   have f:=(bh.mp i).1;have f:2<((ib t++e).getD n ("",[])).2.length:=f;by_cases h:n<7
   ·rw[aD,c3 h]at f;exact NO t l n h f
   ·by_cases k:n<(ib t++e).length
    ·have w:(ib t++e).getD n ("",[])∈e:=by rw[aD,bH (e6 h)];simp only[aF]at k;exact bd (Py k rfl h) _
     exact absurd (aH f (E.o _ w).2.1) (bB 2)
    ·rw[aD,bl (e6 k)]at f;exact nomatch f
theorem II(row:List Nat):QB [mz row] ((mz row).1) ((mz row).2.getD 0 ""):=by
 refine ⟨aT _,λ p a=>?_,λ p a=>?_⟩
 ·rw[aE.mp a];refine ⟨bd (xs:=eR) (d8 (by decide)) "",?_,λ x c=>?_⟩
  ·show ((aZ (pick row 4 3)).map _).length<=2;simp only[au,bf];exact cp (d8 (by decide))
  ·refine b5 (aC.mp c) λ k Z b=>?_;subst b;exact bd (xs:=ti) (d8 (by decide)) ""
 ·rw[aE.mp a];exact ⟨rfl,λ x c=>(P4 c).symm⟩
theorem BX(row:List Nat):dC (gr row)/\∀n,(d2 (bZ (gr row)) n).length<=2000:=by
 dsimp only[gr];split
 ·have b:nZ.getD (pick row 1 6) ("","","")∈nZ:=bd (d8 (by decide)) _;unfold C7;split
  ·have:=C5 b (II row);exact ⟨this.F,this.most⟩
  ·have:=C5 b (e:=[]) (A:="") (u:="") ⟨bg _,λ p a=>(nomatch a),λ p a=>(nomatch a)⟩;exact ⟨this.F,this.most⟩
 ·exact ⟨(C4 row).X8,(C4 row).most⟩
theorem PE(row:List Nat):Ga (gr row) (wJ (gr row)):=by have a:=BX row;exact ⟨a.1.pr,a.1.good,a.1.WM,a.1.VK,a.1.sh,a.2,a.1.Xw,a.1.VU,a.1.shown⟩
noncomputable abbrev BV(t:aG):Array Value:=#[.ref t,.none,.none,.none,.bool ao,.none]
theorem rZ(p:aG×MO)(J:Mu):addrs (p::J)=ch p++addrs J:=rfl
theorem zY{args:List V}(hm:h9 G.K C=aj)(hi:hP G.K (.ref C) "__init__"=ah (ah (.ref fI)))(N:lO G.K (.ref fI)=ah (.type "function"))(hl:args.length<=100)(H:∀x t,cF G d (.ref fI) (.ref x::args) ((x,.exc C ai (BV t) [])::J) (λ v J'=>v=.none/\post (.ref x) J')):cF G (d+1) (.ref C) args J post:=by
 intro A g R s us S₀ O hS I P hN T Q;have f:G.K.In s.heap:=by obtain ⟨⟨n,base,outer,y,m,B,F,Y,N,L⟩,f,_⟩:=O;exact f.keeps F.keep
 obtain ⟨a,X,d',t,os⟩:=s;have k:∀b o,a.get? b=ah o->((a.push (dZ us.toArray 0)).push (lg C a.objs.size)).get? b=ah o:=λ b o e=>aL _ (aL _ e);have z:a.get? (a.objs.size+1)=ai:=el (gA _);have D:∀b,a.get? b=ai->g.get? b=ai/\b≠R:=λ b e=>by
  obtain ⟨⟨n,base,outer,y,m,B,F,Y,N,L⟩,_⟩:=O;constructor
  ·cases q:g.get? b with
   |none=>rfl
   |some o=>rw[F.keep _ _ q]at e;cases e
  ·rintro rfl;refine mN F.ns λ o Z Z E Z=>?_;rw[E]at e;cases e
 have l:∀b∈addrs J,∃o,a.get? b=ah o:=λ b c=>by refine b5 (bX.mp c) λ p j c=>?_;exact (P p j).live b c
 have i:∀{b},b∈addrs ((a.objs.size+1,MO.exc C ai (BV a.objs.size) [])::J)->b=a.objs.size+1\/b∈addrs J:=λ {b} h=>by rw[rZ]at h;exact (aM.mp h).imp_left λ h=>aE.mp h
 refine xE ((mr (M:=bn G.prog G.w) f hm).1) (by rw[Q.length,dE];exact aA ‹_› (by decide)) (g9 f hi) (λ w=>bind_fn f w N) ?_;rw[qI];have hx:((a.push (dZ us.toArray 0)).push (lg C a.objs.size)).get? (a.objs.size+1)=ah (lg C a.objs.size):=by heap_get
 refine kr (H (a.objs.size+1) a.objs.size (Around.made A) g R ⟨(a.push (dZ us.toArray 0)).push (lg C a.objs.size),X,d',t,os⟩ (.ref (a.objs.size+1)::us) S₀ (O.made k) (λ b o e=>⟨k _ _ (hS b o e).1,λ c=>?_⟩) I (λ p j=>?_) ?_ (λ b c=>?_) (.cons (.ref _) Q)) ?_
 ·rcases i c with h|h
  ·have:=(hS b o e).1;rw[h,z]at this;cases this
  ·exact (hS b o e).2 h
 ·rcases aI.mp j with rfl|j
  ·exact .S_ hx
  ·exact (P p j).mono (.refl _) λ b Z o e=>k b o e
 ·rw[rZ];refine bC.mpr ⟨λ h=>?_,hN⟩;refine ze (l _ h) λ o E=>?_;rw[z]at E;cases E
 ·rcases i c with h|h
  ·rw[h];exact D _ z
  ·exact T b h
 ·rintro r s' ⟨u,v,J',S',rfl,st,keep,al,le,VI,UA,T3,UJ,hv,rfl,j⟩;cases hv;refine ⟨rfl,_,.ref (a.objs.size+1),J',S',rfl,st,λ b o e U=>keep b o (k b o e) λ c=>?_,λ b o e=>al b o (k b o e),le,λ b o e=>?_,UA,T3,λ b c=>?_,.ref _,j⟩
  ·rcases i c with h|h
   ·rw[h,z]at e;cases e
   ·exact U h
  ·refine jA (VI b o e) λ W S h3=>?_;refine ⟨W,S,h3.imp id λ q=>?_⟩;cases K:a.get? b with
   |none=>rfl
   |some o'=>rw[k _ _ K]at q;cases q
  ·rcases UJ b c with h|h
   ·rcases i h with h|h
    ·rw[h];exact .inr z
    ·exact .inl h
   ·refine .inr ?_;cases K:a.get? b with
    |none=>rfl
    |some o'=>rw[k _ _ K]at h;cases h
inductive QV(K:gb)(a:aG)(C:aG)(i:Nat)(name:Str)(Q:Option (Option V)->St->Prop)(v:V)(Y:St):Prop
 |mk (hv:Y.vals[i]? =ah (ah (.ref a))) (dd:Option aG) (vs:Array Value) (fs:List (Str×V)) (J1 J2:Mu) (h:Y.mu=J1++(a,.exc C dd vs fs)::J2) (s:sw K C name=aj) (z:fs.length<900) (q:∀D,Q ai ⟨Y.vals,J1++(a,.exc C (ah D) vs (nf name v fs))::J2⟩)
theorem Qk(I:f_ O G d T){a C:aG}{i:Nat}{x name:Str}{e:Expr}{p1:gY}{Q:Option (Option V)->St->Prop}(h:XV O Ex (bw e O.env) (QV G.K a C i name Q) Y)(j:autoParam (∀n,(T n)[i]? =ah (x,.loc)) rf)(hd:autoParam (iS x=aj) rf)(f:autoParam (eo e (ah (.Attribute (.Name x p1) name pos')) pos.line O.env=pure ao) rf):XF O Ex (gg (.Assign [.Attribute (.Name x p1) name pos'] e pos) O.env) Q Y:=
 HJ I.ok (h.mono λ v b q=>by
  cases q with
  |mk l k vs fs J1 J2 o c g m=>exact nl I i l ⟨a,C,k,vs,fs,J1,J2,rfl,o,(bA I.g)▸c,g,m⟩ j hd) f
theorem xM(I:f_ O G d T)(i:Nat)(F:fC G "Exception" (.type "Exception")){np a pos:gY}{args:List Expr}{Q:V->St->Prop}(h:XL O Ex (c7 (cO pos (bk args O.env))) (rE O Ex (.builtin "Exception.__init__") Q) Y)
 (hi:autoParam (∀n,(T n)[i]? =ah (("Exception":Str),NK.glob)) rf) (b:autoParam (DO pos args O.env) rf)
 (f:autoParam (bw (.Call (.Attribute (.Name "Exception" np) "__init__" a) args [] pos) O.env=(do
  let ov <-bw (.Name "Exception" np) O.env
  i1 a.atName
  gT (.Name "Exception" np) "__init__" a pos O.env ov (args.length+0) (cO pos (bk args O.env)) [])) rf)
 (e:autoParam (Hv pos args O.env) rf) (c:autoParam ((a.endLine==pos.line)=aj) rf):
 XV O Ex (bw (.Call (.Attribute (.Name "Exception" np) "__init__" a) args [] pos) O.env) Q Y:=
 EB (i:=i) I.ok I.bt (I.at i hi) ((bA I.g)▸F.n) F.b (by decide) (rfl) b h f e c
theorem xi{C:aG}{name qual:Str}{f:aG}(Yy:cv G f name qual (cP (mem 2 0)) (cA (mem 2 0)) (bG (mem 2 0)) ["self","what","at"] [.none])(k:fC G "Exception" (.type "Exception"))(g:h9 G.K C=aj)
 (j:sw G.K C "what"=aj) (a:sw G.K C "at"=aj) (x t:aG) (w:V):
 cF G (d+1) (.ref f) [.ref x,w] [(x,.exc C ai (BV t) [])] (λ v J'=>v=.none/\∃D vs,J'=[(x,.exc C (ah D) vs [("what",w),("at",.none)])]/\vs.size=6/\vs[1]? =ah .none):=
 di Yy _ _ _ rfl λ O I=>by refine aB<|xe I<|xM I 3 k<|an<|nl I 0 rfl<|a1<|nl I 1 rfl<|Al (J1:=[]) (J2:=[]) I.ok rfl ((bA I.g)▸g) (t0:=.ref t) rfl λ vs e h=>?_;refine aB<|Qk I (C:=C) (i:=0)<|nl I 1 rfl ⟨rfl,ai,vs,[],[],[],rfl,j,by decide,λ D=>?_⟩;refine aB<|Qk I (C:=C) (i:=0)<|nl I 2 rfl ⟨rfl,_,vs,_,[],[],rfl,a,by show 1<900;decide,λ D=>bm ?_⟩;exact ⟨[],[(x,.exc C (ah D) vs [("what",w),("at",.none)])],_,.none,rfl,λ b c=>aI.mpr (.inl (aE.mp c)),dI.refl _ _,.refl _,rfl,D,vs,rfl,e,h⟩
set_option tactic.hygienic true in
theorem B8{K:gb}(h:yD K C=aj){od:Obj}{r:Value}(c:qy "at" od=ah (ah r)):findObj K C (ah od) "at"=ah (.value r):=by
 unfold yD at h;simp only[cZ]at h;refine za h λ b a=>?_;split at a
 ·rename_i attr ha;exact findObj_own b ha a c
 ·cases a
structure Xc(G:GC)(C:aG):Prop where
 make:h9 G.K C=aj
 mt:lO G.K (.ref C)=ah (.type "type")
 g:mM G.K b8 "GrammarError"=ah (ah (.ref C))
 k:m4 G.K (.ref C)=aj
 init:∃f name qual,cv G f name qual (cP (mem 2 0)) (cA (mem 2 0)) (bG (mem 2 0)) ["self","what","at"] [.none]/\hP G.K (.ref C) "__init__"=ah (ah (.ref f))/\lO G.K (.ref f)=ah (.type "function")
 Wn:fC G "Exception" (.type "Exception")
 Xb:sw G.K C "what"=aj
 at_:sw G.K C "at"=aj
 get:o9 G.K C=aj
 told:∃f name qual,cv G f name qual (cP (mem 2 1)) (cA (mem 2 1)) (bG (mem 2 1)) ["self"] []/\hP G.K (.ref C) "told"=ah (ah (.ref f))/\lO G.K (.ref f)=ah (.type "function")/\m4 G.K (.ref f)=aj
 own:yD G.K C=aj
theorem zB(X:Xc G C)(w:V):cF G (d+2) (.ref C) [w] [] (λ v J'=>∃x D vs,v=.ref x/\J'=[(x,.exc C (ah D) vs [("what",w),("at",.none)])]/\vs.size=6/\vs[1]? =ah .none):=by refine kw X.init λ f name qual Yy i b=>?_;exact zY X.make i b (by show 1<=100;decide) λ x t=>(xi Yy X.Wn X.make X.Xb X.at_ x t w).mono (aT _) λ v J' a=>by refine HD a λ e D vs c g h=>?_;exact ⟨e,x,D,vs,rfl,c,g,h⟩
inductive mF(O:FC)(C:aG)(e:Value)(s:aQ):Prop
 |mk (a:aG) (Y:St) (Kp:b9) (Jj:List (aG×Obj)) (D:aG) (vs:Array Value) (w:V) (e1:e=.ref a) (R:cS O Y Kp Jj s) (hm:(a,MO.exc C (ah D) vs [("what",w),("at",.none)])∈Y.mu) (hs:vs.size=6) (h1:vs[1]? =ah .none)
theorem EA(X:Xc G C)(l:O.G=G)(ok:O.Ok){e:Expr}{Q:Option (Option V)->St->Prop}(h:XV O (mF O C) (bw e O.env) (λ v b=>∃a D vs w,v=.ref a/\(a,MO.exc C (ah D) vs [("what",w),("at",.none)])∈b.mu/\vs.size=6/\vs[1]? =ah .none) Y):XF O (mF O C) (gg (.Raise (ah e) ai pos) O.env) Q Y:=λ Kp Jj s R=>by
 show aW _ _ (do i1 pos;raiseStmt O.env (ah (do let v <-bw e O.env;i1 pos;pure v)) ai) _ _ _;refine aw (et ?_);delta raiseStmt
 dsimp only;refine aw (aw (h.Rr R λ u c v b Kk l₁ d i h₁=>aw (et (az ?_))));refine Bc h₁ λ a D vs w j p t o=>?_;subst j;have i:u=.ref a:=i.inv;subst i;have m:mF O C (.ref a) c:=⟨a,b,Kk,Jj,D,vs,w,rfl,d,p,t,o⟩;obtain ⟨es,n,g,q,x⟩:=(d.mu _ p).Tx;have K:=d.SA ok;have I:InstAt c.heap a {cls:=.ref C,dict:=ah D,data:=.fields vs} C (ah (dictOf es n)):=⟨g,rfl,rfl,q⟩;have f:∀{k:Bool->aQ->Prop},k ao c->aW (bn O.G.prog O.G.w) O.A (isType (.ref a)) k (mF O C) c:=by intro k r;simp only[isType,loadHead];exact aw (fc g (az r))
 refine aw (az ?_);dsimp only;refine aw (bE ?_);dsimp only[excFromValue,isExcClass];refine aw (aw (f ?_));skip;refine az ?_;skip;refine aw ((wg (M:=bn O.G.prog O.G.w) K I (l▸(o5 X.get).2.2)).here ?_);skip;refine az ?_;refine aw (f ?_);skip;skip;refine aw (aw (I.type.here (aw ((looks_typeIn K (l▸X.mt)).here ?_))));skip;refine az ?_;skip;refine aw (aw (gR g rfl o ?_));skip;refine az (aw (wpAny_handled ?_));rw[ok.hand]
 first
  |exact wpAny_throw m
  |exact aw (az (wpAny_throw m))
theorem H6(n:Nat)(h:n<=2000):(bo (toString (n:Int))).length<=100:=by
 have:∀n:_root_.Fin 2001,(bo (toString ((n.1:Nat):Int))).length<=100:=by decide+kernel
 exact this ⟨n,dh h⟩
theorem xr(X:Xc G C)(S:fC G "str" (.type "str"))(I:f_ O G (d+2) (mO (bG (top 25))))(a:Nat)(g:a<=2000)(Q:Option (Option V)->St->Prop)(Y:St)(b:Y.vals[1]? =ah (ah (.nat a))):
 XF O (mF O C) (eL yw O.env) Q Y:=by
 have e:=H6 a g;have f:(bo "more than ").length<=100:=by decide+kernel
 refine aB<|EA X I.g I.ok<|tM 18 I.ok (I.at 18 (by intro n;rfl)) ((bA I.g)▸X.g) rfl ((bA I.g)▸X.k) rfl<|a1<|bx<|bx<|c4<|cb I 19 S<|a1<|nl I 1 b<|NG (aR ‹_› (by decide))<|i5 (J5 f e)<|c4<|i5 (by rw[cj];exact J4 f e (by decide+kernel)) ?_;exact sp I Y.mu (zB (d:=d) X _) (aT _) rfl λ v J' c=>by refine qA c λ x D vs h k i j=>?_;exact ⟨x,D,vs,_,h,by subst k;exact .head _,i,j⟩
section
variable{a:aG}
theorem cS.frames(ok:O.Ok)(i:O.Se=[])(c:O.R2=O.env)(R:cS O Y Kp Jj s):s.heap.FunFrames (sn O.h₀ (fz (O.env::O.outer))) (O.env::O.outer):=by
 have f:O.env.frame=ah O.fL:=c▸ok.R7;refine ⟨by rw[ok.kind];decide,⟨O.fL,?_⟩,?_⟩
 ·refine yf R.frame λ m o es ep d a Z=>?_;refine ⟨o,f,sm _ (eb.mpr ⟨O.env,.head _,f⟩),d,λ vs e=>?_⟩;rw[a]at e;cases e
 ·refine tt (Heap.FunFrames.of_keeps (λ b o e n=>⟨o,?_,rfl⟩) ok.below.frames) λ b g=>sm _ ?_
  ·refine za (ok.SP b o e) λ d a=>?_;exact R.old b o d a
  ·refine b5 (eb.mp g) λ x h e=>?_;exact eb.mpr ⟨x,.tail _ h,e⟩
theorem cS.pre(ok:O.Ok)(c:O.Se=[])(d:O.R2=O.env)(R:cS O Y Kp Jj s){D:aG}{vs:Array Value}{w:V}(hi:(a,MO.exc C (ah D) vs [("what",w),("at",.none)])∈Y.mu)(m:vs.size=6):
 Pre O.h₀ (O.env::O.outer) C a s.heap:=by
 have g:∀b∈ch (a,MO.exc C (ah D) vs [("what",w),("at",.none)]),O.h₀.get? b=ai:=λ b l=>by
  rcases R.fresh b (ax _ (bX.mpr ⟨_,hi,l⟩))with h|h
  ·rw[c]at h;exact nomatch h
  ·exact h
 refine ⟨λ b o e Z=>R.old b o e (by rw[c];exact ea),λ b o e Z=>⟨o.slots,R.old b o e (by rw[c];exact ea)⟩,R.frames ok c d,g a (.head _),?_⟩;obtain ⟨es,n,p,k,f⟩:=(R.mu _ hi).Tx;refine b5 (f.getL (x:="at") (v:=.none) (by kernel_rfl)) λ u i j=>?_;rw[j.inv]at i;exact ⟨_,vs,D,_,p,rfl,rfl,by rw[m];decide,rfl,g D (.tail _ (.head _)),k,by exact i,by exact f.SM (by kernel_rfl)⟩
inductive I9(O:FC)(C:aG)(e:Value)(s:aQ):Prop
 |mk (a L:aG) (e1:e=.ref a) (hf:O.env.frame=ah L) (F:y9 O.h₀ (O.env::O.outer) C (i2 L) a s.heap) (st:gz O.Sd s)
theorem pF{e:Value}(h:I9 O C e s):HC (bn O.G.prog O.G.w) O.A O.env (I9 O C) e s:=by obtain ⟨a,L,rfl,b,F,st⟩:=h;obtain ⟨n,vs,T,k,m,a1,d,f,g,o,l,j,i⟩:=F.tr;dsimp only[HC];refine aw (gR a1 d f ?_);skip;rw[b];exact k_ F (ah L) λ h' c=>⟨a,L,rfl,b,c,st⟩
theorem Cj(ok:O.Ok)(f:O.Se=[])(b:O.R2=O.env){e:Value}{s:aQ}(h:mF O C e s):Nb O (I9 O C) e s:=by obtain ⟨a,Y,Kp,Jj,D,vs,w,rfl,R,hi,d,g⟩:=h;have c:O.env.frame=ah O.fL:=b▸ok.R7;refine xB (b▸ok.frames) c (R.pre ok f b hi d) ?_ λ h' F=>pF ⟨a,_,rfl,c,F,R.st⟩;exact let ⟨_,_,e1,_,_⟩:=(R.mu _ hi).Tx;⟨_,vs,e1,rfl,g⟩
theorem Fk{e:Value}(h:I9 O C e s):Nb O (I9 O C) e s:=by obtain ⟨a,L,rfl,b,F,st⟩:=h;exact rn b F (pF ⟨a,L,rfl,b,F,st⟩)
theorem Cx{e:Value}{s:aQ}(h:I9 O C e s){Q:aQ->Prop}{E:Value->aQ->Prop}(d:∀L,O.env.frame=ah L->O.h₀.get? L=ai)(q:∀a h',e=.ref a->y9 O.h₀ O.outer C .none a h'->gz O.Sd s->Q {s with heap:=h'}):
 aW (bn O.G.prog O.G.w) O.A (Ji O.env e) (λ Z=>Q) E s:=by
 obtain ⟨a,L,rfl,b,F,st⟩:=h;skip;exact aw (rn b F (k_ F ai λ h' c=>q a h' rfl (c.leave b (d L b)) st))
end
structure wN(C a:aG)(h:Heap):Prop where
 ex:∃oe oD,InstAt h a oe C (ah oD)/\qy "at" oD=ah (ah .none)/\qy "told" oD=ah ai
theorem wN.keeps{a:aG}{h:Heap}(E:wN C a h)(k:∀b o,h.get? b=ah o->h'.get? b=ah o):wN C a h':=by
 obtain ⟨c,e,⟨d,l,f,i⟩,j,g⟩:=E;refine ⟨c,e,⟨k _ _ d,l,f,?_⟩,j,g⟩;revert i
 cases c.dict with
 |none=>exact id
 |some D=>exact k _ _
theorem kI{st:Stmt}{a:List Stmt}{Q:Flow->aQ->Prop}(h:aW M A (gg st env) (λ fl s'=>∃u,fl=.ret u/\Q (.ret u) s') E s):aW M A (eL (st::a) env) Q E s:=by show aW _ _ (gg st env>>=_) _ _ _;refine aw (aY h (λ fl s' b=>b5 b λ u e q=>?_) λ Z Z e=>e);cases e;exact az q
inductive Zz(h₀:Heap)(u:Value)(h:Heap):Prop
 |mk (t:aG) (a b:Jm) (e:u=.ref t) (n:h₀.get? t=ai) (x:h.get? t=ah (dZ #[.int 0 a,.int 0 b] 0))
theorem yR{p1 p2 p3:gY}{k1 k2 k3:Nat}{Q:Value->aQ->Prop}(h:∀u h' tk,(∀b o,s.heap.get? b=ah o->h'.get? b=ah o)->Zz s.heap u h'->Q u {s with heap:=h',toks:=tk})
 (c:autoParam (bk [.Constant (.int 0) k1 p1,.Constant (.int 0) k2 p2] env=[(ao,bw (.Constant (.int 0) k1 p1) env),(ao,bw (.Constant (.int 0) k2 p2) env)]) rf):
 aW (bn prog w) A (bw (.Tuple [.Constant (.int 0) k1 p1,.Constant (.int 0) k2 p2] k3 p3) env) Q E s:=by
 refine wpAny_Tuple ?_;skip;show aW _ _ (do let v <-bw (.Constant (.int 0) k1 p1) env;let a <-pure [v];return a++(<-kj a (c7 (cO p3 [(ao,bw (.Constant (.int 0) k2 p2) env)])))) _ _ _;refine aw (qx (aw (az (aw (bE ?_)))));show aW _ _ (do let v <-bw (.Constant (.int 0) k2 p2) env;let a <-pure [v];return a++(<-kj a (c7 (cO p3 [])))) _ _ _;refine aw (qx (aw (az (aw (bE (az (az (az ⟨by rw[dE];simp,?_⟩))))))));exact h _ _ _ (λ b o e=>aL _ e) ⟨_,_,_,rfl,dm _,bQ _ rfl⟩
theorem Ih{p1 p2 p3 pos:gY}{k1 k2 k3:Nat}{Q:Flow->aQ->Prop}(h:∀u h' tk,(∀b o,s.heap.get? b=ah o->h'.get? b=ah o)->Zz s.heap u h'->Q (.ret u) {s with heap:=h',toks:=tk})
 (a:autoParam (bk [.Constant (.int 0) k1 p1,.Constant (.int 0) k2 p2] env=[(ao,bw (.Constant (.int 0) k1 p1) env),(ao,bw (.Constant (.int 0) k2 p2) env)]) rf):
 aW (bn prog w) A (gg (.Return (ah (.Tuple [.Constant (.int 0) k1 p1,.Constant (.int 0) k2 p2] k3 p3)) pos) env) Q E s:=lJ (yR h a)
theorem zt{f a:aG}{R:qz->aQ->Prop}(X:Xc G C)(Yy:cv G f name qual (cP (mem 2 1)) (cA (mem 2 1)) (bG (mem 2 1)) ["self"] [])(i:G.K.In s.heap)(nl:s.heap.NoLimit)(l:A.depth<1000)(H:wN C a s.heap)(h:∀u h' tk,(∀b o,s.heap.get? b=ah o->h'.get? b=ah o)->Zz s.heap u h'->R (.ok (.ret u)) {s with heap:=h',toks:=tk}):gi (bn G.prog G.w) A (.call (.ref f) ⟨[.ref a],[]⟩) R s:=by
 obtain ⟨⟨dV,kV,Q,Z,w,ct,oc,an,od,Y,N,D,xU,O,B,j⟩,p,m,hk,S,V,P⟩:=id Yy;have e0:xU=[]:=ic.mp B;subst e0;refine DY l (i _ _ N) rfl p m rfl (codeRec_of i D) (j [.ref a] s i rfl _ _ _ _ ?_);refine wV hk (λ x U=>?_) λ E W s' x=>?_
 ·have r:x=(("self":Str),eT a):=by simpa using U
  subst r;exact .inl (by kernel_rfl)
 subst W;refine ⟨nl.keeps x.toInCall.keep,codeAny_func ?_⟩;have g:=x.toInCall.keep;refine Jy x.toInCall.same λ h₁ tk n=>?_;generalize M:newEnv (bG (mem 2 1)) s.heap.objs.size b8 (d4 (s.heap.objs.size+1) (bG (mem 2 1)).names []) (qual++".<locals>.") (ah f) w ai ff=env at*;refine kI<|wpAny_If<|nK<|Attribute_any_ (qw (gQ (by rw[(show env.scope=bG (mem 2 1)from by rw[<-M];rfl)];exact hk) (by kernel_rfl) x.toInCall.ns (v:=.ref a) ?_ ?_) (rfl))
 ·exact (by kernel_rfl)
 ·refine fx ((H.keeps g).ex) λ oe oD I L h2=>?_;refine FP (i.keeps g) I X.get (B8 X.own L) rfl (Gf (is_none (fE ?_)));refine (if_pos rfl).mpr ?_;refine kI<|Ih λ u h' y k z=>⟨u,rfl,?_⟩;obtain ⟨t,c,d,K,J,T⟩:=z;subst n;have e:s.heap.get? t=ai:=by
   cases q:s.heap.get? t with
   |none=>rfl
   |some o=>have F:=g t o q;rw[show Heap.get? _ t=ai from J]at F;exact nomatch F
  exact ⟨u,rfl,h u h' y (λ b o e=>k b o (g b o e)) ⟨t,c,d,K,e,T⟩⟩
theorem c2.max{bz:List fD}(A:c2 g bz)(n:Nat):(d2 g n).length<=bz.length:=by
 rcases pY bz.length n with q|q
 ·simp only[l8 (cu A.len) n (bc q),A.len];exact aT _
 ·have:=(iU g q).length_le;simp only[A.len]at this;exact this
theorem c2.uniq{s t:List fD}(A:c2 g s)(B:c2 g t):t.length=s.length:=A.eq B.len.symm
theorem DL(X:Nat)(k:e7)(ks:List (e7×Int)):k∈(j3 X k ks).1.map (·.1):=by
 cases e:(ks.map (·.1)).idxOf? k with
 |some n=>rw[iE e];refine Classical.byContradiction λ h=>?_;rw[ie.mpr h]at e;exact nomatch e
 |none=>rw[fY e,aK];exact ax _ (.head _)
theorem BP:∀(l:List (Nat×e7)) (a:List (e7×Int)×List (Nat×Nat)),∀p∈l,p.2∈(l.foldl mo a).1.map (·.1):=by
 intro l;induction l with
 |nil=>intros;first|contradiction|exact absurd ‹_<_› (c9 _)
 |cons q l b=>
  intro a p h;rcases aI.mp h with rfl|h
  ·exact ((nU l (mo a p)).map _).subset (DL _ _ _)
  ·exact b (mo a q) p h
theorem c2.two(m:de g)(j:0<g.owners.length){X:Nat}(k:g.after 0=(X:Int))(o:X<g.names.length){bz:List fD}(A:c2 g bz):2<=bz.length:=by
 have hk:gw g [(0,0)]:=(rW m j 0).1 _ (.head _);have C:=g3 hk;refine b5 (aC.mp ((C.keys 0).mpr (.base (.head _)))) λ p b e=>?_;have c:(1,p.2)∈c0 g (iT g [(0,0)]) X:=aC.mpr ⟨p,b4.mpr ⟨b,e▸k▸beq_self_eq_true _⟩,by rw[e]⟩;have n:X∈pU g (iT g [(0,0)]):=b4.mpr ⟨bP.mpr o,by cases q:c0 g (iT g [(0,0)]) X with|nil=>rw[q]at c;cases c|cons _ _=>rfl⟩
 have f:=(qr C.nd λ p b=>((C.mem p).mp b).1.lt hk).mpr c;have d:wH g (iT g [(0,0)]) X∈(d2 g 1).map (·.1):=by exact BP _ (d2 g 0,[]) _ (aC.mpr ⟨X,n,rfl⟩)
 have a:[(0,0)]∈(d2 g 1).map (·.1):=((iU g (bg 1)).map _).subset (.head _);refine aA ?_ (A.max 1);refine e6 λ h=>?_;cases i:d2 g 1 with
 |nil=>rw[i]at a;exact nomatch a
 |cons z l=>rw[i]at a d h;cases r8 (r_.mp (cp (eW h)));simp only[aE.mp d,<-aE.mp a]at f;cases aE.mp f
theorem Ac(pairs:List Pr):(bZ pairs).after 0=((n7 pairs ((ba pairs).getD 0 ""):Nat):Int):=rfl
theorem Ga.two(P:Ga pairs Rk){bz:List fD}(A:c2 (bZ pairs) bz):2<=bz.length:=
 A.two P.good P.HR.pos (Ac pairs) (P.good.syms 0 (cr _) _ (.head _))
inductive P_(O:FC)(C:aG)(e:Value)(s:aQ):Prop
 |mk (a:aG) (Y:St) (Kp:b9) (Jj:List (aG×Obj)) (U7:aQ) (e1:e=.ref a) (R:cS O Y Kp Jj U7) (F:y9 U7.heap (O.R2::O.outer) C .none a s.heap) (st:gz U7 s)
noncomputable abbrev lu(G:GC)(f:aG):Prop:=cv G f "build_canonical" "build_canonical" (cP (top 25)) (cA (top 25)) (bG (top 25)) ["grammar","most"] []
section
variable{f:aG}
theorem xW(B:D3 G CG CR CS CA)(X:Xc G C)(S:fC G "str" (.type "str"))(Yy:lu G f)(g:Gr)(W:de g)(hr:0<g.rules.length){bz:List fD}(A:c2 g bz)(M:bz.length<=2000)(c:Nat)(r:c+1=bz.length)(h1:1<=c)
 (I:f_ O G (d+5) T) {Q:V->St->Prop}:cU O (P_ O C) (.ref f) [g.v CG CR,.nat c] Q Y:=λ Kp Jj s us R hu=>by
 obtain ⟨ok,rfl,hd, -, -⟩:=I;obtain ⟨m,F⟩:=R.fr ok;have P:=ok.depth;have h3:=ok.units;rw[hd]at P h3;refine jn (Db (d:=d+4) Yy [g.v CG CR,.nat c] [] (λ v J'=>(∃bz,v=kP CG CR CS CA g bz/\c2 g bz/\bz.length<=c)/\J'=[]) rfl ok.below F ok.frames ok.R7 ok.Tw ok.SA ok.top ok.hand (aH ‹_› (by decide)) (‹_›)
  (λ b o e=>⟨(R.kp b o e).1,ea⟩) R.Vd (λ p hp=>nomatch hp) bL (λ b U=>nomatch U) hu ?_ ?_)
 ·rintro x s' ⟨u,v,J',S',rfl,st,keep,al,le,VI,UA,T3,UJ,hv,⟨Y9,e,A',ZN⟩,e2⟩;exact (J8 r (A.uniq A') ZN).elim
 ·intro E k j w l q z i q1 q2 q3 q4 K q6 N q8 q9 y;have H:f_ E O.G (d+4) (mO (bG (top 25))):=⟨k,j,w,let ⟨n,e⟩:=l;⟨λ Z=>n,e⟩,i⟩;refine ⟨I9 E C,λ e s' h=>?_,nu (J:=[]) B g W hr c h1 (GA r M) H (λ Z Z h=>Fk h) (λ Z Z h=>Cj k q6 q4 h) λ Z Q Y t=>xr X S H c (GA r M) Q Y t⟩;rw[<-j];refine Cx h (λ L e=>(bA K)▸y L e) λ a h' e D st=>?_;rw[K,q3]at D;rw[N]at st;exact ⟨a,Y,Kp,Jj,s,e,R,D,st⟩
theorem BO(B:D3 G CG CR CS CA)(Yy:lu G f)(g:Gr)(j:de g)(e:0<g.rules.length)(a:Nat)(k:1<=a)(c:a<=2000)(i:∀n,(d2 g n).length<=a):
 cF G (d+5) (.ref f) [g.v CG CR,.nat a] J (λ v J'=>(∃bz,v=kP CG CR CS CA g bz/\c2 g bz/\bz.length<=a)/\J'=J):=
 di Yy _ _ _ rfl λ O I=>nu B g j e a k c I (E0:=dP) (E1:=dP) (E2:=dP) (λ Z Z h=>h.elim) (λ Z Z h=>h.elim) λ b=>by refine ze b λ n h=>?_;exact absurd (i n) (pe.mpr h)
theorem JF{a:List Stmt}{h₀:ExceptHandler}{i:List ExceptHandler}{Q:Option (Option V)->St->Prop}(h:XF O dP (eL body O.env) (λ f Y=>f≠ai/\Q f Y) Y):XF O Ex (gg (.Try body (h₀::i) a [] pos) O.env) Q Y:=
 λ Kp Jj s R=>wpAny_Try_except (aY (h Kp Jj s R) (λ f s' d=>Pt.on d λ b Y' K' l R' c e=>za e λ g q=>by
  cases c with
  |next=>exact absurd rfl g
  |ret j=>exact ⟨_,Y',K',l,R',.ret j,q⟩
  |cont=>exact ⟨_,Y',K',l,R',.cont,q⟩) λ Z Z h=>h.elim)
theorem cU.mono{v:Value}{i:V->St->Prop}(h:cU O Ex v vs Q Y)(k:∀b Y,Q b Y->i b Y):cU O Ex v vs i Y:=
 λ Kp Jj s us R j=>aY (h Kp Jj s us R j) (λ Z Z g=>by obtain ⟨b,Y',f,a,c,d,e⟩:=g;exact ⟨b,Y',f,a,c,d,k _ _ e⟩) λ Z Z e=>e
theorem oq(B:D3 G CG CR CS CA)(F:Fn G "build_canonical" "build_canonical" (top 25) ["grammar","most"] [.nat 2000])(g:Gr)(a:Nat)(I:f_ O G d (mO (bG (top 38)))){Q:Option (Option V)->St->Prop}(i:Y.vals[0]? =ah (ah (g.v CG CR)))(c:Y.vals[1]? =ah (ah (.nat a)))
 (h:cU O Ex (.ref F.f) [g.v CG CR,.nat a] (λ v Y'=>∃bz,v=kP CG CR CS CA g bz/\bz.length<=2000/\Q (ah (ah (.nat bz.length))) Y') Y):XF O Ex (eL (cA (sub (top 38) 0)) O.env) Q Y:=by
 refine aB<|dF<|cb I 3 B.len<|a1<|fa I<|cg I 4 F<|an<|nl I 0 i<|a1<|nl I 1 c<|h.mono λ v Y' f=>eB f λ bz e hz q=>?_;have b:(bz.map (fD.v CS)).length=bz.length:=au ..;exact ⟨CA,mP CG CR CS g bz,.list (bz.map (fD.v CS)),e,B.A.a _ (by decide+kernel),by kernel_rfl,lq .frozen ((bA b)▸aR ‹_› (by decide)) ((bA b)▸q)⟩
theorem zE(B:D3 G CG CR CS CA)(F:Fn G "build_canonical" "build_canonical" (top 25) ["grammar","most"] [.nat 2000])(Yy:lu G F.f)(L:Fn G "_law_allowed" "_law_allowed" (top 38) ["grammar","most"] [])(g:Gr)(j:de g)(f:0<g.rules.length){bz:List fD}(A:c2 g bz)(b:bz.length<=2000)(k:1<=bz.length):
 cF G (d+6) (.ref L.f) [g.v CG CR,.nat bz.length] J (λ v J'=>v=.nat bz.length/\J'=J):=
 di L.y _ _ _ rfl λ O I=>by refine aB<|JF<|oq B F g bz.length I rfl rfl<|sp I J (BO (d:=d) (J:=[]) B Yy g j f bz.length k b A.max) GB rfl λ v J' c=>za c λ h l=>eB h λ a e m i=>?_;subst l;have:=A.uniq m;exact ⟨a,e,aA ‹_› ‹_›,by simp,i6 ⟨by exact congrArg _ this,rfl⟩⟩
end
structure Gd(G:GC)(base:Heap):Prop where
 SA:G.K.In base
 top:Top G.p G.loose G.Tg G.mg G.mb base
structure Rm(O:FC)(u:Value)(s':aQ):Prop where
 val:∃t c d,u=.ref t/\s'.heap.get? t=ah (dZ #[.int 0 c,.int 0 d] 0)
 base:∀b o,O.base.get? b=ah o->s'.heap.get? b=ah o
 ns:∀L m,O.h₀.Ns L m->s'.heap.Ns L m
 st:gz O.Sd s'
section
variable{a:aG}{h:Heap}
theorem Ax(ok:O.Ok):∀b∈fz (O.R2::O.outer),O.base.get? b=ai:=λ b a=>by
 unfold fz at a;simp only[AJ,ok.R7]at a;rcases aI.mp a with rfl|a
 ·cases q:O.base.get? O.fL with
  |none=>rfl
  |some o=>exact absurd (aH (cq (ok.below.stays _ _ q)) ok.above) (bB _)
 ·exact (ok.below.frames.mem a).1
theorem rX(ok:O.Ok){b:aG}{o:Obj}(q:O.base.get? b=ah o):O.h₀.get? b=ah o/\b∉O.Se:=ok.SP b o (ok.below.stays b o q)
theorem F7(ok:O.Ok)(R:cS O Y Kp Jj s)(P:Pre s.heap (O.R2::O.outer) C a h):∀b o,O.base.get? b=ah o->h.get? b=ah o:=λ b o q=>by
 refine P.keep b o ?_ λ c=>by rw[Ax ok _ c]at q;exact nomatch q
 refine za (rX ok q) λ e d=>?_;exact R.old b o e d
theorem C9{K:gb}{h:Heap}{g:Array GenState}{d:Drawn}{t:Nat}{e:aG}{f:Obj}{Q:Bool->aQ->Prop}(j:K.In h)(b:Jk K C "Exception"=aj)(a1:h.get? e=ah f)(l:f.cls=.ref C)(q:Q aj ⟨h,g,d,t,os⟩):aW M A (excMatches (.ref e) (.ref C)) Q E ⟨h,g,d,t,os⟩:=by refine Classical.byContradiction λ k=>?_;obtain ⟨o,p,N,r,v,c,w,sub,u,n,x,k0,k1,k2,k3,s,a,i,m, -⟩:=kts_cls j b;exact k (wpAny_excMatches_sub_self i a1 l m q)
theorem IB(X:Xc G C)(Xx:Jk G.K C "Exception"=aj)(I:f_ O G d T)(D:Gd G O.base)(l:O.R2=O.env)(p:O.Se=[]){np p1 g f U S:gY}{e:Value}{s:aQ}{Q:Flow->aQ->Prop}(F:P_ O C e s)
 (i j:Nat) (hi:∀n,(T n)[i]? =ah (("GrammarError":Str),NK.glob)) (hj:∀n,(T n)[j]? =ah (("error":Str),NK.loc)) (q:∀u s',Rm O u s'->Q (.ret u) s')
 (he:bw (.Call (.Attribute (.Name "error" p1) "told" g) [] [] f) O.env=(do
  let ov <-bw (.Name "error" p1) O.env
  i1 g.atName
  gT (.Name "error" p1) "told" g f O.env ov 0 [] []))
 (hp:(g.endLine==f.line)=aj):
 aW (bn G.prog G.w) O.A (kW e O.env) (λ Z Rw=>aW (bn G.prog G.w) O.A (setFlight e ai) (λ Z RW=>aW (bn G.prog G.w) O.A (handleBy e O.env
  [.ExceptHandler (ah (.Name "GrammarError" np)) (ah "error") [.Return (ah (.Call (.Attribute (.Name "error" p1) "told" g) [] [] f)) U] S]) Q E RW) E Rw) E s:=by
 have hi:=I.at i hi;have hj:=I.at j hj;obtain ⟨ok,rfl, -, -, -⟩:=I;obtain ⟨a,Y,Kp,Jj,k,rfl,R,F,st⟩:=F;have J:∀{h:Heap} {fl:Value},y9 k.heap (O.R2::O.outer) C fl a h->∀b o,O.base.get? b=ah o->h.get? b=ah o:=λ F=>F7 ok R F.toPre;rw[l]at F;refine zS (by rw[<-l];exact ok.frames) (l▸ok.R7) F λ h1 F1=>k_ F1 ai λ h2 F2=>?_;refine b5 R.vars λ m hm hvs=>?_;have ek:=ok.loc j _ hj;have V:=J (l.symm▸F2);obtain ⟨oe,vs,Dd,oD,a1,a2,a3,a4,a5,a6,a7,a8,a9⟩:=id F2.exc;have N:(O.env.scope.kind==.class||(O.env.scope.kind==.module&&O.env.locals !=O.env.globals))=ao:=by rw[ok.kind];rfl
 refine wpAny_handleBy_cons (codeAny_handlers_test (oJ ok.kind (ok.glob i _ hi) (Jh (by rw[ok.globals];exact (D.top.keeps V).g) (mg_of ok.SA ok.top.g X.g) ?_))) (by intro q;cases q);refine C9 (D.SA.keeps V) Xx a1 a2 ?_;refine codeAny_handlers_suite_as (k_ F2 ai λ h3 M=>?_);refine nJ ek (M.slot.ns hm) (λ h4 A r=>?_) N;have y:O.env.locals∈O.fp++addrs Y.mu:=aJ _ (.head _);have nb:∀b o,O.base.get? b=ah o->b≠O.env.locals:=λ b o q e=>by
  refine za (rX ok q) λ q1 q2=>?_;rcases R.fresh _ y with h|h
  ·exact q2 (e▸h)
  ·rw[e,h]at q1;cases q1
 have B:∀b o,O.base.get? b=ah o->h4.get? b=ah o:=λ b o q=>(r.2 b (nb b o q)).trans (J (l.symm▸M) b o q);have K4:O.G.K.In h4:=D.SA.keeps B;have K:wN C a h4:=by
  obtain ⟨oe,vs,Dd,oD,a1,a2,a3,a4,a5,a6,a7,a8,a9⟩:=id M.exc;have n1:∀b,k.heap.get? b=ai->b≠O.env.locals:=λ b q e=>by refine ze (R.live _ y) λ o w=>?_;rw[<-e,q]at w;cases w
  refine ⟨oe,oD,⟨(r.2 a (n1 _ M.new)).trans a1,a2,by unfold notCls;rw[a3],?_⟩,a8,a9⟩;rw[a5];exact (r.2 Dd (n1 _ a6)).trans a7
 refine qA X.told λ fT nT qT YT t1 t2 t3=>?_;have W:=ok.depth;refine fx (id K.ex) λ oe oD I4 l1 l2=>?_;refine kI (lJ ?_);rw[he];refine aw (qw (gQ ok.kind ek A (v:=.ref a) (if_pos rfl) (aw (et ?_))) (by decide));unfold gT;refine aw (bE ?_);unfold Eo;rw[if_pos (by rfl)];refine xO K4 I4 X.get t1 t2 (by show (qy "told" oD).map _=_;rw[l2];rfl) ?_;show aW _ _ (d1 aj (.Name "error" p1) O.env g f>>=_) _ _ _;rw[(show d1 aj (.Name "error" p1) O.env g f=pure f by unfold d1;rw[hp];rfl)];refine aw (az (Ep (P:=O.G.K.In) rfl (my t3) ?_));show aW _ _ (c7 []>>=_) _ _ _;refine aw (az (aw (az (bE (aw (az (aw (az (az ⟨K4,?_⟩)))))))));refine jn (zt X YT K4 (D.top.nolimit.keeps B) (by show O.A.depth<1000;exact J7 W) K λ u h5 tk5 k5 z=>⟨u,rfl,?_⟩);obtain ⟨t,c,e,z1,z2,z3⟩:=z;refine wpAny_nameGoes ek (A.keeps k5) N λ h6 m6 hn6 x=>q u _ ⟨⟨t,c,e,z1,?_⟩,λ b o q=>?_,λ L m q=>?_,?_⟩
 ·refine (x.2 t λ e=>?_).trans z3;refine mN A λ o Z Z w Z=>?_;rw[<-e]at w;rw[show h4.get? t=ai from z2]at w;cases w
 ·exact (x.2 b (nb b o q)).trans (k5 b o (B b o q))
 ·have H:L≠O.env.locals:=λ e=>by
   refine mN q λ o Z Z w Z=>?_;rcases R.fresh _ y with h|h
   ·rw[p]at h;cases h
   ·rw[e,h]at w;cases w
  have n1:k.heap.Ns L m:=q.keeps λ b o e=>R.old b o e (by rw[p];exact ea);exact (((M.slot.ns n1).sameBut r H).keeps k5).sameBut x H
 ·exact ⟨st.1.trans R.st.1,st.2.1.trans R.st.2.1,st.2.2.trans R.st.2.2⟩
end
theorem HQ{c:Ctx}{Q:Flow->gY->aQ->Prop}{E:Value->gY->aQ->Prop}{l':List Stmt}:∀{l:List Stmt} {p:gY} {s:aQ},Sem.wp M c (eL l env) (λ f b a=>match f with|.next=>Sem.wp M c (eL l' env) Q E b a|f=>Q f b a) E p s->Sem.wp M c (eL (l++l') env) Q E p s:=by
 intro l;induction l with
 |nil=>intro p s h;have h:Sem.wp M c (pure Flow.next) _ _ p s:=h;rw[Sem.wp_pure']at h;exact h
 |cons st l d=>
  intro p s h;rw[arm_execs_cons,Sem.wp_bind']at h;rw[dt,arm_execs_cons,Sem.wp_bind'];refine Sem.wp_mono M c _ (λ f p' s' h'=>?_) (λ Z Z Z h'=>h') p s h;cases f with
  |next=>exact d h'
  |_=>rw[Sem.wp_pure']at h' ⊢;exact h'
theorem uy{Q:Flow->aQ->Prop}{l l':List Stmt}(h:aW M A (eL l env) (λ f a=>match f with|.next=>aW M A (eL l' env) Q E a|f=>Q f a) E s):aW M A (eL (l++l') env) Q E s:=λ c p b=>
 HQ (Sem.wp_mono M c _ (λ f p' s' h'=>by
  cases f with
  |next=>exact h' c p' b
  |_=>exact h') (λ Z Z Z h'=>h') p s (h c p b))
section
variable{f:aG}
theorem sF(L:wL G CG CR CS CA)(X:Xc G C)(B:Jk G.K C "Exception"=aj)(S:fC G "str" (.type "str"))(Yy:lu G L.build.f)(g:Gr)(hg:de g)(hr:0<g.rules.length){bz:List fD}(A:c2 g bz)(hl:bz.length<=2000)(h:Nat)(hm:h+1=bz.length)(h1:1<=h)
 (I:f_ O G (d+6) T) (D:Gd G O.base) (R:cS O Y Kp Jj s) {us:List Value} (hu:dn O.P Kp us [g.v CG CR,.nat h]) {Q:Value->aQ->Prop}
 (q:∀u s',(∃t c d,u=.ref t/\s'.heap.get? t=ah (dZ #[.int 0 c,.int 0 d] 0))->(∀b o,O.base.get? b=ah o->s'.heap.get? b=ah o)->(∀L m,s.heap.Ns L m->s'.heap.Ns L m)->gz s s'->Q u s'):
 aW (bn G.prog G.w) O.A (call (.ref L.Sb.f) us) Q E s:=by
 obtain ⟨ok,rfl,hd, -, -⟩:=I;obtain ⟨m,F⟩:=R.fr ok;have W:=ok.depth;have h3:=ok.units;rw[hd]at W h3;refine jn (C_ (d:=d+5) L.Sb.y [g.v CG CR,.nat h] [] rfl ok.below F ok.frames ok.R7 ok.Tw ok.SA ok.top ok.hand (aH ‹_› (by decide)) (‹_›)
  (λ b o e=>⟨(R.kp b o e).1,ea⟩) R.Vd (λ p hp=>nomatch hp) bL (λ b i=>nomatch i) hu ?_)
 intro K y k H r z J j q1 U q3 q4 q5 q6 V q8 q9 Xq s' R';have v:f_ K O.G (d+5) (mO (bG (top 38))):=⟨y,k,H,let ⟨n,e⟩:=r;⟨λ Z=>n,e⟩,j⟩;have i:=oq (Ex:=P_ K C) (Q:=λ Z Z=>False) (Y:=⟨[g.v CG CR,.nat h].map ah++bv ((bG (top 38)).names.length-2) ai,[]⟩) L.B L.build g h v rfl rfl (xW L.B X S Yy g hg hr A hl h hm h1 v);have i:=i _ _ _ R';rw[k]at i;refine kI (wpAny_Try_except (aY i (λ f x w=>by obtain ⟨b,Y',K',l,R',hf,hq⟩:=w;exact hq.elim) λ e x hF=>?_));refine IB X B v (U▸D) q4 q6 hF 5 2 (λ Z=>rfl) (λ Z=>rfl) (λ u s3 a=>⟨u,rfl,?_⟩) rfl rfl;obtain ⟨a1,P,M,N⟩:=a;rw[U]at P;rw[q5]at M;simp only[V]at N;exact q u s3 a1 P M N
theorem uG{f:Value}{args:List Expr}{pos:gY}{i:Value->aQ->Prop}{Ex:Value->aQ->Prop}(ok:O.Ok)(hk:nz O.G f)(d:(cO pos (bk args O.env)).any (·.1)=ao)
 (h:XL O Ex (c7 (cO pos (bk args O.env))) (λ vs g=>∀Kp Jj s us,cS O g Kp Jj s->dn O.P Kp us vs->aW (bn O.G.prog O.G.w) O.A (call f us) i Ex s) Y):
 ∀Kp Jj s,cS O Y Kp Jj s->aW (bn O.G.prog O.G.w) O.A (callWith pos f [] (cO pos (bk args O.env)) []) i Ex s:=λ Kp Jj s R=>by
 refine Ep (P:=O.G.K.In) (by rw[d];rfl) hk ?_;have main:aW (bn O.G.prog O.G.w) O.A (c7 (cO pos (bk args O.env))) (λ vs c=>O.G.K.In c.heap/\aW (bn O.G.prog O.G.w) O.A (call f ([]++vs) []) i Ex c) Ex s:=
  h.Rr R λ vs c ws g Kk l₁ j o h₁=>⟨j.SA ok,h₁ Kk Jj c vs j o⟩
 skip;cases n:cO pos (bk args O.env)with
 |nil=>rw[n]at main;show aW _ _ (c7 []>>=_) _ _ _;refine aw (aY main (λ vs c m=>?_) λ Z Z e=>e);exact aw (az (bE (aw (az (aw (az (az m)))))))
 |cons a l=>
  obtain ⟨b,x⟩:=a;rw[n]at main d;have k:b=ao:=by simpa using (zi.mp d).1
  subst k;show aW _ _ (c7 ((ao,x)::l)>>=_) _ _ _;refine aw (aY main (λ vs c m=>?_) λ Z Z e=>e);exact aw (az (bE (aw (az (aw (az (az m)))))))
noncomputable def uf:Stmt:=sub (top 39) 19
theorem z8:cA (top 39)=(cA (top 39)).dropLast++[uf]:=by rfl
theorem BU(L:wL G CG CR CS CA)(Yy:lu G L.build.f)(g:Gr)(j:de g)(i:0<g.rules.length){bz:List fD}(A:c2 g bz)(e:bz.length<=2000)(l:1<=bz.length)(I:f_ O G (d+6) (mO (bG (top 39))))
 (a:Y.vals[7]? =ah (ah (g.v CG CR))) (c:Y.vals[23]? =ah (ah (.nat bz.length))) (b:Y.vals[25]? =ah (ah (.nat bz.length))):XF O dP (gg uf O.env) (λ f Z=>f=ah (ah (.bool aj))) Y:=by
 refine dF<|yj (op:=.Eq) ?_ rfl;refine cg I 39 L.Sb<|an<|nl I 7 a<|Mine.a1<|nl I 25 b<|sp I Y.mu (zE (d:=d) (J:=[]) L.B L.build Yy L.Sb g j i A e l) (aT _) rfl λ v J' h=>za h λ k m=>?_;subst k;subst m;refine mh<|tq<|nl I 25 b<|nl I 23 c<|zV ⟨_,rfl,iD (beq_self_eq_true _)<|nl I 23 c<|zV ?_⟩;show ah (ah (V.bool _))=_;simp only[beq_self_eq_true]
theorem E9(L:wL G CG CR CS CA)(X:Xc G C)(w:Jk G.K C "Exception"=aj)(S:fC G "str" (.type "str"))(Yy:lu G L.build.f)(g:Gr)(K:de g)(V:0<g.rules.length){bz:List fD}(A:c2 g bz)(U:bz.length<=2000)(f:Nat)(j:f+1=bz.length)(N:1<=f)
 (I:f_ O G (d+6) (mO (bG (top 39)))) (D:Gd G O.base) (R:cS O Y Kp Jj s)
 (p:Y.vals[7]? =ah (ah (g.v CG CR))) (hc:Y.vals[23]? =ah (ah (.nat bz.length))) (h:Y.vals[25]? =ah (ah (.nat f))) {Q:Flow->aQ->Prop} (q:∀s',(∀b o,O.base.get? b=ah o->s'.heap.get? b=ah o)->gz O.Sd s'->Q (.ret (.bool aj)) s'):
 aW (bn G.prog G.w) O.A (gg uf O.env) Q dP s:=by
 have ok:=I.ok;refine lJ (wpAny_Compare1 (op:=.Eq) (aY (Q:=λ u s'=>(∃t c d,u=.ref t/\s'.heap.get? t=ah (dZ #[.int 0 c,.int 0 d] 0))/\(∀b o,O.base.get? b=ah o->s'.heap.get? b=ah o)/\gz O.Sd s'/\∃m a b,s'.heap.Ns O.env.locals m/\m "count"=ah (.int bz.length a)/\m "most"=ah (.int f b)) ?_ (λ ua s' r=>?_) λ Z Z e=>e) rfl)
 ·refine za (show O.G=G/\True from ⟨I.g,trivial⟩) λ hG hx=>?_;subst hG;refine tI (tL 39 ok (I.at 39 λ Z=>rfl) L.Sb.p.g rfl R (uG ok (my L.Sb.p.k) rfl (an<|nl I 7 p<|Mine.a1<|nl I 25 h ?_) Kp Jj s R));intro Kp Jj s us R r;refine sF L X w S Yy g K V A U f j N I D R r λ u s' v b n st=>⟨v,b,⟨st.1.trans R.st.1,st.2.1.trans R.st.2.1,st.2.2.trans R.st.2.2⟩,?_⟩;refine b5 R.vars λ m j i=>?_;refine b5 (i 23 "count" _ _ (I.at 23 λ Z=>rfl) hc) λ u1 e1 F=>?_;refine b5 (i 25 "most" _ _ (I.at 25 λ Z=>rfl) h) λ u2 T r2=>?_;cases F;cases r2;exact ⟨m,_,_,n _ _ j,e1,T⟩
 ·refine Ew r λ l J st m x y B W E=>?_;obtain ⟨t,c,e,rfl,H⟩:=l;refine wpAny_IfExp (nK (qw (gQ ok.kind (ok.loc 25 "most" (I.at 25 λ Z=>rfl)) B E (qw (gQ ok.kind (ok.loc 23 "count" (I.at 23 λ Z=>rfl)) B W (eq_int (fE ?_))) rfl)) rfl) rfl);rw[show (((f:Nat):Int)==((bz.length:Nat):Int))=ao from beq_eq_false_iff_ne.mpr (J6 j)];refine yR λ u h' tk k z=>?_;obtain ⟨t',c',e',rfl,z1,M⟩:=z;have rs:∀{c e:Jm},dn O.P (λ b o=>h'.get? b=ah o) [.int 0 c,.int 0 e] [.nat 0,.nat 0]:=.cons (.int 0 _) (.cons (.int 0 _) .nil);refine (Qr (s:={s' with heap:=h',toks:=tk}) (n:=8) (S:=λ b o=>h'.get? b=ah o) (P:=O.P) (A:=O.A) (λ Z Z e=>e) (k _ _ H) M rs rs (nj [0,0]) (nj [0,0]) (K1 ok.units)).1 _ _ dP _ ?_
  rw[eN];exact q _ (λ b o e=>k b o (J b o e)) st
end
inductive uS(K:gb)(f:aG)(st:Stmt)(name qual:Str)(d:Option (List V)):Prop
 |mk (dV kV doc pm Up ct oc:Value) (an od:Option aG) (Wz:Array (Option Value)) (hl:K.lookup f=ah ⟨oc,od,.func (HA name qual (cP st) (cA st) (bG st) dV kV doc pm an Up ct),Wz⟩) (hc:codeIn K Up qual=aj) (hd:xU K dV=ah d)
  (keep:m4 K (.ref f)=aj) (typ:lO K (.ref f)=ah (.type "function"))
theorem uS.keep{K:gb}{f:aG}{st:Stmt}{d:Option (List V)}(A:uS K f st name qual d):m4 K (.ref f)=aj:=by cases A;assumption
theorem uS.typ{K:gb}{f:aG}{st:Stmt}{d:Option (List V)}(A:uS K f st name qual d):lO K (.ref f)=ah (.type "function"):=by cases A;assumption
theorem FM{fd:Et}{name qual:Str}{a:eM}{body:List Stmt}{scope:iH}(f:fd.name=name)(d:fd.qualname=qual)(i:fd.params=a)(e:fd.body=.stmts body)(h:fd.scope=scope)(b:fd.globals=b8)(g:fd.closure=[])(c:fd.builtins=ff):
 fd=HA name qual a body scope fd.defaults fd.kwdefaults fd.doc fd.pyModule fd.annotations fd.code fd.closureTuple:=by
 cases fd;subst f;subst d;subst i;subst e;subst h;subst b;subst g;subst c;rfl
theorem vM{v:Value}{a:aG}(h:yu v=ah a):v=.ref a:=by cases v<;>cases h;rfl
theorem EL{d:Data}{i:Array Value}(h:JP d=ah i):∃n,d=.seq i n:=by cases d<;>cases h;exact ⟨_,rfl⟩
theorem FN{d:Data}{f:Et}(h:NB d=ah f):d=.func f:=by cases d<;>cases h;rfl
theorem Rb{b:Bool}{x:Option α}{y:α}(h:(if b=aj then x else ai)=ah y):b=aj/\x=ah y:=by cases b with
 |true=>exact ⟨rfl,h⟩
 |false=>cases h
theorem iK{K:gb}{v:Option (Option Value)}{st:Stmt}{d:Option (List V)}(h:ph K v=wr st name qual d):∃f,v=ah (ah (.ref f))/\uS K f st name qual d:=by refine b5 (dg.mp h) λ a g h=>b5 (dg.mp g) λ u k g=>b5 (dg.mp h) λ o j h=>b5 (bM.mp h) λ fd i y=>?_;cases o with|mk oc od da sl=>cases FN i;have b:=dk.mp (congrArg (λ x=>x.2.2.2.2.2.2.2.2.2) y);have c:=dk.mp b.1;have e:=FM (congrArg (λ x=>x.1) y) (congrArg (λ x=>x.2.1) y) (congrArg (λ x=>x.2.2.1) y) (congrArg (λ x=>x.2.2.2.1) y) (congrArg (λ x=>x.2.2.2.2.1) y) (congrArg (λ x=>x.2.2.2.2.2.1) y) (congrArg (λ x=>x.2.2.2.2.2.2.1) y) (congrArg (λ x=>x.2.2.2.2.2.2.2.1) y);exact ⟨a,by rw[kX.mp k,vM g],⟨_,_,_,_,_,_,_,_,_,_,(show fd=_ from e)▸j,(show fd.qualname=qual from congrArg (λ x=>x.2.1) y)▸c.1,congrArg (λ x=>x.2.2.2.2.2.2.2.2.1) y,c.2,beq_iff_eq.mp b.2⟩⟩
theorem Df{K:gb}{v:Value}{d:Option (List V)}(h:xU K v=ah d):(v=.none/\d=ai)\/∃l,qJ K v=ah l/\ah l=d:=by
 unfold xU at h;by_cases e:v=.none
 ·rw[if_pos e]at h;exact .inl ⟨e,(Option.some.inj h).symm⟩
 ·rw[if_neg e]at h;exact .inr (bM.mp h)
noncomputable def xb(sc:iH)(pn:List Str):Bool:=!sc.isCoroutine&&!sc.isGenerator&&decide (sc.kind=.function)&&decide (sc.names.map (·.1)).Nodup&&decide ((sc.names.take pn.length).map (·.1)=pn)&&(sc.names.take pn.length).all (λ y=>y.2==.local||y.2==.cell)
theorem yp(h:xb sc pn=aj):sc.isCoroutine=ao/\sc.isGenerator=ao/\sc.kind=.function/\(sc.names.map (·.1)).Nodup/\(sc.names.take pn.length).map (·.1)=pn/\(sc.names.take pn.length).all (λ y=>y.2==.local||y.2==.cell)=aj:=by unfold xb at h;simp only[cZ,pO,decide_eq_true_eq]at h;refine za h λ a b=>?_;obtain ⟨⟨⟨⟨e,c⟩,g⟩,d⟩,f⟩:=a;exact ⟨e,c,g,d,f,b⟩
noncomputable def sJ:Nat->(List Value->Prop)->Prop
 |0,P=>P []
 |n+1,P=>∀a,sJ n λ l=>P (a::l)
theorem sJ.at{n:Nat}{P:List Value->Prop}(h:sJ n P){us:List Value}(e:us.length=n):P us:=by
 induction n generalizing P us with
 |zero=>simp only[ic.mp e];exact h
 |succ n b=>cases us with
  |nil=>cases e
  |cons a us=>exact b (h a) (Nat.succ.inj e)
section
variable{f:aG}{st:Stmt}
theorem uS.facts(A:uS G.K f st name qual ai)(r:xb (bG st) pn=aj)
 (n:∀kV d g c i an,sJ pn.length λ us=>Es (HA name qual (cP st) (cA st) (bG st) .none kV d g an c i) ⟨us,[]⟩=pure (pn.zip us)):cv G f name qual (cP st) (cA st) (bG st) pn []:=by
 cases A with
 |mk dV kV d g c i m an od j o k q a b=>
  have a:=yp r;cases (Df q).elim (λ h=>h.1) λ h=>by refine b5 h λ l Z e=>?_;cases e
  refine ⟨⟨_,kV,d,g,c,i,m,an,od,j,o,k,[],λ Z=>.nil,rfl,λ us s X p=>.of_eq ?_⟩,a.1,a.2.1,a.2.2.1,a.2.2.2.1,a.2.2.2.2.1,a.2.2.2.2.2⟩;rw[cJ];exact (n _ _ _ _ _ _).at p
noncomputable def qZ:V->Bool:=vB aj aj aj aj
theorem H1{P:bS}(h:qZ (H2 u)=aj):VR P S u (H2 u):=by cases u<;>first|exact .none|exact .bool _|exact .int _ _|exact .str _ _|cases h
theorem tP{P:bS}:∀{us:List Value} {vs:List V},us.map H2=vs->vs.all qZ=aj->dn P S us vs
 |[],_,e,_=>by subst e;exact .nil
 |u::us,_,e,h=>by subst e;simp only[be,u6,cZ]at h;exact .cons (H1 h.1) (tP rfl h.2)
theorem vh{K:gb}{l:List V}(h:qJ K u=ah l):∃t a n,u=.ref t/\K.lookup t=ah (dZ a n)/\a.toList.map H2=l:=by refine b5 (dg.mp h) λ t j h=>b5 (dg.mp h) λ o d h=>za (Rb h) λ c h=>b5 (bM.mp h) λ i hi e=>?_;cases o with|mk oc od da sl=>simp only[cZ,beq_iff_eq,Option.isNone_iff_eq_none,qt]at c;refine za c λ c f=>za c λ k b=>ze (EL hi) λ n g=>?_;subst k b g;cases sl;subst f;exact ⟨t,i,n,vM j,d,e⟩
noncomputable def IW:{k:Et->List Value->Option (Array Value)->Sem (List (Str×Value))//∀fd us,Es fd ⟨us,[]⟩=seqItems? fd.defaults>>=k fd us}:=⟨_,λ Z Z=>rfl⟩
theorem uS.SQ{ds:List V}(A:uS G.K f st name qual (ah ds))(B:ds.all qZ=aj)(j:Nat)(r:j<=ds.length)(E:xb (bG st) pn=aj)
 (w:∀T kV g k d l an,sJ ds.length λ c=>sJ (pn.length-j) λ us=>IW.1 (HA name qual (cP st) (cA st) (bG st) (.ref T) kV g k an d l) us (ah c.toArray)=pure (pn.zip (us++c.drop (ds.length-j)))):
 cv G f name qual (cP st) (cA st) (bG st) pn (ds.drop (ds.length-j)):=by
 cases A with
 |mk dV kV g k d l v an od o z u D a b=>
  have a:=yp E;have y:qJ G.K dV=ah ds:=by refine (Df D).elim (λ h=>by cases h.2) λ h=>b5 h λ x F e=>?_;cases e;exact F
  refine kw (vh y) λ t c n m C e=>?_;subst m;have p:c.toList.length=ds.length:=by simp only[<-e,au]
  have H:∀S,dn G.w.params S (c.toList.drop (ds.length-j)) (ds.drop (ds.length-j)):=λ S=>(tP (P:=G.w.params) (S:=S) e B).drop _;have i:(c.toList.drop (ds.length-j)).length=j:=by (refine fK.trans ?_;rw[p]);exact QR r
  refine ⟨⟨_,kV,g,k,d,l,v,an,od,o,z,u,_,H,by (refine i.trans ?_;rw[fK]);exact QQ r,λ us s X q=>?_⟩,a.1,a.2.1,a.2.2.1,a.2.2.2.1,a.2.2.2.2.1,a.2.2.2.2.2⟩;exact .of_defaults rfl (X _ _ C) rfl (IW.2 _ us) (((w t kV g k d l an).at p).at (Nat.eq_sub_of_add_eq (by rw[i]at q;exact q)))
end
theorem IL{K:gb}(e:vQ K=l0)(i:Nat):(Ho.map λ d=>ph K (mM K b8 d)).getD i ai=l0.1.getD i ai:=congrArg (λ x:F_=>x.1.getD i ai) e
theorem Fs{K:gb}(e:vQ K=l0)(i:Nat):(Cu.map λ m=>ph K (hP K (.ref (dH K m.1)) m.2)).getD i ai=l0.2.1.getD i ai:=congrArg (λ x:F_=>x.2.1.getD i ai) e
theorem FZ{K:gb}(e:vQ K=l0)(i:Nat):(Dx K).getD i ao=l0.2.2.1.getD i ao:=congrArg (λ x:F_=>x.2.2.1.getD i ao) e
section
variable{st:Stmt}{ds:List V}
theorem r9(h:ph G.K (mM G.K b8 x)=wr st x qual ai)(i:xb (bG st) pn=aj)
 (g:∀kV c d b e an,sJ pn.length λ us=>Es (HA x qual (cP st) (cA st) (bG st) .none kV c d an b e) ⟨us,[]⟩=pure (pn.zip us)):Fn G x qual st pn []:=
 by refine b5 (iK h) λ f a A=>?_;exact ⟨f,a,A.keep,A.facts i g⟩
theorem AS(d:Eh G.K C x=aj)(h:ph G.K (hP G.K (.ref C) x)=wr st x qual ai)(j:xb (bG st) pn=aj)(i:∀kV c e b g an,sJ pn.length λ us=>Es (HA x qual (cP st) (cA st) (bG st) .none kV c e an b g) ⟨us,[]⟩=pure (pn.zip us)):Me G C x qual st pn []:=
 by refine b5 (iK h) λ f a A=>?_;exact ⟨f,by unfold rp;simp only[d,a,A.typ,A.keep,beq_self_eq_true,beq_self_eq_true];rfl,A.facts j i⟩
noncomputable abbrev N6(x qual:Str)(st:Stmt)(pn:List Str)(n j:Nat):Prop:=∀T kV doc pm Up ct an,sJ n λ Un=>sJ (pn.length-j) λ us=>IW.1 (HA x qual (cP st) (cA st) (bG st) (.ref T) kV doc pm an Up ct) us (ah Un.toArray)=pure (pn.zip (us++Un.drop (n-j)))
theorem P1(h:ph G.K (mM G.K b8 x)=wr st x qual (ah ds))(b:ds.all qZ=aj)(j:Nat)(c:j<=ds.length)(d:xb (bG st) pn=aj)(e:N6 x qual st pn ds.length j):Fn G x qual st pn (ds.drop (ds.length-j)):=
 by refine b5 (iK h) λ f a A=>?_;exact ⟨f,a,A.keep,A.SQ b j c d e⟩
end
theorem E_{v:Option (Option Value)}{a b:aG}(h:v=ah (ah (.ref a)))(h':v=ah (ah (.ref b))):a=b:=by cases h.symm.trans h';rfl
theorem CV{K:gb}(h:FJ K x≠.none):mM K b8 x=ah (ah (FJ K x)):=by
 unfold FJ at h ⊢;cases e:(mM K b8 x).join with
 |none=>rw[e]at h;exact absurd rfl h
 |some v=>exact kX.mp e
theorem ol{a b:Bool}(h:(a&&b)=aj):a=aj/\b=aj:=dk.mp h
theorem xR[BEq α][LawfulBEq α]{a b:α}(h:(a==b)=aj):a=b:=beq_iff_eq.mp h
structure DU(G:GC):Prop where
 ex:∃CG CR CS CA C,∃L:wL G CG CR CS CA,Xc G C/\lu G L.build.f/\fC G "str" (.type "str")/\Jk G.K C "Exception"=aj/\∃f,mM G.K b8 "law"=ah (ah (.ref f))/\cv G f "law" "law" (cP (top 39)) (cA (top 39)) (bG (top 39)) ["script"] []
theorem Hm{l:List Str}(h:qJ G.K (FJ G.K x)=ah (l.map .str))(p:(l.map V.str).all qZ=aj):Gl G x (.tup (l.map .str)):=
 by refine kw (vh h) λ Z Z n e lo v=>?_;exact ⟨_,CV ((bA e)▸λ h=>nomatch h),by rw[e];exact .tup (n:=n) lo (tP v p)⟩
theorem IE{i:Int}(h:H2 (FJ G.K x)=.int i):Gl G x (.int i):=by
 refine ⟨_,CV λ n=>?_,?_⟩
 ·rw[n]at h;cases h
 ·generalize FJ G.K x=u at h;cases u<;>first|(cases h;exact .int _ _)|cases h
theorem Az(e:vQ G.K=l0):DU G:=by
 have D:=IL e;have N:=Fs e;have B:=FZ e;have q:=ol (B 9);have m:=ol (B 10);have g:=ol (B 11);have d:=ol (B 12);have h:=ol (B 13);have j:=ol (B 14);have n:=ol (B 15);have k:=ol (B 16);have f:=ol (B 17);have c:=j.2;have b:=f.2;have u:=cc.mp (B 21);have p:Cmn G (dH G.K "Grammar") (dH G.K "Rule"):=⟨⟨(cc.mp (B 18)),(cc.mp (B 19))⟩,(⟨xR (B 0),by kernel_rfl,by decide,iJ _ _⟩),(⟨xR (B 1),by kernel_rfl,by decide,gV _ _⟩),(⟨xR (B 2),by kernel_rfl,by decide,gV _ _⟩),(⟨xR (B 3),by kernel_rfl,by decide,gV _ _⟩),(⟨xR (B 4),by kernel_rfl,by decide,iJ _ _⟩),(⟨xR (B 5),by kernel_rfl,by decide,gV _ _⟩),(AS c (N 0) (by kernel_rfl) λ Z Z Z Z Z Z Z=>rfl),(AS c (N 1) (by kernel_rfl) λ Z Z Z Z Z Z Z Z=>rfl),(AS c (N 2) (by kernel_rfl) λ Z Z Z Z Z Z Z Z=>rfl),(AS c (N 3) (by kernel_rfl) λ Z Z Z Z Z Z Z Z=>rfl),(AS c (N 4) (by kernel_rfl) λ Z Z Z Z Z Z Z Z Z=>rfl),(AS c (N 5) (by kernel_rfl) λ Z Z Z Z Z Z Z Z=>rfl),(AS c (N 6) (by kernel_rfl) λ Z Z Z Z Z Z Z Z=>rfl),(AS c (N 7) (by kernel_rfl) λ Z Z Z Z Z Z Z Z=>rfl),(r9 (D 5) (by kernel_rfl) λ Z Z Z Z Z Z Z Z=>rfl),(r9 (D 6) (by kernel_rfl) λ Z Z Z Z Z Z Z=>rfl),(r9 (D 7) (by kernel_rfl) λ Z Z Z Z Z Z Z Z Z=>rfl)⟩;have r:D3 G (dH G.K "Grammar") (dH G.K "Rule") (dH G.K "CanonicalState") (dH G.K "CanonicalAutomaton"):=⟨p,⟨(cc.mp (B 20)),u⟩,(cc.mp (B 22)),(cc.mp (B 23)),(r9 (D 8) (by kernel_rfl) λ Z Z Z Z Z Z Z=>rfl),(r9 (D 9) (by kernel_rfl) λ Z Z Z Z Z Z Z Z Z Z=>rfl),(r9 (D 10) (by kernel_rfl) λ Z Z Z Z Z Z Z Z=>rfl),(r9 (D 11) (by kernel_rfl) λ Z Z Z Z Z Z Z=>rfl),(AS k.2 (N 8) (by kernel_rfl) λ Z Z Z Z Z Z Z Z Z=>rfl),
  let ⟨_,i,Yy⟩:=iK (N 14)
  ⟨_,xR g.1,g.2,k.1,i,Yy.typ,Yy.facts (by kernel_rfl) λ Z Z Z Z Z Z Z Z Z Z=>rfl⟩,
  let ⟨_,i,Yy⟩:=iK (N 15)
  ⟨_,xR d.1,d.2,f.1,i,Yy.typ,Yy.facts (by kernel_rfl) λ Z Z Z Z Z Z Z Z Z=>rfl⟩⟩
 have s:NW G (dH G.K "Grammar") (dH G.K "Rule"):=⟨p,(cc.mp (B 24)),(cc.mp (B 25)),
  let ⟨_,i,Yy⟩:=iK (N 12)
  ⟨_,xR m.1,m.2,n.1,i,Yy.typ,Yy.SQ rfl 3 (by decide) (by kernel_rfl) λ Z Z Z Z Z Z Z Z Z Z Z Z Z Z Z Z=>rfl⟩,
  let ⟨_,i,Yy⟩:=iK (N 13)
  ⟨_,xR q.1,q.2,j.1,i,Yy.typ,Yy.facts (by kernel_rfl) λ Z Z Z Z Z Z Z Z Z Z Z Z Z=>rfl⟩,
  r9 (D 3) (by kernel_rfl) λ Z Z Z Z Z Z Z Z=>rfl,Hm (l:=M0) (congrArg (λ x:F_=>x.2.2.2.2.1) e) rfl,IE (congrArg (λ x:F_=>x.2.2.2.2.2) e)⟩
 have t:Xc G (dH G.K "GrammarError"):=⟨B 26,xR (B 27),xR h.1,h.2,
  let ⟨_,i,Yy⟩:=iK (N 16)
  ⟨_,_,_,Yy.SQ rfl 1 (by decide) (by kernel_rfl) λ Z Z Z Z Z Z Z Z Z Z=>rfl,i,Yy.typ⟩,(⟨xR (B 8),by kernel_rfl,by decide,gV _ _⟩),B 28,B 29,B 30,
  let ⟨_,i,Yy⟩:=iK (N 17)
  ⟨_,_,_,Yy.facts (by kernel_rfl) λ Z Z Z Z Z Z Z=>rfl,i,Yy.typ,Yy.keep⟩,B 31⟩
 have F:Fn G "law" "law" (top 39) ["script"] []:=r9 (D 24) (by kernel_rfl) λ Z Z Z Z Z Z Z=>rfl;have o:Fn G "build_canonical" "build_canonical" (top 25) ["grammar","most"] [.nat 2000]:=P1 (D 12) rfl 1 (by decide) (by kernel_rfl) λ Z Z Z Z Z Z Z Z Z=>rfl;refine b5 (iK (D 12)) λ Z a Yy=>?_;exact ⟨⟨_,_,_,_,_,⟨r,s,(⟨xR (B 6),by kernel_rfl,by decide,gV _ _⟩),Hm (l:=yE) (congrArg (λ x:F_=>x.2.2.2.1) e) rfl,(r9 (D 0) (by kernel_rfl) λ Z Z Z Z Z Z Z=>rfl),(P1 (D 1) rfl 0 (by decide) (by kernel_rfl) λ Z Z Z Z Z Z Z Z Z Z Z=>rfl),(r9 (D 2) (by kernel_rfl) λ Z Z Z Z Z Z Z Z=>rfl),(P1 (D 4) rfl 1 (by decide) (by kernel_rfl) λ Z Z Z Z Z Z Z Z Z=>rfl),o,(r9 (D 13) (by kernel_rfl) λ Z Z Z Z Z Z Z=>rfl),(r9 (D 14) (by kernel_rfl) λ Z Z Z Z Z Z Z Z=>rfl),(r9 (D 15) (by kernel_rfl) λ Z Z Z Z Z Z Z Z Z=>rfl),(r9 (D 16) (by kernel_rfl) λ Z Z Z Z Z Z Z=>rfl),(r9 (D 17) (by kernel_rfl) λ Z Z Z Z Z Z Z Z Z Z=>rfl),(r9 (D 18) (by kernel_rfl) λ Z Z Z Z Z Z Z=>rfl),(r9 (D 19) (by kernel_rfl) λ Z Z Z Z Z Z Z Z Z Z=>rfl),(r9 (D 20) (by kernel_rfl) λ Z Z Z Z Z Z Z Z=>rfl),(r9 (D 21) (by kernel_rfl) λ Z Z Z Z Z Z Z Z Z=>rfl),(r9 (D 22) (by kernel_rfl) λ Z Z Z Z Z Z Z Z Z Z Z=>rfl),(r9 (D 23) (by kernel_rfl) λ Z Z Z Z Z Z Z Z=>rfl),(AS b (N 9) (by kernel_rfl) λ Z Z Z Z Z Z Z=>rfl),(AS b (N 10) (by kernel_rfl) λ Z Z Z Z Z Z Z Z Z=>rfl),(AS b (N 11) (by kernel_rfl) λ Z Z Z Z Z Z Z Z Z=>rfl)⟩,
  t,(show lu G o.f from (E_ a o.p.g)▸(Yy.SQ rfl 0 (by decide) (by kernel_rfl) (λ Z Z Z Z Z Z Z Z Z Z=>rfl):lu G _)),(⟨xR (B 7),by kernel_rfl,by decide,gV _ _⟩),B 32,_,F.p.g,F.y⟩⟩
theorem sN{R:WRecords}{P:bS}{h:Heap}:∀{xs:List WData} {us:List Value},Jl P h us xs->WShape.hasItems R xs .int=aj->∃is:List Int,xs=is.map .int/\∀S:b9,dn P S us (is.map .int)
 |[],_,w,_=>by cases w;exact ⟨[],rfl,λ Z=>.nil⟩
 |x::xs,_,w,h=>by
  cases w with
  |cons c f=>refine za (dk.mp (show (WShape.has R x .int&&WShape.hasItems R xs .int)=aj by simp only[<-h,WShape.hasItems])) λ e d=>?_;refine ze (hasW_int e) λ i a=>?_;subst a;refine b5 (sN f d) λ is b k=>?_;subst b;cases c;exact ⟨i::is,rfl,λ S=>.cons (.int _ _) (k S)⟩
noncomputable def jZ:RowW:=PySem.Challenge.rw_nn0366_01.row.toRowW
theorem Ab{e:Str->Option aG}{d:ExcName->Option Value}{args:List WData}{c:aQ}(f:c.gens=#[])(k:∀b o,c.heap.get? b=ah o->s'.heap.get? b=ah o)(st:gz c s'):GoodWG jZ.claim e d args c (.ok (.ret (.bool aj))) s':=by refine ⟨.inl ⟨.bool aj,.bool aj,[],rfl,λ Z=>rfl,.bool aj,?_,λ Z=>⟨bL,λ a h=>nomatch h⟩⟩,.of_keep k,st.2.2,.of_eq (st.1.trans f)⟩;show (WShape.has jZ.records (.bool aj) jZ.returns&&jZ.post.holds jZ.records {args:=args,res:=ah (.bool aj),after:=args})=aj;with_unfolding_all rfl
theorem CC{h:Heap}{args:List WData}{c:List Value}{P:bS}(e:jZ.claim.pre args=aj)(l:Jl P h c args):∃a:List Int,a.length<=63/\dn P (λ b o=>h.get? b=ah o) c [.list (a.map .int)]:=by
 refine za (pre_splitW e) λ u p=>?_;refine fx (hasAllW_cons u) λ d r g s t=>?_;subst g;obtain rfl:=hasAllW_nil t;refine b5 (hasW_list s) λ xs f v=>?_;subst f;cases l with
 |cons m w=>
  cases w;cases m with
  |list n q=>refine b5 (sN q v) λ is j k=>?_;subst j;refine ⟨is,?_,.cons (.list n (k _)) .nil⟩;have i:=condW_of (X:=!decide ((63:Int)<((is.map WData.int).length:Int))) ((holds_andW p).1) (by rfl);rw[au]at i;simp at i;exact QP i
theorem Nh{w:uY}{r c:aQ}{mg mb:Str->Option Value}{K:gb}(X:K.In c.heap)(e:vQ K=l0)(T:Top q1 (looseW q1 xF) (ExcName.means r.heap) mg mb c.heap){a:aG}(N:mg "law"=ah (.ref a))(hg:c.gens=#[])
 {args:List WData} {l:List Value} (B:jZ.claim.pre args=aj) (J:Jl w.params c.heap l args) {cl:Str->Option aG} {i:ExcName->Option Value}:
 gi (bn PySem.Challenge.pw_nn0366_01 w) callerA (.call (.ref a) ⟨l,[]⟩) (GoodWG jZ.claim cl i args c) c:=by
 refine ze (show ∃G:GC,G=⟨PySem.Challenge.pw_nn0366_01,w,K,q1,looseW q1 xF,ExcName.means r.heap,mg,mb⟩from ⟨_,rfl⟩) λ G j=>?_;have e1:PySem.Challenge.pw_nn0366_01=G.prog:=by rw[j]
 have H:w=G.w:=by rw[j]
 have E:G.K.In c.heap:=by rw[j];exact X
 have R:Top G.p G.loose G.Tg G.mg G.mb c.heap:=by rw[j];exact T
 have o1:vQ G.K=l0:=by rw[j];exact e
 have N:G.mg "law"=ah (.ref a):=by rw[j];exact N
 have J:Jl G.w.params c.heap l args:=H▸J;rw[e1,H];clear j e1 H X T e;obtain ⟨CG,CR,CS,CA,C,L,Xc,Yy,S,Xx,f,hf,YL⟩:=(Az o1).ex;obtain rfl:f=a:=by have:=mg_of E R.g hf;rw[N]at this;cases this;rfl
 refine b5 (CC B J) λ g hs M=>?_;refine Da (d:=6) YL [.list (g.map .int)] [] rfl (base:=c.heap) (outer:=[]) (S₀:=λ b o=>c.heap.get? b=ah o) (below_caller c.heap) E R rfl (by decide) (by decide) (λ b o e=>⟨e,ea⟩) E (λ p hp=>nomatch hp) bL M ?_;intro O ok j hd W t Yv F q1' q2 q3 q4 q5 q6 q7 q8 q9 Xq s' R0;have I:f_ O G 6 (mO (bG (top 39))):=⟨ok,j,hd,let ⟨n,e⟩:=W;⟨λ Z=>n,e⟩,F⟩;have P:=PE (ly g);have hm:=Cz (d:=1) L g hs P I t _ _ _ R0;rw[j]at hm;rw[z8];refine uy (aY hm ?_ λ Z Z h=>h.elim);intro fl s2 V;obtain ⟨b,Y',WT,le,R',Y,bz,A,hl,z,rfl,h7,s,v,m⟩:=V;cases Y;show aW _ _ (eL [uf] O.env) _ _ _;have D:Gd G O.base:=by simp only[q2];exact ⟨E,R⟩
 have hr:0<(bZ (gr (ly g))).rules.length:=cr _;have h2:=P.two A;have fin:∀q:aQ,(∀b o,O.base.get? b=ah o->q.heap.get? b=ah o)->gz O.Sd q->GoodWG jZ.claim cl i args c (.ok (.ret (.bool aj))) q:=λ q k st=>by rw[q2]at k;rw[q7]at st;exact Ab hg k st
 refine kI ?_;rcases m with rfl|m
 ·have hj:=BU (d:=0) L Yy _ P.good hr A hl (QO h2) I h7 s v _ _ _ R';rw[j]at hj;refine aY hj (λ fl q zf=>Pt.on zf λ b σ3 K3 Z R3 U hb=>?_) λ Z Z h=>h.elim;subst hb;cases U with
  |ret M=>cases M;exact ⟨_,rfl,fin q (λ b o e=>by obtain ⟨x,y⟩:=rX ok e;exact R3.old b o x y) R3.st⟩
 ·exact aY (E9 (d:=0) L Xc Xx S Yy _ P.good hr A hl z m (QN h2 m) I D R' h7 s v (Q:=λ fl s'=>∃u,fl=.ret u/\GoodWG jZ.claim cl i args c (.ok (.ret u)) s') λ q k st=>⟨_,rfl,fin q k st⟩) (λ Z Z h=>h) λ Z Z h=>h.elim
end Mine
open PySem PySem.W PyProof.Rows PySem.Calls
theorem PySem.Challenge.cw_nn0366_01_holds : PySem.Challenge.rw_nn0366_01.Holds := by
  refine holds_law Mine.Qq fun b => ?_;refine holds_open (q := Mine.q1) (loose := Mine.xF) (Xt := fun s => xlAt Mine.q1 [] s && recOk (RowW.records Mine.jZ) s) (XP := XL Mine.q1 []) (Yf := Hook.obs Mine.hk) (Ya := Hook.val Mine.hk) (YP := Hook.says Mine.hk) (N := 6000) Mine.Qv (Hook.of Mine.hk) (Hook.keeps Mine.hk)
    (fun s e => xl_of s (Bool.and_eq_true_iff.mp e).1) XL.keeps (by rfl) (by rfl) (by rfl) (fun s e => recFacts_of (Bool.and_eq_true_iff.mp e).2) (by rfl) b (by decide +kernel) ⟨rfl, rfl, rfl, rfl, rfl, by decide +kernel⟩ ⟨[.list []], by decide +kernel, by decide +kernel⟩ ?_
  intro w g h v mb G Y fa o p t j dV kV r hd m u d k args f as a i n c l;obtain ⟨K, X, e⟩ := Y;exact enter_call (Mine.Nh X e G.T d k a c)
