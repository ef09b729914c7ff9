import PyProof.Rows.All
import Wide.All
import OpenK.AllK
import Wide.FinOn
import Lean
import PySem.Challenge.RW_nn0366_01
set_option Elab.async false
set_option tactic.hygienic false
set_option linter.all false
set_option genCtorIdx false
set_option genSizeOf false
set_option genInjectivity false
set_option maxRecDepth 100000
noncomputable section
set_option maxHeartbeats 0
namespace Mine
open PySem PySem.W PySem.Calls PyProof.Rows PySem.SeqAt
open _root_.Array renaming size_setIfInBounds->gT,getElem?_eq_some_iff->jC,getElem?_setIfInBounds_self_of_lt->mF,length_toList->nz,getD_eq_getD_getElem?->r5,forIn_toList->AC
open _root_.Bool renaming and_eq_true->cW,false_ne_true->df,and_eq_true_iff->dg,false_eq_true->dC,or_eq_true->fb,eq_iff_iff->fc,beq_comm->fm,not_true->g4,eq_false_iff->ij,and_false->mV,not_eq_true'->pH,noConfusion->qn,or_eq_false_iff->y3,true->aj,false->ao
open _root_.Eq renaming symm->bz
open _root_.Int renaming natCast_nonneg->br,ofNat_lt->cV,ofNat_inj->dj,toNat->et,lt_trans->f0,toNat_natCast->gi,add_zero->gE,toNat_of_nonneg->gR,one_mul->ib,not_lt->i4,zero_add->jA,ofNat_le->jB,mul_add->ny,ofNat->nC,zero_mul->pS,le_of_lt->pT,negSucc->r4,mul_nonneg->uP,neg_nonneg_of_nonpos->wG,add_assoc->wH,neg_mul->AB,sub_pos_of_lt->DU,add_left_comm->DW
open _root_.List renaming length_map->au,mem_append_right->ax,getElem?_eq_getElem->ay,mem_map->aC,getD_eq_getElem?_getD->aD,mem_singleton->aE,length_append->aF,mem_cons->aI,mem_append_left->aJ,map_append->aK,mem_append->aM,getElem?_map->aN,nodup_iff_pairwise_ne->aO,take_succ_eq_append_getElem->aS,nodup_append->aV,mem_of_getElem?->aX,range->aZ,take_length->a0,length_take->bb,map_cons->be,length_range->bf,getElem?_eq_some_iff->bh,length_cons->bj,getElem?_eq_none->bl,mem_map_of_mem->bp,lookup_cons->bq,map_map->bs,replicate->bu,nodup_cons->bB,map_congr_left->bE,getElem?_append_right->bG,size_toArray->bH,nodup_nil->bK,lookup_eq_some_iff->bM,mem_range->bN,length_replicate->bP,pairwise_map->bS,mem_flatMap->bT,getElem_map->bU,length_set->bX,append_assoc->bY,mem_filter->b3,getElem?_toArray->b5,mem_cons_of_mem->b8,all_eq_true->b9,mem_cons_self->cf,mem_of_mem_drop->cz,mem_of_mem_take->cE,getElem_mem->cG,mem_iff_getElem?->cI,length_singleton->cJ,append_nil->cL,range_succ->cT,find?_cons->cU,getElem?_append_left->c0,foldl_cons->c3,take_append_drop->c7,length_filter_le->c8,flatMap_cons->db,toArray->dm,cons_append->dn,findIdx?_eq_none_iff->dq,length->dv,mem_iff_getElem->dF,lookup_eq_none_iff->dG,getElem_toArray->dH,any_eq_true->dI,perm_ext_iff_of_nodup->dQ,ext_getElem?->dR,flatMap_append->dS,singleton_append->d1,set_append_right->d2,prefix_refl->d6,not_mem_nil->d7,mem_filterMap->d8,map_id->ed,getElem?_set->eo,perm_middle->eR,mem_toArray->eT,findIdx?_eq_some_iff_getElem->e7,take_sublist->ff,getElem?_inj->fg,foldl_append->fh,getElem?_range->fB,length_drop->fF,idxOf?_cons->fG,map_singleton->fV,map_set->fW,length_zipIdx->fX,count_append->gg,exists_mem_of_ne_nil->gD,map_take->g1,idxOf_lt_length_iff->g2,getElem_append_left->g3,length_nil->g7,length_eq_zero_iff->h9,idxOf?_eq_none_iff->h_,cons_lt_cons_iff->iU,drop_length->iV,any_toArray->iW,forall_mem_cons->i8,count_le_length->i9,sum_append->jg,forIn_cons->jh,prefix_append->jQ,getElem_range->jR,findIdx?_cons->jS,pairwise_iff_getElem->j8,drop_eq_getElem_cons->j9,getElem?_replicate->lw,filter_cons_of_pos->lx,filter_cons_of_neg->ly,countP_cons->lz,take_of_length_le->lG,pairwise_lt_range->lH,drop_eq_nil_of_le->lI,getElem?_reverse->mB,countP_mono_left->mD,countP_le_length->mE,getElem?_zipIdx->mT,count_singleton->mU,map_eq_nil_iff->nB,map_drop->om,map_inj_right->oq,getElem_idxOf->ot,filter_append->ou,idxOf_append->pE,isEmpty_iff->qm,eq_nil_of_length_eq_zero->rX,idxOf_lt_length_of_mem->sE,getElem_append_right->uO,sublist_append_left->uR,mem_of_elem_eq_true->uS,getElem?_take_of_lt->uT,all_cons->uU,pairwise_singleton->wF,range_succ_eq_map->wK,getElem_replicate->wL,findIdx?_toArray->x4,contains_iff_mem->x5,set_append_left->y0,map->y1,lookup->y2,filterMap_cons->Ay,countP_eq_zero->Az,append_toArray->AA,zipIdx_append->AL,ne_nil_of_mem->AM,map_replicate->AN,contains_cons->AO,cons_eq_cons->DF,zipIdx_cons->DO,take->DP,range'_succ->DQ,map_reverse->DR,flatMap_nil->DS,filter_cons->DT
open _root_.List.Nodup renaming length_le_of_subset->aU
open _root_.List.Pairwise renaming filterMap->pG
open _root_.List.Perm renaming flatMap_right->j7
open _root_.List.Sublist renaming map->g8,append_left->pF
open _root_.Nat renaming le_trans->aA,lt_of_lt_of_le->aH,le_of_ble_eq_true->aP,lt_of_le_of_lt->aQ,le_refl->aT,le_of_lt->bc,zero_le->bg,lt_irrefl->bA,lt_trans->bC,sub_one_sub_lt_of_lt->bI,le_add_left->bJ,not_lt->bR,le_add_right->b0,lt_succ_self->b_,ne_of_lt->ch,le_of_lt_succ->ci,succ_pos->cp,le_of_eq->cq,pos_of_ne_zero->cw,lt_succ_of_lt->cA,add_sub_cancel_left->cC,lt_succ_iff_lt_or_eq->cF,zero_add->cO,add_right_comm->cR,le_succ_of_le->cY,not_lt_zero->c6,lt_succ_of_le->dc,succ_le_succ->ea,lt_of_not_le->eb,sub_self->eO,lt_of_succ_lt_succ->eQ,zero_testBit->eX,le_of_not_lt->eY,testBit_or->e5,ne_of_gt->fi,add_comm->fj,le_antisymm->f9,add_assoc->gb,le_succ->gw,add_le_add->gx,lt_add_of_pos_right->ia,le_of_succ_le->iC,le_sub_one_of_lt->jd,min_eq_left->jt,testBit_two_pow->ju,add_le_add_left->jv,add_zero->jz,succ->j4,lt_of_le_of_ne->j5,add_sub_cancel->j6,lt_pow_two_of_testBit->kL,add_sub_of_le->kP,succ_lt_succ->lD,pow_le_pow_right->nu,not_succ_le_self->nw,eq_of_testBit_eq->nx,sub_le->o0,not_le->o5,lt_or_eq_of_le->o9,mul_succ->pO,lt_trichotomy->pP,lt_or_ge->pQ,cast->pR,min_eq_right->rW,le_zero->rZ,div_lt_self->sD,testBit_lt_two_pow->x0,succ_mul->x1,le_total->x2,le_mul_of_pos_left->x3,sub_one_lt_of_lt->Aw,add_le_add_right->Ax,mul_le_mul_left->AK,zero_lt_of_lt->DN
open _root_.Option renaming map_eq_some_iff->bZ,bind_eq_some_iff->ei,elim->j3,join_eq_some_iff->kO,map_some->ql,some->ah,none->ai
open _root_.Or renaming elim->b6
open _root_.Prod renaming fst->jP,ext->lu
open _root_.PyProof.Rows renaming dflt->nF,SortKind->sd,seqObj->wN,StrsAre->AW,keyKind'->D3,failedOf->D5
open _root_.PySem renaming wpAny_bind->aw,wpAny_pure->az,Addr->aG,Shared->aR,wpAny->aW,wpAny_mono->aY,starEach->bk,model->bn,eval->bv,wpAny_holding->bD,DictEntry->bL,Params->bQ,mainGlobals->cj,compareOp->cH,backTo->cM,spliced->c4,sysModules->dz,sizeLine_eq->dA,wpAny_call_entry->dO,binaryOp->dP,methodCallPos->dW,assignEach->dY,cellsFrom->dZ,assign->d9,swapsWith->eg,wpAny_standAt->ej,isTrue->eu,foldedSetIterable->eH,execs->eI,Arguments->eJ,sizeLine->eU,wpAny_loadPart->e8,cLine->e9,builtinsNs->e_,wpAny_truthy_bool->fA,exec->gc,codeAny->gd,wpAny_notOrdered_dict->gr,wpAny_dictEntries->gy,wpAny_loadName_local->gI,wpAny_field->gM,methodCall->gN,Pos->gU,wpAny_specialOf->ig,wpAny_rule->ik,Scope->iD,standAt->iX,rawInt->iY,wpAny_isInstance->ji,wpAny_call->jj,intKind->j_,holding->kc,getItem->kf,dictGet->kh,codeAny_mono->ki,noteFrame->kM,call_meets->kQ,wpAny_Return_some->lE,eqIsQuiet_byValue->lF,wpAny_callSpecial?_slot->mG,isInstance->mX,clipAt->mY,letOwnedTupleGo->nA,wpAny_storeName_local->nD,wpAny_isTrue_Compare1->nE,wpAny_setField->ow,dictSetDefault->oz,codeAny_call_builtin->oA,wpAny_Name->qo,wpAny_Constant_int->qp,Result->qr,wpAny_sequenceKey->r6,wpAny_newObj_type->r7,bootBuiltins->r_,Program->se,plainObj_wpAny_Assign_Attribute->sF,wpAny_forIn_list->tB,wpAny_Call_NameR->tC,wpAny_richCompare_same_room->wI,wpAny_newFunctionEnv_cells->wM,pyNext->wO,methodCallForm->wP,letTemporaryGo->wQ,wpAny_getItem_list_slice->y4,wpAny_comprehension_free->y5,behindInMarks->y6,wpAny_pyNext_tuple_item->AD,inplaceOp->AE,wpAny_pyNext_tuple_end->AP,wpAny_mkText->AQ,setItem->AR,getAttr->AS,fitsIndex_of->AT,dictSet->AU,aRefKeyMayBeTheName_at->AV,codeAny_call_function->DG,wpAny_updateDictKeys->DX,wpAny_letTemporaryGo->DY,wpAny_alloc->DZ,interactive->D4,evalPart->D6,calleeOf->D7,bindSpecial->D9,bindArgs->D_,FuncData->Ea,wpAny_Constant_none->FS,aRefKeyMayBeTheName->FT,wpAny_pyIter_tuple->Hc,typeOf->Hd,truthy->He,reduceHash->Hf,cameBackBy->Hi,wpAny_pyIter_list->IR,wpAny_dictFind_of->IS,wpAny_assign_Name->IT,slot_list_setitem->IU,slot_dict_setitem->IV,leaving->IY,World->I0,Tok->I2
open _root_.PySem.Calls renaming Name_function_global->oB,loadGlobal_global->IX
open _root_.PySem.Heap renaming get?_push_of_some->aL,get?_push_size->bO,lt_size->cm,get?_update_self->c9,get?_none_of_le->ee,get?_update_ne->fC,get?_update_other->fY
open _root_.PySem.W renaming Frag->f7,looks_findIn->g5,findIn->g9,instObj->ii,typeIn->lJ,nsIn->mH,keepIn->mW,looks_clsIn->oy,lookIn->qq,hideAll_none->r8,hideAll->r9,emptyDict->tD,plainGet_of->D0,plainGet->D1,looks_mroIn->D2,callWith_of->D8,fnOf->Hg,check_slot->Hh,mroIn->IW,ktsIn->IZ,WellAll->I1
set_option compiler.extract_closed false in
 def rf:Lean.Syntax:=.node .none `Lean.Parser.Tactic.tacticSeq #[.node .none `Lean.Parser.Tactic.tacticSeq1Indented #[.node .none `null #[.node .none `Lean.Parser.Tactic.intros #[.atom .none "intros",.node .none `null #[]],.atom .none ";",.node .none `Lean.Parser.Tactic.tacticRfl #[.atom .none "rfl"]]]]
set_option compiler.extract_closed false in
 def rk:Lean.Syntax:=.node .none `Lean.Parser.Tactic.tacticSeq #[.node .none `Lean.Parser.Tactic.tacticSeq1Indented #[.node .none `null #[.node .none `Lean.Parser.Tactic.intros #[.atom .none "intros",.node .none `null #[]],.atom .none ";",.node .none `tacticKernel_rfl #[.atom .none "kernel_rfl"]]]]
set_option compiler.extract_closed false in
 def rx:Lean.Syntax:=.node .none `Lean.Parser.Tactic.tacticSeq #[.node .none `Lean.Parser.Tactic.tacticSeq1Indented #[.node .none `null #[.node .none `Lean.Parser.Tactic.intros #[.atom .none "intros",.node .none `null #[]],.atom .none ";",.node .none `Lean.Parser.Tactic.constructor #[.atom .none "constructor"],.atom .none ";",.node .none `Lean.Parser.Tactic.tacticRfl #[.atom .none "rfl"]]]]
set_option genInjectivity true in
inductive V where
 |none|bool (b:Bool)|int (i:Int)|str (x:Str)
 |tup (xs:List V)|list (xs:List V)|dict (es:List (V×V))|inst (C:aG) (fs:List (Str×V))|ref (a:aG)|SO (a b:Int)
noncomputable def V.ctorIdx(v:V):Nat:=V.casesOn (motive_1:=λ Z=>Nat) v 0 (λ Z=>1) (λ Z=>2) (λ Z=>3) (λ Z=>4) (λ Z=>5) (λ Z=>6) (λ Z Z=>7) (λ Z=>8) (λ Z Z=>9)
noncomputable def vB(a b c d:Bool)(v:V):Bool:=V.casesOn (motive_1:=λ Z=>Bool) v a (λ Z=>b) (λ Z=>c) (λ Z=>d) (λ Z=>ao) (λ Z=>ao) (λ Z=>ao) (λ Z Z=>ao) (λ Z=>ao) (λ Z Z=>ao)
noncomputable def JA:gU:=⟨0,0,0,0⟩
noncomputable def G4:Expr:=.Tuple [] 0 JA
noncomputable def IF:eJ:=⟨[],[],ai,[],[],ai,[]⟩
noncomputable def I3:iD:=PySem.Challenge.pw_nn0366_01.main.scope
noncomputable def d0:List Stmt×eJ×iD×List Expr×Expr×gU:=([],IF,I3,[],G4,JA)
noncomputable def nR(s:Stmt):List Stmt×eJ×iD×List Expr×Expr×gU:=
 Stmt.casesOn (motive_2:=λ Z=>List Stmt×eJ×iD×List Expr×Expr×gU) s (λ Z a b Z Z Z s Z Z p=>(b,a,s,[],G4,p)) (λ Z Z Z Z Z Z Z Z Z Z=>d0) (λ Z Z Z b Z Z s Z Z Z p=>(b,IF,s,[],G4,p)) (λ Z Z=>d0) (λ Z Z=>d0) (λ l e p=>([],IF,I3,l,e,p)) (λ Z Z Z Z Z Z Z=>d0) (λ Z Z Z Z=>d0) (λ Z Z Z Z Z=>d0) (λ Z e b Z p=>(b,IF,I3,[],e,p)) (λ Z Z Z Z Z=>d0) (λ e b Z p=>(b,IF,I3,[],e,p)) (λ e b Z p=>(b,IF,I3,[],e,p)) (λ Z Z Z=>d0) (λ Z Z Z=>d0) (λ Z Z Z=>d0) (λ Z Z Z=>d0) (λ b Z Z Z p=>(b,IF,I3,[],G4,p)) (λ Z Z Z Z Z=>d0) (λ Z Z Z=>d0) (λ Z Z=>d0) (λ Z Z Z Z=>d0) (λ Z Z=>d0) (λ Z Z=>d0) (λ Z Z=>d0) (λ Z=>d0) (λ Z=>d0) (λ Z=>d0)
noncomputable def cy(s:Stmt):List Stmt:=(nR s).1
noncomputable def cN(s:Stmt):eJ:=(nR s).2.1
noncomputable def bF(s:Stmt):iD:=(nR s).2.2.1
noncomputable def sub(s:Stmt)(n:Nat):Stmt:=(cy s).getD n (.Pass JA)
noncomputable def top(n:Nat):Stmt:=PySem.Challenge.pw_nn0366_01.main.body.getD n (.Pass JA)
noncomputable def mem(n k:Nat):Stmt:=sub (top n) k
noncomputable def jY(K:f7)(C:aG)(name:Str):Bool:=D1 K C name&&hasDictIn K C&&(match g9 K (.ref C) name with|some attr=>noGet K attr|none=>ao)
noncomputable def iJ(K:f7)(C:aG)(name:Str):Bool:=g9 K (.ref C) "__setattr__"==ah (ah (.builtin "object.__setattr__"))&&plainOver K C&&takerIn K C name==ah ai&&(clsIn K C).any (·.hasDict)
noncomputable def oW(K:f7)(C:aG):Bool:=g9 K (.ref C) "__getattribute__"==ah (ah (.builtin "BaseException.__getattribute__"))&&g9 K (.ref C) "__getattr__"==ah ai&&IW K C (.type "BaseException")==ah aj
noncomputable abbrev FG:List Value:=[.type "Exception",.type "BaseException",.type "object"]
noncomputable def rD:List Value->Bool
 |.ref _::l=>rD l
 |l=>l==FG
noncomputable def yj(v:Value):Option aG:=Value.casesOn v ai ai ai (λ Z=>ai) (λ Z Z=>ai) (λ Z Z=>ai) (λ Z Z=>ai) (λ Z Z=>ai) (λ Z=>ai) (λ Z=>ai) ah
noncomputable def Jv(d:Data):Option (Array Value):=Data.casesOn d ai (λ Z=>ai) (λ i Z=>ah i) (λ Z Z=>ai) (λ Z Z Z=>ai) (λ Z Z=>ai) (λ Z=>ai) (λ Z=>ai) (λ Z=>ai) (λ Z=>ai) ai
noncomputable def Ng(d:Data):Option Ea:=Data.casesOn d ai (λ Z=>ai) (λ Z Z=>ai) (λ Z Z=>ai) (λ Z Z Z=>ai) (λ Z Z=>ai) (λ Z=>ai) ah (λ Z=>ai) (λ Z=>ai) ai
noncomputable def Nk(d:Data):Option ClassData:=Data.casesOn d ai (λ Z=>ai) (λ Z Z=>ai) (λ Z Z=>ai) (λ Z Z Z=>ai) (λ Z Z=>ai) (λ Z=>ai) (λ Z=>ai) ah (λ Z=>ai) ai
noncomputable def hV(K:f7)(C:aG):Bool:=(K.lookup C).any λ o=>(Nk o.data).any λ cd=>!cd.hasDel&&cd.hasDict&&(o.slots.toList[4]?).join==ah (.builtin "Exception.__new__")&&(cd.mro.head? ==ah (.ref C)&&rD cd.mro)&&
 specialIn K (.ref C) "__call__"==ah (ah (.builtin "type.__call__"))&&instIn K (.ref C) (.type "type")==ah aj
noncomputable def sm(K:f7)(C:aG)(name:Str):Bool:=g9 K (.ref C) "__setattr__"==ah (ah (.builtin "object.__setattr__"))&&hV K C&&takerIn K C name==ah ai
noncomputable def yr(K:f7)(C:aG):Bool:=hasDictIn K C&&(match g9 K (.ref C) "at" with|some attr=>noGet K attr|none=>ao)
noncomputable def pt(h:Heap):List aG->f7
 |[]=>[]
 |a::l=>match h.get? a with
  |some o=>(a,o)::pt h l
  |none=>pt h l
noncomputable def CJ(h:Heap):f7:=pt h [3,29,35,36,42,43,45,46,58,59,67,68,69,77,83,84,86,87,102,103,109,110,116,117,130,131,137,138,144,145,151,152,158,159,165,166,168,169,174,178,179,185,186,192,193,194,198,199,203,204,210,211,217,218,224,225,236,237,243,244,246,247,264,265,271,272,278,279,285,286,288,289,299,300,304,305,311,312,313,319,320,326,327,331,332,333,339,340,344,345,351,352,358,359,365,366,372,373,377,378,382,383,389,390,394,395]
theorem xD{h:Heap}{b:aG}{l:List aG}:pt h (b::l)=(match h.get? b with
 |some o=>(b,o)::pt h l
 |none=>pt h l):=rfl
theorem CK(h:Heap)(l:List aG):(pt h l).In h:=by
 induction l with
 |nil=>exact λ a o e=>by cases e
 |cons b l d=>
  intro a o e;rw[xD]at e;cases c:h.get? b with
  |none=>rw[c]at e;exact d a o e
  |some f=>
   rw[c]at e;have e:((b,f)::pt h l).lookup a=ah o:=e;rw[bq]at e;cases q:a==b with
   |true=>rw[q]at e;cases e;rw[beq_iff_eq.mp q];exact c
   |false=>rw[q]at e;exact d a o e
noncomputable def q1:se:={PySem.Challenge.pw_nn0366_01 with main:={PySem.Challenge.pw_nn0366_01.main with body:=[PySem.Challenge.pw_nn0366_01.main.body.getLast!]}}
noncomputable def xw:List Str:=(["_wall","ToolError","GrammarError","bits","END","OWN_TERMINALS","Rule","Grammar","show_rule",
 "show_item","last_terminal","plain_grammar","spread","nullable","first_of","first_masks","CanonicalState",
 "CanonicalAutomaton","closure_one","advanced","first_kernel","build_canonical","masks_of","show_canonical",
 "_law_orders","_law_pick","_law_pairs","_law_begin","_law_starts","_law_close","_law_masks","_law_shown",
 "_law_is_state","_law_allowed"]:List String).map Str.ofString
noncomputable def HH:Value->V
 |.none=>.none
 |.bool b=>.bool b
 |.int i _=>.int i
 |.str x _=>.str x
 |_=>.ref 0
noncomputable def qC(K:f7)(v:Value):Option (List V):=(yj v).bind λ t=>(K.lookup t).bind λ o=>if (o.cls==.type "tuple"&&o.dict.isNone&&o.slots.toList.isEmpty)=aj then (Jv o.data).map λ i=>i.toList.map HH else ai
noncomputable def xJ(K:f7)(v:Value):Option (Option (List V)):=if v=.none then ah ai else (qC K v).map ah
noncomputable abbrev yW:=Option (Str×Str×eJ×FuncBody×iD×aG×List (Str×aG)×aG×Option (Option (List V))×Bool)
noncomputable def pa(K:f7)(v:Option (Option Value)):yW:=(v.join.bind yj).bind λ a=>(K.lookup a).bind λ o=>(Ng o.data).map λ fd=>(fd.name,fd.qualname,fd.params,fd.body,fd.scope,fd.globals,fd.closure,fd.builtins,xJ K fd.defaults,codeIn K fd.code fd.qualname&&mW K (.ref a)&&lJ K (.ref a)==ah (.type "function"))
noncomputable def wr(st:Stmt)(name qual:Str)(d:Option (List V)):yW:=ah (name,qual,cN st,.stmts (cy st),bF st,cj,[],e_,ah d,aj)
noncomputable def dD(K:f7)(x:Str):aG:=((mH K cj x).join.bind yj).getD 0
noncomputable def Fl(K:f7)(x:Str):Value:=(mH K cj x).join.getD .none
noncomputable def G5:List Str:=["bits","show_rule","show_item","last_terminal","plain_grammar","spread","nullable","first_of","first_masks","closure_one","advanced","first_kernel","build_canonical","masks_of","show_canonical","_law_pick","_law_pairs","_law_begin","_law_starts","_law_close","_law_masks","_law_shown","_law_is_state","_law_allowed","law"]
noncomputable def Cc:List (Str×Str):=[("Grammar","symbol_count"),("Grammar","is_terminal"),("Grammar","number"),("Grammar","rules_of"),("Grammar","item"),("Grammar","rule_of"),("Grammar","dot_of"),("Grammar","after"),("CanonicalState","set_items"),("CanonicalAutomaton","state_count"),("CanonicalAutomaton","goto"),("CanonicalAutomaton","walk"),("Rule","__init__"),("Grammar","__init__"),("CanonicalState","__init__"),("CanonicalAutomaton","__init__"),("GrammarError","__init__"),("GrammarError","told")]
noncomputable def Dh(K:f7):List Bool:=
 (["len","list","range","tuple","sorted","dict","int","str","Exception"]:List Str).map (λ x=>mH K cj x==ah ai)++
 (["Grammar","Rule","CanonicalState","CanonicalAutomaton","GrammarError"]:List Str).map (λ x=>mH K cj x==ah (ah (.ref (dD K x)))&&mW K (.ref (dD K x)))++
 (["Grammar","Rule","CanonicalState","CanonicalAutomaton"]:List Str).map (λ x=>makesIn K (dD K x)&&D1 K (dD K x) "")++
 [(["names","terminal_count","rules","start","by_left","offsets","owners","item_count"]:List Str).all (jY K (dD K "Grammar")),
 (["number","left","right"]:List Str).all (jY K (dD K "Rule")),
 (["number","kernel","core","symbol","items","moves","reductions","masks"]:List Str).all (jY K (dD K "CanonicalState")),
 (["grammar","states"]:List Str).all (jY K (dD K "CanonicalAutomaton")),
 (["number","kernel","core","symbol","items","moves","reductions","masks"]:List Str).all (iJ K (dD K "CanonicalState")),
 (["grammar","states"]:List Str).all (iJ K (dD K "CanonicalAutomaton")),
 (["number","left","right","level_of","action","line","before"]:List Str).all (iJ K (dD K "Rule")),
 (["names","terminal_count","rules","levels","expect","start","by_left","offsets","owners","item_count"]:List Str).all (iJ K (dD K "Grammar"))]++
 [hV K (dD K "GrammarError"),lJ K (.ref (dD K "GrammarError"))==ah (.type "type"),sm K (dD K "GrammarError") "what",sm K (dD K "GrammarError") "at",oW K (dD K "GrammarError"),yr K (dD K "GrammarError"),IZ K (dD K "GrammarError") "Exception"]
noncomputable abbrev FN:=List yW×List yW×List Bool×Option (List V)×Option (List V)×V
noncomputable def vH(K:f7):FN:=(G5.map λ d=>pa K (mH K cj d),Cc.map λ m=>pa K (g9 K (.ref (dD K m.1)) m.2),Dh K,qC K (Fl K "_law_orders"),qC K (Fl K "OWN_TERMINALS"),HH (Fl K "END"))
noncomputable def yt:List Str:=["xyz","xzy","yxz","yzx","zxy","zyx"]
noncomputable def ME:List Str:=["$end","error","$undefined"]
noncomputable def lV:FN:=([
 wr (top 4) "bits" "bits" ai,
 wr (top 10) "show_rule" "show_rule" (ah [.int (-1)]),
 wr (top 11) "show_item" "show_item" ai,
 wr (top 12) "last_terminal" "last_terminal" ai,
 wr (top 13) "plain_grammar" "plain_grammar" (ah [.none]),
 wr (top 15) "spread" "spread" ai,
 wr (top 16) "nullable" "nullable" ai,
 wr (top 17) "first_of" "first_of" ai,
 wr (top 18) "first_masks" "first_masks" ai,
 wr (top 22) "closure_one" "closure_one" ai,
 wr (top 23) "advanced" "advanced" ai,
 wr (top 24) "first_kernel" "first_kernel" ai,
 wr (top 25) "build_canonical" "build_canonical" (ah [.int 2000]),
 wr (top 26) "masks_of" "masks_of" ai,
 wr (top 27) "show_canonical" "show_canonical" ai,
 wr (top 30) "_law_pick" "_law_pick" ai,
 wr (top 31) "_law_pairs" "_law_pairs" ai,
 wr (top 32) "_law_begin" "_law_begin" ai,
 wr (top 33) "_law_starts" "_law_starts" ai,
 wr (top 34) "_law_close" "_law_close" ai,
 wr (top 35) "_law_masks" "_law_masks" ai,
 wr (top 36) "_law_shown" "_law_shown" ai,
 wr (top 37) "_law_is_state" "_law_is_state" ai,
 wr (top 38) "_law_allowed" "_law_allowed" ai,
 wr (top 39) "law" "law" ai],[
 wr (mem 9 1) "symbol_count" "Grammar.symbol_count" ai,
 wr (mem 9 2) "is_terminal" "Grammar.is_terminal" ai,
 wr (mem 9 4) "number" "Grammar.number" ai,
 wr (mem 9 5) "rules_of" "Grammar.rules_of" ai,
 wr (mem 9 6) "item" "Grammar.item" ai,
 wr (mem 9 7) "rule_of" "Grammar.rule_of" ai,
 wr (mem 9 8) "dot_of" "Grammar.dot_of" ai,
 wr (mem 9 9) "after" "Grammar.after" ai,
 wr (mem 20 1) "set_items" "CanonicalState.set_items" ai,
 wr (mem 21 1) "state_count" "CanonicalAutomaton.state_count" ai,
 wr (mem 21 2) "goto" "CanonicalAutomaton.goto" ai,
 wr (mem 21 3) "walk" "CanonicalAutomaton.walk" ai,
 wr (mem 8 0) "__init__" "Rule.__init__" (ah [.int (-1),.none,.int 0,.int 0]),
 wr (mem 9 0) "__init__" "Grammar.__init__" ai,
 wr (mem 20 0) "__init__" "CanonicalState.__init__" ai,
 wr (mem 21 0) "__init__" "CanonicalAutomaton.__init__" ai,
 wr (mem 2 0) "__init__" "ToolError.__init__" (ah [.none]),
 wr (mem 2 1) "told" "ToolError.told" ai],
 bu 33 aj,ah (yt.map .str),ah (ME.map .str),.int 0)
noncomputable def hk:Hook where
 α:=FN
 obs s:=vH (CJ s.heap)
 val _:=lV
 says _ h:=∃K:f7,K.In h/\vH K=lV
 of _ s e:=⟨CJ s.heap,CK _ _,e⟩
 keeps _ _ _ h k:=let ⟨K,a,b⟩:=h;⟨K,a.keeps k,b⟩
theorem P9:LeftO PySem.Challenge.pw_nn0366_01 q1 xw (λ s=>xlAt q1 [] s&&recOk (RowW.records PySem.Challenge.rw_nn0366_01.row.toRowW) s) (Hook.obs hk) (Hook.val hk) 6000:=by intro w;kernel_rfl
theorem P5:PySem.Challenge.rw_nn0366_01.wellSaid=aj:=by kernel_rfl
namespace R0
inductive Tm where
 |V (i:Nat)|K (i:Nat)|A (s t:Tm)|S (s t:Tm)|M (i:Nat) (t:Tm)|I (s t:Tm)|X (s t:Tm)|N (t:Tm) (i:Nat)
noncomputable abbrev Li:=Int×List Int
noncomputable def dot:List Int->List Nat->Int
 |[],_=>0
 |x::l,c=>x*(c.headD 0:Nat)+dot l c.tail
noncomputable def Li.ev(c:List Nat)(q:Li):Int:=q.1+dot q.2 c
noncomputable def Ut:List Int->List Int->List Int
 |[],l=>l
 |x::l,[]=>x::l
 |x::l,y::r=>(x+y)::Ut l r
noncomputable def mulL(n:Int):List Int->List Int
 |[]=>[]
 |x::l=>n*x::mulL n l
noncomputable def comb(n:Int)(p:Li)(m:Int)(q:Li):Li:=(n*p.1+m*q.1,Ut (mulL n p.2) (mulL m q.2))
noncomputable def one:Nat->List Int
 |0=>[1]
 |i+1=>0::one i
theorem U_(a b c d:Int):a+b+(c+d)=a+c+(b+d):=by rw[wH,wH,DW b]
theorem Ur(x y:List Int)(c:List Nat):dot (Ut x y) c=dot x c+dot y c:=by
 induction x generalizing y c with
 |nil=>exact (jA _).symm
 |cons a x d=>cases y with
  |nil=>exact (gE _).symm
  |cons b y=>exact (congrArg (_+·) (d y c.tail)).trans ((congrArg (·+_) (Int.add_mul ..)).trans (U_ ..))
theorem Ta(n:Int)(x:List Int)(c:List Nat):dot (mulL n x) c=n*dot x c:=by
 induction x generalizing c with
 |nil=>exact (Int.mul_zero _).symm
 |cons a x b=>show n*a*_+dot (mulL n x) c.tail=n*(a*_+dot x c.tail);rw[b,ny,Int.mul_assoc]
theorem RN(c:List Nat)(n:Int)(p:Li)(m:Int)(q:Li):(comb n p m q).ev c=n*p.ev c+m*q.ev c:=by show n*p.1+m*q.1+dot (Ut _ _) c=n*(p.1+dot p.2 c)+m*(q.1+dot q.2 c);rw[Ur,Ta,Ta,ny,ny];exact U_ ..
theorem Uq(i:Nat)(c:List Nat):dot (one i) c=(c.getD i 0:Nat):=by
 induction i generalizing c with
 |zero=>cases c with
  |nil=>rfl
  |cons a c=>exact (gE _).trans (ib _)
 |succ i b=>exact ((congrArg (·+_) (pS _)).trans (jA _)).trans ((b _).trans (by cases c<;>rfl))
noncomputable def Tm.ev(c:List Nat):Tm->Nat
 |.V i=>c.getD i 0
 |.K i=>i
 |.A s t=>s.ev c+t.ev c
 |.S s t=>s.ev c-t.ev c
 |.M i t=>i*t.ev c
 |.I s t=>min (s.ev c) (t.ev c)
 |.X s t=>max (s.ev c) (t.ev c)
 |.N t i=>t.ev c*i
noncomputable def Ls(c:List Nat)(cs:List Li):Prop:=∀q∈cs,0<=q.ev c
theorem Ls.cons{c:List Nat}{q:Li}{b:List Li}(h:Ls c b)(a:0<=q.ev c):Ls c (q::b):=λ r d=>(aI.mp d).elim (λ e=>e▸a) (h r)
noncomputable def SK(l m:Li):Li:=comb 1 m (-1) l
theorem TR(c:List Nat)(l m:Li):(SK l m).ev c=m.ev c-l.ev c:=(RN ..).trans (by rw[ib,AB,ib];rfl)
theorem RW{c:List Nat}{l m:Li}{a b:Nat}(e:l.ev c=a)(d:m.ev c=b)(h:a<=b):0<=(SK l m).ev c:=by rw[TR,e,d];exact Int.sub_nonneg_of_le (jB.mpr h)
noncomputable def Tm.go:Tm->(Li->List Li->Bool)->List Li->Bool
 |.V i,r,cs=>r (0,one i) cs
 |.K i,r,cs=>r (i,[]) cs
 |.A s t,r,cs=>s.go (λ l cs=>t.go (λ m cs=>r (comb 1 l 1 m) cs) cs) cs
 |.S s t,r,cs=>s.go (λ l cs=>t.go (λ m cs=>r (SK m l) (SK m l::cs)&&r (0,[]) (SK l m::cs)) cs) cs
 |.M i t,r,cs=>t.go (λ l cs=>r (comb i l 0 l) cs) cs
 |.N t i,r,cs=>t.go (λ l cs=>r (comb i l 0 l) cs) cs
 |.I s t,r,cs=>s.go (λ l cs=>t.go (λ m cs=>r l (SK l m::cs)&&r m (SK m l::cs)) cs) cs
 |.X s t,r,cs=>s.go (λ l cs=>t.go (λ m cs=>r m (SK l m::cs)&&r l (SK m l::cs)) cs) cs
noncomputable def Ok(c:List Nat)(k:Li->List Li->Bool)(n:Nat):Prop:=∀l cs,Ls c cs->l.ev c=(n:Int)->k l cs=aj->False
theorem both{c:List Nat}{k:Li->List Li->Bool}{n a b:Nat}{l m x y:Li}{d:List Li}(ok:Ok c k n)(h:(k x (SK l m::d)&&k y (SK m l::d))=aj)(q:Ls c d)(e:l.ev c=a)(f:m.ev c=b)
 (j:a<=b->x.ev c=(n:Int)) (g:b<=a->y.ev c=(n:Int)):False:=
 have h:=dg.mp h;(x2 a b).elim (λ i=>ok _ _ (q.cons (RW e f i)) (j i) h.1) λ i=>ok _ _ (q.cons (RW f e i)) (g i) h.2
theorem Tm.S7{c:List Nat}(t:Tm):∀{k:Li->List Li->Bool} {d:List Li},t.go k d=aj->Ls c d->Ok c k (t.ev c)->False:=by
 induction t with
 |V i=>exact λ h a b=>b (0,one i) _ a ((jA _).trans (Uq i c)) h
 |K n=>exact λ h a b=>b (n,[]) _ a (gE _) h
 |A s t j f=>exact λ h a b=>j h a λ l d a e h=>f h a λ m d a g h=>b (comb 1 l 1 m) _ a (by rw[RN,e,g,ib,ib];rfl) h
 |M n t f=>exact λ h a b=>f h a λ l d a e h=>b (comb n l 0 l) _ a (by rw[RN,e,pS,gE];rfl) h
 |N t n f=>exact λ h a b=>f h a λ l d a e h=>b (comb n l 0 l) _ a (by rw[RN,e,pS,gE,Int.mul_comm];rfl) h
 |S s t j f=>exact λ h a b=>j h a λ l d a e h=>f h a λ m d a g h=>both b h a g e (λ q=>(TR ..).trans (by rw[e,g];exact (Int.ofNat_sub q).symm)) λ q=>congrArg pR (Nat.sub_eq_zero_of_le q).symm
 |I s t j f=>exact λ h a b=>j h a λ l d a e h=>f h a λ m d a g h=>both b h a e g (λ q=>e.trans (congrArg pR (jt q).symm)) λ q=>g.trans (congrArg pR (rW q).symm)
 |X s t j f=>exact λ h a b=>j h a λ l d a e h=>f h a λ m d a g h=>both b h a e g (λ q=>g.trans (congrArg pR (Nat.max_eq_right q).symm)) λ q=>e.trans (congrArg pR (Nat.max_eq_left q).symm)
noncomputable def tl(q:Li):Li:=(q.1,q.2.tail)
noncomputable def hd(q:Li):Int:=q.2.headD 0
noncomputable def elim(cs:List Li):List Li:=
 (cs.filter λ q=>decide (hd q<=0)).map tl++(cs.filter λ q=>decide (0<hd q)).flatMap λ p=>(cs.filter λ q=>decide (hd q<0)).map λ q=>comb (-hd q) (tl p) (hd p) (tl q)
theorem TP(c:List Nat)(q:Li):q.ev c=hd q*(c.headD 0:Nat)+(tl q).ev c.tail:=by
 obtain ⟨k,l⟩:=q;cases l with
 |nil=>exact (show 0*((c.headD 0:Nat):Int)+(k+0)=k+0 by rw[pS,jA]).symm
 |cons a l=>exact DW ..
theorem Ls.elim{c:List Nat}{g:List Li}(h:Ls c g):Ls c.tail (elim g):=λ q e=>by
 rcases aM.mp e with e|e
 ·obtain ⟨p,d,rfl⟩:=aC.mp e;have d:=b3.mp d;have a:=h p d.1;rw[TP]at a;have b:=Int.add_nonneg (uP (wG (of_decide_eq_true d.2)) (br (c.headD 0))) a;rw[AB,Int.neg_add_cancel_left]at b;exact b
 ·obtain ⟨p,d,e⟩:=bT.mp e;obtain ⟨q,f,rfl⟩:=aC.mp e;have d:=b3.mp d;have f:=b3.mp f;have a:=Int.add_nonneg (uP (wG (pT (of_decide_eq_true f.2))) (h p d.1)) (uP (pT (of_decide_eq_true d.2)) (h q f.1));rw[TP,TP c q,ny,ny,U_,AB,Int.mul_left_comm (hd p),Int.add_left_neg,jA]at a;rw[RN];exact a
noncomputable def bad(q:Li):Bool:=decide (q.1<0)&&q.2.all λ x=>decide (x<=0)
theorem SU(l:List Int)(c:List Nat)(h:(l.all λ x=>decide (x<=0))=aj):dot l c<=0:=by
 induction l generalizing c with
 |nil=>exact Int.le_refl _
 |cons a l b=>have h:=dg.mp (show (decide (a<=0)&&l.all _)=aj from h);exact Int.add_nonpos (Int.mul_nonpos_of_nonpos_of_nonneg (of_decide_eq_true h.1) (br _)) (b c.tail h.2)
noncomputable def unsat:Nat->List Li->Bool
 |0,cs=>cs.any bad
 |n+1,cs=>cs.any bad||unsat n (elim cs)
theorem TY{c:List Nat}{b:List Li}(h:b.any bad=aj)(a:Ls c b):False:=by obtain ⟨q,d,e⟩:=dI.mp h;have e:=dg.mp e;exact i4.mpr (a q d) (Int.add_neg_of_neg_of_nonpos (of_decide_eq_true e.1) (SU _ c e.2))
theorem Tp(n:Nat):∀{c:List Nat} {b:List Li},unsat n b=aj->Ls c b->False:=by
 induction n with
 |zero=>exact TY
 |succ n d=>exact λ h a=>(Bool.or_eq_true_iff.mp h).elim (λ h=>TY h a) λ h=>d h a.elim
inductive Fc where
 |L (s t:Tm)|T (s t:Tm)|E (s t:Tm)|D (s t:Tm)|G (s t:Tm)|H (s t:Tm)
noncomputable def Fc.den(c:List Nat):Fc->Prop
 |.L s t=>s.ev c<=t.ev c
 |.T s t=>s.ev c<t.ev c
 |.E s t=>s.ev c=t.ev c
 |.D s t=>¬s.ev c=t.ev c
 |.G s t=>¬s.ev c<t.ev c
 |.H s t=>¬s.ev c<=t.ev c
noncomputable def TU(l m:Li):Li:=SK (comb 1 l 1 (1,[])) m
noncomputable def go2(s t:Tm)(r:Li->Li->List Li->Bool)(cs:List Li):Bool:=s.go (λ l cs=>t.go (λ m cs=>r l m cs) cs) cs
theorem Sf{c:List Nat}{l m:Li}{a b:Nat}(e:l.ev c=a)(d:m.ev c=b)(h:a<b):0<=(TU l m).ev c:=RW (a:=a+1) ((RN ..).trans (by rw[e,ib,ib];rfl)) d h
theorem R8{c:List Nat}{s t:Tm}{r:Li->Li->List Li->Bool}{d:List Li}(h:go2 s t r d=aj)(a:Ls c d)
 (b:∀l m d,Ls c d->l.ev c=((s.ev c:Nat):Int)->m.ev c=((t.ev c:Nat):Int)->r l m d=aj->False):False:=
 s.S7 h a λ l Z a e h=>t.S7 h a λ m d a f h=>b l m d a e f h
noncomputable def Fc.go:Fc->(List Li->Bool)->List Li->Bool
 |.L s t,r,cs=>go2 s t (λ l m cs=>r (SK l m::cs)) cs
 |.T s t,r,cs=>go2 s t (λ l m cs=>r (TU l m::cs)) cs
 |.E s t,r,cs=>go2 s t (λ l m cs=>r (SK l m::SK m l::cs)) cs
 |.D s t,r,cs=>go2 s t (λ l m cs=>r (TU l m::cs)&&r (TU m l::cs)) cs
 |.G s t,r,cs=>go2 s t (λ l m cs=>r (SK m l::cs)) cs
 |.H s t,r,cs=>go2 s t (λ l m cs=>r (TU m l::cs)) cs
theorem Fc.S7{c:List Nat}(f:Fc){k:List Li->Bool}{i:List Li}(h:f.go k i=aj)(a:Ls c i)(d:f.den c)(b:∀i,Ls c i->k i=aj->False):False:=by
 cases f with
 |L s t=>exact R8 h a λ l m i a e g h=>b _ (a.cons (RW e g d)) h
 |T s t=>exact R8 h a λ l m i a e g h=>b _ (a.cons (Sf e g d)) h
 |E s t=>exact R8 h a λ l m i a e g h=>b _ ((a.cons (RW g e (cq (bz d)))).cons (RW e g (cq d))) h
 |D s t=>exact R8 h a λ l m i a e g h=>(dg.mp h).elim λ n j=>(Nat.lt_or_gt_of_ne d).elim (λ d=>b _ (a.cons (Sf e g d)) n) λ d=>b _ (a.cons (Sf g e d)) j
 |G s t=>exact R8 h a λ l m i a e g h=>b _ (a.cons (RW g e (eY d))) h
 |H s t=>exact R8 h a λ l m i a e g h=>b _ (a.cons (Sf g e (eb d))) h
noncomputable def Fc.neg:Fc->Fc
 |.L s t=>.H s t
 |.T s t=>.G s t
 |.E s t=>.D s t
 |.D s t=>.E s t
 |.G s t=>.T s t
 |.H s t=>.L s t
theorem Fc.neg_den{c:List Nat}{f:Fc}(h:¬f.den c):f.neg.den c:=by
 cases f with
 |L s t=>exact h
 |T s t=>exact h
 |E s t=>exact h
 |D s t=>exact Classical.byContradiction h
 |G s t=>exact Classical.byContradiction h
 |H s t=>exact Classical.byContradiction h
noncomputable def Wv:List Fc->Nat->List Li->Bool
 |[],n,cs=>unsat n cs
 |f::fs,n,cs=>f.go (Wv fs n) cs
noncomputable def imp(c:List Nat)(P:Prop):List Fc->Prop
 |[]=>P
 |f::fs=>f.den c->imp c P fs
theorem TV{c:List Nat}{n:Nat}:∀(fs:List Fc) {b:List Li},Wv fs n b=aj->Ls c b->imp c False fs:=by
 intro fs;induction fs with
 |nil=>exact Tp n
 |cons f fs e=>exact λ h a d=>Classical.byContradiction λ g=>f.S7 h a d λ b a h=>g (e h a)
theorem UW{c:List Nat}{P:Prop}{fs:List Fc}(h:¬P->imp c False fs):imp c P fs:=by
 induction fs with
 |nil=>exact Classical.byContradiction h
 |cons f fs a=>exact λ d=>a λ n=>h n d
theorem rl0(c:List Nat)(fs:List Fc)(h:Wv fs c.length []=aj):imp c False fs:=TV fs h λ q a=>nomatch a
theorem rl(c:List Nat)(g:Fc)(fs:List Fc)(h:Wv (g.neg::fs) c.length []=aj):imp c (g.den c) fs:=
 UW λ n=>(TV (c:=c) (g.neg::fs) h λ q a=>nomatch a) (Fc.neg_den n)
end R0
open R0 (rl rl0)
variable{p3 p2 Vc p5 p1 p0:Prop}{ka kb kvs:List (V×V)}{M:Model}{a tc tk c mj k d b i j N k' d' ep m':Nat}{o:Obj}{vs xs Rj ys:List V}{Tq py pos np pos':gU}{pn ls acc:List Str}{iter e elt slice value target test:Expr}{I CG C ae CS CR fI CA:aG}{RY SM Vd Rr Ra:Sort _}{us ws:List Value}{whole:Sem Value}{ms RB:List (Nat×Nat)}{fd:List Bool}{A:Around}{lk rs q:List Nat}{args elts ifs:List Expr}{B attr Yy x name qual ahead t:Str}{os:OsState}{nF:V}{E Ex ExB:Value->aR->Prop}{prog:se}{es:List bL}{fs:List (Str×V)}{β α:Type}{ku u:Value}{op:CmpOp}{s s':aR}{p':Array Nat}{L:List (aG×List Nat)}{body:List Stmt}{h' H:Heap}{expr:Bool}{w:I0}{scope sc:iD}{env:Env}{Jj:List (aG×Obj)}{p4:Ra->Prop}{l:List α}
noncomputable def a_:R0.Tm:=.V 0
noncomputable def bo:R0.Tm:=.V 1
noncomputable def cu:R0.Tm:=.V 2
noncomputable def fZ:R0.Tm:=.V 3
noncomputable def u5:R0.Tm:=.V 4
noncomputable def P0:R0.Tm:=.V 5
theorem QR{m:Nat}(i:2*m<=a+b)(f:a+b<2*(m+1))(e:a<b)(d:b-a<=c+1):a<=m/\m<b/\m-a<=c/\b-(m+1)<=c:=
 have t:=λ g h=>rl [a,b,c,m] g [.L (.M 2 fZ) (.A a_ bo),.T (.A a_ bo) (.M 2 (.A fZ (.K 1))),.T a_ bo,.L (.S bo a_) (.A cu (.K 1))] h i f e d
 ⟨t (.L a_ fZ) rfl,t (.T fZ bo) rfl,t (.L (.S fZ a_) cu) rfl,t (.L (.S bo (.A fZ (.K 1))) cu) rfl⟩
theorem Qw:b<=a->a-(a-b)=b:=rl [a,b] (.E (.S a_ (.S a_ bo)) bo) [.L bo a_] rfl
theorem Qv:a<=b->a=b-(b-a):=rl [a,b] (.E a_ (.S bo (.S bo a_))) [.L a_ bo] rfl
theorem Qu(b:(a:Int)<=63):a<=63:=jB.mp b
theorem Qt:2<=a->1<=a:=rl [a] (.L (.K 1) a_) [.L (.K 2) a_] rfl
theorem Qr:2<=b->a+1=b->1<=a:=rl [a,b] (.L (.K 1) a_) [.L (.K 2) bo,.E (.A a_ (.K 1)) bo] rfl
theorem Qq:a<=3->b<=4*c->a+1+b<=4*(c+1):=rl [a,b,c] (.L (.A (.A a_ (.K 1)) bo) (.M 4 (.A cu (.K 1)))) [.L a_ (.K 3),.L bo (.M 4 cu)] rfl
theorem Qp:0<b->2*b<=a+1->0<a:=rl [a,b] (.T (.K 0) a_) [.T (.K 0) bo,.L (.M 2 bo) (.A a_ (.K 1))] rfl
theorem Qo:a+1<=a+(b+1):=rl [a,b] (.L (.A a_ (.K 1)) (.A a_ (.A bo (.K 1)))) [] rfl
theorem Qn:a<2->1+a<=2:=rl [a] (.L (.A (.K 1) a_) (.K 2)) [.T a_ (.K 2)] rfl
theorem Pc:2<=1+a+1:=rl [a] (.L (.K 2) (.A (.A (.K 1) a_) (.K 1))) [] rfl
theorem My:a<2->1+a+1<=3:=rl [a] (.L (.A (.A (.K 1) a_) (.K 1)) (.K 3)) [.T a_ (.K 2)] rfl
theorem Pb:2<=a->2<=b->4<=a+b:=rl [a,b] (.L (.K 4) (.A a_ bo)) [.L (.K 2) a_,.L (.K 2) bo] rfl
theorem Pa:a<=3->b<=3->a+b<=6:=rl [a,b] (.L (.A a_ bo) (.K 6)) [.L a_ (.K 3),.L bo (.K 3)] rfl
theorem O_:a<=1->7+a<=8:=rl [a] (.L (.A (.K 7) a_) (.K 8)) [.L a_ (.K 1)] rfl
theorem O9:6<=7+a+1:=rl [a] (.L (.K 6) (.A (.A (.K 7) a_) (.K 1))) [] rfl
theorem O8:a<b+c->b=7->¬a<7->a-b<c:=rl [a,b,c] (.T (.S a_ bo) cu) [.T a_ (.A bo cu),.E bo (.K 7),.G a_ (.K 7)] rfl
theorem O7:a+c<=b+d->d<=c->a<=b:=rl [a,b,c,d] (.L a_ bo) [.L (.A a_ cu) (.A bo fZ),.L fZ cu] rfl
theorem O6:c+a<=d+b->d<=c->a<=b:=rl [a,b,c,d] (.L a_ bo) [.L (.A cu a_) (.A fZ bo),.L fZ cu] rfl
theorem O5:2*a<=b->b+1<=c->c<=a+a->False:=rl0 [a,b,c] [.L (.M 2 a_) bo,.L (.A bo (.K 1)) cu,.L cu (.A a_ a_)] rfl
theorem O4:a<=b->a+(b-a)=b:=rl [a,b] (.E (.A a_ (.S bo a_)) bo) [.L a_ bo] rfl
theorem O3(b:(a:Int)<0):False:=absurd b (i4.mpr (br a))
theorem O2:b<=a->d=a-b->d<=c->¬d<c->a=b+c:=rl [a,b,c,d] (.E a_ (.A bo cu)) [.L bo a_,.E fZ (.S a_ bo),.L fZ cu,.G fZ cu] rfl
theorem O1:a<=6->(a+1)*2<=15:=rl [a] (.L (.N (.A a_ (.K 1)) 2) (.K 15)) [.L a_ (.K 6)] rfl
theorem O0:a+40*c+100<b->a+40<b:=rl [a,b,c] (.T (.A a_ (.K 40)) bo) [.T (.A (.A a_ (.M 40 cu)) (.K 100)) bo] rfl
theorem KF:a+40*c+100<b->a+1+8<b:=rl [a,b,c] (.T (.A (.A a_ (.K 1)) (.K 8)) bo) [.T (.A (.A a_ (.M 40 cu)) (.K 100)) bo] rfl
theorem OZ(b:a<=2^20):(a:Int)<2^63:=cV.mpr (aQ (m:=2^20) b (by decide:2^20<9223372036854775808))
theorem OY(b:a<=2^20):¬1*a>(2^63-1)/8:=by rw[Nat.one_mul];exact bR.mpr (aA b (by decide))
theorem OX: -((a+1:Nat):Int)<= -1:=Int.neg_le_neg (jB.mpr (ea (bg a)))
theorem OW:et (-1+((a+1:Nat):Int))=a:=by rw[Int.natCast_succ,Int.add_comm,Int.add_neg_cancel_right];rfl
theorem OV:a+40*c+100<b->a+1+40<b:=rl [a,b,c] (.T (.A (.A a_ (.K 1)) (.K 40)) bo) [.T (.A (.A a_ (.M 40 cu)) (.K 100)) bo] rfl
theorem OU:et (max 0 (min (a:Int) (b:Int)))=min a b:=(congrArg et (Int.max_eq_right (Int.le_min.mpr ⟨br a,br b⟩))).trans ((x2 a b).elim (λ h=>(congrArg et (Int.min_eq_left (jB.mpr h))).trans (jt h).symm) λ h=>(congrArg et (Int.min_eq_right (jB.mpr h))).trans (rW h).symm)
theorem OT:min (min a b) b=min a b:=rl [a,b] (.E (.I (.I a_ bo) bo) (.I a_ bo)) [] rfl
theorem OS{a b:Int}(c:b<a):a-b-1+1=((et (a-b):Nat):Int):=(Int.sub_add_cancel _ _).trans (gR (pT (DU c))).symm
theorem OR{a b:Int}(c:¬b<a):0=((et (a-b):Nat):Int):=(congrArg pR (Int.toNat_of_nonpos (Int.sub_nonpos_of_le (i4.mp c)))).symm
theorem OQ{a:Int}(c: -10000000<a)(b:a<10000000): -(2^63)<=a/\a<2^63:=⟨pT (f0 (by decide) c),f0 b (by decide)⟩
theorem OP{a b:Int}(c: -1000000<a/\a<1000000/\ -1000000<b/\b<1000000): -10000000<a:=f0 (by decide) c.1
theorem OO{a b:Int}(c: -1000000<a/\a<1000000/\ -1000000<b/\b<1000000):a<10000000:=f0 c.2.1 (by decide)
theorem ON{a b:Int}(c: -1000000<b/\b<1000000/\ -1000000<a/\a<1000000): -10000000<a:=f0 (by decide) c.2.2.1
theorem OM{a b:Int}(c: -1000000<b/\b<1000000/\ -1000000<a/\a<1000000):a<10000000:=f0 c.2.2.2 (by decide)
theorem OL{a b:Int}(c: -1000000<b/\b<1000000/\ -1000000<a/\a<1000000):((et (a-b):Nat):Int)<10000000:=(Int.ofNat_toNat _).symm▸Int.max_lt.mpr ⟨f0 (Int.sub_lt_sub c.2.2.2 c.1) (by decide),by decide⟩
theorem OK{a b:Int}(c: -1000000<b/\b<1000000/\ -1000000<a/\a<1000000): -10000000<a+(1-1):=(gE a).symm▸f0 (by decide) c.2.2.1
theorem OJ{a b:Int}(c: -1000000<b/\b<1000000/\ -1000000<a/\a<1000000):a+(1-1)<10000000:=(gE a).symm▸f0 c.2.2.2 (by decide)
theorem OI{a b:Int}(d:c<et (a-b)):0<((et (a-b):Nat):Int)-(c:Int):=DU (cV.mpr d)
theorem OH{a b:Int}:((et (a-b):Nat):Int)-((et (a-b):Nat):Int)<=0:=Int.le_of_eq (Int.sub_self _)
theorem OG:a<=b->b<c->c<=1->a=b:=rl [a,b,c] (.E a_ bo) [.L a_ bo,.T bo cu,.L cu (.K 1)] rfl
theorem H0:a+(c+1)=b->a<b:=rl [a,b,c] (.T a_ bo) [.E (.A a_ (.A cu (.K 1))) bo] rfl
theorem JG:a+(b+1)=c->a+1+b=c:=rl [a,b,c] (.E (.A (.A a_ (.K 1)) bo) cu) [.E (.A a_ (.A bo (.K 1))) cu] rfl
theorem OF(d:a<=c/\c<b):a<=a+b-1-c:=rl [a,b,c] (.L a_ (.S (.S (.A a_ bo) (.K 1)) cu)) [.L a_ cu,.T cu bo] rfl d.1 d.2
theorem OE(d:a<=c/\c<b):a+b-1-c<b:=rl [a,b,c] (.T (.S (.S (.A a_ bo) (.K 1)) cu) bo) [.L a_ cu,.T cu bo] rfl d.1 d.2
theorem JF:a-(b+1)<=c->a-1-b<=c:=rl [a,b,c] (.L (.S (.S a_ (.K 1)) bo) cu) [.L (.S a_ (.A bo (.K 1))) cu] rfl
theorem OD:a+1-1-(b+1)<=c->a-1-b<=c:=rl [a,b,c] (.L (.S (.S a_ (.K 1)) bo) cu) [.L (.S (.S (.A a_ (.K 1)) (.K 1)) (.A bo (.K 1))) cu] rfl
theorem OC:c<=b->0+a-1-b<=0+a-1-c:=rl [a,b,c] (.L (.S (.S (.A (.K 0) a_) (.K 1)) bo) (.S (.S (.A (.K 0) a_) (.K 1)) cu)) [.L cu bo] rfl
theorem OB:c<a->0+a-1-b<a:=rl [a,b,c] (.T (.S (.S (.A (.K 0) a_) (.K 1)) bo) a_) [.T cu a_] rfl
theorem OA:a<=b->b<1->a=b:=rl [a,b] (.E a_ bo) [.L a_ bo,.T bo (.K 1)] rfl
theorem Oz(e:a<b)(d:b-a<=c+1):a<=(a+b)/2/\(a+b)/2<b/\(a+b)/2-a<=c/\b-((a+b)/2+1)<=c:=QR (Nat.mul_div_le _ _) (Nat.lt_mul_div_succ (a+b) (by decide)) e d
theorem Oy:1<=a->max a 1=a:=rl [a] (.E (.X a_ (.K 1)) a_) [.L (.K 1) a_] rfl
theorem JE:a=b->b<64->a<=16777216:=rl [a,b] (.L a_ (.K 16777216)) [.E a_ bo,.T bo (.K 64)] rfl
theorem Ox:a=b->b<64->a<64:=rl [a,b] (.T a_ (.K 64)) [.E a_ bo,.T bo (.K 64)] rfl
theorem Ow:a=b->b<=2^20->a<=16777216:=rl [a,b] (.L a_ (.K 16777216)) [.E a_ bo,.L bo (.K 1048576)] rfl
theorem Ov:a+80<b->a+1+60<b:=rl [a,b] (.T (.A (.A a_ (.K 1)) (.K 60)) bo) [.T (.A a_ (.K 80)) bo] rfl
theorem Ou:a+40*c+100<b->a+80<b:=rl [a,b,c] (.T (.A a_ (.K 80)) bo) [.T (.A (.A a_ (.M 40 cu)) (.K 100)) bo] rfl
theorem Ot:a+60<b->a+40<b:=rl [a,b] (.T (.A a_ (.K 40)) bo) [.T (.A a_ (.K 60)) bo] rfl
theorem Os:a+60<b->a+8<b:=rl [a,b] (.T (.A a_ (.K 8)) bo) [.T (.A a_ (.K 60)) bo] rfl
theorem Oq:a+40*c+100<b->a+1+60<b:=rl [a,b,c] (.T (.A (.A a_ (.K 1)) (.K 60)) bo) [.T (.A (.A a_ (.M 40 cu)) (.K 100)) bo] rfl
theorem JD:a+40*c+100<b->a<b:=rl [a,b,c] (.T a_ bo) [.T (.A (.A a_ (.M 40 cu)) (.K 100)) bo] rfl
theorem JC:a+(b+1)<900->a+1+b<900:=rl [a,b] (.T (.A (.A a_ (.K 1)) bo) (.K 900)) [.T (.A a_ (.A bo (.K 1))) (.K 900)] rfl
theorem Op:a+40*(b+1)+100<c->a+1+40*b+100<c:=rl [a,b,c] (.T (.A (.A (.A a_ (.K 1)) (.M 40 bo)) (.K 100)) cu) [.T (.A (.A a_ (.M 40 (.A bo (.K 1)))) (.K 100)) cu] rfl
theorem On:a+c<900->b<=c->a+b<900:=rl [a,b,c] (.T (.A a_ bo) (.K 900)) [.T (.A a_ cu) (.K 900),.L bo cu] rfl
theorem Om:a+40*d+100<c->b<=d->a+40*b+100<c:=rl [a,b,c,d] (.T (.A (.A a_ (.M 40 bo)) (.K 100)) cu) [.T (.A (.A a_ (.M 40 fZ)) (.K 100)) cu,.L bo fZ] rfl
theorem Ol:a+(b+1)<900->a<1000:=rl [a,b] (.T a_ (.K 1000)) [.T (.A a_ (.A bo (.K 1))) (.K 900)] rfl
theorem Oj:a+40*(b+1)+100<c->a+3+40*b+100<c:=rl [a,b,c] (.T (.A (.A (.A a_ (.K 3)) (.M 40 bo)) (.K 100)) cu) [.T (.A (.A a_ (.M 40 (.A bo (.K 1)))) (.K 100)) cu] rfl
theorem JB:a+(b+1)<c->a+1+b<c:=rl [a,b,c] (.T (.A (.A a_ (.K 1)) bo) cu) [.T (.A a_ (.A bo (.K 1))) cu] rfl
theorem Oi:a+(c+1)<b->a<b:=rl [a,b,c] (.T a_ bo) [.T (.A a_ (.A cu (.K 1))) bo] rfl
theorem Oh:b+1<=a->a=a-1+1:=rl [a,b] (.E a_ (.A (.S a_ (.K 1)) (.K 1))) [.L (.A bo (.K 1)) a_] rfl
theorem BI:a+40<b->a+7<b:=rl [a,b] (.T (.A a_ (.K 7)) bo) [.T (.A a_ (.K 40)) bo] rfl
theorem Og:a*3≠1:=λ h=>by
 cases a with
 |zero=>cases h
 |succ a=>exact absurd h (fi (aH (by decide) (x3 3 (cp a))))
theorem Of:a*3≠2:=λ h=>by
 cases a with
 |zero=>cases h
 |succ a=>exact absurd h (fi (aH (by decide) (x3 3 (cp a))))
theorem kt:a+1<=a+1:=rl [a] (.L (.A a_ (.K 1)) (.A a_ (.K 1))) [] rfl
theorem qV:min a b<=a:=rl [a,b] (.L (.I a_ bo) a_) [] rfl
theorem Oe(b:¬a=0):a/2<a:=sD (cw b) (by decide)
theorem Od:¬a=0->0<a:=rl [a] (.T (.K 0) a_) [.D a_ (.K 0)] rfl
theorem Oc:a+b<2^20->a<2^20:=rl [a,b] (.T a_ (.K 1048576)) [.T (.A a_ bo) (.K 1048576)] rfl
theorem Ob(b:a%2=1):(a:Int)%2=1:=congrArg (λ x:Nat=>(x:Int)) b
theorem Oa(b:¬a%2=1):¬(a:Int)%2=1:=λ h=>b (dj.mp h)
theorem N_:a<=b*1000->b<c->c<=100->a+1<=2^20:=rl [a,b,c] (.L (.A a_ (.K 1)) (.K 1048576)) [.L a_ (.N bo 1000),.T bo cu,.L cu (.K 100)] rfl
theorem N9:a<=c*1000->b<=1000->c<d->d<=100->a+b<=2^20:=rl [a,b,c,d] (.L (.A a_ bo) (.K 1048576)) [.L a_ (.N cu 1000),.L bo (.K 1000),.T cu fZ,.L fZ (.K 100)] rfl
theorem N8:a<=c*1000->b<=1000->a+b<=(c+1)*1000:=rl [a,b,c] (.L (.A a_ bo) (.N (.A cu (.K 1)) 1000)) [.L a_ (.N cu 1000),.L bo (.K 1000)] rfl
theorem N7:a<=b*1000->b<=100->a+1<=2^20:=rl [a,b] (.L (.A a_ (.K 1)) (.K 1048576)) [.L a_ (.N bo 1000),.L bo (.K 100)] rfl
theorem HZ(c:¬a=b):¬(a:Int)=(b:Int):=λ h=>c (dj.mp h)
theorem N6:a<=b+1->a<=b+1:=rl [a,b] (.L a_ (.A bo (.K 1))) [.L a_ (.A bo (.K 1))] rfl
theorem N5:a<min b c->a<b:=rl [a,b,c] (.T a_ bo) [.T a_ (.I bo cu)] rfl
theorem N4:a<=b->b<c->c<60->a<=2^20:=rl [a,b,c] (.L a_ (.K 1048576)) [.L a_ bo,.T bo cu,.T cu (.K 60)] rfl
theorem HY:a<=b->b<60->a<64:=rl [a,b] (.T a_ (.K 64)) [.L a_ bo,.T bo (.K 60)] rfl
theorem N2:b<a->a-1-(a-1-b)<a:=rl [a,b] (.T (.S (.S a_ (.K 1)) (.S (.S a_ (.K 1)) bo)) a_) [.T bo a_] rfl
theorem BO:b<a->a-1-(a-1-b)=b:=rl [a,b] (.E (.S (.S a_ (.K 1)) (.S (.S a_ (.K 1)) bo)) bo) [.T bo a_] rfl
theorem MD:a<b->b-1-a=c->a=b-1-c:=rl [a,b,c] (.E a_ (.S (.S bo (.K 1)) cu)) [.T a_ bo,.E (.S (.S bo (.K 1)) a_) cu] rfl
theorem GM:a<b->a<b:=rl [a,b] (.T a_ bo) [.T a_ bo] rfl
theorem MC:c<b->¬b-1-a=c->¬a=b-1-c:=rl [a,b,c] (.D a_ (.S (.S bo (.K 1)) cu)) [.T cu bo,.D (.S (.S bo (.K 1)) a_) cu] rfl
theorem GL:a<c->c=b->a<b:=rl [a,b,c] (.T a_ bo) [.T a_ cu,.E cu bo] rfl
theorem MB:a<=b->b<c->c<2^10->a<=2^20:=rl [a,b,c] (.L a_ (.K 1048576)) [.L a_ bo,.T bo cu,.T cu (.K 1024)] rfl
theorem GK:a<=b->b<2^10->a<2^62:=rl [a,b] (.T a_ (.K 4611686018427387904)) [.L a_ bo,.T bo (.K 1024)] rfl
theorem GJ:b<2^10->min a b<=2^20:=rl [a,b] (.L (.I a_ bo) (.K 1048576)) [.T bo (.K 1024)] rfl
theorem MA:a<=c->b<2^10->c<2^10->a+(b+1)<2^20:=rl [a,b,c] (.T (.A a_ (.A bo (.K 1))) (.K 1048576)) [.L a_ cu,.T bo (.K 1024),.T cu (.K 1024)] rfl
theorem Mz:1<=a->a+b=c->a-1+(b+1)=c:=rl [a,b,c] (.E (.A (.S a_ (.K 1)) (.A bo (.K 1))) cu) [.L (.K 1) a_,.E (.A a_ bo) cu] rfl
theorem Mx:a+b+1=a+(b+1):=rl [a,b] (.E (.A (.A a_ bo) (.K 1)) (.A a_ (.A bo (.K 1)))) [] rfl
theorem Mw:b<a->¬a<b:=rl [a,b] (.G a_ bo) [.T bo a_] rfl
theorem Mv(a:0<0):False:=rl0 [] [.T (.K 0) (.K 0)] rfl a
theorem Mt:a+0=b->b=0->a=0:=rl [a,b] (.E a_ (.K 0)) [.E (.A a_ (.K 0)) bo,.E bo (.K 0)] rfl
theorem qY:a<c->b=c->a<b:=rl [a,b,c] (.T a_ bo) [.T a_ cu,.E bo cu] rfl
theorem Ms:a+c=d->d<=b->a<=b:=rl [a,b,c,d] (.L a_ bo) [.E (.A a_ cu) fZ,.L fZ bo] rfl
theorem GI:a+1<=b->a<b:=rl [a,b] (.T a_ bo) [.L (.A a_ (.K 1)) bo] rfl
theorem Mr:a<=c->b<=d->a+b<=c+(d+1):=rl [a,b,c,d] (.L (.A a_ bo) (.A cu (.A fZ (.K 1)))) [.L a_ cu,.L bo fZ] rfl
theorem Mq{e f:Nat}:a<=c->b<=min d e->c<=f->e<2^10->f<2^10->a+b<=2^20:=rl [a,b,c,d,e,f] (.L (.A a_ bo) (.K 1048576)) [.L a_ cu,.L bo (.I fZ u5),.L cu P0,.T u5 (.K 1024),.T P0 (.K 1024)] rfl
theorem GH:a<=b->b<2^10->a<=2^20:=rl [a,b] (.L a_ (.K 1048576)) [.L a_ bo,.T bo (.K 1024)] rfl
theorem Mp:a<b->b<=c->c<2^10->a<2^62:=rl [a,b,c] (.T a_ (.K 4611686018427387904)) [.T a_ bo,.L bo cu,.T cu (.K 1024)] rfl
theorem Mo{e:Nat}:a+b=c->b+1<=d->c=e+d->1<=a:=rl [a,b,c,d,e] (.L (.K 1) a_) [.E (.A a_ bo) cu,.L (.A bo (.K 1)) fZ,.E cu (.A u5 fZ)] rfl
theorem Mn{e:Nat}:b+1<=c->d+b=e->d-1=0->e=a+c->a=0:=rl [a,b,c,d,e] (.E a_ (.K 0)) [.L (.A bo (.K 1)) cu,.E (.A fZ bo) u5,.E (.S fZ (.K 1)) (.K 0),.E u5 (.A a_ cu)] rfl
theorem Mm:a<b->a+1<=b:=rl [a,b] (.L (.A a_ (.K 1)) bo) [.T a_ bo] rfl
theorem yq:b<c->c<=a->a-(b+1)<a-b:=rl [a,b,c] (.T (.S a_ (.A bo (.K 1))) (.S a_ bo)) [.T bo cu,.L cu a_] rfl
theorem Ml:a+c=d->d=b+c->a+0=b:=rl [a,b,c,d] (.E (.A a_ (.K 0)) bo) [.E (.A a_ cu) fZ,.E fZ (.A bo cu)] rfl
theorem Mk(c:b<=a):(a:Int)-(b:Int)=((a-b:Nat):Int):=(Int.ofNat_sub c).symm
theorem GG(b:0<a):(a:Int)≠0:=λ h=>absurd (dj.mp h) (fi b)
theorem GF:(a:Int)=(b:Int)↔a=b:=dj
theorem Mj:¬(a:Int)=(b:Int)↔¬a=b:=not_congr dj
theorem Mi:b<c->c<=a->¬a=b:=rl [a,b,c] (.D a_ bo) [.T bo cu,.L cu a_] rfl
theorem Mh:b<=a->d<b->a-b+c<a-d+c:=rl [a,b,c,d] (.T (.A (.S a_ bo) cu) (.A (.S a_ fZ) cu)) [.L bo a_,.T fZ bo] rfl
theorem Mg:c<d->a-b+c<a-b+d:=rl [a,b,c,d] (.T (.A (.S a_ bo) cu) (.A (.S a_ bo) fZ)) [.T cu fZ] rfl
theorem GE(b:a<1000000):(a:Int)<1000000:=cV.mpr b
theorem Mf(b:a<=1000000):(a:Int)<=1000000:=jB.mpr b
theorem yp:a+1<=a+2:=rl [a] (.L (.A a_ (.K 1)) (.A a_ (.K 2))) [] rfl
theorem BN:a+1<=a+3:=rl [a] (.L (.A a_ (.K 1)) (.A a_ (.K 3))) [] rfl
theorem Md:a<b->b<2^10->a<=1048576:=rl [a,b] (.L a_ (.K 1048576)) [.T a_ bo,.T bo (.K 1024)] rfl
theorem Mc:a<b->b<2^10->a<=1000000:=rl [a,b] (.L a_ (.K 1000000)) [.T a_ bo,.T bo (.K 1024)] rfl
theorem Mb:a<a+(b+1+c):=rl [a,b,c] (.T a_ (.A a_ (.A (.A bo (.K 1)) cu))) [] rfl
theorem Ma:a<b+(c+1)+d->a<b+(c+1+d):=rl [a,b,c,d] (.T a_ (.A bo (.A (.A cu (.K 1)) fZ))) [.T a_ (.A (.A bo (.A cu (.K 1))) fZ)] rfl
theorem L_:a<0->False:=rl0 [a] [.T a_ (.K 0)] rfl
theorem L9:a<=c->b<=d->a+b<=c+d:=rl [a,b,c,d] (.L (.A a_ bo) (.A cu fZ)) [.L a_ cu,.L bo fZ] rfl
theorem L8:a<=c->b<d->a+b<c+d:=rl [a,b,c,d] (.T (.A a_ bo) (.A cu fZ)) [.L a_ cu,.T bo fZ] rfl
theorem yo:a<b+1->¬a=b->a<b:=rl [a,b] (.T a_ bo) [.T a_ (.A bo (.K 1)),.D a_ bo] rfl
theorem L7:c<b+1->a+1-(b+1)<=a+1-c:=rl [a,b,c] (.L (.S (.A a_ (.K 1)) (.A bo (.K 1))) (.S (.A a_ (.K 1)) cu)) [.T cu (.A bo (.K 1))] rfl
theorem L6:b<a->c<b+1->a+1-(b+1)<a+1-c:=rl [a,b,c] (.T (.S (.A a_ (.K 1)) (.A bo (.K 1))) (.S (.A a_ (.K 1)) cu)) [.T bo a_,.T cu (.A bo (.K 1))] rfl
theorem L5:2*d+b<=c->a<d->2*a+(b+1)<=c:=rl [a,b,c,d] (.L (.A (.M 2 a_) (.A bo (.K 1))) cu) [.L (.A (.M 2 fZ) bo) cu,.T a_ fZ] rfl
theorem L4:a<=b->b<60->a<=1000:=rl [a,b] (.L a_ (.K 1000)) [.L a_ bo,.T bo (.K 60)] rfl
theorem L3:a<=b->b<60->a<=2^20:=rl [a,b] (.L a_ (.K 1048576)) [.L a_ bo,.T bo (.K 60)] rfl
theorem L2:a<=c->b<=d->c<=59*1025->d<60->2*a+b<=200000:=rl [a,b,c,d] (.L (.A (.M 2 a_) bo) (.K 200000)) [.L a_ cu,.L bo fZ,.L cu (.K 60475),.T fZ (.K 60)] rfl
theorem L1{a:Int}(d:a<0)(c:a=(b:Int)):False:=absurd (c▸d) (i4.mpr (br b))
theorem L0{a:Int}(b:¬a<0):a=((et a:Nat):Int):=(gR (i4.mp b)).symm
theorem GD(e:(c:Int)=(a:Int))(d:c<b):a<b:=dj.mp e▸d
theorem LZ{d:Int}(f:a<b)(e:b<=c)(h:d=(a:Int))(g:d=(c:Int)):False:=bA _ (aH (dj.mp (h.symm.trans g)▸f) e)
theorem yn:¬(a:Int)<0:=by omega
theorem LY{c:Int}(e:c=(a:Int))(d:c=(b:Int)):a=b:=dj.mp (e.symm.trans d)
theorem GB:b<a->a+1-1-b=a-1-b+1:=rl [a,b] (.E (.S (.S (.A a_ (.K 1)) (.K 1)) bo) (.A (.S (.S a_ (.K 1)) bo) (.K 1))) [.T bo a_] rfl
theorem GA:b<a->c<a->¬b=c->¬a-1-b=a-1-c:=rl [a,b,c] (.D (.S (.S a_ (.K 1)) bo) (.S (.S a_ (.K 1)) cu)) [.T bo a_,.T cu a_,.D bo cu] rfl
theorem BM(c:¬b=a):¬(a:Int)=(b:Int):=λ h=>c (dj.mp h).symm
theorem Gz(b: -1=(a:Int)):False:=by omega
theorem LX{a:Int}(c:a<0):¬a=(b:Int):=by omega
theorem LW{a:Int}(b:0<=a):a=((et a:Nat):Int):=(gR b).symm
theorem Gy:a<b->b<=c->c<60->a<=2^20:=rl [a,b,c] (.L a_ (.K 1048576)) [.T a_ bo,.L bo cu,.T cu (.K 60)] rfl
theorem Gx:a<=b->a+(b-a+1)=b+1:=rl [a,b] (.E (.A a_ (.A (.S bo a_) (.K 1))) (.A bo (.K 1))) [.L a_ bo] rfl
theorem LU{a:Int}(b:¬0<=a):a<0:=Int.not_le.mp b
theorem LS:a<=b->b<=c->c<60->a<64:=rl [a,b,c] (.T a_ (.K 64)) [.L a_ bo,.L bo cu,.T cu (.K 60)] rfl
theorem LR:a+(c+1)<=b->a<=b:=rl [a,b,c] (.L a_ bo) [.L (.A a_ (.A cu (.K 1))) bo] rfl
theorem LQ:d+(a+1)<=b->a+1<=b+c-d:=rl [a,b,c,d] (.L (.A a_ (.K 1)) (.S (.A bo cu) fZ)) [.L (.A fZ (.A a_ (.K 1))) bo] rfl
theorem LP:a+b-c-(d+1)=a+b-(c+(d+1)):=rl [a,b,c,d] (.E (.S (.S (.A a_ bo) cu) (.A fZ (.K 1))) (.S (.A a_ bo) (.A cu (.A fZ (.K 1))))) [] rfl
theorem Gw(e:(a:Int)=(b:Int)/\(c:Int)=(d:Int)):a=b:=dj.mp e.1
theorem Gv(e:(c:Int)=(d:Int)/\(a:Int)=(b:Int)):a=b:=dj.mp e.2
theorem Gu:a+1-1-(b+1)=a-1-b:=rl [a,b] (.E (.S (.S (.A a_ (.K 1)) (.K 1)) (.A bo (.K 1))) (.S (.S a_ (.K 1)) bo)) [] rfl
theorem Gs:a<b->a<b+c:=rl [a,b,c] (.T a_ (.A bo cu)) [.T a_ bo] rfl
theorem LO:a+3<=a+4:=rl [a] (.L (.A a_ (.K 3)) (.A a_ (.K 4))) [] rfl
theorem LN:a+4<=a+4:=rl [a] (.L (.A a_ (.K 4)) (.A a_ (.K 4))) [] rfl
theorem qX:a+2<=a+4:=rl [a] (.L (.A a_ (.K 2)) (.A a_ (.K 4))) [] rfl
theorem Gq:a=b->b<=c->c<=2000->a<2^62:=rl [a,b,c] (.T a_ (.K 4611686018427387904)) [.E a_ bo,.L bo cu,.L cu (.K 2000)] rfl
theorem LM:a<b->b<=c->c<=2000->a<2^62:=rl [a,b,c] (.T a_ (.K 4611686018427387904)) [.T a_ bo,.L bo cu,.L cu (.K 2000)] rfl
theorem LL:a<=b->b<=2000->a<=2^20:=rl [a,b] (.L a_ (.K 1048576)) [.L a_ bo,.L bo (.K 2000)] rfl
theorem LK:a<=b->b<=2000->a<2^62:=rl [a,b] (.T a_ (.K 4611686018427387904)) [.L a_ bo,.L bo (.K 2000)] rfl
theorem LJ:b<=2000->¬b<=a->a<=2^20:=rl [a,b] (.L a_ (.K 1048576)) [.L bo (.K 2000),.H bo a_] rfl
theorem LI:a<1000->1+a<2^20:=rl [a] (.T (.A (.K 1) a_) (.K 1048576)) [.T a_ (.K 1000)] rfl
theorem LH:a<b->b<64->a<2^62:=rl [a,b] (.T a_ (.K 4611686018427387904)) [.T a_ bo,.T bo (.K 64)] rfl
theorem LG:a<=min b c->c<=10->a<=2^20:=rl [a,b,c] (.L a_ (.K 1048576)) [.L a_ (.I bo cu),.L cu (.K 10)] rfl
theorem Gp:a<=b->b<=10->a<=2^20:=rl [a,b] (.L a_ (.K 1048576)) [.L a_ bo,.L bo (.K 10)] rfl
theorem LF{e:Nat}:a<=d+3*c->d<=b+1*e->e<=3->a<=b+3*(c+1):=rl [a,b,c,d,e] (.L a_ (.A bo (.M 3 (.A cu (.K 1))))) [.L a_ (.A fZ (.M 3 cu)),.L fZ (.A bo (.M 1 u5)),.L u5 (.K 3)] rfl
theorem LD:a<=b+3*min c d->b=3->d<=10->a<=33:=rl [a,b,c,d] (.L a_ (.K 33)) [.L a_ (.A bo (.M 3 (.I cu fZ))),.E bo (.K 3),.L fZ (.K 10)] rfl
theorem LB:a<=b+1*min c d->b<=33->d<=3->a<=2^20:=rl [a,b,c,d] (.L a_ (.K 1048576)) [.L a_ (.A bo (.M 1 (.I cu fZ))),.L bo (.K 33),.L fZ (.K 3)] rfl
theorem LA:a<=33->b<=c->c<=10->a+1+b<=2^20:=rl [a,b,c] (.L (.A (.A a_ (.K 1)) bo) (.K 1048576)) [.L a_ (.K 33),.L bo cu,.L cu (.K 10)] rfl
theorem Ly:a<c->b=c+1->a+1<b:=rl [a,b,c] (.T (.A a_ (.K 1)) bo) [.T a_ cu,.E bo (.A cu (.K 1))] rfl
theorem s7:a+2<=a+2:=rl [a] (.L (.A a_ (.K 2)) (.A a_ (.K 2))) [] rfl
theorem Lx:a<c->b=c+1->min (a+1) b=a+1:=rl [a,b,c] (.E (.I (.A a_ (.K 1)) bo) (.A a_ (.K 1))) [.T a_ cu,.E bo (.A cu (.K 1))] rfl
theorem Lw:a<b->b<=10->a+1<2^62:=rl [a,b] (.T (.A a_ (.K 1)) (.K 4611686018427387904)) [.T a_ bo,.L bo (.K 10)] rfl
theorem Lv:a<b->b<=10->a+1<=2^20:=rl [a,b] (.L (.A a_ (.K 1)) (.K 1048576)) [.T a_ bo,.L bo (.K 10)] rfl
theorem Lu:a=b+(c+1)->a=b+1+c:=rl [a,b,c] (.E a_ (.A (.A bo (.K 1)) cu)) [.E a_ (.A bo (.A cu (.K 1)))] rfl
theorem Lr:a=0+a:=rl [a] (.E a_ (.A (.K 0) a_)) [] rfl
theorem Lq:a<=60->b<=60*c->a+b<=60*(c+1):=rl [a,b,c] (.L (.A a_ bo) (.M 60 (.A cu (.K 1)))) [.L a_ (.K 60),.L bo (.M 60 cu)] rfl
theorem Lp:a<=60*min b c->a<=60*b:=rl [a,b,c] (.L a_ (.M 60 bo)) [.L a_ (.M 60 (.I bo cu))] rfl
theorem Lo{e:Nat}:a<=60*d->c<=60->d<e->e<=2000->a+min b c<=2^20:=rl [a,b,c,d,e] (.L (.A a_ (.I bo cu)) (.K 1048576)) [.L a_ (.M 60 fZ),.L cu (.K 60),.T fZ u5,.L u5 (.K 2000)] rfl
theorem Ln:a<=d->b<=c->a+b<=c+d:=rl [a,b,c,d] (.L (.A a_ bo) (.A cu fZ)) [.L a_ fZ,.L bo cu] rfl
theorem Lm:b<=3->min a b+(b-a+1)<=4:=rl [a,b] (.L (.A (.I a_ bo) (.A (.S bo a_) (.K 1))) (.K 4)) [.L bo (.K 3)] rfl
theorem Gn:a<=20*b->b<=4->a+b*1<=84:=rl [a,b] (.L (.A a_ (.N bo 1)) (.K 84)) [.L a_ (.M 20 bo),.L bo (.K 4)] rfl
theorem Ll:a<=20->b<=84->a+3+b<=107:=rl [a,b] (.L (.A (.A a_ (.K 3)) bo) (.K 107)) [.L a_ (.K 20),.L bo (.K 84)] rfl
theorem Gm:a<=20->a+3<=2^24:=rl [a] (.L (.A a_ (.K 3)) (.K 16777216)) [.L a_ (.K 20)] rfl
theorem Gk:a<=20->b<=84->a+3+b<=2^24:=rl [a,b] (.L (.A (.A a_ (.K 3)) bo) (.K 16777216)) [.L a_ (.K 20),.L bo (.K 84)] rfl
theorem Lk:b<=60->min a b<=2^20:=rl [a,b] (.L (.I a_ bo) (.K 1048576)) [.L bo (.K 60)] rfl
theorem Lj:a<=20*b->b<=60->a+b*1<=1260:=rl [a,b] (.L (.A a_ (.N bo 1)) (.K 1260)) [.L a_ (.M 20 bo),.L bo (.K 60)] rfl
theorem Lh:a<=107->a+3<=2^24:=rl [a] (.L (.A a_ (.K 3)) (.K 16777216)) [.L a_ (.K 107)] rfl
theorem Lg:a<=107->b<=1260->a+3+b<=2^24:=rl [a,b] (.L (.A (.A a_ (.K 3)) bo) (.K 16777216)) [.L a_ (.K 107),.L bo (.K 1260)] rfl
theorem Lf:a<=107->b<=1260->a+3+b+1<=2^24:=rl [a,b] (.L (.A (.A (.A a_ (.K 3)) bo) (.K 1)) (.K 16777216)) [.L a_ (.K 107),.L bo (.K 1260)] rfl
theorem Le:a+1<=a+(b+c)+1:=rl [a,b,c] (.L (.A a_ (.K 1)) (.A (.A a_ (.A bo cu)) (.K 1))) [] rfl
theorem Ld{e:Nat}:a<=b+e+c+1->e<=d->a<=b+(c+d)+1:=rl [a,b,c,d,e] (.L a_ (.A (.A bo (.A cu fZ)) (.K 1))) [.L a_ (.A (.A (.A bo u5) cu) (.K 1)),.L u5 fZ] rfl
theorem Lc:b<=d->a+b<=a+(c+d)+1:=rl [a,b,c,d] (.L (.A a_ bo) (.A (.A a_ (.A cu fZ)) (.K 1))) [.L bo fZ] rfl
theorem Lb:a<=min b c->c<=10->a<=10:=rl [a,b,c] (.L a_ (.K 10)) [.L a_ (.I bo cu),.L cu (.K 10)] rfl
theorem K9:a=b->b<=10->a<=2^20:=rl [a,b] (.L a_ (.K 1048576)) [.E a_ bo,.L bo (.K 10)] rfl
theorem K8:a<=10->a+1<1000000:=rl [a] (.T (.A a_ (.K 1)) (.K 1000000)) [.L a_ (.K 10)] rfl
theorem Gj:a<=3->b<=3*c->a+b<=3*(c+1):=rl [a,b,c] (.L (.A a_ bo) (.M 3 (.A cu (.K 1)))) [.L a_ (.K 3),.L bo (.M 3 cu)] rfl
theorem K7:a<=3*b->b<=10->a<=30:=rl [a,b] (.L a_ (.K 30)) [.L a_ (.M 3 bo),.L bo (.K 10)] rfl
theorem K6:a<=3->0+30*a+1<=2^20:=rl [a] (.L (.A (.A (.K 0) (.M 30 a_)) (.K 1)) (.K 1048576)) [.L a_ (.K 3)] rfl
theorem Gi(c:(a:Int)=(b:Int)):a=b:=dj.mp c
theorem K5:et ((a:Int)-1)=a-1:=Int.toNat_sub a 1
theorem K2:1+(a:Int)=((a+1:Nat):Int):=Int.add_comm _ _
theorem K1:b=c->c<64->min a b<=2^20:=rl [a,b,c] (.L (.I a_ bo) (.K 1048576)) [.E bo cu,.T cu (.K 64)] rfl
theorem K0:a<=b->b<=100000->a<2^62:=rl [a,b] (.T a_ (.K 4611686018427387904)) [.L a_ bo,.L bo (.K 100000)] rfl
theorem KZ:a<b->b<=c->c<=100000->a<2^62:=rl [a,b,c] (.T a_ (.K 4611686018427387904)) [.T a_ bo,.L bo cu,.L cu (.K 100000)] rfl
theorem KY:a<b->b<=12->a<2^62:=rl [a,b] (.T a_ (.K 4611686018427387904)) [.T a_ bo,.L bo (.K 12)] rfl
theorem KX:a<=3->a-(b+1)<=3:=rl [a,b] (.L (.S a_ (.A bo (.K 1))) (.K 3)) [.L a_ (.K 3)] rfl
theorem KW:a<=0+30*b+1->b<=3->a<=1000:=rl [a,b] (.L a_ (.K 1000)) [.L a_ (.A (.A (.K 0) (.M 30 bo)) (.K 1)),.L bo (.K 3)] rfl
theorem KV:a<b-1->a+1<b:=rl [a,b] (.T (.A a_ (.K 1)) bo) [.T a_ (.S bo (.K 1))] rfl
theorem KU:a+1<b->b<=12->a+1<2^62:=rl [a,b] (.T (.A a_ (.K 1)) (.K 4611686018427387904)) [.T (.A a_ (.K 1)) bo,.L bo (.K 12)] rfl
theorem KT:a<b->a<b-1+1:=rl [a,b] (.T a_ (.A (.S bo (.K 1)) (.K 1))) [.T a_ bo] rfl
theorem KS:a<=d+c->d<=b+1->a<=b+(c+1):=rl [a,b,c,d] (.L a_ (.A bo (.A cu (.K 1)))) [.L a_ (.A fZ cu),.L fZ (.A bo (.K 1))] rfl
theorem KR:a<=0+min b c->c<2^20->a+1<=2^20:=rl [a,b,c] (.L (.A a_ (.K 1)) (.K 1048576)) [.L a_ (.A (.K 0) (.I bo cu)),.T cu (.K 1048576)] rfl
theorem KQ:b<=3->min a b+1+(b-a)<=4:=rl [a,b] (.L (.A (.A (.I a_ bo) (.K 1)) (.S bo a_)) (.K 4)) [.L bo (.K 3)] rfl
theorem KP:b<60->min a b<=2^20:=rl [a,b] (.L (.I a_ bo) (.K 1048576)) [.T bo (.K 60)] rfl
theorem KO:a<=20*b->b<=c->c<=10->a+b*1<=210:=rl [a,b,c] (.L (.A a_ (.N bo 1)) (.K 210)) [.L a_ (.M 20 bo),.L bo cu,.L cu (.K 10)] rfl
theorem KN:b<=3->min a b+1<=2^20:=rl [a,b] (.L (.A (.I a_ bo) (.K 1)) (.K 1048576)) [.L bo (.K 3)] rfl
theorem KM:b<=3->min a b+1+(b-a)<=2^20:=rl [a,b] (.L (.A (.A (.I a_ bo) (.K 1)) (.S bo a_)) (.K 1048576)) [.L bo (.K 3)] rfl
theorem KJ:a<=20->b<=84->a+3+b+3<=2^24:=rl [a,b] (.L (.A (.A (.A a_ (.K 3)) bo) (.K 3)) (.K 16777216)) [.L a_ (.K 20),.L bo (.K 84)] rfl
theorem KI:a<=20->b<=84->c<=210->a+3+b+3+c<=2^24:=rl [a,b,c] (.L (.A (.A (.A (.A a_ (.K 3)) bo) (.K 3)) cu) (.K 16777216)) [.L a_ (.K 20),.L bo (.K 84),.L cu (.K 210)] rfl
theorem KH:a<=20->b<=84->c<=210->a+3+b+3+c+1<=2^24:=rl [a,b,c] (.L (.A (.A (.A (.A (.A a_ (.K 3)) bo) (.K 3)) cu) (.K 1)) (.K 16777216)) [.L a_ (.K 20),.L bo (.K 84),.L cu (.K 210)] rfl
theorem Gh(b:¬0<a):¬0<(a:Int):=λ h=>b (cV.mp h)
theorem Gg:a+6<6->False:=rl0 [a] [.T (.A a_ (.K 6)) (.K 6)] rfl
theorem KG:a<b->b<3->5+a<1000:=rl [a,b] (.T (.A (.K 5) a_) (.K 1000)) [.T a_ bo,.T bo (.K 3)] rfl
theorem KE:a<=3*min b c->b<2->a<=6:=rl [a,b,c] (.L a_ (.K 6)) [.L a_ (.M 3 (.I bo cu)),.T bo (.K 2)] rfl
theorem KD:a<=24->b<c->c<3->a+1+b<1000:=rl [a,b,c] (.T (.A (.A a_ (.K 1)) bo) (.K 1000)) [.L a_ (.K 24),.T bo cu,.T cu (.K 3)] rfl
theorem KC:a<=24->a+4<1000:=rl [a] (.T (.A a_ (.K 4)) (.K 1000)) [.L a_ (.K 24)] rfl
theorem Gf:a<2->1+a<1000000:=rl [a] (.T (.A (.K 1) a_) (.K 1000000)) [.T a_ (.K 2)] rfl
theorem KB:a<=6->b<1+c->c<2->a+(b+1)<=20:=rl [a,b,c] (.L (.A a_ (.A bo (.K 1))) (.K 20)) [.L a_ (.K 6),.T bo (.A (.K 1) cu),.T cu (.K 2)] rfl
theorem KA:a<1+b->b<2->a<2:=rl [a,b] (.T a_ (.K 2)) [.T a_ (.A (.K 1) bo),.T bo (.K 2)] rfl
theorem Kz:a<=24->b<2->a+5+5*b<1000:=rl [a,b] (.T (.A (.A a_ (.K 5)) (.M 5 bo)) (.K 1000)) [.L a_ (.K 24),.T bo (.K 2)] rfl
theorem Kx:a<2->1+a<=3:=rl [a] (.L (.A (.K 1) a_) (.K 3)) [.T a_ (.K 2)] rfl
theorem Kw:a<=24->b<2->c<1+d->d<2->a+5+5*b+1+c<1000:=rl [a,b,c,d] (.T (.A (.A (.A (.A a_ (.K 5)) (.M 5 bo)) (.K 1)) cu) (.K 1000)) [.L a_ (.K 24),.T bo (.K 2),.T cu (.A (.K 1) fZ),.T fZ (.K 2)] rfl
theorem Kv(d:a<=b)(c:b<=2^20):(a:Int)<2^63:=cV.mpr (aQ (m:=2^20) (aA d c) (by decide:2^20<9223372036854775808))
theorem Ku(d:(a:Int)=(b:Int))(c:¬a=b):False:=c (dj.mp d)
theorem Kt:a+1+b<=a+(b+1):=rl [a,b] (.L (.A (.A a_ (.K 1)) bo) (.A a_ (.A bo (.K 1)))) [] rfl
theorem Ks:a<=b+1+c->a<=b+(c+1):=rl [a,b,c] (.L a_ (.A bo (.A cu (.K 1)))) [.L a_ (.A (.A bo (.K 1)) cu)] rfl
theorem Kr:a<b->min a b=a:=rl [a,b] (.E (.I a_ bo) a_) [.T a_ bo] rfl
theorem Kq:¬b<a->¬b=a->a+1<=b:=rl [a,b] (.L (.A a_ (.K 1)) bo) [.G bo a_,.D bo a_] rfl
theorem BL:a<b+1->¬a<b->a=b:=rl [a,b] (.E a_ bo) [.T a_ (.A bo (.K 1)),.G a_ bo] rfl
theorem Ko:a<1->a=0:=rl [a] (.E a_ (.K 0)) [.T a_ (.K 1)] rfl
theorem Km:a<=60*min b c->c<=2000->a<=120000:=rl [a,b,c] (.L a_ (.K 120000)) [.L a_ (.M 60 (.I bo cu)),.L cu (.K 2000)] rfl
theorem Kl:a<=b->c=b->¬a<c->a=b:=rl [a,b,c] (.E a_ bo) [.L a_ bo,.E cu bo,.G a_ cu] rfl
theorem ym:a<b->b<=2000->a<2^62:=rl [a,b] (.T a_ (.K 4611686018427387904)) [.T a_ bo,.L bo (.K 2000)] rfl
theorem s6:a+2<=a+5:=rl [a] (.L (.A a_ (.K 2)) (.A a_ (.K 5))) [] rfl
theorem BK:a+3<=a+5:=rl [a] (.L (.A a_ (.K 3)) (.A a_ (.K 5))) [] rfl
theorem Kj:a+b<=c->c<d->d<=2000->a<2^60:=rl [a,b,c,d] (.T a_ (.K 1152921504606846976)) [.L (.A a_ bo) cu,.T cu fZ,.L fZ (.K 2000)] rfl
theorem Ki:¬0<a->a=0:=rl [a] (.E a_ (.K 0)) [.G (.K 0) a_] rfl
theorem Kh(b:a=0):¬0<(a:Int):=b▸Int.lt_irrefl 0
theorem Kg(c:b<a):0<(a:Int):=cV.mpr (aQ (bg _) c)
theorem Kf{e:Nat}:a=b+min c d->b+d=e->e<=120000->a<=2^20:=rl [a,b,c,d,e] (.L a_ (.K 1048576)) [.E a_ (.A bo (.I cu fZ)),.E (.A bo fZ) u5,.L u5 (.K 120000)] rfl
theorem Ge:a<=0+min b c->c<=100000->a<=100000:=rl [a,b,c] (.L a_ (.K 100000)) [.L a_ (.A (.K 0) (.I bo cu)),.L cu (.K 100000)] rfl
theorem qW:a+1<=a+5:=rl [a] (.L (.A a_ (.K 1)) (.A a_ (.K 5))) [] rfl
theorem Ke:a<c->c<=b->a<b:=rl [a,b,c] (.T a_ bo) [.T a_ cu,.L cu bo] rfl
theorem Kc:a=0+min b c->b<c->a=b:=rl [a,b,c] (.E a_ bo) [.E a_ (.A (.K 0) (.I bo cu)),.T bo cu] rfl
theorem BJ:a=b->b<=2000->a<=2^20:=rl [a,b] (.L a_ (.K 1048576)) [.E a_ bo,.L bo (.K 2000)] rfl
theorem Kb:a=c->b=c->a=b:=rl [a,b,c] (.E a_ bo) [.E a_ cu,.E bo cu] rfl
theorem Ka:a=b->b=c->c<=2000->a<2^62:=rl [a,b,c] (.T a_ (.K 4611686018427387904)) [.E a_ bo,.E bo cu,.L cu (.K 2000)] rfl
theorem J_:a=b->b=c->c<=2000->a<=2^20:=rl [a,b,c] (.L a_ (.K 1048576)) [.E a_ bo,.E bo cu,.L cu (.K 2000)] rfl
theorem J9:a<=b->b<c->c<=2000->a+1<=2^20:=rl [a,b,c] (.L (.A a_ (.K 1)) (.K 1048576)) [.L a_ bo,.T bo cu,.L cu (.K 2000)] rfl
theorem J8:a=b->b<=2000->a+1<=2^20:=rl [a,b] (.L (.A a_ (.K 1)) (.K 1048576)) [.E a_ bo,.L bo (.K 2000)] rfl
theorem J7:a=b->b<=2^20->a<=2^20:=rl [a,b] (.L a_ (.K 1048576)) [.E a_ bo,.L bo (.K 1048576)] rfl
theorem J6:a=0+b->b<=c->c<60->a<=2000:=rl [a,b,c] (.L a_ (.K 2000)) [.E a_ (.A (.K 0) bo),.L bo cu,.T cu (.K 60)] rfl
theorem J5:b<a->a-(b+1)<a-b:=rl [a,b] (.T (.S a_ (.A bo (.K 1))) (.S a_ bo)) [.T bo a_] rfl
theorem J4:a<=c->a+1<=b+1+c:=rl [a,b,c] (.L (.A a_ (.K 1)) (.A (.A bo (.K 1)) cu)) [.L a_ cu] rfl
theorem J3:a<2^0->a=0:=rl [a] (.E a_ (.K 0)) [.T a_ (.K 1)] rfl
theorem J0:a=b->b<=2000->a<2^62:=rl [a,b] (.T a_ (.K 4611686018427387904)) [.E a_ bo,.L bo (.K 2000)] rfl
theorem JZ:a<=b->b<c->c<=2000->a+2<=2^20:=rl [a,b,c] (.L (.A a_ (.K 2)) (.K 1048576)) [.L a_ bo,.T bo cu,.L cu (.K 2000)] rfl
theorem JY:a<=b->b<=10->a<=60:=rl [a,b] (.L a_ (.K 60)) [.L a_ bo,.L bo (.K 10)] rfl
theorem JX:a<2->c<b->a<=b:=rl [a,b,c] (.L a_ bo) [.T a_ (.K 2),.T cu bo] rfl
theorem JW(e:b-c=a)(d:c<2):a=b\/a+1=b:=Decidable.or_iff_not_imp_left.mpr λ h=>rl [a,b,c] (.E (.A a_ (.K 1)) bo) [.E (.S bo cu) a_,.T cu (.K 2),.D a_ bo] rfl e d h
theorem JV:min 24 a<=2^20:=rl [a] (.L (.I (.K 24) a_) (.K 1048576)) [] rfl
theorem JU:min 24 a<64:=rl [a] (.T (.I (.K 24) a_) (.K 64)) [] rfl
theorem JT:a<=10->1+a<=2^20:=rl [a] (.L (.A (.K 1) a_) (.K 1048576)) [.L a_ (.K 10)] rfl
theorem Gc:a+5<=a+5:=rl [a] (.L (.A a_ (.K 5)) (.A a_ (.K 5))) [] rfl
theorem JS:a<b+1+c->¬a<b+1->a-(b+1)<c:=rl [a,b,c] (.T (.S a_ (.A bo (.K 1))) cu) [.T a_ (.A (.A bo (.K 1)) cu),.G a_ (.A bo (.K 1))] rfl
theorem JR:a<=b+(d+1)+(c-(d+1))->¬c<d+1->a<=b+c:=rl [a,b,c,d] (.L a_ (.A bo cu)) [.L a_ (.A (.A bo (.A fZ (.K 1))) (.S cu (.A fZ (.K 1)))),.G cu (.A fZ (.K 1))] rfl
theorem JQ{e:Nat}:a+(e+1)+(b-(e+1))-c<=d->a+b-c<=d:=rl [a,b,c,d,e] (.L (.S (.A a_ bo) cu) fZ) [.L (.S (.A (.A a_ (.A u5 (.K 1))) (.S bo (.A u5 (.K 1)))) cu) fZ] rfl
theorem JP:a<b->b<2^12->a<2^62:=rl [a,b] (.T a_ (.K 4611686018427387904)) [.T a_ bo,.T bo (.K 4096)] rfl
theorem JO{a:Int}(d:a<(b:Int))(c:¬a<0):et a<b:=(Int.toNat_lt (i4.mp c)).mpr d
theorem JN{a:Int}(b:¬a<0):0<=a:=i4.mp b
theorem JM:a+1=b->c=b->c<=a->False:=rl0 [a,b,c] [.E (.A a_ (.K 1)) bo,.E cu bo,.L cu a_] rfl
theorem Gb:a+1=b->b<=2000->a<=2000:=rl [a,b] (.L a_ (.K 2000)) [.E (.A a_ (.K 1)) bo,.L bo (.K 2000)] rfl
theorem JL:a+b<900->a<1000:=rl [a,b] (.T a_ (.K 1000)) [.T (.A a_ bo) (.K 900)] rfl
theorem JK(c:a+1=b):(a:Int)≠(b:Int):=λ h=>absurd (dj.mp h) (c▸ch (b_ a))
theorem JJ:a<=100->b<=100->a+b<=2^24:=rl [a,b] (.L (.A a_ bo) (.K 16777216)) [.L a_ (.K 100),.L bo (.K 100)] rfl
theorem JI:a<=100->b<=100->c<=100->a+b+c<=2^24:=rl [a,b,c] (.L (.A (.A a_ bo) cu) (.K 16777216)) [.L a_ (.K 100),.L bo (.K 100),.L cu (.K 100)] rfl
theorem JH{e:Nat}:a<=b+c->b<=d+e->a<=d+(c+e):=rl [a,b,c,d,e] (.L a_ (.A fZ (.A cu u5))) [.L a_ (.A bo cu),.L bo (.A fZ u5)] rfl
theorem Ga(f:a<900)(d:b<=c+1)(e:c=a):b<=16777216+1:=aA d (ea (e▸bc (bC f (by decide))))
theorem za{g:Prop}(h:p0/\p1)(k:p0->p1->g):g:=h.elim k
theorem zd{p0:∀a:(Vc),Prop}{g:Prop}(h:∃a:(Vc),p0 a)(k:∀a:(Vc),p0 a->g):g:=h.elim k
theorem ze{p0:Ra->Prop}{g:Prop}(h:∃a:Ra,p0 a)(k:∀a:Ra,p0 a->g):g:=h.elim k
theorem jw{g:Prop}(h:p0/\p1/\p2)(k:p0->p1->p2->g):g:=h.elim λ a h=>za h (k a)
theorem AF{p1:Ra->Prop}{g:Prop}(h:p0/\∃b:Ra,p1 b)(k:p0->∀b:Ra,p1 b->g):g:=h.elim λ a h=>ze h (k a)
theorem Qg{p0 p1:∀b:(Vc),Prop}{g:Prop}(h:∃b:(Vc),p0 b/\p1 b)(k:∀b:(Vc),p0 b->p1 b->g):g:=h.elim λ a h=>za h (k a)
theorem b4{p0 p1:Ra->Prop}{g:Prop}(h:∃b:Ra,p0 b/\p1 b)(k:∀b:Ra,p0 b->p1 b->g):g:=h.elim λ a h=>za h (k a)
theorem Eb{c:∀b:Ra,Prop}{p0:∀b:Ra,∀d:(c b),Prop}{g:Prop}(h:∃b:Ra,∃d:(c b),p0 b d)(k:∀b:Ra,∀d:(c b),p0 b d->g):g:=h.elim λ a h=>zd h (k a)
theorem Jc{p0:Ra->Rr->Prop}{g:Prop}(h:∃b:Ra,∃c:Rr,p0 b c)(k:∀b:Ra,∀c:Rr,p0 b c->g):g:=h.elim λ a h=>ze h (k a)
theorem wR{g:Prop}(h:p0/\p1/\p2/\p3)(k:p0->p1->p2->p3->g):g:=h.elim λ a h=>jw h (k a)
theorem Je{p2:Ra->Prop}{g:Prop}(h:p0/\p1/\∃b:Ra,p2 b)(k:p0->p1->∀b:Ra,p2 b->g):g:=h.elim λ a h=>AF h (k a)
theorem Ec{p1 p2:Ra->Prop}{g:Prop}(h:p0/\∃b:Ra,p1 b/\p2 b)(k:p0->∀b:Ra,p1 b->p2 b->g):g:=h.elim λ a h=>b4 h (k a)
theorem NV{p1:Ra->Rr->Prop}{g:Prop}(h:p0/\∃b:Ra,∃c:Rr,p1 b c)(k:p0->∀b:Ra,∀c:Rr,p1 b c->g):g:=h.elim λ a h=>Jc h (k a)
theorem ew{p0 p1 p2:Ra->Prop}{g:Prop}(h:∃b:Ra,p0 b/\p1 b/\p2 b)(k:∀b:Ra,p0 b->p1 b->p2 b->g):g:=h.elim λ a h=>jw h (k a)
theorem g_{p0 p1:Ra->Rr->Prop}{g:Prop}(h:∃b:Ra,∃c:Rr,p0 b c/\p1 b c)(k:∀b:Ra,∀c:Rr,p0 b c->p1 b c->g):g:=h.elim λ a h=>b4 h (k a)
theorem NY{p4 g:Prop}(h:p0/\p1/\p2/\p3/\p4)(k:p0->p1->p2->p3->p4->g):g:=h.elim λ a h=>wR h (k a)
theorem Jd{p3:Ra->Prop}{g:Prop}(h:p0/\p1/\p2/\∃b:Ra,p3 b)(k:p0->p1->p2->∀b:Ra,p3 b->g):g:=h.elim λ a h=>Je h (k a)
theorem kS{p0 p1 p2 p3:Ra->Prop}{g:Prop}(h:∃b:Ra,p0 b/\p1 b/\p2 b/\p3 b)(k:∀b:Ra,p0 b->p1 b->p2 b->p3 b->g):g:=h.elim λ a h=>wR h (k a)
theorem fo{p0 p1 p2:Ra->Rr->Prop}{g:Prop}(h:∃b:Ra,∃c:Rr,p0 b c/\p1 b c/\p2 b c)(k:∀b:Ra,∀c:Rr,p0 b c->p1 b c->p2 b c->g):g:=h.elim λ a h=>ew h (k a)
theorem mI{p0 p1:Ra->Rr->RY->Prop}{g:Prop}(h:∃b:Ra,∃c:Rr,∃d:RY,p0 b c d/\p1 b c d)(k:∀b:Ra,∀c:Rr,∀d:RY,p0 b c d->p1 b c d->g):g:=h.elim λ a h=>g_ h (k a)
theorem PW{p4 g:Prop}(h:p0/\p1/\p2/\p3/\p4/\p5)(k:p0->p1->p2->p3->p4->p5->g):g:=h.elim λ a h=>NY h (k a)
theorem NX{g:Prop}(h:p0/\p1/\p2/\p3/\∃b:Ra,p4 b)(k:p0->p1->p2->p3->∀b:Ra,p4 b->g):g:=h.elim λ a h=>Jd h (k a)
theorem FU{p1 p2 p3:Ra->Prop}{g:Prop}(h:p0/\∃b:Ra,p1 b/\p2 b/\p3 b/\p4 b)(k:p0->∀b:Ra,p1 b->p2 b->p3 b->p4 b->g):g:=h.elim λ a h=>kS h (k a)
theorem Hj{p1 p2 p3:Ra->Rr->Prop}{g:Prop}(h:p0/\∃b:Ra,∃c:Rr,p1 b c/\p2 b c/\p3 b c)(k:p0->∀b:Ra,∀c:Rr,p1 b c->p2 b c->p3 b c->g):g:=h.elim λ a h=>fo h (k a)
theorem kj{p0 p1 p2:Ra->Rr->RY->Prop}{g:Prop}(h:∃b:Ra,∃c:Rr,∃d:RY,p0 b c d/\p1 b c d/\p2 b c d)(k:∀b:Ra,∀c:Rr,∀d:RY,p0 b c d->p1 b c d->p2 b c d->g):g:=h.elim λ a h=>fo h (k a)
theorem NU{p0 p1:Ra->Rr->RY->SM->Prop}{g:Prop}(h:∃b:Ra,∃c:Rr,∃e:RY,∃d:SM,p0 b c e d/\p1 b c e d)(k:∀b:Ra,∀c:Rr,∀e:RY,∀d:SM,p0 b c e d->p1 b c e d->g):g:=h.elim λ a h=>mI h (k a)
theorem qt{p0 p1 p2 p3:∀b:Ra,∀c:Rr,Prop}{g:Prop}(h:∃b:Ra,∃c:Rr,p0 b c/\p1 b c/\p2 b c/\p3 b c)(k:∀b:Ra,∀c:Rr,p0 b c->p1 b c->p2 b c->p3 b c->g):g:=h.elim λ a h=>kS h (k a)
theorem NW{p4 b g:Prop}(h:p0/\p1/\p2/\p3/\p4/\p5/\b)(k:p0->p1->p2->p3->p4->p5->b->g):g:=h.elim λ a h=>PW h (k a)
theorem A0{p3 p5:Ra->Prop}{g:Prop}(h:p0/\p1/\p2/\∃d:Ra,p3 d/\p4 d/\p5 d)(k:p0->p1->p2->∀d:Ra,p3 d->p4 d->p5 d->g):g:=h.elim λ a h=>h.elim λ b h=>h.elim λ c h=>ew h (k a b c)
theorem AZ{p1 p2 p3:Ra->Rr->RY->Prop}{g:Prop}(h:p0/\∃b:Ra,∃c:Rr,∃d:RY,p1 b c d/\p2 b c d/\p3 b c d)(k:p0->∀b:Ra,∀c:Rr,∀d:RY,p1 b c d->p2 b c d->p3 b c d->g):g:=h.elim λ a h=>kj h (k a)
theorem Jb{p0 p1 p2 p3 p4:Ra->Rr->Prop}{g:Prop}(h:∃c:Ra,∃d:Rr,p0 c d/\p1 c d/\p2 c d/\p3 c d/\p4 c d)(k:∀c:Ra,∀d:Rr,p0 c d->p1 c d->p2 c d->p3 c d->p4 c d->g):g:=h.elim λ a h=>h.elim λ b h=>NY h (k a b)
theorem qs{p0 p1 p2 p3:Ra->Rr->RY->Prop}{g:Prop}(h:∃b:Ra,∃c:Rr,∃d:RY,p0 b c d/\p1 b c d/\p2 b c d/\p3 b c d)(k:∀b:Ra,∀c:Rr,∀d:RY,p0 b c d->p1 b c d->p2 b c d->p3 b c d->g):g:=h.elim λ a h=>qt h (k a)
theorem x6{p0 p1 p2:Ra->Rr->RY->SM->Prop}{g:Prop}(h:∃b:Ra,∃c:Rr,∃e:RY,∃d:SM,p0 b c e d/\p1 b c e d/\p2 b c e d)(k:∀b:Ra,∀c:Rr,∀e:RY,∀d:SM,p0 b c e d->p1 b c e d->p2 b c e d->g):g:=h.elim λ a h=>kj h (k a)
theorem AY{p0 p1 p2 p3:Ra->Rr->RY->SM->Prop}{g:Prop}(h:∃b:Ra,∃c:Rr,∃e:RY,∃d:SM,p0 b c e d/\p1 b c e d/\p2 b c e d/\p3 b c e d)(k:∀b:Ra,∀c:Rr,∀e:RY,∀d:SM,p0 b c e d->p1 b c e d->p2 b c e d->p3 b c e d->g):g:=h.elim λ a h=>qs h (k a)
theorem Ed{p3 p4 p5:Ra->Rr->RY->Prop}{g:Prop}(h:p0/\p1/\p2/\∃c:Ra,∃d:Rr,∃e:RY,p3 c d e/\p4 c d e/\p5 c d e)(k:p0->p1->p2->∀c:Ra,∀d:Rr,∀e:RY,p3 c d e->p4 c d e->p5 c d e->g):g:=h.elim λ a h=>h.elim λ b h=>AZ h (k a b)
theorem NT{p0 p1 p2 p3 p5 d e:Ra->Prop}{g:Prop}(h:∃c:Ra,p0 c/\p1 c/\p2 c/\p3 c/\p4 c/\p5 c/\d c/\e c)(k:∀c:Ra,p0 c->p1 c->p2 c->p3 c->p4 c->p5 c->d c->e c->g):g:=h.elim λ a h=>h.elim λ b h=>NW h (k a b)
theorem AX{p0 p1 p2 p3:∀b:Ra,∀d:Rr,∀f:RY,∀e:SM,∀c:Vd,Prop}{g:Prop}(h:∃b:Ra,∃d:Rr,∃f:RY,∃e:SM,∃c:Vd,p0 b d f e c/\p1 b d f e c/\p2 b d f e c/\p3 b d f e c)(k:∀b:Ra,∀d:Rr,∀f:RY,∀e:SM,∀c:Vd,p0 b d f e c->p1 b d f e c->p2 b d f e c->p3 b d f e c->g):g:=h.elim λ a h=>AY h (k a)
theorem Ja{j:Sort _}{p0 p1 p2 p3:Ra->Rr->RY->SM->Vd->j->Prop}{g:Prop}(h:∃b:Ra,∃d:Rr,∃f:RY,∃e:SM,∃c:Vd,∃i:j,p0 b d f e c i/\p1 b d f e c i/\p2 b d f e c i/\p3 b d f e c i)(k:∀b:Ra,∀d:Rr,∀f:RY,∀e:SM,∀c:Vd,∀i:j,p0 b d f e c i->p1 b d f e c i->p2 b d f e c i->p3 b d f e c i->g):g:=h.elim λ a h=>AX h (k a)
noncomputable def b7:=aG->Obj->Prop
variable{S Kp:b7}
noncomputable def b7.le(S T:b7):Prop:=∀a o,S a o->T a o
noncomputable def b7.add(S:b7)(a:aG)(o:Obj):b7:=λ b p=>S b p\/(b=a/\p=o)
theorem b7.le.refl(S:b7):S.le S:=λ Z Z h=>h
theorem b7.le.trans{T U:b7}(x:S.le T)(y:T.le U):S.le U:=λ a o h=>y a o (x a o h)
theorem b7.Rp(S:b7)(a:aG)(o:Obj):S.le (S.add a o):=λ Z Z h=>.inl h
theorem b7.Rq(S:b7)(a:aG)(o:Obj):S.add a o a o:=.inr ⟨rfl,rfl⟩
noncomputable abbrev dU(T3:Array Value)(n:Nat):Obj:={cls:=.type "tuple",data:=.seq T3 n}
mutual
noncomputable def jE(P:bQ):V->Int
 |.int i=>hashInt i
 |.str x=>PySem.PyData.keyHash P x
 |.tup xs=>Hf (Builtin.Tuple.tupleHashOf (jT P xs))
 |_=>0
noncomputable def jT(P:bQ):List V->List Int
 |[]=>[]
 |x::xs=>jE P x::jT P xs
end
mutual
inductive VR(P:bQ)(S:b7):Value->V->Prop
 |none:VR P S .none .none
 |bool (b:Bool):VR P S (.bool b) (.bool b)
 |int (i:Int) (t:I2):VR P S (.int i t) (.int i)
 |str (x:Str) (t:I2):VR P S (.str x t) (.str x)
 |tup {a:aG} {vs:List Value} {n:Nat} {xs:List V}:S a (dU vs.toArray n)->di P S vs xs->VR P S (.ref a) (.tup xs)
 |list {a:aG} {vs:List Value} {n:Nat} {xs:List V}:S a (listOf vs.toArray n)->di P S vs xs->VR P S (.ref a) (.list xs)
 |dict {a:aG} {es:List bL} {n:Nat} {kvs:List (V×V)}:(a==dz)=ao->S a (dictOf es n)->f_ P S es kvs->VR P S (.ref a) (.dict kvs)
 |inst {a C d:aG} {es:List bL} {n:Nat} {fs:List (Str×V)}:S a (ii C d)->S d (dictOf es n)->g6 P S es fs->VR P S (.ref a) (.inst C fs)
 |ref (a:aG):VR P S (.ref a) (.ref a)
 |SO {a:aG} {x y:Int} {t u v:I2}:S a {cls:=.type "range",data:=.fields #[.int x t,.int y u,.int 1 v]}->VR P S (.ref a) (.SO x y)
inductive di(P:bQ)(S:b7):List Value->List V->Prop
 |nil:di P S [] []
 |cons {u:Value} {us:List Value} {v:V} {vs:List V}:VR P S u v->di P S us vs->di P S (u::us) (v::vs)
inductive f_(P:bQ)(S:b7):List bL->List (V×V)->Prop
 |nil:f_ P S [] []
 |cons {h:Int} {ku u:Value} {es:List bL} {k v:V} {kvs:List (V×V)}:h=jE P k->VR P S ku k->VR P S u v->f_ P S es kvs->f_ P S (⟨h,ku,u⟩::es) ((k,v)::kvs)
inductive g6(P:bQ)(S:b7):List bL->List (Str×V)->Prop
 |nil:g6 P S [] []
 |cons {x:Str} {t:I2} {u:Value} {es:List bL} {v:V} {fs:List (Str×V)}:VR P S u v->g6 P S es fs->g6 P S (⟨PySem.PyData.keyHash P x,.str x t,u⟩::es) ((x,v)::fs)
end
section
variable{P:bQ}{T:b7}(h:S.le T)
include h
theorem VR.mono{v:V}(r:VR P S u v):VR P T u v:=
 VR.rec (motive_1:=λ u v Z=>VR P T u v) (motive_2:=λ us vs Z=>di P T us vs) (motive_3:=λ es kvs Z=>f_ P T es kvs) (motive_4:=λ es fs Z=>g6 P T es fs) .none .bool .int .str (λ a Z k=>.tup (h _ _ a) k) (λ a Z k=>.list (h _ _ a) k) (λ q a Z k=>.dict q (h _ _ a) k)
  (λ a b Z k=>.inst (h _ _ a) (h _ _ b) k) .ref (λ a=>.SO (h _ _ a)) .nil (λ Z Z a k=>.cons a k) .nil (λ e Z Z Z a b k=>.cons e a b k) .nil (λ Z Z a k=>.cons a k) r
theorem di.mono(r:di P S us vs):di P T us vs:=
 di.rec (motive_1:=λ u v Z=>VR P T u v) (motive_2:=λ us vs Z=>di P T us vs) (motive_3:=λ es kvs Z=>f_ P T es kvs) (motive_4:=λ es fs Z=>g6 P T es fs) .none .bool .int .str (λ a Z k=>.tup (h _ _ a) k) (λ a Z k=>.list (h _ _ a) k) (λ q a Z k=>.dict q (h _ _ a) k)
  (λ a b Z k=>.inst (h _ _ a) (h _ _ b) k) .ref (λ a=>.SO (h _ _ a)) .nil (λ Z Z a k=>.cons a k) .nil (λ e Z Z Z a b k=>.cons e a b k) .nil (λ Z Z a k=>.cons a k) r
theorem f_.mono{us:List bL}{vs:List (V×V)}(r:f_ P S us vs):f_ P T us vs:=
 f_.rec (motive_1:=λ u v Z=>VR P T u v) (motive_2:=λ us vs Z=>di P T us vs) (motive_3:=λ es kvs Z=>f_ P T es kvs) (motive_4:=λ es fs Z=>g6 P T es fs) .none .bool .int .str (λ a Z k=>.tup (h _ _ a) k) (λ a Z k=>.list (h _ _ a) k) (λ q a Z k=>.dict q (h _ _ a) k)
  (λ a b Z k=>.inst (h _ _ a) (h _ _ b) k) .ref (λ a=>.SO (h _ _ a)) .nil (λ Z Z a k=>.cons a k) .nil (λ e Z Z Z a b k=>.cons e a b k) .nil (λ Z Z a k=>.cons a k) r
theorem g6.mono{us:List bL}{vs:List (Str×V)}(r:g6 P S us vs):g6 P T us vs:=
 g6.rec (motive_1:=λ u v Z=>VR P T u v) (motive_2:=λ us vs Z=>di P T us vs) (motive_3:=λ es kvs Z=>f_ P T es kvs) (motive_4:=λ es fs Z=>g6 P T es fs) .none .bool .int .str (λ a Z k=>.tup (h _ _ a) k) (λ a Z k=>.list (h _ _ a) k) (λ q a Z k=>.dict q (h _ _ a) k)
  (λ a b Z k=>.inst (h _ _ a) (h _ _ b) k) .ref (λ a=>.SO (h _ _ a)) .nil (λ Z Z a k=>.cons a k) .nil (λ e Z Z Z a b k=>.cons e a b k) .nil (λ Z Z a k=>.cons a k) r
end
section
variable{P:bQ}{Q:Value->Prop}{Qs:List Value->Prop}
noncomputable def Qa(P:bQ)(S:b7)(u:Value):V->Prop
 |.none=>u=.none
 |.bool b=>u=.bool b
 |.int i=>∀Q:Value->Prop,(∀t,Q (.int i t))->Q u
 |.str x=>∀Q:Value->Prop,(∀t,Q (.str x t))->Q u
 |.tup xs=>∀Q:Value->Prop,(∀a vs n,S a (dU (dm vs) n)->di P S vs xs->Q (.ref a))->Q u
 |.list xs=>∀Q:Value->Prop,(∀a vs n,S a (listOf (dm vs) n)->di P S vs xs->Q (.ref a))->Q u
 |.dict kvs=>∀Q:Value->Prop,(∀a es n,(a==dz)=ao->S a (dictOf es n)->f_ P S es kvs->Q (.ref a))->Q u
 |.inst C fs=>∀Q:Value->Prop,(∀a d es n,S a (ii C d)->S d (dictOf es n)->g6 P S es fs->Q (.ref a))->Q u
 |.ref a=>u=.ref a
 |.SO x y=>∀Q:Value->Prop,(∀a t t' YH,S a {cls:=.type "range",data:=.fields #[.int x t,.int y t',.int 1 YH]}->Q (.ref a))->Q u
theorem VR.inv{v:V}(h:VR P S u v):Qa P S u v:=
 VR.rec (motive_1:=λ u v Z=>Qa P S u v) (motive_2:=λ Z Z Z=>True) (motive_3:=λ Z Z Z=>True) (motive_4:=λ Z Z Z=>True) rfl (λ Z=>rfl) (λ Z t Z k=>k t) (λ Z t Z k=>k t) (λ a r Z Z k=>k _ _ _ a r) (λ a r Z Z k=>k _ _ _ a r) (λ q a r Z Z k=>k _ _ _ q a r)
  (λ a b r Z Z k=>k _ _ _ _ a b r) (λ Z=>rfl) (λ a Z k=>k _ _ _ _ a) trivial (λ Z Z Z Z=>trivial) trivial (λ Z Z Z Z Z Z Z=>trivial) trivial (λ Z Z Z Z=>trivial) h
@[elab_as_elim] theorem VR.RE(h:VR P S u .none)(k:Q .none):Q u:=bz (show u=_ from h.inv)▸k
@[elab_as_elim] theorem VR.V3{b:Bool}(h:VR P S u (.bool b))(k:Q (.bool b)):Q u:=bz (show u=_ from h.inv)▸k
@[elab_as_elim] theorem VR.Rw{a:aG}(h:VR P S u (.ref a))(k:Q (.ref a)):Q u:=bz (show u=_ from h.inv)▸k
@[elab_as_elim] theorem VR.Rc{i:Int}(h:VR P S u (.int i))(k:∀t,Q (.int i t)):Q u:=h.inv Q k
@[elab_as_elim] theorem VR.Rh(h:VR P S u (.str x))(k:∀t,Q (.str x t)):Q u:=h.inv Q k
@[elab_as_elim] theorem VR.Rn(h:VR P S u (.tup xs))(k:∀a vs n,S a (dU (dm vs) n)->di P S vs xs->Q (.ref a)):Q u:=h.inv Q k
@[elab_as_elim] theorem VR.listE(h:VR P S u (.list xs))(k:∀a vs n,S a (listOf (dm vs) n)->di P S vs xs->Q (.ref a)):Q u:=h.inv Q k
@[elab_as_elim] theorem VR.RL(h:VR P S u (.dict kvs))(k:∀a es n,(a==dz)=false->S a (dictOf es n)->f_ P S es kvs->Q (.ref a)):Q u:=h.inv Q k
@[elab_as_elim] theorem VR.instE(h:VR P S u (.inst C fs))(k:∀a d es n,S a (ii C d)->S d (dictOf es n)->g6 P S es fs->Q (.ref a)):Q u:=h.inv Q k
@[elab_as_elim] theorem VR.W4{i j:Int}(h:VR P S u (.SO i j))(k:∀a t c b,S a {cls:=.type "range",data:=.fields #[.int i t,.int j c,.int 1 b]}->Q (.ref a)):Q u:=h.inv Q k
noncomputable def Nz(P:bQ)(S:b7)(us:List Value):List V->Prop
 |[]=>us=[]
 |x::xs=>∀Q:List Value->Prop,(∀u ws,VR P S u x->di P S ws xs->Q (u::ws))->Q us
theorem di.inv(h:di P S us vs):Nz P S us vs:=
 di.rec (motive_1:=λ Z Z Z=>True) (motive_2:=λ us vs Z=>Nz P S us vs) (motive_3:=λ Z Z Z=>True) (motive_4:=λ Z Z Z=>True) trivial (λ Z=>trivial) (λ Z Z=>trivial) (λ Z Z=>trivial) (λ Z Z Z=>trivial) (λ Z Z Z=>trivial) (λ Z Z Z Z=>trivial)
  (λ Z Z Z Z=>trivial) (λ Z=>trivial) (λ Z=>trivial) rfl (λ a r Z Z Z k=>k _ _ a r) trivial (λ Z Z Z Z Z Z Z=>trivial) trivial (λ Z Z Z Z=>trivial) h
noncomputable def NF(P:bQ)(S:b7)(es:List bL):List (V×V)->Prop
 |[]=>es=[]
 |q::kvs=>∀Q:List bL->Prop,(∀ku u ws,VR P S ku q.1->VR P S u q.2->f_ P S ws kvs->Q (⟨jE P q.1,ku,u⟩::ws))->Q es
theorem f_.inv(h:f_ P S es kvs):NF P S es kvs:=
 f_.rec (motive_1:=λ Z Z Z=>True) (motive_2:=λ Z Z Z=>True) (motive_3:=λ es kvs Z=>NF P S es kvs) (motive_4:=λ Z Z Z=>True) trivial (λ Z=>trivial) (λ Z Z=>trivial) (λ Z Z=>trivial) (λ Z Z Z=>trivial) (λ Z Z Z=>trivial) (λ Z Z Z Z=>trivial)
  (λ Z Z Z Z=>trivial) (λ Z=>trivial) (λ Z=>trivial) trivial (λ Z Z Z Z=>trivial) rfl (λ e a b r Z Z Z Z k=>e▸k _ _ _ a b r) trivial (λ Z Z Z Z=>trivial) h
noncomputable def NE(P:bQ)(S:b7)(es:List bL):List (Str×V)->Prop
 |[]=>es=[]
 |q::fs=>∀Q:List bL->Prop,(∀t u ws,VR P S u q.2->g6 P S ws fs->Q (⟨PySem.PyData.keyHash P q.1,.str q.1 t,u⟩::ws))->Q es
theorem g6.inv(h:g6 P S es fs):NE P S es fs:=
 g6.rec (motive_1:=λ Z Z Z=>True) (motive_2:=λ Z Z Z=>True) (motive_3:=λ Z Z Z=>True) (motive_4:=λ es fs Z=>NE P S es fs) trivial (λ Z=>trivial) (λ Z Z=>trivial) (λ Z Z=>trivial) (λ Z Z Z=>trivial) (λ Z Z Z=>trivial) (λ Z Z Z Z=>trivial)
  (λ Z Z Z Z=>trivial) (λ Z=>trivial) (λ Z=>trivial) trivial (λ Z Z Z Z=>trivial) trivial (λ Z Z Z Z Z Z Z=>trivial) rfl (λ a r Z Z Z k=>k _ _ _ a r) h
section
variable{Qe:List bL->Prop}
@[elab_as_elim] theorem f_.RA(h:f_ P S es [])(k:Qe []):Qe es:=bz (show es=_ from h.inv)▸k
@[elab_as_elim] theorem f_.Rd{x y:V}(h:f_ P S es ((x,y)::kvs))(k:∀ku u ws,VR P S ku x->VR P S u y->f_ P S ws kvs->Qe (⟨jE P x,ku,u⟩::ws)):Qe es:=h.inv Qe k
@[elab_as_elim] theorem g6.RA(h:g6 P S es [])(k:Qe []):Qe es:=bz (show es=_ from h.inv)▸k
@[elab_as_elim] theorem g6.Rd{y:V}(h:g6 P S es ((x,y)::fs))(k:∀t u ws,VR P S u y->g6 P S ws fs->Qe (⟨PySem.PyData.keyHash P x,.str x t,u⟩::ws)):Qe es:=h.inv Qe k
end
@[elab_as_elim] theorem di.RA(h:di P S us [])(k:Qs []):Qs us:=bz (show us=_ from h.inv)▸k
@[elab_as_elim] theorem di.Rd{x:V}(h:di P S us (x::xs))(k:∀u ws,VR P S u x->di P S ws xs->Qs (u::ws)):Qs us:=h.inv Qs k
@[elab_as_elim] theorem di.Tw{x:V}(h:di P S us [x])(k:∀u,VR P S u x->Qs [u]):Qs us:=h.Rd λ u Z a r=>r.RA (k u a)
@[elab_as_elim] theorem di.UK{x y:V}(h:di P S us [x,y])(k:∀u w,VR P S u x->VR P S w y->Qs [u,w]):Qs us:=h.Rd λ u Z a r=>r.Tw λ w b=>k u w a b
@[elab_as_elim] theorem di.UL{x y z:V}(h:di P S us [x,y,z])(k:∀u w t,VR P S u x->VR P S w y->VR P S t z->Qs [u,w,t]):Qs us:=h.Rd λ u Z a r=>r.UK λ w t b c=>k u w t a b c
end
section
variable{P:bQ}
@[elab_as_elim] theorem di.ind{M:List Value->List V->Prop}(h:di P S us vs)(nil:M [] [])(cons:∀u us v vs,VR P S u v->di P S us vs->M us vs->M (u::us) (v::vs)):M us vs:=
 di.rec (motive_1:=λ Z Z Z=>True) (motive_2:=λ us vs Z=>M us vs) (motive_3:=λ Z Z Z=>True) (motive_4:=λ Z Z Z=>True) trivial (λ Z=>trivial) (λ Z Z=>trivial) (λ Z Z=>trivial) (λ Z Z Z=>trivial) (λ Z Z Z=>trivial) (λ Z Z Z Z=>trivial)
  (λ Z Z Z Z=>trivial) (λ Z=>trivial) (λ Z=>trivial) nil (λ a r Z k=>cons _ _ _ _ a r k) trivial (λ Z Z Z Z Z Z Z=>trivial) trivial (λ Z Z Z Z=>trivial) h
@[elab_as_elim] theorem f_.ind{M:List bL->List (V×V)->Prop}(h:f_ P S es kvs)(nil:M [] [])(cons:∀(ku u:Value) (es:List bL) (k v:V) (kvs:List (V×V)),VR P S ku k->VR P S u v->f_ P S es kvs->M es kvs->M (⟨jE P k,ku,u⟩::es) ((k,v)::kvs)):M es kvs:=
 f_.rec (motive_1:=λ Z Z Z=>True) (motive_2:=λ Z Z Z=>True) (motive_3:=λ es kvs Z=>M es kvs) (motive_4:=λ Z Z Z=>True) trivial (λ Z=>trivial) (λ Z Z=>trivial) (λ Z Z=>trivial) (λ Z Z Z=>trivial) (λ Z Z Z=>trivial) (λ Z Z Z Z=>trivial)
  (λ Z Z Z Z=>trivial) (λ Z=>trivial) (λ Z=>trivial) trivial (λ Z Z Z Z=>trivial) nil (λ e a b r Z Z k=>e▸cons _ _ _ _ _ _ a b r k) trivial (λ Z Z Z Z=>trivial) h
@[elab_as_elim] theorem g6.ind{M:List bL->List (Str×V)->Prop}(h:g6 P S es fs)(nil:M [] [])(cons:∀(x:Str) (t:I2) (u:Value) (es:List bL) (v:V) (fs:List (Str×V)),VR P S u v->g6 P S es fs->M es fs->M (⟨PySem.PyData.keyHash P x,.str x t,u⟩::es) ((x,v)::fs)):M es fs:=
 g6.rec (motive_1:=λ Z Z Z=>True) (motive_2:=λ Z Z Z=>True) (motive_3:=λ Z Z Z=>True) (motive_4:=λ es fs Z=>M es fs) trivial (λ Z=>trivial) (λ Z Z=>trivial) (λ Z Z=>trivial) (λ Z Z Z=>trivial) (λ Z Z Z=>trivial) (λ Z Z Z Z=>trivial)
  (λ Z Z Z Z=>trivial) (λ Z=>trivial) (λ Z=>trivial) trivial (λ Z Z Z Z=>trivial) trivial (λ Z Z Z Z Z Z Z=>trivial) nil (λ a r Z k=>cons _ _ _ _ _ _ a r k) h
theorem di.length(h:di P S us vs):us.length=vs.length:=h.ind rfl λ Z Z Z Z Z Z k=>congrArg j4 k
theorem di.append{b:List Value}{c:List V}(h:di P S us vs)(k:di P S b c):di P S (us++b) (vs++c):=h.ind k λ Z Z Z Z a Z k=>.cons a k
theorem di.get(h:di P S us vs){i:Nat}{v:V}(e:vs[i]? =ah v):∃u,us[i]? =ah u/\VR P S u v:=
 di.ind (M:=λ us vs=>∀(i:Nat) (v:V),vs[i]? =ah v->∃u,us[i]? =ah u/\VR P S u v) h (λ Z Z e=>nomatch e) (λ u Z Z Z a Z k i v e=>by
  cases i with
  |zero=>exact ⟨u,rfl,(Option.some.inj e)▸a⟩
  |succ i=>exact k i v e) i v e
theorem di.get'(h:di P S us vs){i:Nat}{u:Value}(e:us[i]? =ah u):∃v,vs[i]? =ah v/\VR P S u v:=
 di.ind (M:=λ us vs=>∀(i:Nat) (u:Value),us[i]? =ah u->∃v,vs[i]? =ah v/\VR P S u v) h (λ Z Z e=>nomatch e) (λ Z Z v Z a Z k i u e=>by
  cases i with
  |zero=>exact ⟨v,rfl,(Option.some.inj e)▸a⟩
  |succ i=>exact k i u e) i u e
theorem di.snoc{v:V}(h:di P S us vs)(k:VR P S u v):di P S (us++[u]) (vs++[v]):=h.append (.cons k .nil)
theorem di.set{v:V}(h:di P S us vs)(k:VR P S u v):∀i:Nat,di P S (us.set i u) (vs.set i v):=
 h.ind (λ Z=>.nil) λ Z Z Z Z a r b i=>by
  cases i with
  |zero=>exact .cons k r
  |succ i=>exact .cons a (b i)
theorem di.take(h:di P S us vs):∀n:Nat,di P S (us.take n) (vs.take n):=
 h.ind (λ n=>by cases n<;>exact .nil) λ Z Z Z Z a Z b n=>by
  cases n with
  |zero=>exact .nil
  |succ n=>exact .cons a (b n)
theorem di.drop(h:di P S us vs):∀n:Nat,di P S (us.drop n) (vs.drop n):=
 h.ind (λ n=>by cases n<;>exact .nil) λ Z Z Z Z a r b n=>by
  cases n with
  |zero=>exact .cons a r
  |succ n=>exact b n
theorem di.Sg:∀{vs:List V},us.length=vs.length->(∀(i:Nat) (u:Value) (v:V),us[i]? =ah u->vs[i]? =ah v->VR P S u v)->di P S us vs:=by
 induction us with
 |nil=>intro vs c _;simp only[h9.mp c.symm];exact .nil
 |cons u us d=>
  intro vs c h;cases vs with
  |nil=>cases c
  |cons v vs=>exact .cons (h 0 u v rfl rfl) (d (Nat.succ.inj c) λ i u v a b=>h (i+1) u v a b)
theorem f_.length{us:List bL}{vs:List (V×V)}(h:f_ P S us vs):us.length=vs.length:=h.ind rfl λ Z Z Z Z Z Z Z Z Z k=>congrArg j4 k
theorem f_.append{us c:List bL}{vs d:List (V×V)}(h:f_ P S us vs)(k:f_ P S c d):f_ P S (us++c) (vs++d):=h.ind k λ Z Z Z Z Z Z a b Z k=>.cons rfl a b k
end
inductive MO where
 |list (xs:List V)
 |dict (kvs:List (V×V))
 |inst (C d:aG) (fs:List (Str×V))
 |exc (C:aG) (d:Option aG) (vs:Array Value) (fs:List (Str×V))
noncomputable def MO.ctorIdx(v:MO):Nat:=MO.casesOn v (λ Z=>0) (λ Z=>1) (λ Z Z Z=>2) (λ Z Z Z Z=>3)
noncomputable abbrev Mu:=List (aG×MO)
variable{J1 l' J J2 J':Mu}{post' post:V->Mu->Prop}
noncomputable def ce:aG×MO->List aG
 |(a,.list _)=>[a]
 |(a,.dict _)=>[a]
 |(a,.inst _ d _)=>[a,d]
 |(a,.exc _ ai _ _)=>[a]
 |(a,.exc _ (ah d) _ _)=>[a,d]
noncomputable def addrs(J:Mu):List aG:=J.flatMap ce
inductive MR(P:bQ)(S:b7)(h:Heap):aG×MO->Prop
 |list {a:aG} {vs:List Value} {n:Nat} {xs:List V}:h.get? a=ah (listOf vs.toArray n)->di P S vs xs->MR P S h (a,.list xs)
 |dict {a:aG} {es:List bL} {n:Nat} {kvs:List (V×V)}:(a==dz)=ao->h.get? a=ah (dictOf es n)->f_ P S es kvs->MR P S h (a,.dict kvs)
 |inst {a C d:aG} {es:List bL} {n:Nat} {fs:List (Str×V)}:h.get? a=ah (ii C d)->h.get? d=ah (dictOf es n)->g6 P S es fs->MR P S h (a,.inst C d fs)
 |SH {a C:aG} {vs:Array Value}:h.get? a=ah {cls:=.ref C,data:=.fields vs}->MR P S h (a,.exc C ai vs [])
 |SG {a C d:aG} {vs:Array Value} {es:List bL} {n:Nat} {fs:List (Str×V)}:h.get? a=ah {cls:=.ref C,dict:=ah d,data:=.fields vs}->h.get? d=ah (dictOf es n)->g6 P S es fs->MR P S h (a,.exc C (ah d) vs fs)
noncomputable def Qc(P:bQ)(S:b7)(h:Heap)(a:aG):MO->Prop
 |.list xs=>∀Q:Prop,(∀vs n,h.get? a=ah (listOf (dm vs) n)->di P S vs xs->Q)->Q
 |.dict kvs=>∀Q:Prop,(∀es n,(a==dz)=ao->h.get? a=ah (dictOf es n)->f_ P S es kvs->Q)->Q
 |.inst C d fs=>∀Q:Prop,(∀es n,h.get? a=ah (ii C d)->h.get? d=ah (dictOf es n)->g6 P S es fs->Q)->Q
 |.exc ..=>True
theorem MR.inv{P:bQ}{h:Heap}{p:aG×MO}(m:MR P S h p):Qc P S h p.1 p.2:=
 MR.rec (motive:=λ p Z=>Qc P S h p.1 p.2) (λ a r Z k=>k _ _ a r) (λ q a r Z k=>k _ _ q a r) (λ a b r Z k=>k _ _ a b r) (λ Z=>trivial) (λ Z Z Z=>trivial) m
section
variable{P:bQ}{h:Heap}{a:aG}{Q:Prop}
theorem MR.listE(m:MR P S h (a,.list xs))(k:∀vs n,h.get? a=ah (listOf (dm vs) n)->di P S vs xs->Q):Q:=m.inv Q k
theorem MR.RL(m:MR P S h (a,.dict kvs))(k:∀es n,(a==dz)=ao->h.get? a=ah (dictOf es n)->f_ P S es kvs->Q):Q:=m.inv Q k
theorem MR.instE{d:aG}(m:MR P S h (a,.inst C d fs))(k:∀es n,h.get? a=ah (ii C d)->h.get? d=ah (dictOf es n)->g6 P S es fs->Q):Q:=m.inv Q k
end
theorem MR.mono{P:bQ}{T:b7}{h:Heap}(x:S.le T){p:aG×MO}(k:∀b∈ce p,∀o,h.get? b=ah o->h'.get? b=ah o)(m:MR P S h p):MR P T h' p:=by
 cases m with
 |list a r=>exact .list (k _ (by simp[ce]) _ a) (r.mono x)
 |dict q a r=>exact .dict q (k _ (by simp[ce]) _ a) (r.mono x)
 |inst a b r=>exact .inst (k _ (by simp[ce]) _ a) (k _ (by simp[ce]) _ b) (r.mono x)
 |SH a=>exact .SH (k _ (by simp[ce]) _ a)
 |SG a b r=>exact .SG (k _ (by simp[ce]) _ a) (k _ (by simp[ce]) _ b) (r.mono x)
set_option genInjectivity true in
inductive NK where
 |loc|Rl (c:aG)|glob|other
variable{T:(Str->aG)->List (Str×NK)}
noncomputable def NK.ctorIdx(v:NK):Nat:=NK.casesOn v 0 (λ Z=>1) 2 3
structure GC where
 prog:se
 w:I0
 K:f7
 p:se
 loose:List Str
 SP:ExcName->Option Value
 mg:Str->Option Value
 mb:Str->Option Value
variable{G:GC}
structure FC where
 G:GC
 A:Around
 A₀:Around
 base:Heap
 outer:List Env
 g:Heap
 RF:Env
 fL:aG
 env:Env
 h₀:Heap
 S₀:b7
 RQ:List aG
 ns:List (Str×NK)
 own:List aG
 RP:aR
 dep:Nat
variable{O:FC}
noncomputable def FC.P(O:FC):bQ:=O.G.w.params
noncomputable def FC.fp(O:FC):List aG:=O.env.locals::O.own
structure FC.Ok(O:FC):Prop where
 below:Below O.A₀ O.base O.outer O.g
 Sb:O.G.K.In O.g
 top:Top O.G.p O.G.loose O.G.SP O.G.mg O.G.mb O.g
 frames:O.A.frames=ah (O.RF::O.outer)
 RJ:O.RF.frame=ah O.fL
 S9:O.RF.scope.kind=.function
 above:O.g.objs.size<=O.fL
 Sr:∀b o,O.g.get? b=ah o->O.h₀.get? b=ah o/\b∉O.RQ
 s0:∀b o,O.S₀ b o->O.h₀.get? b=ah o/\b∉O.RQ
 hand:O.A.handled=ai
 depth:O.A.depth+O.dep<900
 units:O.A.units+40*O.dep+100<e9
 kind:O.env.scope.kind=.function
 globals:O.env.globals=cj
 loc:∀(i:Nat) (x:Str),O.ns[i]? =ah (x,NK.loc)->O.env.kindOf x=ah .local
 Rl:∀(i:Nat) (x:Str) (c:aG),O.ns[i]? =ah (x,NK.Rl c)->O.env.kindOf x=ah .cell/\O.env.cells.lookup x=ah c
 glob:∀(i:Nat) (x:Str),O.ns[i]? =ah (x,NK.glob)->O.env.kindOf x=ah .globalImplicit
 names:(O.ns.map (·.1)).Nodup
 cells:∀(i j:Nat) (x y:Str) (c:aG),O.ns[i]? =ah (x,NK.Rl c)->O.ns[j]? =ah (y,NK.Rl c)->i=j
structure St where
 vals:List (Option V)
 mu:Mu
variable{Y Y':St}{Q:V->St->Prop}
noncomputable def G_(P:bQ)(S:b7)(h:Heap)(m:Str->Option Value)(x:Str):NK->V->Prop
 |.loc,v=>∃u,m x=ah u/\VR P S u v
 |.Rl c,v=>∃u,h.IsCell c (ah u)/\VR P S u v
 |_,_=>False
structure cQ(O:FC)(Y:St)(Kp:b7)(Jj:List (aG×Obj))(s:aR):Prop where
 vars:∃m,s.heap.Ns O.env.locals m/\∀(i:Nat) (x:Str) (k:NK) (v:V),O.ns[i]? =ah (x,k)->Y.vals[i]? =ah (ah v)->G_ O.P Kp s.heap m x k v
 TX:∀(i:Nat) (x:Str) (c:aG),O.ns[i]? =ah (x,NK.Rl c)->∃u,s.heap.IsCell c u
 mu:∀p∈Y.mu,MR O.P Kp s.heap p
 nd:(O.fp++addrs Y.mu).Nodup
 fresh:∀b∈O.fp++addrs Y.mu,b∈O.RQ\/O.h₀.get? b=ai
 live:∀b∈O.fp++addrs Y.mu,∃o,s.heap.get? b=ah o
 kp:∀b o,Kp b o->s.heap.get? b=ah o/\b∉O.fp++addrs Y.mu/\(O.S₀ b o\/O.h₀.get? b=ai)
 ghost:(Jj.map (·.1)).Nodup/\∀p∈Jj,s.heap.get? p.1=ah p.2/\p.1∉O.fp++addrs Y.mu/\(∀o,¬Kp p.1 o)/\O.h₀.get? p.1=ai/\∃vs,p.2.data=.fields vs
 old:∀b o,O.h₀.get? b=ah o->b∉O.RQ->s.heap.get? b=ah o
 frame:∃m,s.heap.Ns O.fL m
 YC:O.fL∉addrs Y.mu
 UT:∀b o,O.G.K.lookup b=ah o->Kp b o
 alive:∀b o,O.h₀.get? b=ah o->∃o',s.heap.get? b=ah o'
 st:s.gens=O.RP.gens/\s.drawn=O.RP.drawn/\s.os=O.RP.os
theorem cQ.fr(R:cQ O Y Kp Jj s)(ok:O.Ok):∃m,Fr O.g O.fL s.heap m:=
 by refine ze R.frame λ m h=>?_;exact ⟨m,h,λ b o e=>by refine za (ok.Sr b o e) λ a c=>?_;exact R.old b o a c,ok.above⟩
theorem cQ.Sb(R:cQ O Y Kp Jj s)(ok:O.Ok):O.G.K.In s.heap:=
 ok.Sb.keeps λ b o e=>by refine za (ok.Sr b o e) λ a c=>?_;exact R.old b o a c
theorem cQ.keeps{O:FC}{Y:St}{Kp:b7}{Jj:List (aG×Obj)}{s:aR}(R:cQ O Y Kp Jj s){h':Heap}{tk:Nat}(k:∀b o,s.heap.get? b=ah o->h'.get? b=ah o):
 cQ O Y Kp Jj {s with heap:=h',toks:=tk}:=by
 obtain ⟨⟨m,D,F⟩,H,E,nd,z,G,t,q,g,⟨w,A⟩,f,l,al,st⟩:=R;refine ⟨⟨m,D.keeps k,λ i x kk v a b=>?_⟩,λ i x c e=>by refine ze (H i x c e) λ u j=>?_;exact ⟨u,j.keeps k⟩,λ p d=>(E p d).mono (.refl _) λ b Z o e=>k b o e,nd,z,λ b y=>by refine ze (G b y) λ o B=>?_;exact ⟨o,k _ _ B⟩,λ b o e=>⟨k _ _ (t b o e).1,(t b o e).2⟩,
  ⟨q.1,λ p d=>⟨k _ _ (q.2 p d).1,(q.2 p d).2⟩⟩,λ b o e n=>k _ _ (g b o e n),⟨w,A.keeps k⟩,f,l,λ b o e=>by refine ze (al b o e) λ C h=>?_;exact ⟨C,k _ _ h⟩,st⟩
 have:=F i x kk v a b;cases kk with
 |loc=>exact this
 |Rl c=>exact let ⟨u,j,r⟩:=this;⟨u,j.keeps k,r⟩
 |glob=>exact this
 |other=>exact this
theorem cQ.toks(R:cQ O Y Kp Jj s)(tk:Nat):cQ O Y Kp Jj {s with toks:=tk}:=R.keeps (h':=s.heap) λ Z Z e=>e
theorem cQ.V5{O:FC}{Y:St}{Kp:b7}{Jj:List (aG×Obj)}{s:aR}(R:cQ O Y Kp Jj s){a:aG}{o:Obj}(E:s.heap.get? a=ah o)(C:a∉O.fp++addrs Y.mu)(A:O.h₀.get? a=ai)(B:∀p∈Jj,p.1≠a):
 cQ O Y (Kp.add a o) Jj s:=by
 obtain ⟨⟨m,D,F⟩,H,n,nd,z,G,y,f,k,g,j,t,al,st⟩:=R;have l:=b7.Rp Kp a o;refine ⟨⟨m,D,λ i x kk v e b=>?_⟩,H,λ p d=>(n p d).mono l λ Z Z Z e=>e,nd,z,G,λ b w e=>?_,⟨f.1,λ p d=>⟨(f.2 p d).1,(f.2 p d).2.1,λ w h=>h.elim ((f.2 p d).2.2.1 w) λ q=>B p d q.1,(f.2 p d).2.2.2⟩⟩,k,g,j,λ b o e=>.inl (t b o e),al,st⟩
 ·have:=F i x kk v e b;cases kk with
  |loc=>exact let ⟨u,hu,r⟩:=this;⟨u,hu,r.mono l⟩
  |Rl c=>exact let ⟨u,hu,r⟩:=this;⟨u,hu,r.mono l⟩
  |glob=>exact this
  |other=>exact this
 ·rcases e with e|⟨rfl,rfl⟩
  ·exact y b w e
  ·exact ⟨E,C,.inr A⟩
inductive Pt{α β:Type}(O:FC)(Jj:List (aG×Obj))(Kp:b7)(R:b7->α->β->Prop)(Q:β->St->Prop)(u:α)(s':aR):Prop
 |mk (b:β) (Y':St) (Ww:b7) (le:Kp.le Ww) (rel:cQ O Y' Ww Jj s') (r:R Ww u b) (q:Q b Y')
theorem Pt.on{R:b7->α->β->Prop}{Q:β->St->Prop}{u:α}{g:Prop}(h:Pt O Jj Kp R Q u s')(k:∀(b:β) (Y':St) (K:b7),Kp.le K->cQ O Y' K Jj s'->R K u b->Q b Y'->g):g:=by cases h;exact k _ _ _ ‹_› ‹_› ‹_› ‹_›
noncomputable def X(O:FC)(Ex:Value->aR->Prop){α β:Type}(t:Sem α)(R:b7->α->β->Prop)(Q:β->St->Prop)(Y:St):Prop:=
 ∀Kp Jj s,cQ O Y Kp Jj s->aW (bn O.G.prog O.G.w) O.A t (Pt O Jj Kp R Q) Ex s
inductive tA(P:bQ)(S:b7):Flow->Option (Option V)->Prop
 |next:tA P S .next ai
 |ret {u:Value} {v:V}:VR P S u v->tA P S (.ret u) (ah (ah v))
 |cont:tA P S .cont (ah ai)
noncomputable abbrev XV(O:FC)(Ex:Value->aR->Prop)(t:Sem Value)(Q:V->St->Prop)(Y:St):Prop:=X O Ex t (VR O.P) Q Y
noncomputable abbrev XL(O:FC)(Ex:Value->aR->Prop)(t:Sem (List Value))(Q:List V->St->Prop)(Y:St):Prop:=X O Ex t (di O.P) Q Y
noncomputable abbrev XF(O:FC)(Ex:Value->aR->Prop)(t:Sem Flow)(Q:Option (Option V)->St->Prop)(Y:St):Prop:=X O Ex t (tA O.P) Q Y
noncomputable abbrev XB(O:FC)(Ex:Value->aR->Prop)(t:Sem Bool)(Q:Bool->St->Prop)(Y:St):Prop:=X O Ex t (λ Z u b=>u=b) Q Y
theorem X.mono{t:Sem α}{R:b7->α->β->Prop}{Q i:β->St->Prop}(h:X O Ex t R Q Y)(k:∀b Y,Q b Y->i b Y):X O Ex t R i Y:=
 λ Kp Jj s r=>aY (h Kp Jj s r) (λ Z Z g=>by obtain ⟨b,Y',f,a,c,d,e⟩:=g;exact ⟨b,Y',f,a,c,d,k _ _ e⟩) λ Z Z e=>e
noncomputable def St.set(Y:St)(i:Nat)(v:V):St:=⟨Y.vals.set i (ah v),Y.mu⟩
theorem lg{h:Heap}{c L:aG}{u:Option Value}{m:Str->Option Value}(f:h.IsCell c u)(g:h.Ns L m):c≠L:=by rintro rfl;refine b4 f λ o e d=>?_;refine kj g λ i es ep b a Z=>?_;rw[e]at b;cases b;rw[d]at a;cases a
theorem jb{h:Heap}{a c:aG}{u:Option Value}(f:Heap.SameBut a h h')(d:c≠a)(x:h.IsCell c u):h'.IsCell c u:=
 by refine b4 x λ o e b=>?_;exact ⟨o,(f.2 c d).trans e,b⟩
theorem cQ.Ts(R:cQ O Y Kp Jj s){i:Nat}{x:Str}{u:Value}{v:V}(hi:O.ns[i]? =ah (x,.loc))(U:VR O.P Kp u v)(ok:O.Ok)
 {h':Heap} {tk:Nat} {m:Str->Option Value} (r:s.heap.Ns O.env.locals m) (T:∀(i:Nat) (x:Str) (k:NK) (v:V),O.ns[i]? =ah (x,k)->Y.vals[i]? =ah (ah v)->G_ O.P Kp s.heap m x k v)
 (z:h'.Ns O.env.locals (λ y=>if y=x then ah u else m y)) (f:Heap.SameBut O.env.locals s.heap h'):cQ O (Y.set i v) Kp Jj {s with heap:=h',toks:=tk}:=by
 obtain ⟨-,X,F,nd,L,W,B,A,d,⟨N,P⟩,D,H,al,st⟩:=R;have J:O.env.locals∈O.fp++addrs Y.mu:=by simp[FC.fp]
 have M:∀b,b∉O.fp++addrs Y.mu->b≠O.env.locals:=λ b g e=>g (e▸J);have E:∀b∈addrs Y.mu,b≠O.env.locals:=λ b g e=>by have:=nd;simp only[FC.fp,dn,bB,aM,not_or]at this;exact this.1.2 (e▸g)
 refine ⟨⟨_,z,λ j y kk w a b=>?_⟩,λ j y c e=>by refine ze (X j y c e) λ q I=>?_;exact ⟨q,jb f (lg I r) I⟩,λ p h=>(F p h).mono (.refl _) λ b g o e=>(f.2 b (E b (bT.mpr ⟨p,h,g⟩))).trans e,nd,L,λ b g=>?_,λ b o e=>⟨(f.2 b (M b (B b o e).2.1)).trans (B b o e).1,(B b o e).2⟩,
  ⟨A.1,λ p h=>⟨(f.2 _ (M _ (A.2 p h).2.1)).trans (A.2 p h).1,(A.2 p h).2⟩⟩,λ b o e n=>?_,?_,D,H,λ b o e=>?_,st⟩
 ·simp only[St.set,eo]at b;split at b
  ·rename_i U5;subst U5;split at b
   ·cases b;rw[hi]at a;cases a;exact ⟨u,by simp,U⟩
   ·exact nomatch b
  ·rename_i U5;have d:=T j y kk w a b;cases kk with
   |loc=>
    refine b4 d λ q t C=>?_;have Q:y≠x:=by
     rintro rfl;have K:(O.ns.map (·.1))[i]? =ah y:=by (refine (aN).trans ?_;rw[hi]);rfl
     exact U5 ((fg (bh.mp K).1 ok.names).mp (K.trans (show (O.ns.map (·.1))[j]? =ah y by (refine (aN).trans ?_;rw[a]);rfl).symm))
    exact ⟨q,by simp[Q,t],C⟩
   |Rl c=>exact let ⟨q,t,C⟩:=d;⟨q,jb f (lg t r) t,C⟩
   |glob=>exact d
   |other=>exact d
 ·by_cases e:b=O.env.locals
  ·subst e;refine mI z λ o Z Z l Z=>?_;exact ⟨o,l⟩
  ·refine ze (W b g) λ o l=>?_;exact ⟨o,(f.2 b e).trans l⟩
 ·refine (f.2 b ?_).trans (d b o e n);rintro rfl;rcases L _ J with q|q
  ·exact n q
  ·simp only[q]at e;exact nomatch e
 ·by_cases e:O.fL=O.env.locals
  ·exact ⟨_,e▸z⟩
  ·exact ⟨N,P.sameBut f e⟩
 ·refine ze (al b o e) λ S G=>?_;by_cases e:b=O.env.locals
  ·subst e;refine mI z λ o Z Z l Z=>?_;exact ⟨o,l⟩
  ·exact ⟨S,(f.2 b e).trans G⟩
theorem cQ.UO(R:cQ O Y Kp Jj s){i:Nat}{x:Str}{c:aG}{u:Value}{v:V}(hi:O.ns[i]? =ah (x,.Rl c))(g:c∈O.own)(S:VR O.P Kp u v)(ok:O.Ok)
 {h':Heap} {tk:Nat} (t:h'.IsCell c (ah u)) (f:Heap.SameBut c s.heap h'):cQ O (Y.set i v) Kp Jj {s with heap:=h',toks:=tk}:=by
 obtain ⟨⟨m,l,Q⟩,M,E,nd,J,T,A,z,d,⟨N,K⟩,B,G,al,st⟩:=R;have I:c∈O.fp++addrs Y.mu:=by simp[FC.fp,g]
 have L:∀b,b∉O.fp++addrs Y.mu->b≠c:=λ b h e=>h (e▸I);have D:∀b∈addrs Y.mu,b≠c:=λ b h e=>by rw[aV]at nd;exact nd.2.2 c (by simp[FC.fp,g]) b h e.symm
 refine ze (M i x c hi) λ U r=>?_;refine ⟨⟨m,l.sameBut f (Ne.symm (lg r l)),λ j y kk w a b=>?_⟩,λ j y C e=>?_,λ p k=>(E p k).mono (.refl _) λ b h o e=>(f.2 b (D b (bT.mpr ⟨p,k,h⟩))).trans e,nd,J,λ b h=>?_,λ b o e=>⟨(f.2 b (L b (A b o e).2.1)).trans (A b o e).1,(A b o e).2⟩,
  ⟨z.1,λ p k=>⟨(f.2 _ (L _ (z.2 p k).2.1)).trans (z.2 p k).1,(z.2 p k).2⟩⟩,λ b o e n=>?_,⟨N,K.sameBut f (Ne.symm (lg r K))⟩,B,G,λ b o e=>?_,st⟩
 ·simp only[St.set,eo]at b;split at b
  ·rename_i U5;subst U5;split at b
   ·cases b;rw[hi]at a;cases a;exact ⟨u,t,S⟩
   ·exact nomatch b
  ·rename_i U5;have d:=Q j y kk w a b;cases kk with
   |loc=>exact d
   |Rl C=>exact let ⟨q,h1,h2⟩:=d;⟨q,jb f (by rintro rfl;exact U5 (ok.cells i j x y _ hi a)) h1,h2⟩
   |glob=>exact d
   |other=>exact d
 ·by_cases H:C=c
  ·subst H;exact ⟨_,t⟩
  ·exact let ⟨q,hq⟩:=M j y C e;⟨q,jb f H hq⟩
 ·by_cases e:b=c
  ·cases e;refine b4 t λ o g Z=>?_;exact ⟨o,g⟩
  ·refine ze (T b h) λ o g=>?_;exact ⟨o,(f.2 b e).trans g⟩
 ·refine (f.2 b ?_).trans (d b o e n);rintro rfl;rcases J _ I with q|q
  ·exact n q
  ·rw[q]at e;exact nomatch e
 ·refine ze (al b o e) λ P F=>?_;by_cases e:b=c
  ·cases e;refine b4 t λ o g Z=>?_;exact ⟨o,g⟩
  ·exact ⟨P,(f.2 b e).trans F⟩
inductive rT(O:FC)(i:Nat)(x:Str):Prop
 |loc:O.ns[i]? =ah (x,.loc)->rT O i x
 |Rl {c:aG}:O.ns[i]? =ah (x,.Rl c)->rT O i x
inductive nq(O:FC)(i:Nat)(x:Str):Prop
 |loc:O.ns[i]? =ah (x,.loc)->nq O i x
 |Rl {c:aG}:O.ns[i]? =ah (x,.Rl c)->c∈O.own->nq O i x
theorem x8{v:V}(ok:O.Ok)(a:rT O i x)(e:Y.vals[i]? =ah (ah v))(R:cQ O Y Kp Jj s){Q:Value->aR->Prop}(h:∀u,VR O.P Kp u v->Q u s):aW (bn O.G.prog O.G.w) O.A (loadName O.env x) Q Ex s:=by
 refine b4 R.vars λ m f b=>?_;cases a with
 |loc a=>refine b4 (b i x _ v a e) λ u d c=>?_;exact gI ok.kind (ok.loc i x a) f d (h u c)
 |Rl a=>refine b4 (b i x _ v a e) λ u d c=>?_;have:=ok.Rl i x _ a;exact wpAny_loadName_cell ok.kind this.1 this.2 d (h u c)
theorem Hq{i:Nat}{x:Str}{v:V}{Q:V->St->Prop}(ok:O.Ok)(c:rT O i x)(a:Y.vals[i]? =ah (ah v))(h:Q v Y):
 XV O Ex (loadName O.env x) Q Y:=λ Kp Jj s R=>x8 ok c a R λ u b=>⟨v,Y,Kp,.refl _,R,b,h⟩
theorem qu{v:V}(ok:O.Ok)(a:nq O i x)(R:cQ O Y Kp Jj s)(f:VR O.P Kp u v){Q:Unit->aR->Prop}(h:∀s',cQ O (Y.set i v) Kp Jj s'->Q () s'):aW (bn O.G.prog O.G.w) O.A (storeName O.env x u) Q Ex s:=by
 cases a with
 |loc a=>refine b4 (id R.vars) λ m g e=>?_;exact nD (ok.loc i x a) g (λ h' d b=>h _ (R.Ts a f ok g e d b)) (by rw[ok.kind];rfl)
 |Rl a j=>refine ze (R.TX i x _ a) λ k c=>?_;have:=ok.Rl i x _ a;exact wpAny_storeName_cell ok.kind this.1 this.2 c λ h' d b=>h _ (R.UO a j f ok d b)
noncomputable def iO(x:Str):Bool:=!(x==("__debug__":Str))
theorem A4(i:Nat){x:Str}{pos:gU}{v:V}{Q:V->St->Prop}(ok:O.Ok)(b:rT O i x)(a:Y.vals[i]? =ah (ah v))(h:Q v Y)(hd:iO x=aj):
 XV O Ex (bv (.Name x pos) O.env) Q Y:=λ Kp Jj s R=>qo (Hq ok b a h Kp Jj s R) (by simpa[iO]using hd)
theorem dJ{i:Int}(h:Q (.int i) Y):XV O Ex (bv (.Constant (.int i) k pos) O.env) Q Y:=
 λ Kp Z Z R=>qp ⟨_,Y,Kp,.refl _,R.toks _,.int _ _,h⟩
theorem c1(h:Q (.str x) Y):XV O Ex (bv (.Constant (.str x) k pos) O.env) Q Y:=
 λ Kp Z Z R=>wpAny_Constant_str ⟨_,Y,Kp,.refl _,R.toks _,.str _ _,h⟩
theorem A3(h:Q .none Y):XV O Ex (bv (.Constant .none k pos) O.env) Q Y:=
 λ Kp Z Z R=>FS ⟨_,Y,Kp,.refl _,R,.none,h⟩
theorem iZ{b:Bool}(h:Q (.bool b) Y):XV O Ex (bv (.Constant (.bool b) k pos) O.env) Q Y:=
 λ Kp Z Z R=>wpAny_Constant_bool ⟨_,Y,Kp,.refl _,R,.bool _,h⟩
theorem X.Q6{t:Sem α}{R:b7->α->β->Prop}{Q:β->St->Prop}{P:α->aR->Prop}(h:X O Ex t R Q Y)(r:cQ O Y Kp Jj s)(k:∀u s' b Y' f,Kp.le f->cQ O Y' f Jj s'->R f u b->Q b Y'->P u s'):aW (bn O.G.prog O.G.w) O.A t P Ex s:=
 aY (h Kp Jj s r) (λ u s' g=>by obtain ⟨b,Y',f,a,c,d,e⟩:=g;exact k u s' b Y' f a c d e) λ Z Z e=>e
noncomputable def iB(O:FC)(Ex:Value->aR->Prop){β:Type}{α:Type}(t:Value->Value->Sem α)(R:b7->α->β->Prop)(a b:V)(Q:β->St->Prop)(Y:St):Prop:=
 ∀Kp Jj s ua ub,cQ O Y Kp Jj s->VR O.P Kp ua a->VR O.P Kp ub b->aW (bn O.G.prog O.G.w) O.A (t ua ub) (Pt O Jj Kp R Q) Ex s
noncomputable def Nx(O:FC)(Ex:Value->aR->Prop){β:Type}{α:Type}(t:Value->Sem α)(R:b7->α->β->Prop)(a:V)(Q:β->St->Prop)(Y:St):Prop:=
 ∀Kp Jj s ua,cQ O Y Kp Jj s->VR O.P Kp ua a->aW (bn O.G.prog O.G.w) O.A (t ua) (Pt O Jj Kp R Q) Ex s
noncomputable def kR(O:FC)(Ex:Value->aR->Prop)(r:Expr)(Q:V->V->St->Prop):V->St->Prop:=λ a Y=>XV O Ex (bv r O.env) (Q a) Y
noncomputable def I5(O:FC)(Ex:Value->aR->Prop)(t:Value->Value->Sem Value)(Q:V->St->Prop):V->V->St->Prop:=λ a b Y=>iB O Ex t (VR O.P) a b Q Y
inductive kB(Q:Bool->St->Prop)(c:V)(Y:St):Prop
 |mk (q:Bool) (e:c=.bool q) (h:Q q Y)
noncomputable def kU(O:FC)(Ex:Value->aR->Prop)(op:UnaryOp)(Q:V->St->Prop):V->St->Prop:=λ a Y=>Nx O Ex (unaryOp op) (VR O.P) a Q Y
noncomputable def kT(O:FC)(Ex:Value->aR->Prop)(Q:Bool->St->Prop):V->St->Prop:=λ v Y=>Nx O Ex He (λ Z u b=>u=b) v Q Y
noncomputable def Py(O:FC)(Ex:Value->aR->Prop)(body orelse:Expr)(Q:V->St->Prop):Bool->St->Prop:=λ b Y=>if b=aj then XV O Ex (bv body O.env) Q Y else XV O Ex (bv orelse O.env) Q Y
noncomputable def kN(Q:Bool->St->Prop):Bool->St->Prop:=λ c Y=>Q (!c) Y
noncomputable def PB(O:FC)(Ex:Value->aR->Prop)(rest:List Expr)(pos:gU)(whole:Sem Value)(Q:Bool->St->Prop):Bool->St->Prop:=λ c Y=>if c=aj then XB O Ex (eu (.BoolOp .And rest pos) O.env whole) Q Y else Q ao Y
noncomputable def Pu(O:FC)(Ex:Value->aR->Prop)(rest:List Expr)(pos:gU)(whole:Sem Value)(Q:Bool->St->Prop):Bool->St->Prop:=λ c Y=>if c=aj then Q aj Y else XB O Ex (eu (.BoolOp .Or rest pos) O.env whole) Q Y
noncomputable def Ic(O:FC)(Ex:Value->aR->Prop)(rest:List Stmt)(Q:Option (Option V)->St->Prop):Option (Option V)->St->Prop:=λ f Y=>match f with|none=>XF O Ex (eI rest O.env) Q Y|some f=>Q (ah f) Y
noncomputable def v6(i:Nat)(Q:Option (Option V)->St->Prop):V->St->Prop:=λ v Y=>Q ai (Y.set i v)
noncomputable def QK(O:FC)(Ex:Value->aR->Prop)(body orelse:List Stmt)(Q:Option (Option V)->St->Prop):Bool->St->Prop:=λ b Y=>if b=aj then XF O Ex (eI body O.env) Q Y else XF O Ex (eI orelse O.env) Q Y
noncomputable def Pp(Q:Option (Option V)->St->Prop):V->St->Prop:=λ v Y=>Q (ah (ah v)) Y
noncomputable def kE(Q:Option (Option V)->St->Prop):V->St->Prop:=λ Z Y=>Q ai Y
theorem iz{c:Bool}{A B:Prop}(h:c=aj)(a:A):if c=aj then A else B:=by rw[if_pos h];exact a
theorem fS{c:Bool}{A B:Prop}(h:c=ao)(b:B):if c=aj then A else B:=by rw[if_neg (by rw[h];decide)];exact b
theorem up{R:b7->α->β->Prop}{Q:β->St->Prop}{d:b7}{u:α}(l:Kp.le d)(x:Pt O Jj d R Q u s'):Pt O Jj Kp R Q u s':=by obtain ⟨b,Y',c,a,r,h,q⟩:=x;exact ⟨b,Y',c,l.trans a,r,h,q⟩
theorem bw{l r:Expr}{op:Operator}{pos:gU}{Q:V->St->Prop}
 (h:XV O Ex (bv l O.env) (kR O Ex r (I5 O Ex (dP op) Q)) Y):
 XV O Ex (bv (.BinOp l op r pos) O.env) Q Y:=λ Kp Jj s R=>wpAny_BinOp (h.Q6 R λ n k a i Kk l₁ d p h₁=>h₁.Q6 d λ o Q8 b j f l₂ c m g=>aY (g f Jj Q8 n o c (p.mono l₂) m) (λ Z Z x=>up (l₁.trans l₂) x) λ Z Z e=>e)
theorem il{e:Expr}{op:UnaryOp}{pos:gU}{Q:V->St->Prop}
 (h:XV O Ex (bv e O.env) (kU O Ex op Q) Y):
 XV O Ex (bv (.UnaryOp op e pos) O.env) Q Y:=λ Kp Jj s R=>wpAny_UnaryOp (h.Q6 R λ f c a d Kk l₁ b g h₁=>aY (h₁ Kk Jj c f b g) (λ Z Z x=>up l₁ x) λ Z Z e=>e)
theorem l9{test body a:Expr}{pos:gU}{Q:V->St->Prop}
 (h:XB O Ex (eu test O.env (bv test O.env)) (Py O Ex body a Q) Y):
 XV O Ex (bv (.IfExp test body a pos) O.env) Q Y:=λ Kp Jj s R=>wpAny_IfExp (h.Q6 R λ g d b f Kk l₁ c e h₁=>by
  subst e;cases g with
  |true=>exact aY (h₁ Kk Jj d c) (λ Z Z x=>up l₁ x) λ Z Z e=>e
  |false=>exact aY (h₁ Kk Jj d c) (λ Z Z x=>up l₁ x) λ Z Z e=>e)
theorem Jt{l r:Expr}{Q:Bool->St->Prop}(h:XV O Ex (bv l O.env) (kR O Ex r (I5 O Ex (cH op) (kB Q))) Y)(A:y6 op r=ao):XB O Ex (eu (.Compare l [op] [r] pos) O.env whole) Q Y:=λ Kp Jj s R=>nE (h.Q6 R λ w t a o Kk l₁ g B h₁=>h₁.Q6 g λ z Q8 b p n l₂ f v j=>aY (j n Jj Q8 w z f (B.mono l₂) v) (λ u Rz x=>by obtain ⟨c,d,m,k,i,C,q,rfl,y⟩:=x;cases C;exact fA ⟨q,d,m,(l₁.trans l₂).trans k,i,rfl,y⟩) λ Z Z e=>e) A
theorem sL{e:Expr}{pos:gU}{whole:Sem Value}{Q:Bool->St->Prop}(h:XB O Ex (eu e O.env (bv e O.env)) (kN Q) Y):
 XB O Ex (eu (.UnaryOp .Not e pos) O.env whole) Q Y:=λ Kp Jj s R=>isTrue_not (h.Q6 R λ u d b a Kk l₁ c e h₁=>by subst e;exact ⟨_,a,Kk,l₁,c,rfl,h₁⟩)
theorem lp{a:Expr}{d:List Expr}{pos:gU}{whole:Sem Value}{Q:Bool->St->Prop}
 (h:XB O Ex (eu a O.env (bv a O.env)) (PB O Ex d pos whole Q) Y):
 XB O Ex (eu (.BoolOp .And (a::d) pos) O.env whole) Q Y:=λ Kp Jj s R=>by
 show aW _ _ (eu a O.env (bv a O.env)>>=_) _ _ _;refine aw (h.Q6 R λ u g b f Kk l₁ c e h₁=>?_);subst e;cases u with
 |true=>exact aY (h₁ Kk Jj g c) (λ Z Z x=>up l₁ x) λ Z Z e=>e
 |false=>exact az ⟨_,f,Kk,l₁,c,rfl,h₁⟩
theorem je{Q:Bool->St->Prop}(h:Q aj Y):XB O Ex (eu (.BoolOp .And [] pos) O.env whole) Q Y:=
 λ Kp Z Z R=>az ⟨_,Y,Kp,.refl _,R,rfl,h⟩
theorem m5{a:Expr}{d:List Expr}{pos:gU}{whole:Sem Value}{Q:Bool->St->Prop}
 (h:XB O Ex (eu a O.env (bv a O.env)) (Pu O Ex d pos whole Q) Y):
 XB O Ex (eu (.BoolOp .Or (a::d) pos) O.env whole) Q Y:=λ Kp Jj s R=>by
 show aW _ _ (eu a O.env (bv a O.env)>>=_) _ _ _;refine aw (h.Q6 R λ u g b f Kk l₁ c e h₁=>?_);subst e;cases u with
 |true=>exact az ⟨_,f,Kk,l₁,c,rfl,h₁⟩
 |false=>exact aY (h₁ Kk Jj g c) (λ Z Z x=>up l₁ x) λ Z Z e=>e
theorem jm{Q:Bool->St->Prop}(h:Q ao Y):XB O Ex (eu (.BoolOp .Or [] pos) O.env whole) Q Y:=
 λ Kp Z Z R=>az ⟨_,Y,Kp,.refl _,R,rfl,h⟩
theorem Js{Q:Bool->St->Prop}(h:XV O Ex (bv e O.env) (kT O Ex Q) Y)(g:∀whole,eu e O.env whole=do let v <-whole;iX e.pos;kc [v] (He v)):XB O Ex (eu e O.env (bv e O.env)) Q Y:=
 λ Kp Jj s R=>isTrue_plain (h.Q6 R λ f c a d Kk l₁ b i h₁=>aY (h₁ Kk Jj c f b i) (λ Z Z x=>up l₁ x) λ Z Z e=>e) (g _)
theorem bm{Q:Option (Option V)->St->Prop}(h:Q ai Y):XF O Ex (eI [] O.env) Q Y:=λ Kp Z Z R=>az ⟨ai,Y,Kp,.refl _,R,.next,h⟩
theorem aB{st:Stmt}{d:List Stmt}{Q:Option (Option V)->St->Prop}
 (h:XF O Ex (gc st O.env) (Ic O Ex d Q) Y):XF O Ex (eI (st::d) O.env) Q Y:=λ Kp Jj s R=>by
 show aW _ _ (gc st O.env>>=_) _ _ _;refine aw (h.Q6 R λ u f b a Kk l₁ c e h₁=>?_);cases e with
 |next=>exact aY (h₁ Kk Jj f c) (λ Z Z x=>up l₁ x) λ Z Z e=>e
 |ret g=>exact az ⟨_,a,Kk,l₁,c,.ret g,h₁⟩
 |cont=>exact az ⟨_,a,Kk,l₁,c,.cont,h₁⟩
theorem uW{x:Str}{pos' pos:gU}{e:Expr}{Q:Option (Option V)->St->Prop}(i:Nat)(ok:O.Ok)(f:nq O i x)
 (h:XV O Ex (bv e O.env) (v6 i Q) Y) (d:eg e (ah (.Name x pos')) pos.line O.env=pure ao):
 XF O Ex (gc (.Assign [.Name x pos'] e pos) O.env) Q Y:=λ Kp Jj s R=>wpAny_Assign_Name (h.Q6 R λ u c v b Kk l₁ a g h₁=>qu ok f a g λ s' R'=>⟨ai,_,Kk,l₁,R',.next,h₁⟩) d
theorem Jo{x:Str}{pos' pos:gU}{op:Operator}{e:Expr}{v:V}{Q:Option (Option V)->St->Prop}(i:Nat)(ok:O.Ok)(o:nq O i x)(p:rT O i x)(t:Y.vals[i]? =ah (ah v))
 (h:XV O Ex (bv e O.env) (I5 O Ex (AE op) (v6 i Q) v) Y):
 XF O Ex (gc (.AugAssign (.Name x pos') op e pos) O.env) Q Y:=λ Kp Jj s R=>wpAny_AugAssign_Name (x8 ok p t R λ m u=>h.Q6 R λ q g b j Kk l₁ d l h₁=>aY (h₁ Kk Jj g m q d (u.mono l₁) l) (λ r Q8 x=>by obtain ⟨c,k,f,l₂,a,w,n⟩:=x;exact qu ok o a w λ s' R'=>⟨ai,_,f,l₁.trans l₂,R',.next,n⟩) λ Z Z e=>e)
theorem eW{test:Expr}{body a:List Stmt}{pos:gU}{Q:Option (Option V)->St->Prop}
 (h:XB O Ex (eu test O.env (bv test O.env)) (QK O Ex body a Q) Y):
 XF O Ex (gc (.If test body a pos) O.env) Q Y:=λ Kp Jj s R=>wpAny_If (h.Q6 R λ g d b f Kk l₁ c e h₁=>by
  subst e;cases g with
  |true=>exact aY (h₁ Kk Jj d c) (λ Z Z x=>up l₁ x) λ Z Z e=>e
  |false=>exact aY (h₁ Kk Jj d c) (λ Z Z x=>up l₁ x) λ Z Z e=>e)
theorem dB{e:Expr}{pos:gU}{Q:Option (Option V)->St->Prop}(h:XV O Ex (bv e O.env) (Pp Q) Y):
 XF O Ex (gc (.Return (ah e) pos) O.env) Q Y:=λ Kp Jj s R=>lE (h.Q6 R λ u c v a Kk l₁ b d h₁=>⟨_,a,Kk,l₁,b,.ret d,h₁⟩)
theorem A5{Q:Option (Option V)->St->Prop}(h:Q (ah ai) Y):XF O Ex (gc (.Continue pos) O.env) Q Y:=λ Kp Z Z R=>wpAny_Continue ⟨_,Y,Kp,.refl _,R,.cont,h⟩
theorem Hs{e:Expr}{pos:gU}{Q:Option (Option V)->St->Prop}(h:XV O Ex (bv e O.env) (kE Q) Y)(hi:D4 O.env=ao)(d:eg e ai pos.line O.env=pure ao):
 XF O Ex (gc (.Expr e pos) O.env) Q Y:=λ Kp Jj s R=>wpAny_Expr_any (h.Q6 R λ u c v a Kk l₁ b f h₁=>⟨_,a,Kk,l₁,b,.next,h₁⟩) hi d
inductive NA(A:Around)(g:Heap)(fL:aG)(h:Heap):Prop
 |mk (A₀:Around) (base:Heap) (outer:List Env) (RF:Env) (m:Str->Option Value) (B:Below A₀ base outer g) (F:Fr g fL h m) (hA:A.frames=ah (RF::outer)) (hf:RF.frame=ah fL) (hk:RF.scope.kind=.function)
structure Dx(G:GC)(d:Nat)(A:Around)(g:Heap)(fL:aG)(h:Heap):Prop where
 ex:NA A g fL h
 Sb:G.K.In g
 top:Top G.p G.loose G.SP G.mg G.mb g
 hand:A.handled=ai
 depth:A.depth+d<900
 units:A.units+40*d+100<e9
noncomputable def gu(s s':aR):Prop:=s'.gens=s.gens/\s'.drawn=s.drawn/\s'.os=s.os
inductive DD(G:GC)(S₀:b7)(J:Mu)(post:V->Mu->Prop)(s:aR)(r:qr)(s':aR):Prop
 |mk (u:Value) (v:V) (J':Mu) (S':b7) (e:r=.ok (.ret u)) (st:gu s s') (keep:∀b o,s.heap.get? b=ah o->b∉addrs J->s'.heap.get? b=ah o) (al:∀b o,s.heap.get? b=ah o->∃o',s'.heap.get? b=ah o') (le:S₀.le S')
  (hS:∀b o,S' b o->s'.heap.get? b=ah o/\b∉addrs J'/\(S₀ b o\/s.heap.get? b=ai)) (mu:∀p∈J',MR G.w.params S' s'.heap p) (nd:(addrs J').Nodup)
  (fr:∀b∈addrs J',b∈addrs J\/s.heap.get? b=ai) (hv:VR G.w.params S' u v) (hp:post v J')
noncomputable def cD(G:GC)(d:Nat)(f:Value)(args:List V)(J:Mu)(post:V->Mu->Prop):Prop:=
 ∀A g fL s us S₀,Dx G d A g fL s.heap->(∀b o,S₀ b o->s.heap.get? b=ah o/\b∉addrs J)->(∀b o,G.K.lookup b=ah o->S₀ b o)->(∀p∈J,MR G.w.params S₀ s.heap p)->(addrs J).Nodup->(∀b∈addrs J,g.get? b=ai/\b≠fL)->
  di G.w.params S₀ us args->gd (bn G.prog G.w) A (.call f ⟨us,[]⟩) (DD G S₀ J post s) s
theorem cD.mono{f:Value}{args:List V}(h:cD G d f args J post)(hd:d<=d')(x:∀v J',post v J'->post' v J'):cD G d' f args J post':=
 λ A g B s us S₀ i a o b c e k=>ki (h A g B s us S₀ ⟨i.ex,i.Sb,i.top,i.hand,by have:=i.depth;exact On this hd,by have:=i.units;exact Om this hd⟩ a o b c e k)
  λ r s' l=>by obtain ⟨u,v,J',S',q,n,z,m,p,w,C,t,y,D,j⟩:=l;exact ⟨u,v,J',S',q,n,z,m,p,w,C,t,y,D,x _ _ j⟩
mutual
inductive ol(J:Mu):V->V->Prop
 |refl (v:V):ol J v v
 |list {a:aG} {xs ys:List V}:(a,.list xs)∈J->Rf J xs ys->ol J (.ref a) (.list ys)
 |dict {a:aG} {xs ys:List (V×V)}:(a,.dict xs)∈J->l7 J xs ys->ol J (.ref a) (.dict ys)
 |inst {a C d:aG} {xs ys:List (Str×V)}:(a,.inst C d xs)∈J->mS J xs ys->ol J (.ref a) (.inst C ys)
 |WQ {xs ys:List V}:Rf J xs ys->ol J (.tup xs) (.tup ys)
 |Vx {xs ys:List V}:Rf J xs ys->ol J (.list xs) (.list ys)
inductive Rf(J:Mu):List V->List V->Prop
 |nil:Rf J [] []
 |cons {x y:V} {xs ys:List V}:ol J x y->Rf J xs ys->Rf J (x::xs) (y::ys)
inductive l7(J:Mu):List (V×V)->List (V×V)->Prop
 |nil:l7 J [] []
 |cons {k x y:V} {xs ys:List (V×V)}:ol J x y->l7 J xs ys->l7 J ((k,x)::xs) ((k,y)::ys)
inductive mS(J:Mu):List (Str×V)->List (Str×V)->Prop
 |nil:mS J [] []
 |cons {k:Str} {x y:V} {xs ys:List (Str×V)}:ol J x y->mS J xs ys->mS J ((k,x)::xs) ((k,y)::ys)
end
noncomputable def b7.with(S:b7)(h:Heap)(l:List aG):b7:=λ b o=>S b o\/(b∈l/\h.get? b=ah o)
theorem b7.Rm(S:b7)(h:Heap)(l:List aG):S.le (S.with h l):=λ Z Z x=>.inl x
theorem dr{p:aG×MO}{b:aG}(a:p∈J)(c:b∈ce p):b∈addrs J:=bT.mpr ⟨p,a,c⟩
section
variable{P:bQ}{h:Heap}(m:∀p∈J,MR P S h p)
include m
theorem ol.sound{v w:V}(x:ol J v w){u:Value}(r:VR P S u v):VR P (S.with h (addrs J)) u w:=
 ol.rec (motive_1:=λ v w Z=>∀u,VR P S u v->VR P (S.with h (addrs J)) u w) (motive_2:=λ v w Z=>∀u,di P S u v->di P (S.with h (addrs J)) u w) (motive_3:=λ v w Z=>∀u,f_ P S u v->f_ P (S.with h (addrs J)) u w) (motive_4:=λ v w Z=>∀u,g6 P S u v->g6 P (S.with h (addrs J)) u w)
  (λ v u r=>r.mono (b7.Rm _ _ _)) (λ b Z k u r=>r.Rw ((m _ b).listE λ vs n e rs=>.list (.inr ⟨dr b (.head _),e⟩) (k _ rs))) (λ b Z k u r=>r.Rw ((m _ b).RL λ es n q e rs=>.dict q (.inr ⟨dr b (.head _),e⟩) (k _ rs)))
  (λ b Z k u r=>r.Rw ((m _ b).instE λ es n e c rs=>.inst (.inr ⟨dr b (.head _),e⟩) (.inr ⟨dr b (.tail _ (.head _)),c⟩) (k _ rs))) (λ Z k u r=>r.Rn λ a vs n e rs=>.tup (.inl e) (k _ rs)) (λ Z k u r=>r.listE λ a vs n e rs=>.list (.inl e) (k _ rs))
  (λ u r=>r.RA .nil) (λ Z Z k k' u r=>r.Rd λ u ws x y=>.cons (k _ x) (k' _ y)) (λ u r=>r.RA .nil) (λ Z Z k k' u r=>r.Rd λ ku u es x y z=>.cons rfl (x.mono (b7.Rm _ _ _)) (k _ y) (k' _ z)) (λ u r=>r.RA .nil) (λ Z Z k k' u r=>r.Rd λ t u es x y=>.cons (k _ x) (k' _ y)) x _ r
theorem Rf.sound{v w:List V}(x:Rf J v w){u:List Value}(r:di P S u v):di P (S.with h (addrs J)) u w:=
 Rf.rec (motive_1:=λ v w Z=>∀u,VR P S u v->VR P (S.with h (addrs J)) u w) (motive_2:=λ v w Z=>∀u,di P S u v->di P (S.with h (addrs J)) u w) (motive_3:=λ v w Z=>∀u,f_ P S u v->f_ P (S.with h (addrs J)) u w) (motive_4:=λ v w Z=>∀u,g6 P S u v->g6 P (S.with h (addrs J)) u w)
  (λ v u r=>r.mono (b7.Rm _ _ _)) (λ b Z k u r=>r.Rw ((m _ b).listE λ vs n e rs=>.list (.inr ⟨dr b (.head _),e⟩) (k _ rs))) (λ b Z k u r=>r.Rw ((m _ b).RL λ es n q e rs=>.dict q (.inr ⟨dr b (.head _),e⟩) (k _ rs)))
  (λ b Z k u r=>r.Rw ((m _ b).instE λ es n e c rs=>.inst (.inr ⟨dr b (.head _),e⟩) (.inr ⟨dr b (.tail _ (.head _)),c⟩) (k _ rs))) (λ Z k u r=>r.Rn λ a vs n e rs=>.tup (.inl e) (k _ rs)) (λ Z k u r=>r.listE λ a vs n e rs=>.list (.inl e) (k _ rs))
  (λ u r=>r.RA .nil) (λ Z Z k k' u r=>r.Rd λ u ws x y=>.cons (k _ x) (k' _ y)) (λ u r=>r.RA .nil) (λ Z Z k k' u r=>r.Rd λ ku u es x y z=>.cons rfl (x.mono (b7.Rm _ _ _)) (k _ y) (k' _ z)) (λ u r=>r.RA .nil) (λ Z Z k k' u r=>r.Rd λ t u es x y=>.cons (k _ x) (k' _ y)) x _ r
theorem l7.sound{v w:List (V×V)}(x:l7 J v w){u:List bL}(r:f_ P S u v):f_ P (S.with h (addrs J)) u w:=
 l7.rec (motive_1:=λ v w Z=>∀u,VR P S u v->VR P (S.with h (addrs J)) u w) (motive_2:=λ v w Z=>∀u,di P S u v->di P (S.with h (addrs J)) u w) (motive_3:=λ v w Z=>∀u,f_ P S u v->f_ P (S.with h (addrs J)) u w) (motive_4:=λ v w Z=>∀u,g6 P S u v->g6 P (S.with h (addrs J)) u w)
  (λ v u r=>r.mono (b7.Rm _ _ _)) (λ b Z k u r=>r.Rw ((m _ b).listE λ vs n e rs=>.list (.inr ⟨dr b (.head _),e⟩) (k _ rs))) (λ b Z k u r=>r.Rw ((m _ b).RL λ es n q e rs=>.dict q (.inr ⟨dr b (.head _),e⟩) (k _ rs)))
  (λ b Z k u r=>r.Rw ((m _ b).instE λ es n e c rs=>.inst (.inr ⟨dr b (.head _),e⟩) (.inr ⟨dr b (.tail _ (.head _)),c⟩) (k _ rs))) (λ Z k u r=>r.Rn λ a vs n e rs=>.tup (.inl e) (k _ rs)) (λ Z k u r=>r.listE λ a vs n e rs=>.list (.inl e) (k _ rs))
  (λ u r=>r.RA .nil) (λ Z Z k k' u r=>r.Rd λ u ws x y=>.cons (k _ x) (k' _ y)) (λ u r=>r.RA .nil) (λ Z Z k k' u r=>r.Rd λ ku u es x y z=>.cons rfl (x.mono (b7.Rm _ _ _)) (k _ y) (k' _ z)) (λ u r=>r.RA .nil) (λ Z Z k k' u r=>r.Rd λ t u es x y=>.cons (k _ x) (k' _ y)) x _ r
theorem mS.sound{v w:List (Str×V)}(x:mS J v w){u:List bL}(r:g6 P S u v):g6 P (S.with h (addrs J)) u w:=
 mS.rec (motive_1:=λ v w Z=>∀u,VR P S u v->VR P (S.with h (addrs J)) u w) (motive_2:=λ v w Z=>∀u,di P S u v->di P (S.with h (addrs J)) u w) (motive_3:=λ v w Z=>∀u,f_ P S u v->f_ P (S.with h (addrs J)) u w) (motive_4:=λ v w Z=>∀u,g6 P S u v->g6 P (S.with h (addrs J)) u w)
  (λ v u r=>r.mono (b7.Rm _ _ _)) (λ b Z k u r=>r.Rw ((m _ b).listE λ vs n e rs=>.list (.inr ⟨dr b (.head _),e⟩) (k _ rs))) (λ b Z k u r=>r.Rw ((m _ b).RL λ es n q e rs=>.dict q (.inr ⟨dr b (.head _),e⟩) (k _ rs)))
  (λ b Z k u r=>r.Rw ((m _ b).instE λ es n e c rs=>.inst (.inr ⟨dr b (.head _),e⟩) (.inr ⟨dr b (.tail _ (.head _)),c⟩) (k _ rs))) (λ Z k u r=>r.Rn λ a vs n e rs=>.tup (.inl e) (k _ rs)) (λ Z k u r=>r.listE λ a vs n e rs=>.list (.inl e) (k _ rs))
  (λ u r=>r.RA .nil) (λ Z Z k k' u r=>r.Rd λ u ws x y=>.cons (k _ x) (k' _ y)) (λ u r=>r.RA .nil) (λ Z Z k k' u r=>r.Rd λ ku u es x y z=>.cons rfl (x.mono (b7.Rm _ _ _)) (k _ y) (k' _ z)) (λ u r=>r.RA .nil) (λ Z Z k k' u r=>r.Rd λ t u es x y=>.cons (k _ x) (k' _ y)) x _ r
end
noncomputable def zJ(n:Nat):NameKind->NK
 |.local=>.loc
 |.cell=>.Rl n
 |.globalImplicit=>.glob
 |_=>.other
noncomputable def N0:NameKind->Nat
 |.cell=>1
 |_=>0
noncomputable def lQ:Nat->List (Str×NameKind)->List (Str×NK)
 |_,[]=>[]
 |n,(x,k)::r=>(x,zJ n k)::lQ (n+N0 k) r
theorem B3{n:Nat}{k:NameKind}(h:zJ n k=.loc):k=.local:=by cases k<;>first|rfl|cases h
theorem zI{n:Nat}{k:NameKind}(h:zJ n k=.glob):k=.globalImplicit:=by cases k<;>first|rfl|cases h
theorem vO{n:Nat}{k:NameKind}(h:zJ n k=.Rl c):k=.cell/\n=c:=by cases k<;>first|(cases h;exact ⟨rfl,rfl⟩)|cases h
theorem ra(l:List (Str×NameKind)):∀n:Nat,(lQ n l).map (·.1)=l.map (·.1):=by
 induction l with
 |nil=>exact λ Z=>rfl
 |cons p r a=>exact λ n=>congrArg (p.1::·) (a _)
theorem rb{l:List (Str×NameKind)}:∀{n i:Nat} {x:Str} {q:NK},(lQ n l)[i]? =ah (x,q)->∃k m,l[i]? =ah (x,k)/\zJ m k=q:=by
 induction l with
 |nil=>exact λ h=>nomatch h
 |cons p r a=>
  intro n i x q h;cases i with
  |zero=>cases Option.some.inj h;exact ⟨p.2,n,rfl,rfl⟩
  |succ i=>exact a h
theorem gG{b:List (Str×α)}{n:Str}{c:α}:(b.map (·.1)).Nodup->(n,c)∈b->b.lookup n=ah c:=by
 induction b with
 |nil=>exact λ Z h=>nomatch h
 |cons p b g=>
  intro a d;have a:=bB.mp a;refine bq.trans ?_;rcases aI.mp d with e|d
  ·simp only[<-e,beq_self_eq_true]
  ·simp only[show (n==p.1)=ao from beq_eq_false_iff_ne.mpr λ e=>a.1 (show p.1∈_ from e▸bp (f:=(·.1)) d)];exact g a.2 d
theorem fR{l:List (Str×α)}{k:α}(a:(l.map (·.1)).Nodup)(hi:l[i]? =ah (x,k)):l.lookup x=ah k:=
 gG a (aX hi)
theorem vL(l:List (Str×NameKind))(n i:Nat)(x:Str)(h:(lQ n l)[i]? =ah (x,.loc)):l[i]? =ah (x,.local):=by refine g_ (rb h) λ Z Z e h=>?_;exact B3 h▸e
theorem s9(l:List (Str×NameKind))(n i:Nat)(x:Str)(h:(lQ n l)[i]? =ah (x,.glob)):l[i]? =ah (x,.globalImplicit):=by refine g_ (rb h) λ Z Z e h=>?_;exact zI h▸e
theorem rK(n:Nat)(p:Str×NameKind)(r:List (Str×NameKind))(acc:List (Str×aG)):∃a,dZ n (p::r) acc=dZ (n+N0 p.2) r a/\(p.2=.cell->(p.1,n)∈a)/\∀q∈acc,q∈a:=by obtain ⟨y,k⟩:=p;cases k<;>first|exact ⟨acc,rfl,λ h=>NameKind.noConfusion h,λ Z h=>h⟩|exact ⟨_,rfl,λ Z=>.head _,λ Z=>.tail _⟩
theorem sx(l:List (Str×NameKind)):∀(n:Nat) (acc:List (Str×aG)) (p:Str×aG),p∈acc->p∈dZ n l acc:=by
 induction l with
 |nil=>exact λ Z Z Z h=>h
 |cons q r a=>exact λ n acc p h=>by refine ew (rK n q r acc) λ Z e Z k=>?_;exact e▸a _ _ _ (k p h)
theorem vM(l:List (Str×NameKind)):∀(n i:Nat) (x:Str) (c:aG) (acc:List (Str×aG)),(lQ n l)[i]? =ah (x,.Rl c)->l[i]? =ah (x,.cell)/\(x,c)∈dZ n l acc/\n<=c:=by
 induction l with
 |nil=>exact λ Z Z Z Z Z h=>nomatch h
 |cons p r m=>
  intro n i x c acc h;refine ew (rK n p r acc) λ f e k1 k2=>?_;simp only[e];cases i with
  |zero=>refine za (Prod.mk.inj (Option.some.inj h)) λ j q=>?_;refine za (vO q) λ g o=>?_;subst j o;exact ⟨congrArg (λ k=>ah (p.1,k)) g,sx _ _ _ _ (k1 g),aT _⟩
  |succ i=>exact let ⟨a,b,d⟩:=m _ i x c f h;⟨a,b,aA (b0 _ _) d⟩
theorem tV(l:List (Str×NameKind)):∀(n i j:Nat) (x y:Str) (c:aG),(lQ n l)[i]? =ah (x,.Rl c)->(lQ n l)[j]? =ah (y,.Rl c)->i=j:=by
 induction l with
 |nil=>exact λ Z Z Z Z Z Z h=>nomatch h
 |cons p r d=>
  have a:∀{n j:Nat} {x y:Str} {c:aG},ah (p.1,zJ n p.2)=ah (x,NK.Rl c)->(lQ (n+N0 p.2) r)[j]? =ah (y,NK.Rl c)->False:=λ {n j x y c} h h'=>by refine za (vO (Prod.mk.inj (Option.some.inj h)).2) λ b e=>?_;have:=(vM r _ j y c [] h').2.2;rw[b,e]at this;exact nw _ this
  intro n i j x y c h h';cases i with
  |zero=>
   cases j with
   |zero=>rfl
   |succ j=>exact (a h h').elim
  |succ i=>
   cases j with
   |zero=>exact (a h' h).elim
   |succ j=>exact congrArg j4 (d _ _ _ _ _ _ h h')
section
variable{ko:Str->Option NameKind}
theorem Ae(b:List (Str×Value)):∀(m:Str->Option Value) (x:Str),x∉b.map (·.1)->bindL ko b m x=m x:=by
 induction b with
 |nil=>exact λ Z Z Z=>rfl
 |cons p r a=>
  intro m x h;refine (a _ x λ q=>h (.tail _ q)).trans ?_;by_cases e:ko p.1=ah .local
  ·rw[if_pos e,if_neg (show x≠p.1 from λ e=>h (e▸.head _))]
  ·rw[if_neg e]
theorem Dk(b:List (Str×Value)):∀(m:Str->Option Value) (x:Str) (u:Value),(b.map (·.1)).Nodup->(x,u)∈b->ko x=ah .local->bindL ko b m x=ah u:=by
 induction b with
 |nil=>exact λ Z Z Z Z h=>nomatch h
 |cons p r d=>
  intro m x u a c hk;have a:=bB.mp a;rcases aI.mp c with e|c
  ·simp only[<-e]at a ⊢;refine (Ae r _ _ a.1).trans ?_;rw[if_pos hk,if_pos rfl]
  ·exact d _ x u a.2 c hk
theorem Af(b:List (Str×Value)):∀(m:Str->Option Value) (x:Str),x∉b.map (·.1)->bindC ko b m x=m x:=by
 induction b with
 |nil=>exact λ Z Z Z=>rfl
 |cons p r a=>
  intro m x h;refine (a _ x λ q=>h (.tail _ q)).trans ?_;by_cases e:ko p.1=ah .local
  ·rw[if_pos e]
  ·rw[if_neg e,if_neg (show x≠p.1 from λ e=>h (e▸.head _))]
theorem Dl(b:List (Str×Value)):∀(m:Str->Option Value) (x:Str) (u:Value),(b.map (·.1)).Nodup->(x,u)∈b->ko x=ah .cell->bindC ko b m x=ah u:=by
 induction b with
 |nil=>exact λ Z Z Z Z h=>nomatch h
 |cons p r d=>
  intro m x u a c hk;have a:=bB.mp a;rcases aI.mp c with e|c
  ·rw[<-e]at a ⊢;refine (Af r _ _ a.1).trans ?_;rw[if_neg ((bz hk)▸λ h=>nomatch h),if_pos rfl]
  ·exact d _ x u a.2 c hk
end
inductive l5(J:Mu):aG×MO->aG×MO->Prop
 |refl (p:aG×MO):l5 J p p
 |list {a:aG} {xs ys:List V}:Rf J xs ys->l5 J (a,.list xs) (a,.list ys)
 |dict {a:aG} {xs ys:List (V×V)}:l7 J xs ys->l5 J (a,.dict xs) (a,.dict ys)
 |inst {a C d:aG} {xs ys:List (Str×V)}:mS J xs ys->l5 J (a,.inst C d xs) (a,.inst C d ys)
inductive dE(J:Mu):Mu->Mu->Prop
 |nil:dE J [] []
 |cons {p q:aG×MO} {l l':Mu}:l5 J p q->dE J l l'->dE J (p::l) (q::l')
theorem l5.addrs{p q:aG×MO}(h:l5 J p q):ce q=ce p:=l5.rec (motive:=λ p q Z=>ce q=ce p) (λ Z=>rfl) (λ Z=>rfl) (λ Z=>rfl) (λ Z=>rfl) h
theorem dE.addrs{l:Mu}(h:dE J l l'):Mine.addrs l'=Mine.addrs l:=
 dE.rec (motive:=λ l l' Z=>Mine.addrs l'=Mine.addrs l) rfl (λ {p q l l'} a Z k=>(congr (congrArg (· ++·) a.addrs) k:ce q++Mine.addrs l'=ce p++Mine.addrs l)) h
section
variable{P:bQ}{h:Heap}(m:∀p∈J,MR P S h p)
include m
theorem l5.sound{p q:aG×MO}(x:l5 J p q):MR P S h p->MR P (S.with h (Mine.addrs J)) h q:=
 l5.rec (motive:=λ p q Z=>MR P S h p->MR P (S.with h (Mine.addrs J)) h q) (λ Z r=>r.mono (b7.Rm _ _ _) λ Z Z Z e=>e) (λ a r=>r.listE λ Z Z e rs=>.list e (Rf.sound m a rs)) (λ a r=>r.RL λ Z Z q e rs=>.dict q e (l7.sound m a rs))
  (λ a r=>r.instE λ Z Z e b rs=>.inst e b (mS.sound m a rs)) x
theorem dE.sound{l:Mu}(x:dE J l l'):(∀p∈l,MR P S h p)->∀q∈l',MR P (S.with h (Mine.addrs J)) h q:=
 dE.rec (motive:=λ l l' Z=>(∀p∈l,MR P S h p)->∀q∈l',MR P (S.with h (Mine.addrs J)) h q) (λ Z Z h=>nomatch h) (λ a Z k r=>i8.mpr ⟨a.sound m (r _ (.head _)),k λ p b=>r p (.tail _ b)⟩) x
end
theorem dE.refl(J l:Mu):dE J l l:=List.rec .nil (λ p Z k=>.cons (.refl p) k) l
theorem s4(J:Mu)(kvs:List (V×V)):l7 J kvs kvs:=List.rec .nil (λ p Z k=>.cons (.refl p.2) k) kvs
theorem Jz(J:Mu)(fs:List (Str×V)):mS J fs fs:=List.rec .nil (λ p Z k=>.cons (.refl p.2) k) fs
theorem cv(a b:Mu):addrs (a++b)=addrs a++addrs b:=dS
inductive Fin(J:Mu)(post:V->Mu->Prop)(v:V)(J':Mu):Prop
 |mk (Vb V8 T6:Mu) (w:V) (e:J'=Vb++V8) (h:∀b∈addrs J,b∈addrs V8) (ms:dE Vb V8 T6) (s:ol Vb v w) (p:post w T6)
noncomputable def Av(J:Mu)(post:V->Mu->Prop):Option (Option V)->St->Prop
 |some (ah v),Y=>Fin J post v Y.mu
 |none,Y=>Fin J post .none Y.mu
 |some ai,_=>False
theorem EX{g h:Heap}{f:aG}{l:List aG}(i:∀b∈l,∃o,h.get? b=ah o)(j:∀b∈l,g.get? b=ai/\b≠f):
 ∃a,News g f h a/\a.map (·.1)=l:=by
 induction l with
 |nil=>exact ⟨[],News.nil,rfl⟩
 |cons b l n=>
  refine b4 (n (λ b d=>i b (b8 _ d)) λ b d=>j b (b8 _ d)) λ a N e=>?_;refine ze (i b cf) λ o m=>?_;have:=j b cf;refine ⟨(b,o)::a,λ p c=>?_,by simp[e]⟩;refine b6 (aI.mp c) (λ k=>?_) λ c=>?_
  ·subst k;exact ⟨m,this.2,this.1⟩
  ·exact N p c
theorem MR.live{P:bQ}{h:Heap}{p:aG×MO}(m:MR P S h p):∀b∈ce p,∃o,h.get? b=ah o:=by
 intro b a;cases m with
 |list e _=>simp[ce]at a;subst a;exact ⟨_,e⟩
 |dict _ e _=>simp[ce]at a;subst a;exact ⟨_,e⟩
 |inst e c _=>simp[ce]at a;rcases a with rfl|rfl<;>first|exact ⟨_,e⟩|exact ⟨_,c⟩
 |SH e=>simp[ce]at a;subst a;exact ⟨_,e⟩
 |SG e c _=>simp[ce]at a;rcases a with rfl|rfl<;>first|exact ⟨_,e⟩|exact ⟨_,c⟩
theorem vR{x:α}{y:β}:∀{r:List β} {i:Nat},l[i]? =ah x->r[i]? =ah y->(x,y)∈l.zip r:=by
 induction l with
 |nil=>exact λ h=>nomatch h
 |cons p l a=>
  intro r i h h';cases r with
  |nil=>exact nomatch h'
  |cons q r=>
   cases i with
   |zero=>cases h;cases h';exact .head _
   |succ i=>exact .tail _ (a h h')
inductive QY(K:f7)(P:bQ)(f:aG)(name qual:Str)(params:eJ)(body:List Stmt)(scope:iD)(pn:List Str)(Rj:List V):Prop
 |mk (dV kV doc pm T5 ct oc:Value) (an od:Option aG) (Wc:Array (Option Value)) (hl:K.lookup f=ah ⟨oc,od,.func (Hg name qual params body scope dV kV doc pm an T5 ct),Wc⟩) (hc:codeIn K T5 qual=aj)
  (xJ:List Value) (hd:∀S,di P S xJ Rj) (VO:xJ.length=Rj.length) (hb:∀(us:List Value) (s:aR),K.In s.heap->us.length+xJ.length=pn.length->BindsTo s (Hg name qual params body scope dV kV doc pm an T5 ct) ⟨us,[]⟩ (pn.zip (us++xJ)))
structure cr(G:GC)(f:aG)(name qual:Str)(params:eJ)(body:List Stmt)(scope:iD)(pn:List Str)(Rj:List V):Prop where
 at_:QY G.K G.w.params f name qual params body scope pn Rj
 co:scope.isCoroutine=ao
 gen:scope.isGenerator=ao
 kind:scope.kind=.function
 nodup:(scope.names.map (·.1)).Nodup
 YN:(scope.names.take pn.length).map (·.1)=pn
 pk:(scope.names.take pn.length).all (λ y=>y.2==.local||y.2==.cell)=aj
theorem cr.kindAt{f:aG}{a:eJ}(Yy:cr G f name qual a body scope pn Rj){i:Nat}{x:Str}(h:pn[i]? =ah x):∃k,scope.names[i]? =ah (x,k)/\(k=.local\/k=.cell):=by have hi:i<pn.length:=(bh.mp h).1;rw[<-Yy.YN,aN]at h;refine b4 (bZ.mp h) λ b c d=>?_;obtain ⟨y,k⟩:=b;have hk:=b9.mp Yy.pk _ (aX c);rw[uT hi]at c;refine ⟨k,by (refine c.trans ?_);simp only at d;rw[d],?_⟩;simpa using hk
theorem pK(l:List (Str×NameKind)):∀(n:Nat) (acc:List (Str×aG)),(acc.map (·.1)++l.map (·.1)).Nodup->((dZ n l acc).map (·.1)).Nodup:=by
 induction l with
 |nil=>exact λ n acc h=>(cL (acc.map (·.1)))▸h
 |cons p r a=>
  intro n acc h;have h':(p.1::(acc.map (·.1)++r.map (·.1))).Nodup:=(eR).nodup_iff.mp h;show ((if p.2==.cell then dZ (n+1) r ((p.1,n)::acc)else dZ n r acc).map (·.1)).Nodup;by_cases e:(p.2==.cell)=aj
  ·rw[if_pos e];exact a _ _ h'
  ·rw[if_neg e];exact a _ _ (bB.mp h').2
theorem mN{a:List (Str×aG)}{y:Str}{c b:aG}(e:(a.map (·.1)).Nodup)(h:a.lookup y=ah b)(d:(y,c)∈a):b=c:=Option.some.inj (h.symm.trans (gG e d))
theorem xp(l:List (Str×NameKind))(n i:Nat)(x y:Str)(k:NameKind)(h:(lQ n l)[i]? =ah (x,.other))(h':l[i]? =ah (y,k)):¬(k=.local\/k=.cell):=by refine g_ (rb h) λ k' m e q=>?_;cases e.symm.trans h';exact λ h=>h.elim (λ e=>by subst e;cases q) λ e=>by subst e;cases q
theorem CV{G:GC}{d:Nat}{f:aG}{name qual:Str}{I:eJ}{body:List Stmt}{scope:iD}{pn:List Str}{Rj:List V}(Yy:cr G f name qual I body scope pn Rj)
 (args:List V) (J:Mu) (K:args.length+Rj.length=pn.length) {A:Around} {base:Heap} {outer:List Env} {s:aR} {us:List Value} {S₀:b7}
 {R:Except Value Flow->aR->Prop}
 (BG:Below A base outer (r9 s.heap (addrs J))) (Sb:G.K.In (r9 s.heap (addrs J))) (top:Top G.p G.loose G.SP G.mg G.mb (r9 s.heap (addrs J)))
 (hand:A.handled=ai) (E:A.depth+(d+1)<900) (units:A.units+40*(d+1)+100<e9)
 (hS:∀b o,S₀ b o->s.heap.get? b=ah o/\b∉addrs J) (ZK:∀b o,G.K.lookup b=ah o->S₀ b o) (hM:∀p∈J,MR G.w.params S₀ s.heap p) (hN:(addrs J).Nodup) (hU:di G.w.params S₀ us args)
 (H:∀O:FC,O.Ok->O.G=G->O.dep=d->(∃n,O.ns=lQ n scope.names)->(∀(i:Nat) (x:Str) (c:aG),O.ns[i]? =ah (x,NK.Rl c)->c∈O.own)->O.env.scope=scope->O.env.builtins=e_->
  O.A=A.deeper O.env->O.base=base->O.outer=outer->O.RF=O.env->O.h₀=s.heap->O.RQ=addrs J->O.RP=s->O.S₀=S₀->O.A₀=A->(∀L,O.env.frame=ah L->s.heap.get? L=ai)->
  ∀s',cQ O ⟨(args++Rj).map ah++bu (scope.names.length-pn.length) ai,J⟩ S₀ [] s'->aW (bn G.prog G.w) O.A (eI body O.env) (λ f D=>R (.ok (.ret (match f with|.ret v=>v|_=>.none))) D)
   (λ e s'=>aW (bn G.prog G.w) O.A (IY O.env e) (λ Z D=>R (.error e) D) (λ e' D=>R (.error e') D) s') s'):
 gd (bn G.prog G.w) A (.call (.ref f) ⟨us,[]⟩) R s:=by
 obtain ⟨⟨dV,kV,doc,pm,T5,ct,oc,an,od,Wc,hl,Zy,xJ,Zu,VO,Q⟩,Zw,W,hk,w,Ya,Wi⟩:=id Yy;have lv:∀b∈addrs J,∃o,s.heap.get? b=ah o:=λ b g=>by refine b4 (bT.mp g) λ p r g=>?_;exact (hM p r).live b g
 have kg:∀b o,(r9 s.heap (addrs J)).get? b=ah o->s.heap.get? b=ah o:=λ b o e=>of_hideAll _ e;have X:=Sb.keeps kg;have Y6:us.length+xJ.length=pn.length:=by rw[hU.length,VO];exact K
 have hz:(pn.zip (us++xJ)).map (·.1)=pn:=List.map_fst_zip (by rw[aF];exact cq (bz ‹_›));have N:pn.Nodup:=by rw[<-Ya];exact (g8 _ (ff _ _)).nodup w
 refine DG (by show A.depth<1000;exact Ol E) (X _ _ hl) rfl Zw W rfl (codeRec_of X Zy) (Q us s X Y6 _ _ _ _ ?_);refine wM hk (λ x hx=>?_) λ ZV he s' x=>?_
 ·have Ux:x.1∈pn:=hz▸bp hx;refine ze (cI.mp Ux) λ i hi=>?_;refine b4 (Yy.kindAt hi) λ k T B=>?_;have h3:=fR w T;refine b6 B (λ F=>?_) λ F=>?_
  ·subst F;exact .inl h3
  ·subst F;exact .inr ⟨h3,cellsFrom_some _ _ _ (.inl h3)⟩
 subst he;refine ⟨(top.nolimit.keeps kg).keeps x.toInCall.keep,codeAny_func ?_⟩;refine Jc x.toInCall.same λ h₁ tk Zb=>?_;have m:=x.toInCall.keep;have Xz:((dZ (s.heap.objs.size+1) scope.names []).map (·.2)).Nodup:=by rw[aO,bS];exact x.apart
 generalize U:newEnv scope s.heap.objs.size cj (dZ (s.heap.objs.size+1) scope.names []) (qual++".<locals>.") (ah f) T5 ai e_=env at*;have Y:((dZ (s.heap.objs.size+1) scope.names []).map (·.1)).Nodup:=pK _ _ _ (by simpa using w);have M:env.locals=s.heap.objs.size:=by rw[<-U];rfl
 have S:env.cells=dZ (s.heap.objs.size+1) scope.names []:=by rw[<-U];rfl
 have eS:env.scope=scope:=by rw[<-U];rfl
 have eF:env.frame=ah s.heap.objs.size:=by rw[<-U];rfl
 have eG:env.globals=cj:=by rw[<-U];rfl
 let O:FC:=FC.mk G (A.deeper env) A base outer (r9 s.heap (addrs J)) env s.heap.objs.size env s.heap S₀ (addrs J)
  (lQ (s.heap.objs.size+1) scope.names) ((dZ (s.heap.objs.size+1) scope.names []).map (·.2)) s d
 have lk:∀{i:Nat} {y:Str} {k:NameKind},scope.names[i]? =ah (y,k)->env.kindOf y=ah k:=λ h=>by show y2 _ env.scope.names=_;rw[eS];exact fR w h
 have l:∀(i:Nat) (y:Str) (c:aG),(lQ (s.heap.objs.size+1) scope.names)[i]? =ah (y,NK.Rl c)->env.kindOf y=ah .cell/\env.cells.lookup y=ah c/\(y,c)∈dZ (s.heap.objs.size+1) scope.names []:=λ i y c h=>by
  refine jw (vM _ _ _ _ _ [] h) λ a b Z=>?_;refine ⟨lk a,?_,b⟩;rw[S];cases q:(dZ (s.heap.objs.size+1) scope.names []).lookup y with
  |none=>have:=cellsFrom_some scope.names (s.heap.objs.size+1) [] (.inl (fR w a));rw[q]at this;cases this
  |some c'=>rw[(mN Y q b)]
 have ok:O.Ok:=by
  refine ⟨BG,Sb,top,?_,eF,by show env.scope.kind=_;rw[eS];exact hk,cq (hideAll_size _ _),λ b o e=>⟨of_hideAll _ e,λ g=>?_⟩,hS,hand,?_,?_,by show env.scope.kind=_;rw[eS];exact hk,eG,λ i y h=>lk (vL _ _ _ _ h),
   λ i y c h=>⟨(l i y c h).1,(l i y c h).2.1⟩,λ i y h=>lk (s9 _ _ _ _ h),by rw[show O.ns.map (·.1)=scope.names.map (·.1)from ra _ _];exact w,λ i j y z c h h'=>tV _ _ _ _ _ _ _ h h'⟩
  ·show (A.frames.map (env::·))=_;rw[BG.stack];rfl
  ·rw[r8 _ g]at e;cases e
  ·show A.depth+1+d<900;exact JC E
  ·show A.units+3+40*d+100<e9;exact Oj units
 have t:∀(y:Str) (c:aG),(y,c)∈dZ (s.heap.objs.size+1) scope.names []->∃u,s'.heap.IsCell c u:=λ y c h=>by
  cases q:(dZ (s.heap.objs.size+1) scope.names []).lookup y with
  |none=>exact absurd h (λ h=>by have:=dG.mp q _ h;simp at this)
  |some c'=>exact ⟨_,x.cell y c (by rw[S,q,(mN Y q h)])⟩
 have R0:cQ O ⟨(args++Rj).map ah++bu (scope.names.length-pn.length) ai,J⟩ S₀ [] s':=by
  refine ⟨⟨_,x.toInCall.ns,λ i y k v a b=>?_⟩,λ i y c h=>t y c (l i y c h).2.2,λ p r=>(hM p r).mono (.refl _) λ b Z o e=>m b o e,?_,?_,?_,λ b o e=>⟨m _ _ (hS b o e).1,?_,.inl e⟩,⟨bK,λ p r=>(nomatch r)⟩,λ b o e Z=>m b o e,
   ⟨_,M▸x.toInCall.ns⟩,λ h=>?_,ZK,λ b o e=>⟨o,m b o e⟩,by rw[Zb];exact ⟨rfl,rfl,rfl⟩⟩
  ·have hi:i<(args++Rj).length:=by
    refine b6 (pQ i (args++Rj).length) (λ h=>?_) λ h=>?_
    ·exact h
    ·rw[bG (by simpa using h)]at b;rw[lw]at b;split at b<;>cases b
   rw[c0 (by simpa using hi),aN]at b;refine b4 (bZ.mp b) λ v' Y5 e=>?_;cases e;have Zp:i<pn.length:=by rw[<-K,<-aF];exact hi
   refine b4 ((hU.append (Zu S₀)).get Y5) λ u hu hr=>?_;have hy:pn[i]? =ah y:=by
    have e2:(scope.names.map (·.1))[i]? =ah y:=by rw[((ra _ _).symm),aN,a];rfl
    rw[<-Ya,g1,uT Zp];exact e2
   have P:(y,u)∈pn.zip (us++xJ):=vR hy hu;cases k with
   |loc=>exact ⟨u,Dk _ _ _ _ (by rw[hz];exact N) P (lk (vL _ _ _ _ a)),hr⟩
   |Rl c=>have:=l i y c a;exact ⟨u,(Dl (ko:=env.kindOf) _ (λ Z=>ai) y u (by rw[hz];exact N) P this.1)▸x.cell y c this.2.1,hr⟩
   |glob=>refine b4 (Yy.kindAt hy) λ k' T B=>?_;rw[s9 _ _ _ _ a]at T;cases T;rcases B with B|B<;>cases B
   |other=>refine b4 (Yy.kindAt hy) λ k' T B=>?_;exact absurd B (xp _ _ _ _ _ _ a T)
  ·show ((env.locals::(dZ (s.heap.objs.size+1) scope.names []).map (·.2))++addrs J).Nodup;rw[dn,bB,aV];refine ⟨λ h=>?_,Xz,hN,λ a ha b g e=>?_⟩
   ·rw[M]at h;refine b6 (aM.mp h) (λ h=>?_) λ h=>?_
    ·refine b4 (aC.mp h) λ p r e=>?_;have:=x.above p.1 p.2 (by rw[S];exact r);rw[M,e]at this;exact absurd this (bA _)
    ·refine ze (lv _ h) λ o C=>?_;exact absurd (cm C) (bA _)
   ·refine b4 (aC.mp ha) λ p r e'=>?_;have:=x.above p.1 p.2 (by rw[S];exact r);refine ze (lv _ g) λ o C=>?_;rw[M,show p.2=b from e'.trans e]at this;exact bA _ (bC this (cm C))
  ·intro b g;refine b6 (aM.mp g) (λ g=>?_) λ g=>?_
   ·refine .inr (ee ?_);refine b6 (aI.mp g) (λ F=>?_) λ g=>?_
    ·subst F;exact cq M.symm
    ·refine b4 (aC.mp g) λ p r Si=>?_;subst Si;have:=x.above p.1 p.2 (by rw[S];exact r);rw[M]at this;exact bc this
   ·exact .inl g
  ·intro b g;refine b6 (aM.mp g) (λ g=>?_) λ g=>?_
   ·refine b6 (aI.mp g) (λ F=>?_) λ g=>?_
    ·subst F;refine mI x.toInCall.ns λ o Z Z C Z=>?_;exact ⟨o,C⟩
    ·refine b4 (aC.mp g) λ p r Sw=>?_;subst Sw;refine g_ (t p.1 p.2 r) λ u o C Z=>?_;exact ⟨o,C⟩
   ·refine ze (lv b g) λ o C=>?_;exact ⟨o,m _ _ C⟩
  ·intro g;refine b6 (aM.mp g) (λ g=>?_) λ g=>?_
   ·have:=cm (hS b o e).1;refine b6 (aI.mp g) (λ F=>?_) λ g=>?_
    ·subst F;rw[show O.env.locals=_ from M]at this;exact bA _ this
    ·refine b4 (aC.mp g) λ p r Sv=>?_;subst Sv;have B:=x.above p.1 p.2 (by rw[S];exact r);rw[M]at B;exact bA _ (bC B this)
   ·exact (hS b o e).2 g
  ·refine ze (lv _ h) λ o C=>?_;exact absurd (cm C) (bA _)
 exact H O ok rfl rfl ⟨_,rfl⟩ (λ i y c h=>aC.mpr ⟨_,(l i y c h).2.2,rfl⟩) eS (by show env.builtins=_;rw[<-U];rfl) rfl rfl rfl rfl rfl rfl rfl rfl rfl (λ L e=>by rw[show env.frame=ah L from e]at eF;cases eF;exact ee (aT _)) s' R0
theorem CU{G:GC}{d:Nat}{f:aG}{name qual:Str}{j:eJ}{body:List Stmt}{scope:iD}{pn:List Str}{Rj:List V}(Yy:cr G f name qual j body scope pn Rj)
 (args:List V) (J:Mu) (t:args.length+Rj.length=pn.length) {A q:Around} {base:Heap} {outer:List Env} {a:Env} {g:Heap} {C:aG} {s:aR} {us:List Value} {S₀:b7} {m:Str->Option Value}
 {R:Except Value Flow->aR->Prop}
 (B:Below q base outer g) (F:Fr g C s.heap m) (Q:A.frames=ah (a::outer)) (T:a.frame=ah C) (z:a.scope.kind=.function) (y:G.K.In g) (top:Top G.p G.loose G.SP G.mg G.mb g)
 (r:A.handled=ai) (l:A.depth+(d+1)<900) (units:A.units+40*(d+1)+100<e9)
 (hS:∀b o,S₀ b o->s.heap.get? b=ah o/\b∉addrs J) (w:∀b o,G.K.lookup b=ah o->S₀ b o) (D:∀p∈J,MR G.w.params S₀ s.heap p) (X:(addrs J).Nodup) (K:∀b∈addrs J,g.get? b=ai/\b≠C) (P:di G.w.params S₀ us args)
 (H:∀O:FC,O.Ok->O.G=G->O.dep=d->(∃n,O.ns=lQ n scope.names)->(∀(i:Nat) (x:Str) (c:aG),O.ns[i]? =ah (x,NK.Rl c)->c∈O.own)->O.env.scope=scope->O.env.builtins=e_->
  O.A=A.deeper O.env->O.base=base->O.outer=a::outer->O.RF=O.env->O.h₀=s.heap->O.RQ=addrs J->O.RP=s->O.S₀=S₀->O.A₀=A->(∀L,O.env.frame=ah L->s.heap.get? L=ai)->
  ∀s',cQ O ⟨(args++Rj).map ah++bu (scope.names.length-pn.length) ai,J⟩ S₀ [] s'->aW (bn G.prog G.w) O.A (eI body O.env) (λ f h=>R (.ok (.ret (match f with|.ret v=>v|_=>.none))) h)
   (λ e s'=>aW (bn G.prog G.w) O.A (IY O.env e) (λ Z h=>R (.error e) h) (λ S h=>R (.error S) h) s') s'):
 gd (bn G.prog G.w) A (.call (.ref f) ⟨us,[]⟩) R s:=by
 have W:∀b∈addrs J,∃o,s.heap.get? b=ah o:=λ b u=>by refine b4 (bT.mp u) λ p U u=>?_;exact (D p U).live b u
 refine b4 (EX W K) λ E N k=>?_;refine wR (groundX (R:=λ Z Z=>True) B F N Q T z) λ M I st Z=>?_;simp only[k]at M I st;exact CV Yy args J t I (y.keeps st) (top.keeps st) r l units hS w D X P H
theorem CW{G:GC}{d:Nat}{f:aG}{name qual:Str}{r:eJ}{body:List Stmt}{scope:iD}{pn:List Str}{Rj:List V}(Yy:cr G f name qual r body scope pn Rj)
 (args:List V) (J:Mu) (post:V->Mu->Prop) (K:args.length+Rj.length=pn.length) {A P:Around} {base:Heap} {outer:List Env} {k:Env} {g:Heap} {Y:aG} {s:aR} {us:List Value} {S₀:b7} {m:Str->Option Value}
 {R:Except Value Flow->aR->Prop}
 (B:Below P base outer g) (F:Fr g Y s.heap m) (hA:A.frames=ah (k::outer)) (hf:k.frame=ah Y) (Xt:k.scope.kind=.function) (X:G.K.In g) (top:Top G.p G.loose G.SP G.mg G.mb g)
 (Q:A.handled=ai) (E:A.depth+(d+1)<900) (units:A.units+40*(d+1)+100<e9)
 (hS:∀b o,S₀ b o->s.heap.get? b=ah o/\b∉addrs J) (U:∀b o,G.K.lookup b=ah o->S₀ b o) (hM:∀p∈J,MR G.w.params S₀ s.heap p) (hN:(addrs J).Nodup) (hg:∀b∈addrs J,g.get? b=ai/\b≠Y) (hU:di G.w.params S₀ us args)
 (hR:∀x s',DD G S₀ J post s x s'->R x s')
 (H:∀O:FC,O.Ok->O.G=G->O.dep=d->(∃n,O.ns=lQ n scope.names)->(∀(i:Nat) (x:Str) (c:aG),O.ns[i]? =ah (x,NK.Rl c)->c∈O.own)->O.env.scope=scope->O.env.builtins=e_->
  O.A=A.deeper O.env->O.base=base->O.outer=k::outer->O.RF=O.env->O.h₀=s.heap->O.RQ=addrs J->O.RP=s->O.S₀=S₀->O.A₀=A->(∀L,O.env.frame=ah L->s.heap.get? L=ai)->
  ∃Ex:Value->aR->Prop,(∀e s',Ex e s'->aW (bn G.prog G.w) O.A (IY O.env e) (λ Z j=>R (.error e) j) (λ e' j=>R (.error e') j) s')/\
   XF O Ex (eI body O.env) (Av J post) ⟨(args++Rj).map ah++bu (scope.names.length-pn.length) ai,J⟩):
 gd (bn G.prog G.w) A (.call (.ref f) ⟨us,[]⟩) R s:=by
 refine CU Yy args J K B F hA hf Xt X top Q E units hS U hM hN hg hU λ O ok hG hd Wj N X6 W q1 q2 q3 q4 M q6 q7 q8 q9 W5 s' R0=>?_;refine b4 (H O ok hG hd Wj N X6 W q1 q2 q3 q4 M q6 q7 q8 q9 W5) λ Ex ZN H'=>?_;subst hG;refine aY (H' S₀ [] s' R0) (λ fl j zf=>Pt.on zf λ b Y' z hle R' Wr hq=>?_) λ e j h=>ZN e j h;refine hR _ _ ?_;have fin:∀u v,VR O.G.w.params z u v->Fin J post v Y'.mu->DD O.G S₀ J post s (.ok (.ret u)) j:=by
  rintro u v hv ⟨Vb,V8,T6,w,Wl,VK,X4,Y9,S⟩;obtain ⟨-, -,C,D,a, -,Y1, -,t, -, -, -,I,T⟩:=R';rw[M,q6]at a;rw[M,q6]at t;rw[M]at I;rw[q7]at T;rw[Wl]at C D a;have mf:∀p∈Vb,MR O.G.w.params z j.heap p:=λ p S=>C p (aJ _ S);rw[cv]at D a;have q:=X4.addrs;have y:=aV.mp ((aV.mp D).2.1);refine ⟨u,w,T6,z.with j.heap (addrs Vb),rfl,T,λ b o e l=>t b o e l,I,hle.trans (b7.Rm _ _ _),λ b o e=>?_,X4.sound mf (λ p S=>C p (ax _ S)),q▸y.2.1,λ b l=>?_,ol.sound mf Y9 hv,S⟩
  ·refine b6 e (λ e=>?_) λ zo=>?_
   ·refine jw (Y1 b o e) λ h1 h2 h3=>?_;rw[M,q8]at h3;refine ⟨h1,λ l=>h2 ?_,h3⟩;rw[Wl,cv];exact ax _ (ax _ (q▸l))
   ·obtain ⟨l,e⟩:=zo;refine ⟨e,λ ZC=>y.2.2 b l b (q▸ZC) rfl,?_⟩;refine b6 (a b (ax _ (aJ _ l))) (λ h=>?_) λ h=>?_
    ·exact absurd rfl (y.2.2 b l b (VK b h))
    ·exact .inr h
  ·exact a b (ax _ (ax _ (q▸l)))
 cases Wr with
 |next=>exact fin _ _ .none hq
 |ret hv=>exact fin _ _ hv hq
 |cont=>exact hq.elim
theorem Nh{G:GC}{d:Nat}{f:aG}{name qual:Str}{j:eJ}{body:List Stmt}{scope:iD}{pn:List Str}{Rj:List V}(Yy:cr G f name qual j body scope pn Rj)
 (args:List V) (J:Mu) (post:V->Mu->Prop) (o:args.length+Rj.length=pn.length)
 (H:∀O:FC,O.Ok->O.G=G->O.dep=d->(∃n,O.ns=lQ n scope.names)->(∀(i:Nat) (x:Str) (c:aG),O.ns[i]? =ah (x,NK.Rl c)->c∈O.own)->O.env.scope=scope->O.env.builtins=e_->
  XF O (λ Z Z=>False) (eI body O.env) (Av J post) ⟨(args++Rj).map ah++bu (scope.names.length-pn.length) ai,J⟩):
 cD G (d+1) (.ref f) args J post:=by
 intro A g I s us S₀ D hS p v E w y;obtain ⟨⟨t,base,outer,u,m,B,F,z,C,r⟩,q,top,l,k,units⟩:=D;exact CW Yy args J post o B F z C r q top l k units hS p v E w y (λ Z Z h=>h)
  λ O a b c d e f g Z Z Z Z Z Z Z Z Z Z=>⟨_,λ Z Z h=>h.elim,H O a b c d e f g⟩
theorem MR.Ud{P:bQ}{h:Heap}{p:aG×MO}(m:MR P S h p){b:aG}(c:b∈ce p){v:Option Value}:¬h.IsCell b v:=by
 have one:∀{a:aG} {o:Obj},h.get? a=ah o->o.data≠.cell v->¬h.IsCell a v:=λ e k i=>by refine b4 i λ o n l=>?_;exact k (Option.some.inj (e.symm.trans n)▸l)
 have f:∀{a d:aG} {o j:Obj},b∈[a,d]->h.get? a=ah o->h.get? d=ah j->o.data≠.cell v->j.data≠.cell v->¬h.IsCell b v:=λ c e g k k'=>(aI.mp c).elim (λ q=>q▸one e k) λ q=>aE.mp q▸one g k';cases m with
 |list e _=>exact aE.mp c▸one e λ q=>nomatch q
 |dict _ e _=>exact aE.mp c▸one e λ q=>nomatch q
 |inst e g _=>exact f c e g (λ q=>nomatch q) λ q=>nomatch q
 |SH e=>exact aE.mp c▸one e λ q=>nomatch q
 |SG e g _=>exact f c e g (λ q=>nomatch q) λ q=>nomatch q
theorem cQ.site(R:cQ O Y Kp Jj s)(ok:O.Ok):Dx O.G O.dep O.A O.g O.fL s.heap:=
 ⟨let ⟨m,F⟩:=R.fr ok;⟨_,_,_,_,m,ok.below,F,ok.frames,ok.RJ,ok.S9⟩,ok.Sb,ok.top,ok.hand,ok.depth,ok.units⟩
theorem cQ.turned(R:cQ O Y Kp Jj s)(ok:O.Ok){J1 J2 J':Mu}(Wl:Y.mu=J1++J2){s':aR}{S':b7}(st:gu s s')(g:∀b o,s.heap.get? b=ah o->b∉addrs J1->s'.heap.get? b=ah o)
 (al:∀b o,s.heap.get? b=ah o->∃E,s'.heap.get? b=ah E) (W:Kp.le S') (hS:∀b o,S' b o->s'.heap.get? b=ah o/\b∉addrs J'/\(Kp b o\/s.heap.get? b=ai))
 (N:∀p∈J',MR O.P S' s'.heap p) (TC:(addrs J').Nodup) (C:∀b∈addrs J',b∈addrs J1\/s.heap.get? b=ai):cQ O ⟨Y.vals,J'++J2⟩ S' Jj s':=by
 obtain ⟨⟨m,Zl,U⟩,T,y,nd,G,lv,kp,V,H,⟨mf,hf⟩,A,UT,P,F⟩:=R;rw[Wl]at nd G lv kp V A y;simp only[cv]at nd G lv kp V A;have B:=aV.mp nd;have J:=aV.mp B.2.1;have I:∀b∈O.fp,b∉addrs J1:=λ b d h=>B.2.2 b d b (aJ _ h) rfl;have K:∀b∈addrs J2,b∉addrs J1:=λ b d h=>J.2.2 b h b d rfl;have S:∀{L:aG} {m:Str->Option Value},s.heap.Ns L m->L∉addrs J1->s'.heap.Ns L m:=λ hn hL=>by refine mI hn λ o es ep l r=>?_;exact ⟨o,es,ep,g _ _ l hL,r⟩
 have D:∀{c:aG} {u:Option Value},s.heap.IsCell c u->s'.heap.IsCell c u:=λ {c u} T=>by refine b4 (id T) λ o l z=>?_;refine ⟨o,g _ _ l (λ d=>?_),z⟩;refine b4 (bT.mp d) λ p w d=>?_;exact (y p (aJ _ w)).Ud d T
 have f:∀b,b∈O.fp++addrs J2->∃o,s.heap.get? b=ah o:=λ b d=>lv b (by
  refine b6 (aM.mp d) (λ h=>?_) λ h=>?_
  ·exact aJ _ h
  ·exact ax _ (ax _ h))
 have hL:O.env.locals∈O.fp:=by simp[FC.fp]
 have Q:∀b∈addrs J',b∉O.fp++addrs J2:=λ b d h=>by
  refine b6 (C b d) (λ q=>?_) λ q=>?_
  ·refine b6 (aM.mp h) (λ h=>?_) λ h=>?_
   ·exact I b h q
   ·exact K b h q
  ·refine ze (f b h) λ o t=>?_;rw[q]at t;cases t
 refine ⟨⟨m,S Zl (I _ hL),λ i x k v a b=>?_⟩,λ i x c e=>by refine ze (T i x c e) λ u hu=>?_;exact ⟨u,D hu⟩,λ p w=>?_,?_,λ b d=>?_,λ b d=>?_,λ b o e=>?_,⟨V.1,λ p w=>?_⟩,λ b o e n=>?_,⟨mf,S hf λ h=>A (aJ _ h)⟩,?_,λ b o e=>W _ _ (UT b o e),λ b o e=>by refine ze (P b o e) λ E h=>?_;exact al _ _ h,?_⟩
 ·have:=U i x k v a b;cases k with
  |loc=>exact let ⟨u,l,z⟩:=this;⟨u,l,z.mono W⟩
  |Rl c=>exact let ⟨u,l,z⟩:=this;⟨u,D l,z.mono W⟩
  |glob=>exact this
  |other=>exact this
 ·refine b6 (aM.mp w) (λ w=>?_) λ w=>?_
  ·exact N p w
  ·exact (y p (ax _ w)).mono W λ b d o e=>g b o e (K b (dr w d))
 ·simp only[cv];rw[aV,aV];refine ⟨B.1,⟨TC,J.2.1,λ a X b d e=>Q a X (ax _ (e▸d))⟩,λ a X b d e=>?_⟩;refine b6 (aM.mp d) (λ h=>?_) λ h=>?_
  ·exact Q b h (aJ _ (e▸X))
  ·exact B.2.2 a X b (ax _ h) e
 ·simp only[cv]at d;refine b6 (aM.mp d) (λ d=>?_) λ d=>?_
  ·exact G b (aJ _ d)
  ·refine b6 (aM.mp d) (λ d=>?_) λ d=>?_
   ·refine b6 (C b d) (λ q=>?_) λ q=>?_
    ·exact G b (ax _ (aJ _ q))
    ·by_cases U:b∈O.RQ
     ·exact .inl U
     ·cases hh:O.h₀.get? b with
      |none=>exact .inr rfl
      |some o=>have:=H b o hh U;rw[q]at this;cases this
   ·exact G b (ax _ (ax _ d))
 ·simp only[cv]at d;refine b6 (aM.mp d) (λ d=>?_) λ d=>?_
  ·refine ze (f b (aJ _ d)) λ o t=>?_;exact al _ _ t
  ·refine b6 (aM.mp d) (λ d=>?_) λ d=>?_
   ·refine b4 (bT.mp d) λ p w d=>?_;exact (N p w).live b d
   ·refine ze (f b (ax _ d)) λ o t=>?_;exact al _ _ t
 ·refine jw (hS b o e) λ l z j=>?_;refine ⟨l,λ d=>?_,?_⟩
  ·simp only[cv]at d;have M:b∈O.fp++addrs J2:=by
    refine b6 (aM.mp d) (λ h=>?_) λ h=>?_
    ·exact aJ _ h
    ·refine b6 (aM.mp h) (λ h=>?_) λ h=>?_
     ·exact absurd h z
     ·exact ax _ h
   refine b6 j (λ j=>?_) λ j=>?_
   ·refine (kp b o j).2.1 ?_;refine b6 (aM.mp M) (λ h=>?_) λ h=>?_
    ·exact aJ _ h
    ·exact ax _ (ax _ h)
   ·refine ze (f b M) λ E t=>?_;rw[j]at t;cases t
  ·refine b6 j (λ j=>?_) λ j=>?_
   ·exact (kp b o j).2.2
   ·cases hh:O.h₀.get? b with
    |none=>exact .inr rfl
    |some E=>refine ze (P b E hh) λ Z_ h4=>?_;rw[j]at h4;cases h4
 ·refine wR (V.2 p w) λ l z ZR ZQ=>?_;have j:p.1∉addrs J1:=λ h=>z (ax _ (aJ _ h));refine ⟨g _ _ l j,λ d=>?_,λ E h'=>(hS _ _ h').2.2.elim (ZR E) λ q=>(by rw[l]at q;cases q),ZQ⟩;simp only[cv]at d;refine b6 (aM.mp d) (λ h=>?_) λ h=>?_
  ·exact z (aJ _ h)
  ·refine b6 (aM.mp h) (λ h=>?_) λ h=>?_
   ·refine b6 (C _ h) (λ q=>?_) λ q=>?_
    ·exact j q
    ·rw[l]at q;cases q
   ·exact z (ax _ (ax _ h))
 ·refine g _ _ (H b o e n) λ d=>?_;refine b6 (G b (ax _ (aJ _ d))) (λ q=>?_) λ q=>?_
  ·exact n q
  ·rw[q]at e;cases e
 ·simp only[cv];intro h;refine b6 (aM.mp h) (λ h=>?_) λ h=>?_
  ·refine b6 (C _ h) (λ q=>?_) λ q=>?_
   ·exact A (aJ _ q)
   ·refine mI hf λ o Z Z t Z=>?_;rw[q]at t;cases t
  ·exact A (ax _ h)
 ·exact ⟨st.1.trans F.1,st.2.1.trans F.2.1,st.2.2.trans F.2.2⟩
noncomputable def cS(O:FC)(Ex:Value->aR->Prop)(f:Value)(vs:List V)(Q:V->St->Prop)(Y:St):Prop:=
 ∀Kp Jj s us,cQ O Y Kp Jj s->di O.P Kp us vs->aW (bn O.G.prog O.G.w) O.A (call f us) (Pt O Jj Kp (VR O.P) Q) Ex s
theorem Hn{f:Value}(J2:Mu){post:V->Mu->Prop}(ok:O.Ok)(h:cD O.G d f vs J1 post)(hd:d<=O.dep)(a:Y.mu=J1++J2)(q:∀v J',post v J'->Q v ⟨Y.vals,J'++J2⟩):cS O Ex f vs Q Y:=λ Kp Jj s us R m=>by
 have nd:=R.nd;rw[a,cv]at nd;have i:=aV.mp (aV.mp nd).2.1;have sub:∀b∈addrs J1,b∈O.fp++addrs Y.mu:=λ b c=>by rw[a,cv];exact ax _ (aJ _ c)
 refine jj (ki ((h.mono (post':=post) hd (λ Z Z x=>x)) O.A O.g O.fL s us Kp (R.site ok) (λ b o e=>⟨(R.kp b o e).1,λ c=>(R.kp b o e).2.1 (sub b c)⟩) R.UT (λ p g=>R.mu p (by rw[a];exact aJ _ g)) i.1 (λ b c=>⟨?_,?_⟩) m) ?_)
 ·cases l:O.g.get? b with
  |none=>rfl
  |some o=>
   refine za (ok.Sr b o l) λ j k=>?_;refine b6 (R.fresh b (sub b c)) (λ q=>?_) λ q=>?_
   ·exact absurd q k
   ·rw[q]at j;exact nomatch j
 ·rintro rfl;exact R.YC (by simp only[a,cv];exact aJ _ c)
 ·rintro r s' ⟨u,v,J',S',rfl,st,keep,al,le,hS,Ug,TC,Uo,hv,g⟩;exact ⟨v,_,S',le,R.turned ok a st keep al le hS Ug TC Uo,hv,q v J' g⟩
section
variable{f:Value}{v w t:V}
theorem cS.one(h:∀Kp Jj s u,cQ O Y Kp Jj s->VR O.P Kp u v->aW (bn O.G.prog O.G.w) O.A (call f [u]) (Pt O Jj Kp (VR O.P) Q) Ex s):cS O Ex f [v] Q Y:=λ Kp Jj s us R b=>b.Tw λ u a=>h Kp Jj s u R a
theorem cS.two(h:∀Kp Jj s u c,cQ O Y Kp Jj s->VR O.P Kp u v->VR O.P Kp c w->aW (bn O.G.prog O.G.w) O.A (call f [u,c]) (Pt O Jj Kp (VR O.P) Q) Ex s):cS O Ex f [v,w] Q Y:=λ Kp Jj s us R d=>d.UK λ u c a b=>h Kp Jj s u c R a b
theorem cS.three(h:∀Kp Jj s u e d,cQ O Y Kp Jj s->VR O.P Kp u v->VR O.P Kp e w->VR O.P Kp d t->aW (bn O.G.prog O.G.w) O.A (call f [u,e,d]) (Pt O Jj Kp (VR O.P) Q) Ex s):cS O Ex f [v,w,t] Q Y:=λ Kp Jj s us R g=>g.UL λ u e d a b c=>h Kp Jj s u e d R a b c
end
noncomputable def M7(v:V)(Q:List V->St->Prop):List V->St->Prop:=λ vs Y=>Q (v::vs) Y
noncomputable def M8(O:FC)(Ex:Value->aR->Prop)(rest:List Expr)(pos:gU)(Q:List V->St->Prop):V->St->Prop:=λ v Y=>XL O Ex (c4 (cM pos (bk rest O.env))) (M7 v Q) Y
noncomputable def Pv(Q:List V->St->Prop):V->St->Prop:=λ v Y=>Q [v] Y
noncomputable def rq(O:FC)(Ex:Value->aR->Prop)(f:Value)(Q:V->St->Prop):List V->St->Prop:=λ vs Y=>cS O Ex f vs Q Y
noncomputable def ue(O:FC)(Ex:Value->aR->Prop)(f:Value)(o:V)(Q:V->St->Prop):List V->St->Prop:=λ vs Y=>cS O Ex f (o::vs) Q Y
theorem cx{Q:List V->St->Prop}(h:Q [] Y):XL O Ex (c4 (cM pos (bk [] O.env))) Q Y:=λ Kp Jj s R=>az ⟨[],Y,Kp,.refl _,R,.nil,h⟩
theorem o_{a:List Expr}{Q:List V->St->Prop}(h:XV O Ex (bv e O.env) (M8 O Ex a pos Q) Y)(m:bk (e::a) O.env=(ao,bv e O.env)::bk a O.env):XL O Ex (c4 (cM pos (bk (e::a) O.env))) Q Y:=λ Kp Jj s R=>by rw[m];show aW _ _ (do let v <-bv e O.env;let b <-pure [v];return b++(<-kc b (c4 (cM pos (bk a O.env))))) _ _ _;refine aw (h.Q6 R λ u l v j Kk l₁ f n h₁=>aw (az (aw (bD (h₁.Q6 f λ us Q8 vs c g l₂ d k i=>az ⟨_,c,g,l₁.trans l₂,d,.cons (n.mono l₂) k,i⟩)))))
noncomputable def nt(G:GC)(f:Value):Prop:=∀h,G.K.In h->∃k,(k=Keeper.frame\/k=Keeper.machine\/k=Keeper.boundFrame)/\Looks (bn G.prog G.w) h (keeperOf f) k
theorem iF(G:GC)(id:String):nt G (.builtin id):=λ h Z=>⟨.machine,.inr (.inl rfl),Looks.of_pure rfl⟩
theorem gQ(G:GC)(T:String):nt G (.type T):=λ h Z=>⟨.machine,.inr (.inl rfl),Looks.of_pure rfl⟩
theorem mo{f:Value}(hk:mW G.K f=aj):nt G f:=λ h X=>keeps_K hk h X
noncomputable abbrev Dy(pos:gU)(args:List Expr)(env:Env):Prop:=(cM pos (bk args env)).any (·.1)=ao
noncomputable abbrev Hb(pos:gU)(args:List Expr)(env:Env):Prop:=wP (args.length+0) (cM pos (bk args env)) []=aj
theorem jk{f:Value}{first:List V}{args:List Expr}{Q:V->St->Prop}{pos:gU}(ok:O.Ok)(hk:nt O.G f)(d:(cM pos (bk args O.env)).any (·.1)=ao)
 (h:XL O Ex (c4 (cM pos (bk args O.env))) (λ vs g=>cS O Ex f (first++vs) Q g) Y):
 ∀Kp Jj s us,cQ O Y Kp Jj s->di O.P Kp us first->aW (bn O.G.prog O.G.w) O.A (callWith pos f us (cM pos (bk args O.env)) []) (Pt O Jj Kp (VR O.P) Q) Ex s:=λ Kp Jj s us R n=>by
 refine D8 (P:=O.G.K.In) (by rw[d];rfl) hk ?_;have main:aW (bn O.G.prog O.G.w) O.A (c4 (cM pos (bk args O.env))) (λ vs c=>O.G.K.In c.heap/\aW (bn O.G.prog O.G.w) O.A (call f (us++vs) []) (Pt O Jj Kp (VR O.P) Q) Ex c) Ex s:=
  h.Q6 R λ vs c ws g Kk l₁ i o h₁=>⟨i.Sb ok,aY (h₁ Kk Jj c (us++vs) i ((di.mono l₁ n).append o)) (λ Z Z x=>up l₁ x) λ Z Z e=>e⟩
 skip;cases k:cM pos (bk args O.env)with
 |nil=>rw[k]at main;show aW _ _ (c4 []>>=_) _ _ _;refine aw (aY main (λ vs c m=>?_) λ Z Z e=>e);exact aw (az (bD (aw (az (aw (az (az m)))))))
 |cons a l=>
  obtain ⟨b,x⟩:=a;rw[k]at main d;have j:b=ao:=by simpa using (y3.mp d).1
  subst j;show aW _ _ (c4 ((ao,x)::l)>>=_) _ _ _;refine aw (aY main (λ vs c m=>?_) λ Z Z e=>e);exact aw (az (bD (aw (az (aw (az (az m)))))))
theorem tF{x:Str}{v:Value}(i:Nat)(ok:O.Ok)(hi:O.ns[i]? =ah (x,.glob))(a:mH O.G.K cj x=ah (ah v))(hd:iO x=aj)(R:cQ O Y Kp Jj s){pos:gU}{Q:Value->aR->Prop}(h:Q v s):
 aW (bn O.G.prog O.G.w) O.A (bv (.Name x pos) O.env) Q Ex s:=by
 refine ze (R.fr ok) λ m F=>?_;exact oB ok.kind (ok.glob i x hi) (IX ((bz ok.globals)▸ok.top.g.keeps F.keep) (mg_of ok.Sb ok.top.g a) h) (by simpa[iO]using hd)
theorem uV{x:Str}{v:Value}(i:Nat)(ok:O.Ok)(a:O.env.builtins=e_)(hi:O.ns[i]? =ah (x,.glob))(c:mH O.G.K cj x=ah ai)(b:r_ x=ah v)(d:x≠"__name__")(hd:iO x=aj)(R:cQ O Y Kp Jj s){pos:gU}{Q:Value->aR->Prop}(h:Q v s):
 aW (bn O.G.prog O.G.w) O.A (bv (.Name x pos) O.env) Q Ex s:=by
 refine ze (R.fr ok) λ m F=>?_;exact oB ok.kind (ok.glob i x hi) (loadGlobal_builtin (by rw[ok.globals];exact ok.top.g.keeps F.keep) (mg_none_of ok.Sb ok.top.g c) (by rw[a];exact ok.top.b.keeps F.keep) ((ok.top.builtins x d).trans b) h) (by simpa[iO]using hd)
theorem Hr{x:Str}{u:Value}{v:V}{pos:gU}{Q:V->St->Prop}(i:Nat)(ok:O.Ok)(hi:O.ns[i]? =ah (x,.glob))(c:mH O.G.K cj x=ah (ah u))(hd:iO x=aj)(a:VR O.P (λ b o=>O.G.K.lookup b=ah o) u v)(h:Q v Y):
 XV O Ex (bv (.Name x pos) O.env) Q Y:=λ Kp Jj s R=>tF i ok hi c hd R ⟨v,Y,Kp,.refl _,R,a.mono R.UT,h⟩
theorem tG{f:Value}(i:Nat)(ok:O.Ok)(hi:O.ns[i]? =ah (x,.glob))(b:mH O.G.K cj x=ah (ah f))(hd:iO x=aj)(hk:mW O.G.K f=aj)(a:(cM pos (bk args O.env)).any (·.1)=ao)(h:XL O Ex (c4 (cM pos (bk args O.env))) (rq O Ex f Q) Y):XV O Ex (bv (.Call (.Name x np) args [] pos) O.env) Q Y:=λ Kp Jj s R=>tC (tF i ok hi b hd R (jk (first:=[]) ok (mo hk) a h Kp Jj s [] R .nil))
theorem Ek{f:Value}(i:Nat)(ok:O.Ok)(b:O.env.builtins=e_)(hi:O.ns[i]? =ah (x,.glob))(d:mH O.G.K cj x=ah ai)(c:r_ x=ah f)(e:x≠"__name__")(hd:iO x=aj)(hk:nt O.G f)(a:(cM pos (bk args O.env)).any (·.1)=ao)(h:XL O Ex (c4 (cM pos (bk args O.env))) (rq O Ex f Q) Y):XV O Ex (bv (.Call (.Name x np) args [] pos) O.env) Q Y:=λ Kp Jj s R=>tC (uV i ok b hi d c e hd R (jk (first:=[]) ok hk a h Kp Jj s [] R .nil))
noncomputable def m7(x:Str)(v:V):List (Str×V)->List (Str×V)
 |[]=>[(x,v)]
 |(y,w)::r=>if x==y then (y,v)::r else (y,w)::m7 x v r
theorem th(x y:Str)(t:I2):(Value.str y t).isStr x=(x==y):=by show decide (y=x)=decide (x=y);exact decide_eq_decide.mpr ⟨bz,bz⟩
theorem g6.noRef{P:bQ}(h:g6 P S es fs):es.any (·.refKey)=ao:=h.ind rfl λ Z Z Z Z Z Z Z Z k=>k
noncomputable def DB(P:bQ)(S:b7)(x:Str)(es:List bL):Option V->Prop
 |none=>es.find? (·.key.isStr x)=ai
 |some v=>∃e,es.find? (·.key.isStr x)=ah e/\VR P S e.val v
theorem g6.find{P:bQ}(h:g6 P S es fs)(x:Str):DB P S x es (fs.lookup x):=
 h.ind rfl λ y t u es v fs a Z k=>by
  have e:(Value.str y t).isStr x=(x==y):=th x y t;have f:∀o,DB P S x es o->(x==y)=ao->DB P S x (⟨PySem.PyData.keyHash P y,.str y t,u⟩::es) o:=λ o h b=>by
   have c:(⟨PySem.PyData.keyHash P y,.str y t,u⟩::es:List bL).find? (·.key.isStr x)=es.find? (·.key.isStr x):=List.find?_cons_of_neg (by show ¬(Value.str y t).isStr x=aj;rw[e,b];exact df);cases o with
   |none=>exact c.trans h
   |some v=>exact let ⟨en,h1,h2⟩:=h;⟨en,c.trans h1,h2⟩
  rw[bq];cases b:x==y with
  |true=>exact ⟨_,List.find?_cons_of_pos (e.trans b),a⟩
  |false=>exact f _ k b
theorem g6.get{P:bQ}(h:g6 P S es fs){v:V}(e:fs.lookup x=ah v):∃e u,es.find? (·.key.isStr x)=ah e/\e.val=u/\VR P S u v:=by have:=h.find x;rw[e]at this;exact let ⟨en,a,b⟩:=this;⟨en,_,a,rfl,b⟩
theorem g6.absent{P:bQ}(h:g6 P S es fs)(e:fs.lookup x=ai):es.find? (·.key.isStr x)=ai:=by have:=h.find x;rwa [e]at this
theorem g6.getL{P:bQ}(h:g6 P S es fs){v:V}(e:fs.lookup x=ah v):∃u,W.getL x es=ah (ah u)/\VR P S u v:=by refine fo (h.get e) λ d u c a b=>?_;subst a;exact ⟨_,by unfold W.getL;rw[c],b⟩
theorem g6.Sn{P:bQ}(h:g6 P S es fs)(e:fs.lookup x=ai):W.getL x es=ah ai:=by unfold W.getL;rw[h.absent e,h.noRef];rfl
theorem g6.put{P:bQ}{t:I2}{v:V}(b:VR P S u v){es:List bL}(h:g6 P S es fs):g6 P S (putL x (PyData.keyHash P x) (.str x t) u es) (m7 x v fs):=
 h.ind (.cons b .nil) λ y c d es w fs a r k=>by
  unfold putL;show g6 P S (if (Value.str y c).isStr x then _ else _) (if x==y then _ else _);rw[th];cases x==y with
  |true=>exact .cons b r
  |false=>exact .cons a k
theorem pf(x:Str)(h:Int)(k u:Value):∀es:List bL,(putL x h k u es).length<=es.length+1:=by
 intro es;induction es with
 |nil=>simp[putL]
 |cons e r a=>
  unfold putL;split
  ·simp
  ·have:=a;simp only[bj];exact dc ‹_›
theorem g6.length{P:bQ}(h:g6 P S es fs):es.length=fs.length:=
 h.ind rfl λ y t u es v fs a Z k=>congrArg j4 k
theorem VR.handed{P:bQ}{v:V}(h:VR P S u v):handedIn u=aj:=by cases h<;>rfl
set_option tactic.hygienic true in
theorem Hm{a d:aG}{n:Nat}(ok:O.Ok)(R:cQ O Y Kp Jj s)(i:s.heap.get? a=ah (ii C d))(f:s.heap.get? d=ah (dictOf es n))(hk:jY O.G.K C name=aj)(e:W.getL name es=ah (ah u))(g:handedIn u=aj){Q:Value->aR->Prop}(h:Q u {s with toks:=s.toks+1}):aW (bn O.G.prog O.G.w) O.A (AS (.ref a) name expr) Q Ex s:=by
 unfold jY at hk;simp only[cW]at hk;refine za hk λ c b=>?_;obtain ⟨j,hd⟩:=c;split at b
 ·rename_i attr ha;exact get_value (od:=ah (dictOf es n)) (R.Sb ok) ⟨i,rfl,rfl,f⟩ (D0 j).1 (findObj_own hd ha b e) g h
 ·cases b
inductive sB(Y:St):V->aG->List (Str×V)->Prop
 |frozen {C:aG} {fs:List (Str×V)}:sB Y (.inst C fs) C fs
 |led {a C d:aG} {fs:List (Str×V)}:(a,.inst C d fs)∈Y.mu->sB Y (.ref a) C fs
inductive PK(P:bQ)(S:b7)(h:Heap)(C:aG)(fs:List (Str×V)):Value->Prop
 |mk (a d:aG) (es:List bL) (n:Nat) (e:h.get? a=ah (ii C d)) (e':h.get? d=ah (dictOf es n)) (r:g6 P S es fs):PK P S h C fs (.ref a)
theorem sB.at{v:V}(I:sB Y v C fs)(R:cQ O Y Kp Jj s){u:Value}:VR O.P Kp u v->PK O.P Kp s.heap C fs u:=
 sB.rec (motive:=λ v C fs Z=>VR O.P Kp u v->PK O.P Kp s.heap C fs u) (λ d=>d.instE λ Z Z Z Z a b c=>⟨_,_,_,_,(R.kp _ _ a).1,(R.kp _ _ b).1,c⟩) (λ f d=>d.Rw ((R.mu _ f).instE λ Z Z e g r=>⟨_,_,_,_,e,g,r⟩)) I
noncomputable abbrev I7(o:Expr)(name:Str)(args:List Expr)(apos pos:gU)(env:Env):Prop:=bv (.Call (.Attribute o name apos) args [] pos) env=(do
 let ov <-bv o env
 iX apos.atName
 gN o name apos pos env ov (args.length+0) (cM pos (bk args env)) [])
noncomputable abbrev I_(value:Expr)(attr:Str)(pos:gU)(env:Env):Prop:=bv (.Attribute value attr pos) env=(do
 let o <-bv value env
 iX pos.atName
 let r <-kc [o] (AS o attr aj)
 wQ value o r
 pure r)
theorem Hu(ok:O.Ok)(h:XV O Ex (bv value O.env) (λ o b=>∃C fs v,sB b o C fs/\jY O.G.K C attr=aj/\fs.lookup attr=ah v/\Q v b) Y)(m:I_ value attr pos O.env):XV O Ex (bv (.Attribute value attr pos) O.env) Q Y:=λ Kp Jj s R=>Attribute_any_ (h.Q6 R λ u f o b Kk l₁ c i h₁=>by refine qs h₁ λ C fs v I hk k l=>?_;obtain ⟨a,d,es,n,p,q,g⟩:=I.at c i;refine b4 (g.getL k) λ r j e=>?_;exact Hm ok c p q hk j e.handed ⟨v,b,Kk,l₁,c.toks _,e,l⟩) m
noncomputable def re(K:f7)(C:aG)(name:Str)(f:aG):Bool:=D1 K C name&&g9 K (.ref C) name==ah (ah (.ref f))&&lJ K (.ref f)==ah (.type "function")&&mW K (.ref f)
theorem Ei{o:Expr}{name:Str}{b pos:gU}{args:List Expr}{Q:V->St->Prop}(ok:O.Ok)(i:Dy pos args O.env)
 (h:XV O Ex (bv o O.env) (λ ov c=>∃C fs f,sB c ov C fs/\re O.G.K C name f=aj/\fs.lookup name=ai/\XL O Ex (c4 (cM pos (bk args O.env))) (λ vs j=>cS O Ex (.ref f) (ov::vs) Q j) c) Y)
 (E:I7 o name args b pos O.env)
 (A:Hb pos args O.env) (z:(b.endLine==pos.line)=aj):
 XV O Ex (bv (.Call (.Attribute o name b) args [] pos) O.env) Q Y:=λ Kp Jj s R=>by
 rw[E];refine aw (h.Q6 R λ u k ov c Kk l₁ g t h₁=>aw (ej ?_));refine qs h₁ λ C fs f I hk B w=>?_;obtain ⟨a,d,es,n,D,y,l⟩:=I.at g t;unfold re at hk;simp only[cW,beq_iff_eq]at hk;refine za hk λ m q=>?_;obtain ⟨⟨r,p⟩,v⟩:=m;unfold gN;refine aw (bD ?_);unfold D7;rw[A,if_pos rfl];refine method_fn (od:=ah (dictOf es n)) (g.Sb ok) ⟨D,rfl,rfl,y⟩ (D0 r).1 (D0 r).2 p v (by show (qq name (dictOf es n)).map _=_;rw[lookIn_dict,l.Sn B];rfl) ?_;show aW _ _ (dW aj o O.env b pos>>=_) _ _ _;rw[(show dW aj o O.env b pos=pure pos by unfold dW;rw[z];rfl)];refine aw (az ?_);exact aY (jk (first:=[ov]) ok (mo q) i w Kk Jj k [.ref a] g (.cons t .nil)) (λ Z Z x=>up l₁ x) λ Z Z e=>e
theorem cQ.Ub(R:cQ O Y Kp Jj s)(ok:O.Ok){J1 J2:Mu}{p q:aG×MO}(n:Y.mu=J1++p::J2)(h:ce q=ce p){h':Heap}{tk:Nat}{a:aG}(H:a∈ce p)(D:Heap.SameBut a s.heap h')
 (L:∃o,h'.get? a=ah o) (I:MR O.P Kp h' q):cQ O ⟨Y.vals,J1++q::J2⟩ Kp Jj {s with heap:=h',toks:=tk}:=by
 have nd:=R.nd;rw[n,cv]at nd;have v:∀{p:aG×MO} {l:Mu},addrs (p::l)=ce p++addrs l:=rfl;rw[v]at nd;have K:cQ O ⟨Y.vals,p::(J1++J2)⟩ Kp Jj s:=by
  obtain ⟨a1,F,A,B,z,E,i,g,C,k,m,r,t,j⟩:=R;have w:(p::(J1++J2)).Perm Y.mu:=n▸eR.symm;have y:(addrs (p::(J1++J2))).Perm (addrs Y.mu):=j7 _ w;have f:(O.fp++addrs (p::(J1++J2))).Perm (O.fp++addrs Y.mu):=y.append_left _;exact ⟨a1,F,λ x d=>A x (w.mem_iff.mp d),f.nodup_iff.mpr B,λ b c=>z b (f.mem_iff.mp c),λ b c=>E b (f.mem_iff.mp c),λ b o e=>⟨(i b o e).1,λ c=>(i b o e).2.1 (f.mem_iff.mp c),(i b o e).2.2⟩,
   ⟨g.1,λ x d=>⟨(g.2 x d).1,λ c=>(g.2 x d).2.1 (f.mem_iff.mp c),(g.2 x d).2.2⟩⟩,C,k,λ c=>m (y.mem_iff.mp c),r,t,j⟩
 have M:=K.turned (J1:=[p]) (J2:=J1++J2) (J':=[q]) (s':={s with heap:=h',toks:=tk}) (S':=Kp) ok rfl ⟨rfl,rfl,rfl⟩ (λ b o e c=>(D.2 b (λ u=>c (by rw[u,v];exact aJ _ H))).trans e)
  (λ b o e=>by
   by_cases u:b=a
   ·exact u▸L
   ·exact ⟨o,(D.2 b u).trans e⟩) (.refl _) (λ b o e=>?_) (λ x d=>by rw[aE.mp d];exact I) ?_ (λ b c=>.inl (by simpa[v,addrs,h]using c))
 ·obtain ⟨a1,F,A,B,z,E,i,g,C,k,m,r,t,j⟩:=M;have w:(J1++q::J2).Perm ([q]++(J1++J2)):=eR;have y:(addrs (J1++q::J2)).Perm (addrs ([q]++(J1++J2))):=j7 _ w;have f:(O.fp++addrs (J1++q::J2)).Perm (O.fp++addrs ([q]++(J1++J2))):=y.append_left _;exact ⟨a1,F,λ x d=>A x (w.mem_iff.mp d),f.nodup_iff.mpr B,λ b c=>z b (f.mem_iff.mp c),λ b c=>E b (f.mem_iff.mp c),λ b o e=>⟨(i b o e).1,λ c=>(i b o e).2.1 (f.mem_iff.mp c),(i b o e).2.2⟩,
   ⟨g.1,λ x d=>⟨(g.2 x d).1,λ c=>(g.2 x d).2.1 (f.mem_iff.mp c),(g.2 x d).2.2⟩⟩,C,k,λ c=>m (y.mem_iff.mp c),r,t,j⟩
 ·have G:b∉ce p:=λ c=>(R.kp b o e).2.1 (by rw[n,cv,v];exact ax _ (ax _ (aJ _ c)));exact ⟨(D.2 b (λ u=>G (u▸H))).trans (R.kp b o e).1,λ c=>G (by simpa[v,addrs,h]using c),.inl e⟩
 ·have J:=(aV.mp (aV.mp (aV.mp nd).2.1).2.1).1;simpa[v,addrs,h]using J
theorem cQ.perm(R:cQ O Y Kp Jj s){J':Mu}(m:J'.Perm Y.mu):cQ O ⟨Y.vals,J'⟩ Kp Jj s:=by
 obtain ⟨a1,t,u,p,v,r,h,f,q,j,g,k,l,i⟩:=R;have n:(addrs J').Perm (addrs Y.mu):=j7 _ m;have c:(O.fp++addrs J').Perm (O.fp++addrs Y.mu):=n.append_left _;exact ⟨a1,t,λ x d=>u x (m.mem_iff.mp d),c.nodup_iff.mpr p,λ b a=>v b (c.mem_iff.mp a),λ b a=>r b (c.mem_iff.mp a),λ b o e=>⟨(h b o e).1,λ a=>(h b o e).2.1 (c.mem_iff.mp a),(h b o e).2.2⟩,
  ⟨f.1,λ x d=>⟨(f.2 x d).1,λ a=>(f.2 x d).2.1 (c.mem_iff.mp a),(f.2 x d).2.2⟩⟩,q,j,λ a=>g (n.mem_iff.mp a),k,l,i⟩
set_option tactic.hygienic true in
theorem Hl{a d:aG}{v:V}(ok:O.Ok)(R:cQ O Y Kp Jj s)(c:Y.mu=J1++(a,.inst C d fs)::J2)(hk:iJ O.G.K C name=aj)(hz:fs.length<900)(z:VR O.P Kp u v){Q:Unit->aR->Prop}(h:∀s',cQ O ⟨Y.vals,J1++(a,.inst C d (m7 name v fs))::J2⟩ Kp Jj s'->Q () s'):aW (bn O.G.prog O.G.w) O.A (setAttr (.ref a) name u) Q Ex s:=by
 unfold iJ at hk;simp only[cW,beq_iff_eq]at hk;refine za hk λ i A=>?_;obtain ⟨⟨k1,k2⟩,k3⟩:=i;have F:(a,MO.inst C d fs)∈Y.mu:=by rw[c];simp
 cases R.mu _ F with
 |inst g f r=>
  rename_i es n;have G:=R.fr ok;have nd:=R.nd;rw[c,cv]at nd;have p:d∈O.fp++addrs Y.mu:=by rw[c,cv];exact ax _ (ax _ (aJ _ (by simp[ce])))
  have x:O.g.get? d=ai:=by
   cases E:O.g.get? d with
   |none=>rfl
   |some o=>
    refine za (ok.Sr d o E) λ t y=>?_;rcases R.fresh d p with q|q
    ·exact absurd q y
    ·rw[q]at t;cases t
  have X:=R.Sb ok;refine set_plain X (show InstAt s.heap a (ii C d) C (ah (dictOf es n))from ⟨g,rfl,rfl,f⟩) k1 (osa_open (od:=ah (dictOf es n)) (s:={s with toks:=s.toks+1}) X ⟨g,rfl,rfl,f⟩ k2 k3 λ b=>?_)
  refine b4 (any_some A) λ H B k=>?_;refine aw (az (aw (aw (e8 g (aw (oy X B _ _ _ _ (λ Z Z e=>e) ?_))))));rw[k];refine az (a:=ah d) (aw (az (aw ?_)));unfold nsSet;refine aw (aw (wpAny_askSetting (az (aw (AQ (aw (e8 f ?_)))))));have D:FT name es.toArray=ao:=by rw[AV];rw[(show es.toArray.any (·.refKey)=ao by rw[iW];exact r.noRef),mV]
  dsimp only;rw[D];refine wpAny_updatePart f ?_;have w:=putName_dict name (PyData.keyHash O.P name) (.str name (s.toks+1)) u es n;have l:(s.heap.update d (Obj.putName name (PyData.keyHash O.P name) (.str name (s.toks+1)) u)).get? d=ah (dictOf (putL name (PyData.keyHash O.P name) (.str name (s.toks+1)) u es) (putN name es n)):=by rw[<-w];exact c9 _ f (by rw[w];rfl)
  refine aw (wpAny_lookBehind l (pastItsLine_dict (by rw[bH,dA];exact Ga hz (pf name (PyData.keyHash O.P name) (.str name (s.toks+1)) u es) r.length)) ?_);refine az (h _ ?_);have j:=(aV.mp (aV.mp nd).2.1).2.1;have m:a≠d:=by have:(ce (a,MO.inst C d fs)).Nodup:=(aV.mp j).1;simp[ce]at this;exact this
  exact R.Ub (q:=(a,.inst C d (m7 name v fs))) (a:=d) ok c rfl (by simp[ce]) (Heap.SameBut.update ..) ⟨_,l⟩ (.inst ((fC _ _ _ _ m).trans g) l (r.put z))
open Classical in
noncomputable def gz(v w:V):Bool:=decide (v=w)
theorem eK(v:V):gz v v=aj:=@decide_eq_true _ (_) rfl
theorem f2{v w:V}:gz v w=aj↔v=w:=@decide_eq_true_iff _ (_)
theorem ip{v w:V}(h:v≠w):gz v w=ao:=@decide_eq_false _ (_) h
theorem tI{v w:V}{b:Bool}(h:b=aj↔v=w):gz v w=b:=fc.mpr (f2.trans h.symm)
theorem kX(a b:Int):gz (.int a) (.int b)=(a==b):=tI ⟨λ h=>congrArg V.int (beq_iff_eq.mp h),λ h=>beq_iff_eq.mpr (V.int.inj h)⟩
theorem hP(a b:Str):gz (.str a) (.str b)=(a==b):=tI ⟨λ h=>congrArg V.str (beq_iff_eq.mp h),λ h=>beq_iff_eq.mpr (V.str.inj h)⟩
noncomputable def P8:V->Bool:=vB aj ao aj aj
noncomputable def lP:Nat->V->Bool
 |0,v=>P8 v
 |n+1,v=>match v with
  |.tup xs=>xs.all (lP n)
  |.list xs=>xs.all (lP n)
  |v=>P8 v
inductive Pl:Nat->V->Prop
 |none (n:Nat):Pl n .none
 |int (n:Nat) (i:Int):Pl n (.int i)
 |str (n:Nat) (x:Str):Pl n (.str x)
 |tup {n:Nat} {xs:List V}:(∀x∈xs,lP n x=aj)->Pl (n+1) (.tup xs)
 |list {n:Nat} {xs:List V}:(∀x∈xs,lP n x=aj)->Pl (n+1) (.list xs)
theorem lO{n:Nat}{v:V}(h:lP n v=aj):Pl n v:=by cases n<;>cases v<;>first|exact .none _|exact .int _ _|exact .str _ _|exact .tup (b9.mp h)|exact .list (b9.mp h)|exact qn h
theorem fE{p:V->Prop}(h:∀x∈xs,p x)(a:p .none):p (xs.getD j .none):=by
 simp only[aD];cases e:xs[j]? with
 |none=>exact a
 |some v=>exact h v (aX e)
theorem iN(n:Nat):lP n .none=aj:=by cases n<;>rfl
theorem Ba(x y:V)(xs ys:List V):gz (.tup (x::xs)) (.tup (y::ys))=(gz x y&&gz (.tup xs) (.tup ys)):=
 tI (dg.trans ⟨λ c=>by refine za c λ a b=>?_;exact by simp only[f2.mp a,V.tup.inj (f2.mp b)],λ h=>by
  injection h with h
  injection h with a b
  subst a b;exact ⟨eK _,eK _⟩⟩)
theorem nH:∀(xs ys:List V),((aZ (min xs.length ys.length)).all (λ j=>gz (xs.getD j .none) (ys.getD j .none))&&xs.length==ys.length)=gz (.tup xs) (.tup ys):=by
 intro xs;induction xs with
 |nil=>intro ys;cases ys with
  |nil=>exact (eK _).symm
  |cons y ys=>simp only[ip (v:=.tup []) (w:=.tup (y::ys)) λ h=>nomatch V.tup.inj h];rfl
 |cons x xs a=>intro ys;cases ys with
  |nil=>simp only[ip (v:=.tup (x::xs)) (w:=.tup []) λ h=>nomatch V.tup.inj h];rfl
  |cons y ys=>simp only[Ba,<-a ys,show min (x::xs).length (y::ys).length=min xs.length ys.length+1 from Nat.succ_min_succ ..,wK,uU,List.all_map,Bool.and_assoc,show ((x::xs).length==(y::ys).length)=(xs.length==ys.length)by simp];rfl
theorem A_(xs ys:List V):gz (.tup xs) (.tup ys)=gz (.list xs) (.list ys):=tI (f2.trans ⟨λ h=>congrArg V.tup (V.list.inj h),λ h=>congrArg V.list (V.tup.inj h)⟩)
section
variable{P:bQ}{h:Heap}
noncomputable def Ir(f:Value->V):Option Obj->V
 |some ⟨c,_,.seq T3 _,_⟩=>if c=.type "tuple" then .tup (T3.toList.map f)else .list (T3.toList.map f)
 |_=>.none
noncomputable def Ni(h:Heap)(f:Value->V):Value->V
 |.int i _=>.int i
 |.str x _=>.str x
 |.ref a=>Ir f (h.get? a)
 |_=>.none
noncomputable def dec(h:Heap):Nat->Value->V
 |0=>Ni h λ Z=>.none
 |n+1=>Ni h (dec h n)
theorem C1(hS:∀b o,S b o->h.get? b=ah o):∀{n:Nat} {u:Value} {v:V},lP n v=aj->VR P S u v->dec h n u=v:=by
 intro n;induction n with
 |zero=>
  intro u v c r;cases lO c with
  |none=>exact r.RE rfl
  |int _ i=>exact r.Rc λ Z=>rfl
  |str _ x=>exact r.Rh λ Z=>rfl
 |succ n g=>
  have f:∀{us:List Value} {vs:List V},(∀v∈vs,lP n v=aj)->di P S us vs->us.map (dec h n)=vs:=λ c r=>by
   revert c
   exact r.ind (λ Z=>rfl) λ Z Z Z Z a Z k c=>congr (congrArg List.cons (g (c _ (.head _)) a)) (k λ x d=>c x (.tail _ d))
  intro u v c r;cases lO c with
  |none=>exact r.RE rfl
  |int _ i=>exact r.Rc λ Z=>rfl
  |str _ x=>exact r.Rh λ Z=>rfl
  |tup d=>refine r.Rn λ a vs m e rs=>?_;show Ir (dec h n) (h.get? a)=_;rw[hS _ _ e];exact congrArg V.tup (f d rs)
  |list d=>refine r.listE λ a vs m e rs=>?_;show Ir (dec h n) (h.get? a)=_;rw[hS _ _ e];exact congrArg V.list (f d rs)
theorem VR.uniq(hS:∀b o,S b o->h.get? b=ah o)(n:Nat){u:Value}{v w:V}(d:lP n v=aj)(a:lP n w=aj)(r:VR P S u v)(c:VR P S u w):v=w:=(C1 hS d r).symm.trans (C1 hS a c)
theorem di.getD(r:di P S us vs){j:Nat}(a:j<us.length):VR P S us[j] (vs.getD j .none):=by refine b4 (r.get' (ay a)) λ v e b=>?_;simp only[aD,e];exact b
theorem Qi{v w:V}(e:(v.ctorIdx==w.ctorIdx)=ao):v≠w:=λ h=>by rw[h,beq_self_eq_true]at e;exact qn e
theorem tn{a:Value}{v w:V}(k:EqAt A s u a ao)(e:(v.ctorIdx==w.ctorIdx)=ao):EqAt A s u a (gz v w):=by rw[ip (Qi e)];exact k
section
variable(hS:∀b o,S b o->s.heap.get? b=ah o)
include hS
theorem DI{a:aG}{vs:List Value}{n:Nat}(e:S a (dU vs.toArray n)):s.heap.IsTuple a vs.toArray:=⟨_,hS _ _ e,rfl,_,rfl⟩
theorem AI{a:aG}{vs:List Value}{n:Nat}(e:S a (listOf vs.toArray n)):s.heap.IsList a vs.toArray:=⟨_,hS _ _ e,rfl,_,rfl⟩
set_option tactic.hygienic true in
theorem yH(n:Nat):∀(A:Around) {u g:Value} {v w:V},lP n v=aj->lP n w=aj->VR P S u v->VR P S g w->A.units+n<e9->EqAt A s u g (gz v w):=by
 induction n using Nat.strongRecOn with
 |ind n I=>
  intro A u g v w H p r d G;have c:A.units<e9:=aQ (b0 _ _) G;have t:∀{m},n=m+1->A.in1.units+m<e9:=λ {m} e=>by subst e;exact (show A.units+1+m<e9 from JB G)
  have f:∀{g:Value},u=g->VR P S g w->EqAt A s u g (gz v w):=λ e d=>by subst e;rw[VR.uniq hS n H p r d,eK];exact EqAt.same _
  cases lO H with
  |none=>
   refine r.RE ?_;cases lO p with
   |none=>rw[eK];exact d.RE (EqAt.same _)
   |int _ i=>exact tn (d.Rc λ Z=>EqAt.none_int _ _) rfl
   |str _ x=>exact tn (d.Rh λ Z=>EqAt.none_str _ _) rfl
   |tup _=>exact tn (d.Rn λ Z Z Z e Z=>EqAt.none_tuple (DI hS e) c) rfl
   |list _=>exact tn (d.listE λ Z Z Z e Z=>EqAt.none_list (AI hS e) c) rfl
  |int _ i=>
   refine r.Rc λ Z=>?_;cases lO p with
   |none=>exact tn (d.RE (EqAt.int_none _ _)) rfl
   |int _ j=>rw[kX];exact d.Rc λ Z=>EqAt.int_int _ _ _ _
   |str _ x=>exact tn (d.Rh λ Z=>EqAt.int_str _ _ _ _) rfl
   |tup _=>exact tn (d.Rn λ Z Z Z e Z=>EqAt.int_tuple _ _ (DI hS e) c) rfl
   |list _=>exact tn (d.listE λ Z Z Z e Z=>EqAt.int_list _ _ (AI hS e) c) rfl
  |str _ x=>
   refine r.Rh λ Z=>?_;cases lO p with
   |none=>exact tn (d.RE (EqAt.str_none _ _)) rfl
   |int _ j=>exact tn (d.Rc λ Z=>EqAt.str_int _ _ _ _) rfl
   |str _ y=>rw[hP];exact d.Rh λ Z=>EqAt.str_str _ _ _ _
   |tup _=>exact tn (d.Rn λ Z Z Z e Z=>EqAt.str_tuple _ _ (DI hS e) c) rfl
   |list _=>exact tn (d.listE λ Z Z Z e Z=>EqAt.str_list _ _ (AI hS e) c) rfl
  |tup F=>
   rename_i m xs;refine VR.Rn (Q:=λ u=>(∀{g:Value},u=g->VR P S g w->EqAt A s u g (gz (.tup xs) w))->EqAt A s u g (gz (.tup xs) w)) r (λ a vs Z e rs f=>?_) f;cases lO p with
   |none=>exact tn (d.RE (EqAt.tuple_none (DI hS e) c)) rfl
   |int _ j=>exact tn (d.Rc λ Z=>EqAt.tuple_int _ _ (DI hS e) c) rfl
   |str _ y=>exact tn (d.Rh λ Z=>EqAt.tuple_str _ _ (DI hS e) c) rfl
   |list _=>exact tn (d.listE λ Z Z Z o Z=>EqAt.tuple_list (DI hS e) (AI hS o) c) rfl
   |tup E=>
    rename_i ys f;refine VR.Rn (Q:=λ g=>VR P S g (.tup ys)->EqAt A s (.ref a) g (gz (.tup xs) (.tup ys))) d (λ b ws Z o l d=>?_) d;by_cases k:a=b
    ·exact f (congrArg Value.ref k) d
    ·have q:=RcAt.tuples (A:=A) (e:=λ j=>gz (xs.getD j .none) (ys.getD j .none)) (DI hS e) (DI hS o) c λ j D C=>by rw[dH,dH];exact I m (b_ m) A.in1 (fE F (iN m)) (fE E (iN m)) (rs.getD (by simpa using D)) (l.getD (by simpa using C)) (t rfl)
     rw[bH,bH,rs.length,l.length,nH]at q;exact EqAt.of_refs k q
  |list F=>
   rename_i m xs;refine VR.listE (Q:=λ u=>(∀{g:Value},u=g->VR P S g w->EqAt A s u g (gz (.list xs) w))->EqAt A s u g (gz (.list xs) w)) r (λ a vs Z e rs f=>?_) f;cases lO p with
   |none=>exact tn (d.RE (EqAt.list_none (AI hS e) c)) rfl
   |int _ j=>exact tn (d.Rc λ Z=>EqAt.list_int _ _ (AI hS e) c) rfl
   |str _ y=>exact tn (d.Rh λ Z=>EqAt.list_str _ _ (AI hS e) c) rfl
   |tup _=>exact tn (d.Rn λ Z Z Z o Z=>EqAt.list_tuple (AI hS e) (DI hS o) c) rfl
   |list E=>
    rename_i ys f;refine VR.listE (Q:=λ g=>VR P S g (.list ys)->EqAt A s (.ref a) g (gz (.list xs) (.list ys))) d (λ b ws Z o l d=>?_) d;by_cases k:a=b
    ·exact f (congrArg Value.ref k) d
    ·rw[<-A_];by_cases B:xs.length=ys.length
     ·have q:=RcAt.lists (A:=A) (e:=λ j=>gz (xs.getD j .none) (ys.getD j .none)) (AI hS e) (AI hS o) (by simp[rs.length,l.length,B]) c λ j D C=>by rw[dH,dH];exact I m (b_ m) A.in1 (fE F (iN m)) (fE E (iN m)) (rs.getD (by simpa using D)) (l.getD (by simpa using C)) (t rfl)
      have z:=nH xs ys;rw[B,Nat.min_self,beq_self_eq_true,Bool.and_true]at z;rw[bH,rs.length,B,z]at q;exact EqAt.of_refs k q
     ·rw[ip λ h=>B (congrArg dv (V.tup.inj h))];exact EqAt.of_refs k (RcAt.lists_lengths (AI hS e) (AI hS o) (by simp[rs.length,l.length,B]) c)
end
end
noncomputable def Ff:V->Bool:=vB ao ao aj aj
noncomputable def jo:Nat->V->Bool
 |0,v=>Ff v
 |n+1,v=>match v with
  |.tup xs=>xs.all (jo n)
  |v=>Ff v
theorem P_{v}:jo 0 v=(Ff v):=rfl
theorem GY{n v}:jo (n+1) v=(match v with
 |.tup xs=>xs.all (jo n)
 |v=>Ff v):=rfl
inductive Kn:Nat->V->Prop
 |int (n:Nat) (i:Int):Kn n (.int i)
 |str (n:Nat) (x:Str):Kn n (.str x)
 |tup {n:Nat} {xs:List V}:(∀x∈xs,jo n x=aj)->Kn (n+1) (.tup xs)
theorem jL{n:Nat}{v:V}(h:jo n v=aj):Kn n v:=by cases n<;>cases v<;>first|exact .int _ _|exact .str _ _|exact .tup (b9.mp h)|exact qn h
theorem qd(n:Nat):∀v:V,jo n v=aj->lP n v=aj:=by
 induction n with
 |zero=>intro v h;cases jL h<;>rfl
 |succ n a=>
  intro v h;cases jL h with
  |tup b=>exact b9.mpr λ x h=>a _ (b x h)
  |_=>rfl
mutual
noncomputable def i5:V->Nat
 |.tup xs=>m4 xs+1
 |_=>1
noncomputable def m4:List V->Nat
 |[]=>0
 |x::xs=>i5 x+m4 xs
end
theorem u0(P:bQ)(xs:List V)(y:V):jT P (xs++[y])=jT P xs++[jE P y]:=by
 induction xs with
 |nil=>rfl
 |cons x xs a=>exact congrArg (jE P x::·) a
theorem u3(xs:List V)(y:V):m4 (xs++[y])=m4 xs+i5 y:=by
 induction xs with
 |nil=>exact fj ..
 |cons x xs a=>exact (congrArg (i5 x+·) a).trans (gb ..).symm
inductive Ph(P:bQ)(S:b7)(xs:List V)(s:aR):List Value->Array Int->aR->Prop
 |mk (done left:List V) {rest:List Value} {b:Array Int} (e:xs=done++left) (r:di P S rest left) (hb:b.toList=jT P done):Ph P S xs s rest b {s with toks:=s.toks+m4 done}
set_option tactic.hygienic true in
theorem p_(n:Nat):∀(A:Around) {s:aR} {u:Value} {v:V} {Q:Int->aR->Prop},(∀b o,S b o->s.heap.get? b=ah o)->jo n v=aj->VR w.params S u v->A.units+n<e9->
 Q (jE w.params v) {s with toks:=s.toks+i5 v}->aW (bn prog w) A (pyHash u) Q E s:=by
 induction n generalizing E with
 |zero=>
  intro A s u v Q hS hk r f h;cases jL hk with
  |int _ i=>exact r.Rc λ t=>wpAny_pyHash_int h
  |str _ x=>exact r.Rh λ t=>wpAny_pyHash_str h
 |succ n m=>
  intro A s u v Q hS hk r f h;cases jL hk with
  |int _ i=>exact r.Rc λ t=>wpAny_pyHash_int h
  |str _ x=>exact r.Rh λ t=>wpAny_pyHash_str h
  |tup l=>
   rename_i xs;refine r.Rn λ a vs k e rs=>?_;have g:=hS _ _ e;have d:s.TypeIs (.ref a) "tuple":=⟨_,g,rfl⟩;unfold pyHash
   first|unfold pyHashByItsType|skip
   first|refine aw (wpAny_cRoomFor_or (.inr (Oi f)) ?_)|skip
   refine aw (ig d F.slot_tuple_hash.lookup ?_);show aW _ _ (if (ah (Value.builtin "tuple.__hash__")==ah Value.none)=aj then _ else _) Q E s;rw[if_neg (by rw[beq_builtin_none];exact df)];refine aw (ig d F.slot_tuple_hash.lookup ?_);show aW _ _ (callSpecialIfBoundUnlessNone? (.ref a) "__hash__" _>>=_) Q E s;refine aw (wpAny_callSpecialIfBoundUnlessNone?_slot d F.slot_tuple_hash (dO F.slot_tuple_hash d F.entry_tuple_hash ?_ (F.args_tuple_hash_1 _)));show aW _ _ (Builtin.Tuple.tupleItemsOf (.ref a)>>=_) _ _ s;refine aw (wpAny_tupleItemsOf g rfl ?_);refine aw ?_;rw[<-AC];refine tB _ (Ph w.params S xs s) _ ?_ ?_ _ _ (.mk [] xs rfl rs rfl)
   ·rintro x rest b s' ⟨done,left,e,c,hb⟩;obtain ⟨v,ls,rfl⟩:∃v ls,left=v::ls:=by
     cases left with
     |nil=>exact c.RA (Qs:=λ us=>us=x::rest->_) (λ h=>nomatch h) rfl
     |cons v ls=>exact ⟨v,ls,rfl⟩
    have c:VR w.params S x v/\di w.params S rest ls:=c.Rd (Qs:=λ us=>us=x::rest->_) (λ u ws a r h=>by cases h;exact ⟨a,r⟩) rfl;refine aw (m A.in1 (s:={s with toks:=s.toks+m4 done}) hS (l v (by rw[e];exact ax _ (.head _))) c.1 (by show A.units+1+n<e9;exact JB f) ?_)
    have z:=Ph.mk (P:=w.params) (S:=S) (s:=s) (done++[v]) ls (b:=b.push (jE w.params v)) (e.trans (List.append_cons ..)) c.2 (by rw[u0,<-hb,Array.toList_push]);rw[u3,<-gb]at z
    first
     |exact az z
     |exact aw (az (az z))
   ·rintro b s' ⟨done,left,e,c,hb⟩;rw[(h9.mp c.length.symm),cL]at e;subst e;show aW _ _ (retInt (Builtin.Tuple.tupleHashOf b.toList)) _ _ _;rw[hb];refine wpAny_ret_mkInt ?_;have h':Q (Hf (Builtin.Tuple.tupleHashOf (jT w.params xs))) {s with toks:=s.toks+m4 xs+1}:=h
    show aW _ _ (if (decide (-(2:Int)^63<=Builtin.Tuple.tupleHashOf (jT w.params xs))&&decide (Builtin.Tuple.tupleHashOf (jT w.params xs)<2^63))=aj then _ else _) Q E _;unfold Hf at h';by_cases j:(decide (-(2:Int)^63<=Builtin.Tuple.tupleHashOf (jT w.params xs))&&decide (Builtin.Tuple.tupleHashOf (jT w.params xs)<2^63))=aj
    ·rw[if_pos j]at h' ⊢;exact az h'
    ·rw[if_neg j]at h' ⊢;exact aw (ik (az h'))
inductive Pq(P:bQ)(S:b7)(n:Nat)(s:aR){α:Type}:List Value->Option Bool×α->aR->Prop
 |mk {rest:List Value} {x:α} (left:List V) (r:di P S rest left) (h:∀v∈left,jo n v=aj):Pq P S n s rest (ai,x) s
set_option tactic.hygienic true in
theorem xI(n:Nat):∀(m:Nat) (A:Around) {s:aR} {u:Value} {v:V} {Q:Bool->aR->Prop},n<=m->(∀b o,S b o->s.heap.get? b=ah o)->jo n v=aj->VR w.params S u v->
 Q aj s->aW (bn prog w) A (eqIsQuiet m u) Q E s:=by
 induction n with
 |zero=>
  intro m A s u v Q g hS hk r h;cases jL hk with
  |int _ i=>exact r.Rc λ t=>by rw[lF m rfl];exact az h
  |str _ x=>exact r.Rh λ t=>by rw[lF m rfl];exact az h
 |succ n p=>
  intro m A s u v Q g hS hk r h;cases jL hk with
  |int _ i=>exact r.Rc λ t=>by rw[lF m rfl];exact az h
  |str _ x=>exact r.Rh λ t=>by rw[lF m rfl];exact az h
  |tup l=>
   rename_i xs;refine r.Rn λ a vs k e rs=>?_;obtain ⟨m,rfl⟩:∃m',m=m'+1:=⟨m-1,Oh g⟩;have f:=hS _ _ e;have j:s.TypeIs (.ref a) "tuple":=⟨_,f,rfl⟩;rw[eqIsQuiet];refine aw (ig j F.slot_tuple_eq.lookup ?_);show aW _ _ (mX (.ref a) (.type "tuple")>>=_) _ _ s;refine aw (ji j isSubtype_tuple_tuple ?_);dsimp only[g4,dC,if_false];refine aw (wpAny_seqItems f rfl ?_);refine aw ?_;show aW _ _ (forIn vs.toArray _ _) _ _ s;rw[<-AC];refine tB _ (Pq w.params S n s) _ ?_ ?_ _ _ (.mk xs rs l)
   ·rintro x rest r s' ⟨left,c,VS⟩;obtain ⟨v,ls,rfl⟩:∃v ls,left=v::ls:=by
     cases left with
     |nil=>exact c.RA (Qs:=λ us=>us=x::rest->_) (λ h=>nomatch h) rfl
     |cons v ls=>exact ⟨v,ls,rfl⟩
    have c:VR w.params S x v/\di w.params S rest ls:=c.Rd (Qs:=λ us=>us=x::rest->_) (λ u ws a r h=>by cases h;exact ⟨a,r⟩) rfl;refine aw (p m A (ci ‹_›) hS (VS _ (.head _)) c.1 ?_);simp only[g4,dC,if_false];exact az (.mk _ c.2 λ u d=>VS u (.tail _ d))
   ·rintro r s' ⟨_,_,_⟩;exact az h
noncomputable def TS(h:Heap):b7:=λ b o=>h.get? b=ah o/\∃T3 n,o=dU T3 n
theorem TS.get{h:Heap}:∀b o,TS h b o->h.get? b=ah o:=λ Z Z x=>x.1
theorem VR.toTS{P:bQ}{h:Heap}(hS:∀b o,S b o->h.get? b=ah o)(n:Nat):∀{u:Value} {v:V},jo n v=aj->VR P S u v->VR P (TS h) u v:=by
 induction n with
 |zero=>
  intro u v hk r;cases jL hk with
  |int _ i=>exact r.Rc λ t=>.int i t
  |str _ x=>exact r.Rh λ t=>.str x t
 |succ n d=>
  intro u v hk r;cases jL hk with
  |int _ i=>exact r.Rc λ t=>.int i t
  |str _ x=>exact r.Rh λ t=>.str x t
  |tup c=>
   refine r.Rn λ a vs m e rs=>.tup ⟨hS _ _ e,_,_,rfl⟩ ?_;clear hk;revert c
   exact rs.ind (λ Z=>.nil) λ Z Z Z Z a Z k hk=>.cons (d (hk _ (.head _)) a) (k λ x c=>hk x (.tail _ c))
open Classical in
noncomputable def Be(prog:se)(w:I0):HeapKind prog w V where
 is h k a:=jo 7 k=aj/\VR w.params (TS h) (.ref a) k
 hash k:=jE w.params k
 draws k:=i5 k
 room A:=A.units+40<e9
 inj hx hy:=VR.uniq TS.get 7 (qd _ _ hx.1) (qd _ _ hy.1) hx.2 hy.2
 keeps hx ho hd hs:=⟨hx.1,hx.2.mono λ b o e=>by refine ⟨(hs.2 b ?_).trans e.1,e.2⟩;rintro rfl;refine NV e λ e1 T3 n Si=>?_;subst Si;rw[ho]at e1;cases e1;cases hd⟩
 pyHash hu hk h:=p_ 7 _ TS.get hk.1 hk.2 (BI hu) h
 eqBool hu hx hy h:=yH TS.get 7 _ (qd _ _ hx.1) (qd _ _ hy.1) hx.2 hy.2 (BI hu) _ _ _ _ h
 quiet hk h:=xI 7 8 _ (bJ _ _) TS.get hk.1 hk.2 h
noncomputable def kk:V->Nat
 |.int _=>1
 |.str _=>2
 |.tup xs=>(jo 7 (.tup xs)).toNat*3
 |_=>0
theorem rm{v:V}(h:kk v≠0):jo 7 v=aj:=by
 cases v with
 |int i=>rfl
 |str x=>rfl
 |tup xs=>
  cases hk:jo 7 (.tup xs)with
  |true=>rfl
  |false=>exact absurd (by show (jo 7 (.tup xs)).toNat*3=0;rw[hk];rfl) h
 |_=>exact absurd rfl h
structure f5(k:V)(kvs:List (V×V)):Prop where
 ne:kk k≠0
 same:∀p∈kvs,kk p.1=kk k
 nd:(kvs.map (·.1)).Nodup
inductive XU(P:bQ)(S:b7)(p:V×V)(en:bL):Prop
 |mk (h:en.hash=jE P p.1) (k:VR P S en.key p.1) (v:VR P S en.val p.2)
theorem f_.get{P:bQ}(E:f_ P S es kvs){i:Nat}{p:V×V}(e:kvs[i]? =ah p):∃c,es[i]? =ah c/\XU P S p c:=
 f_.ind (M:=λ es kvs=>∀(i:Nat) (p:V×V),kvs[i]? =ah p->∃c,es[i]? =ah c/\XU P S p c) E (λ Z Z e=>nomatch e) (λ Z Z Z Z Z Z a b Z k i p e=>by
  cases i with
  |zero=>cases Option.some.inj e;exact ⟨_,rfl,rfl,a,b⟩
  |succ i=>exact k i p e) i p e
theorem f_.mem{P:bQ}(E:f_ P S es kvs){c:bL}(d:c∈es):∃p∈kvs,XU P S p c:=by
 refine ze (cI.mp d) λ i hi=>?_;have a:i<kvs.length:=by simp only[<-E.length];exact (bh.mp hi).1
 refine b4 (E.get (ay a)) λ f b e=>?_;rw[hi]at b;cases b;exact ⟨_,cG a,e⟩
theorem f_.findIdx{P:bQ}{f:bL->Bool}{g:V×V->Bool}(E:f_ P S es kvs):(∀c∈es,∀p∈kvs,VR P S c.key p.1->f c=g p)->es.findIdx? f=kvs.findIdx? g:=
 E.ind (λ Z=>rfl) λ Z Z Z Z Z Z a b Z k h=>by simp only[jS,jS,h _ (.head _) _ (.head _) a,k λ c d p e=>h c (.tail _ d) p (.tail _ e)]
section
variable{d:aG}{k:V}
theorem yb{P:bQ}{i:Int}(h:VR P S u (.int i)):∃t,u=.int i t:=h.Rc (Q:=λ u=>∃t,u=.int i t) λ t=>⟨t,rfl⟩
theorem ya{P:bQ}(h:VR P S u (.str x)):∃t,u=.str x t:=h.Rh (Q:=λ u=>∃t,u=.str x t) λ t=>⟨t,rfl⟩
theorem FW{P:bQ}(h:VR P S u (.tup xs)):∃a,u=.ref a:=h.Rn (Q:=λ u=>∃a,u=.ref a) λ a Z Z Z Z=>⟨a,rfl⟩
theorem nh{v:V}(h:kk v=1):∃i,v=.int i:=by
 cases v with
 |int i=>exact ⟨i,rfl⟩
 |tup xs=>exact absurd h (by show (jo 7 (.tup xs)).toNat*3≠_;exact Og)
 |_=>cases h
theorem xA{v:V}(h:kk v=2):∃i,v=.str i:=by
 cases v with
 |str i=>exact ⟨i,rfl⟩
 |tup xs=>exact absurd h (by show (jo 7 (.tup xs)).toNat*3≠_;exact Of)
 |_=>cases h
theorem Cm{v:V}(h:kk v≠0)(a:kk v≠1)(b:kk v≠2):∃xs,v=.tup xs:=by
 cases v with
 |tup xs=>exact ⟨xs,rfl⟩
 |int _=>exact absurd rfl a
 |str _=>exact absurd rfl b
 |_=>exact absurd rfl h
open Classical in
theorem Cy(hS:∀b o,S b o->s.heap.get? b=ah o){es:List bL}{kvs:List (V×V)}(E:f_ w.params S es kvs):(∀p∈kvs,jo 7 p.1=aj/\∃xs,p.1=.tup xs)->
 ∃xs:List (V×aG×Value),es=xs.map (entryOfKey (Be prog w))/\xs.map (·.1)=kvs.map (·.1)/\∀x∈xs,(Be prog w).is s.heap x.1 x.2.1:=
 E.ind (λ Z=>⟨[],rfl,rfl,λ Z h=>nomatch h⟩) λ ku u es k v kvs a b Z j h=>by refine ew (j λ p f=>h p (.tail _ f)) λ xs m g i=>?_;refine AF (h _ (.head _)) λ hk ys e=>?_;have e:k=.tup ys:=e;have l:=VR.toTS hS 7 hk a;rw[e]at a;refine ze (FW a) λ c d=>?_;subst d;exact ⟨(k,c,u)::xs,congrArg _ m,congrArg _ g,i8.mpr ⟨⟨hk,l⟩,i⟩⟩
open Classical in
theorem kY(hS:∀b o,S b o->s.heap.get? b=ah o)(X:A.units+40<e9)(hd:s.heap.get? d=ah (dictOf es ep))(x:f_ w.params S es kvs)(hk:f5 k kvs)(m:VR w.params S ku k)
 {Q:Option Nat->aR->Prop} (h:Q (kvs.findIdx? λ p=>gz p.1 k) s):aW (bn prog w) A (dictFind d ku (jE w.params k)) Q E s:=by
 by_cases k1:kk k=1
 ·refine ze (nh k1) λ i L=>?_;subst L;refine ze (yb m) λ t G=>?_;subst G;refine IS (knd:=j_ prog w) (k:=i) (o:=dictOf es ep) (es:=es.toArray) (ep:=ep) (by simp[j_,Value.isInt]) hd rfl (λ e N=>?_) ?_
  ·obtain ⟨p,l,a,b,c⟩:=x.mem (eT.mp N);refine ze (nh ((hk.same p l).trans k1)) λ j f=>?_;rw[f]at a b;refine ze (yb b) λ B r=>?_;exact ⟨j,by rw[r];simp[j_,Value.isInt],a⟩
  ·rw[x4,x.findIdx (g:=λ p=>gz p.1 (.int i)) λ Y F p l b=>?_]
   ·exact h
   ·refine ze (nh ((hk.same p l).trans k1)) λ j f=>?_;rw[f]at b ⊢;refine ze (yb b) λ B r=>?_;rw[r,kX];simp only[j_,Value.isInt]
 ·by_cases k2:kk k=2
  ·refine ze (xA k2) λ i K=>?_;subst K;refine ze (ya m) λ t D=>?_;subst D;refine IS (knd:=PySem.strKind prog w) (k:=i) (o:=dictOf es ep) (es:=es.toArray) (ep:=ep) (by simp[PySem.strKind,Value.isStrOf]) hd rfl (λ e N=>?_) ?_
   ·obtain ⟨p,l,a,b,c⟩:=x.mem (eT.mp N);refine ze (xA ((hk.same p l).trans k2)) λ j f=>?_;rw[f]at a b;refine ze (ya b) λ B r=>?_;exact ⟨j,by rw[r];simp[PySem.strKind,Value.isStrOf],a⟩
   ·rw[x4,x.findIdx (g:=λ p=>gz p.1 (.str i)) λ Y F p l b=>?_]
    ·exact h
    ·refine ze (xA ((hk.same p l).trans k2)) λ j f=>?_;rw[f]at b ⊢;refine ze (ya b) λ B r=>?_;rw[r,hP];simp only[PySem.strKind,Value.isStrOf]
  ·refine ze (Cm hk.ne k1 k2) λ ks C=>?_;subst C;have v:=rm hk.ne;refine ew (Cy (prog:=prog) hS x λ p l=>⟨rm (by rw[hk.same p l];exact hk.ne),Cm (by rw[hk.same p l];exact hk.ne) (by rw[hk.same p l];exact k1) (by rw[hk.same p l];exact k2)⟩) λ xs U z Z=>?_;have M:=VR.toTS hS 7 v m;refine ze (FW m) λ a P=>?_;subst P
   ·have H:∀(j:Nat) (p:aG×Value),xs[j]? =ah (.tup ks,p)->∃q,kvs[j]? =ah (.tup ks,q):=λ j p f=>by have:=congrArg (·[j]?) z;simp only[aN,f,ql]at this;refine b4 (bZ.mp this.symm) λ q n e=>?_;exact ⟨q.2,by rw[n,<-e]⟩
    have u:∀(j:Nat) (q:V),kvs[j]? =ah (.tup ks,q)->∃p,xs[j]? =ah (.tup ks,p):=λ j q f=>by have:=congrArg (·[j]?) z;simp only[aN,f,ql]at this;refine b4 (bZ.mp this) λ q n e=>?_;exact ⟨q.2,by rw[n,<-e]⟩
    refine wpAny_dictFind_heap (knd:=Be prog w) (k:=.tup ks) (xs:=xs) (o:=dictOf es ep) (es:=es.toArray) (ep:=ep) X ⟨v,M⟩ hd rfl (by simpa using U) Z (z▸hk.nd) (λ y=>?_) λ j p f=>?_
    ·have:kvs.findIdx? (λ p=>gz p.1 (.tup ks))=ai:=by
      rw[dq];intro p l;cases O:gz p.1 (.tup ks)with
      |false=>rfl
      |true=>refine ze (cI.mp l) λ j f=>?_;refine ze (u j p.2 (by rw[f,<-(f2.mp O)])) λ q n=>?_;exact absurd n (y j q)
     rw[this]at h;exact h
    ·refine ze (H j p f) λ q n=>?_;have:kvs.findIdx? (λ p=>gz p.1 (.tup ks))=ah j:=by
      rw[e7];have J:=(bh.mp n);refine ⟨J.1,by rw[J.2];exact eK _,λ T I=>?_⟩;intro O;have R:(kvs.map (·.1))[T]? =ah (.tup ks):=by rw[aN,ay (bC I J.1)];simp[(f2.mp O)]
      have W:(kvs.map (·.1))[j]? =ah (.tup ks):=by rw[aN,n];rfl
      have:=(fg (bh.mp R).1 hk.nd).mp (R.trans W.symm);exact absurd ‹_› (ch ‹_›)
     rw[this]at h;exact h
noncomputable def ez(kvs:List (V×V))(k:V):Option V:=(kvs.find? λ p=>gz p.1 k).map (·.2)
noncomputable def io(k v:V):List (V×V)->List (V×V)
 |[]=>[(k,v)]
 |p::r=>if gz p.1 k=aj then (p.1,v)::r else p::io k v r
theorem sH{k v:V}:io k v []=([(k,v)]):=rfl
theorem nG{k v:V}{p r}:io k v (p::r)=(if gz p.1 k=aj then (p.1,v)::r else p::io k v r):=rfl
theorem l_{k v:V}:kvs.findIdx? (λ p=>gz p.1 k)=ai->io k v kvs=kvs++[(k,v)]:=by
 induction kvs with
 |nil=>exact λ Z=>rfl
 |cons p r b=>intro h;have h:=dq.mp h;dsimp only[sH,nG];refine (if_neg (by rw[h p (.head _)];exact df)).trans ?_;rw[b (dq.mpr λ q a=>h q (.tail _ a))];rfl
theorem y9{k v:V}:∀{i:Nat},kvs.findIdx? (λ p=>gz p.1 k)=ah i->io k v kvs=kvs.modify i (λ p=>(p.1,v)):=by
 induction kvs with
 |nil=>exact λ h=>nomatch h
 |cons p r d=>
  intro i h;rw[jS]at h;dsimp only[sH,nG];by_cases b:gz p.1 k=aj
  ·rw[if_pos b]at h ⊢;cases h;rfl
  ·rw[if_neg b]at h ⊢;refine b4 (bZ.mp h) λ j c a=>?_;subst a;rw[d c];rfl
theorem qA{k:V}:ez kvs k=((kvs.findIdx? λ p=>gz p.1 k).bind (kvs[·]?)).map (·.2):=by
 unfold ez;induction kvs with
 |nil=>rfl
 |cons p r a=>
  dsimp only[cU];rw[jS];cases gz p.1 k with
  |true=>rfl
  |false=>refine a.trans ?_;cases List.findIdx? (λ p=>gz p.1 k) r<;>rfl
theorem f_.modify{P:bQ}{v:V}(c:VR P S u v){es:List bL}{kvs:List (V×V)}(E:f_ P S es kvs):∀i,f_ P S (es.modify i λ e=>{e with val:=u}) (kvs.modify i λ p=>(p.1,v)):=
 E.ind (λ i=>by cases i<;>exact .nil) λ Z Z Z Z Z Z a b r k i=>by
  cases i with
  |zero=>exact .cons rfl a c r
  |succ i=>exact .cons rfl a b (k i)
theorem sJ(hS:∀b o,S b o->s.heap.get? b=ah o)(h:A.units+40<e9)(hd:s.heap.get? d=ah (dictOf es ep))(f:f_ w.params S es kvs)(hk:f5 k kvs)(a:VR w.params S ku k)
 {Q:Option Value->aR->Prop} (j:∀v u,ez kvs k=ah v->VR w.params S u v->Q (ah u) {s with toks:=s.toks+i5 k}) (e:ez kvs k=ai->Q ai {s with toks:=s.toks+i5 k}):
 aW (bn prog w) A (kh d ku) Q E s:=by
 unfold kh
 try with_reducible refine bD ?_
 refine aw (p_ 7 A hS (rm hk.ne) a (BI h) (aw (kY (s:={s with toks:=s.toks+i5 k}) hS h hd f hk a ?_)))
 rw[qA]at e;have c:=j;rw[qA]at c;cases hi:kvs.findIdx? (λ p=>gz p.1 k)with
 |none=>rw[hi]at e;exact az (e rfl)
 |some i=>
  have g:=(e7.mp hi).1;obtain ⟨n,m, -, -,l⟩:=f.get (ay g);refine aw (gy (s:={s with toks:=s.toks+i5 k}) hd rfl ?_)
  simp only[b5,m];exact az (c _ _ (by rw[hi];simp[ay g]) l)
theorem pw(es:List bL)(ep:Nat)(e:bL):(Obj.mapDictKeys (·.push e)) (dictOf es ep)=dictOf (es++[e]) (ep+1):=by dsimp only[Obj.mapDictKeys,W.dictOf];simp
theorem sw(es:List bL)(ep i:Nat)(u:Value):(Obj.mapDict (·.modify i λ e=>{e with val:=u})) (dictOf es ep)=dictOf (es.modify i λ e=>{e with val:=u}) ep:=by dsimp only[Obj.mapDict,W.dictOf];simp
theorem oE(hS:∀b o,S b o->s.heap.get? b=ah o)(g:A.units+40<e9)(hd:s.heap.get? d=ah (dictOf es ep))(c:f_ w.params S es kvs)(hk:f5 k kvs)(a:VR w.params S ku k)
 {u:Value} {v:V} (j:VR w.params S u v) (hz:kvs.length<=eU)
 {Q:Unit->aR->Prop} (h:∀h' RB f tk,Heap.SameBut d s.heap h'->h'.get? d=ah (dictOf RB f)->f_ w.params S RB (io k v kvs)->Q () {s with heap:=h',toks:=tk}):
 aW (bn prog w) A (AU d ku u) Q E s:=by
 unfold AU
 try with_reducible refine bD ?_
 refine aw (p_ 7 A hS (rm hk.ne) a (BI g) ?_);dsimp only[dictSetHashed]
 try with_reducible refine bD ?_
 refine aw (kY (s:={s with toks:=s.toks+i5 k}) hS g hd c hk a ?_)
 cases hi:kvs.findIdx? (λ p=>gz p.1 k)with
 |none=>
  refine aw (ik (DX (hz:=by simp only[bH,c.length];exact hz) (s:={s with toks:=s.toks+i5 k}) hd rfl (h _ (es++[⟨jE w.params k,ku,u⟩]) (ep+1) _ (Heap.SameBut.update ..) ?_ ?_)))
  ·simp only[<-pw];exact c9 _ hd (by rfl)
  ·simp only[l_ hi];exact c.append (.cons rfl a j .nil)
 |some i=>
  refine aw (ik (aw (wpAny_updateDict (s:={s with toks:=s.toks+i5 k}) hd rfl (wpAny_point (h _ (es.modify i λ e=>{e with val:=u}) ep _ (Heap.SameBut.update ..) ?_ ?_)))))
  ·simp only[<-sw];exact c9 _ hd (by rfl)
  ·simp only[y9 hi];exact c.modify j i
theorem oC(hS:∀b o,S b o->s.heap.get? b=ah o)(m:A.units+40<e9)(hd:s.heap.get? d=ah (dictOf es ep))(f:f_ w.params S es kvs)(hk:f5 k kvs)(a:VR w.params S ku k)
 {u:Value} {v:V} (r:VR w.params S u v) (hz:kvs.length<=eU)
 {Q:Value->aR->Prop} (t:∀j n,ez kvs k=ah j->VR w.params S n j->Q n {s with toks:=s.toks+i5 k})
 (h:ez kvs k=ai->∀h' RB g tk,Heap.SameBut d s.heap h'->h'.get? d=ah (dictOf RB g)->f_ w.params S RB (kvs++[(k,v)])->Q u {s with heap:=h',toks:=tk}):
 aW (bn prog w) A (oz d ku u) Q E s:=by
 unfold oz
 try with_reducible refine bD ?_
 refine aw (p_ 7 A hS (rm hk.ne) a (BI m) ?_);refine aw (kY (s:={s with toks:=s.toks+i5 k}) hS m hd f hk a ?_)
 have e:=h;have c:=t;rw[qA]at e c;cases hi:kvs.findIdx? (λ p=>gz p.1 k)with
 |none=>
  refine aw (ik (aw (DX (hz:=by simp only[bH,f.length];exact hz) (s:={s with toks:=s.toks+i5 k}) hd rfl (az (e (by rw[hi];rfl) _ (es++[⟨jE w.params k,ku,u⟩]) (ep+1) _ (Heap.SameBut.update ..) ?_ ?_)))))
  ·rw[<-pw];exact c9 _ hd (by rfl)
  ·exact f.append (.cons rfl a r .nil)
 |some i=>
  have l:=(e7.mp hi).1;obtain ⟨y,q, -, -,x⟩:=f.get (ay l);refine aw (gy (s:={s with toks:=s.toks+i5 k}) hd rfl ?_)
  simp only[b5,q];exact aw (ik (az (c _ _ (by rw[hi];simp[ay l]) x)))
end
theorem cQ.sub(R:cQ O Y Kp Jj s):∀b o,Kp b o->s.heap.get? b=ah o:=λ b o e=>(R.kp b o e).1
theorem cQ.RM(R:cQ O Y Kp Jj s){a:aG}(h:s.heap.get? a=ai):a∉O.fp++addrs Y.mu/\O.h₀.get? a=ai:=by
 refine ⟨λ d=>?_,?_⟩
 ·refine ze (R.live a d) λ o b=>?_;rw[h]at b;cases b
 ·cases c:O.h₀.get? a with
  |none=>rfl
  |some o=>refine ze (R.alive a o c) λ e b=>?_;rw[h]at b;cases b
theorem cQ.Ue(R:cQ O Y Kp Jj s){h':Heap}{tk:Nat}{a:aG}{o:Obj}(k:∀b o,s.heap.get? b=ah o->h'.get? b=ah o)(c:s.heap.get? a=ai)(f:h'.get? a=ah o):
 cQ O Y (Kp.add a o) Jj {s with heap:=h',toks:=tk}:=
 (R.keeps (tk:=tk) k).V5 f (R.RM c).1 (R.RM c).2 λ p d e=>by have:=(R.ghost.2 p d).1;rw[e,c]at this;exact nomatch this
theorem cQ.US(R:cQ O Y Kp Jj s)(ok:O.Ok){h':Heap}{tk:Nat}{p:aG×MO}(k:∀b o,s.heap.get? b=ah o->h'.get? b=ah o)(d:∀b∈ce p,s.heap.get? b=ai)(f:MR O.P Kp h' p)(nd:(ce p).Nodup):
 cQ O ⟨Y.vals,p::Y.mu⟩ Kp Jj {s with heap:=h',toks:=tk}:=by
 have a:addrs [p]=ce p:=by simp[addrs]
 refine R.turned (J1:=[]) (J2:=Y.mu) (J':=[p]) (s':={s with heap:=h',toks:=tk}) (S':=Kp) ok rfl ⟨rfl,rfl,rfl⟩ (λ b o e Z=>k b o e) (λ b o e=>⟨o,k b o e⟩) (.refl _) (λ b o e=>⟨k _ _ (R.kp b o e).1,λ c=>?_,.inl e⟩) (λ q g=>(bz (aE.mp g))▸f) (by rw[a];exact nd) (λ b c=>.inr (d b (a▸c)))
 have:=d b (a▸c);rw[(R.kp b o e).1]at this;exact nomatch this
theorem cQ.TB(R:cQ O Y Kp Jj s)(ok:O.Ok){tk:Nat}{p:aG×MO}{o:Obj}(a:ce p=[s.heap.objs.size])(d:MR O.P Kp (s.heap.push o) p):
 cQ O ⟨Y.vals,p::Y.mu⟩ Kp Jj {s with heap:=s.heap.push o,toks:=tk}:=
 R.US ok (λ b f e=>aL _ e) (λ b c=>by rw[a]at c;rw[aE.mp c];exact ee (aT _)) d (by simp only[a];simp)
theorem cQ.Sq(R:cQ O Y Kp Jj s)(ok:O.Ok):(s.heap.objs.size==dz)=ao:=by refine mI ok.top.g λ o Z Z a Z=>?_;have:=cm (R.old _ o (ok.Sr _ _ a).1 (ok.Sr _ _ a).2);simp only[beq_eq_false_iff_ne];intro e;rw[e]at this;exact absurd this (by decide)
theorem dh(h:Heap):h.get? h.objs.size=ai:=ee (aT _)
theorem pW{elts:List Expr}{k:Nat}{pos:gU}{Q:V->St->Prop}(h:XL O Ex (c4 (cM pos (bk elts O.env))) (λ vs a=>vs.length<=eU/\Q (.tup vs) a) Y):
 XV O Ex (bv (.Tuple elts k pos) O.env) Q Y:=λ Kp Jj s R=>wpAny_Tuple (h.Q6 R λ us c vs a Kk l₁ d f g=>⟨by rw[f.length];exact g.1,by
 exact ⟨_,a,_,l₁.trans (b7.Rp _ _ _),(d.Ue (tk:=c.toks) (h':=c.heap.push (dU us.toArray 0)) (λ b o e=>aL _ e) (dh _) (bO _ rfl)),.tup (b7.Rq _ _ _) (f.mono (b7.Rp _ _ _)),g.2⟩⟩)
theorem f1{elts:List Expr}{pos:gU}{Q:V->St->Prop}(h:XL O Ex (c4 (cM pos (bk elts O.env))) (λ vs a=>vs.length<=eU/\Q (.list vs) a) Y):
 XV O Ex (bv (.List elts pos) O.env) Q Y:=λ Kp Jj s R=>wpAny_List (h.Q6 R λ us c vs a Kk l₁ d f g=>⟨by rw[f.length];exact g.1,by
 exact ⟨_,a,_,l₁.trans (b7.Rp _ _ _),(d.Ue (tk:=c.toks) (h':=c.heap.push (W.listOf us.toArray 0)) (λ b o e=>aL _ e) (dh _) (bO _ rfl)),.list (b7.Rq _ _ _) (f.mono (b7.Rp _ _ _)),g.2⟩⟩)
theorem ey{elts:List Expr}{pos:gU}{Q:V->St->Prop}(ok:O.Ok)(h:XL O Ex (c4 (cM pos (bk elts O.env))) (λ vs b=>vs.length<=eU/\∀a,Q (.ref a) ⟨b.vals,(a,.list vs)::b.mu⟩) Y):
 XV O Ex (bv (.List elts pos) O.env) Q Y:=λ Kp Jj s R=>wpAny_List (h.Q6 R λ us c vs b Kk l₁ d e f=>⟨by rw[e.length];exact f.1,
 ⟨.ref c.heap.objs.size,_,Kk,l₁,d.TB (p:=(c.heap.objs.size,.list vs)) (o:=W.listOf us.toArray 0) (tk:=c.toks) ok rfl (.list (n:=0) (bO _ rfl) e),.ref _,f.2 _⟩⟩)
theorem hH(ok:O.Ok)(h:∀a,Q (.ref a) ⟨Y.vals,(a,.dict [])::Y.mu⟩):XV O Ex (bv (.Dict [] [] pos) O.env) Q Y:=λ Kp Jj s R=>wpAny_Dict_empty ⟨.ref s.heap.objs.size,_,Kp,.refl _,R.TB (p:=(s.heap.objs.size,.dict [])) (o:=W.dictOf [] 0) (tk:=s.toks) ok rfl (.dict (n:=0) (es:=[]) (R.Sq ok) (bO _ rfl) .nil),.ref _,h _⟩
theorem qw(ok:O.Ok)(h:Q (.dict []) Y):XV O Ex (bv (.Dict [] [] pos) O.env) Q Y:=λ Kp Jj s R=>wpAny_Dict_empty ⟨.dict [],Y,_,b7.Rp _ _ _,R.Ue (tk:=s.toks) (h':=s.heap.push (W.dictOf [] 0)) (λ b o e=>aL _ e) (dh _) (bO _ rfl),.dict (R.Sq ok) (b7.Rq _ _ _) .nil,h⟩
inductive LV(Y:St):V->List V->Prop
 |frozen {xs:List V}:LV Y (.list xs) xs
 |led {a:aG} {xs:List V} (i:Nat):Y.mu[i]? =ah (a,.list xs)->LV Y (.ref a) xs
inductive DV(Y:St):V->List (V×V)->Prop
 |frozen {xs:List (V×V)}:DV Y (.dict xs) xs
 |led {a:aG} {xs:List (V×V)} (i:Nat):Y.mu[i]? =ah (a,.dict xs)->DV Y (.ref a) xs
inductive NS(P:bQ)(S:b7)(h:Heap)(xs:List V):Value->Prop
 |mk (a:aG) (vs:List Value) (n:Nat) (e:h.get? a=ah (W.listOf vs.toArray n)) (rs:di P S vs xs):NS P S h xs (.ref a)
inductive PT(P:bQ)(S:b7)(h:Heap)(xs:List (V×V)):Value->Prop
 |mk (a:aG) (es:List bL) (n:Nat) (e:h.get? a=ah (W.dictOf es n)) (rs:f_ P S es xs) (q:(a==dz)=ao):PT P S h xs (.ref a)
theorem LV.at{v:V}(L:LV Y v xs)(R:cQ O Y Kp Jj s){u:Value}:VR O.P Kp u v->NS O.P Kp s.heap xs u:=
 LV.rec (motive:=λ v xs Z=>VR O.P Kp u v->NS O.P Kp s.heap xs u) (λ a=>a.listE λ Z Z Z e rs=>⟨_,_,_,R.sub _ _ e,rs⟩) (λ Z h a=>a.Rw ((R.mu _ (aX h)).listE λ Z Z e rs=>⟨_,_,_,e,rs⟩)) L
theorem DV.at{v:V}{xs:List (V×V)}(L:DV Y v xs)(R:cQ O Y Kp Jj s){u:Value}:VR O.P Kp u v->PT O.P Kp s.heap xs u:=
 DV.rec (motive:=λ v xs Z=>VR O.P Kp u v->PT O.P Kp s.heap xs u) (λ a=>a.RL λ Z Z Z q e rs=>⟨_,_,_,R.sub _ _ e,rs,q⟩) (λ Z h a=>a.Rw ((R.mu _ (aX h)).RL λ Z Z q e rs=>⟨_,_,_,e,rs,q⟩)) L
theorem nL{p:α}:∀{i:Nat},l[i]? =ah p->l=l.take i++p::l.drop (i+1)/\∀q,l.set i q=l.take i++q::l.drop (i+1):=by
 induction l with
 |nil=>exact λ h=>nomatch h
 |cons x l a=>
  intro i h;cases i with
  |zero=>cases Option.some.inj h;exact ⟨rfl,λ Z=>rfl⟩
  |succ i=>exact ⟨congrArg (x::·) (a h).1,λ q=>congrArg (x::·) ((a h).2 q)⟩
theorem cQ.Sx(R:cQ O Y Kp Jj s)(ok:O.Ok){i:Nat}{p q:aG×MO}(c:Y.mu[i]? =ah p)(b:ce q=ce p){h':Heap}{tk:Nat}{a:aG}(f:a∈ce p)(h:Heap.SameBut a s.heap h')
 (g:∃o,h'.get? a=ah o) (e:MR O.P Kp h' q):cQ O ⟨Y.vals,Y.mu.set i q⟩ Kp Jj {s with heap:=h',toks:=tk}:=by
 have d:=nL c;rw[d.2];exact R.Ub ok d.1 b f h g e
inductive yU(Y:St):V->String->Prop
 |list {v:V} {xs:List V}:LV Y v xs->yU Y v "list"
 |dict {v:V} {xs:List (V×V)}:DV Y v xs->yU Y v "dict"
 |tup {xs:List V}:yU Y (.tup xs) "tuple"
 |str {x:Str}:yU Y (.str x) "str"
inductive IJ(s:aR)(T:String)(u:Value):Prop
 |mk (t:s.TypeIs u T) (h:∀a,u=.ref a->∃ob,s.heap.get? a=ah ob/\ob.dict=ai)
theorem HF{T:String}{a:aG}(e:s.heap.get? a=ah o)(h:o.cls=.type T)(d:o.dict=ai):IJ s T (.ref a):=⟨⟨_,e,h⟩,λ b c=>by cases c;exact ⟨_,e,d⟩⟩
theorem yU.at{v:V}{T:String}(h:yU Y v T)(R:cQ O Y Kp Jj s){u:Value}:VR O.P Kp u v->IJ s T u:=
 yU.rec (motive:=λ v T Z=>VR O.P Kp u v->IJ s T u) (λ L a=>by obtain ⟨_,_,_,e,_⟩:=L.at R a;exact HF e rfl rfl) (λ L a=>by obtain ⟨_,_,_,e,_,_⟩:=L.at R a;exact HF e rfl rfl) (λ a=>a.Rn λ Z Z Z e Z=>HF (R.sub _ _ e) rfl rfl) (λ a=>a.Rh λ Z=>⟨rfl,λ Z h=>nomatch h⟩) h
theorem Ej{o:Expr}{name:Str}{a pos:gU}{args:List Expr}{T id:String}{Q:V->St->Prop}(ok:O.Ok)(c:Dy pos args O.env)
 (t:PlainAttrs T) (g:Slot T name id) (j:Hd (.builtin id)=pure (.type "method_descriptor"))
 (h:XV O Ex (bv o O.env) (λ ov b=>yU b ov T/\XL O Ex (c4 (cM pos (bk args O.env))) (λ vs f=>cS O Ex (.builtin id) (ov::vs) Q f) b) Y)
 (r:I7 o name args a pos O.env)
 (q:Hb pos args O.env) (p:(a.endLine==pos.line)=aj):
 XV O Ex (bv (.Call (.Attribute o name a) args [] pos) O.env) Q Y:=λ Kp Jj s R=>by
 rw[r];refine aw (h.Q6 R λ u i ov b Kk l₁ d l h₁=>aw (ej ?_));refine za h₁ λ n m=>?_;have k:=n.at d l;dsimp only[gN];refine aw (bD ?_);unfold D7;rw[q];refine getMethod_builtin k.1 t g j k.2 ?_;show aW _ _ (dW aj o O.env a pos>>=_) _ _ _;rw[(show dW aj o O.env a pos=pure pos by unfold dW;rw[p];rfl)];refine aw (az ?_);exact aY (jk (first:=[ov]) ok (iF _ id) c m Kk Jj i [u] d (.cons l .nil)) (λ Z Z x=>up l₁ x) λ Z Z e=>e
theorem wg{a:aG}{v:V}{xs:List V}{Q:V->St->Prop}(i:Nat)(ok:O.Ok)(hi:Y.mu[i]? =ah (a,.list xs))(hz:xs.length<=eU)(h:Q .none ⟨Y.vals,Y.mu.set i (a,.list (xs++[v]))⟩):
 cS O Ex (.builtin "list.append") [.ref a,v] Q Y:=.two λ Kp Jj s u g R f c=>f.Rw ((R.mu _ (aX hi)).listE λ vs n e rs=>append_at (hsz:=by simp only[bH,rs.length];exact hz) e λ h' d b=>⟨_,_,Kp,.refl _,R.Sx (tk:=s.toks) (q:=(a,.list (xs++[v]))) ok hi rfl (a:=a) (.head _) d ⟨_,b⟩ (.list (vs:=vs++[g]) (n:=n+1) (by simpa[W.listOf]using b) (rs.snoc c)),.none,h⟩)
theorem Nn{a:aG}{v:V}{xs:List V}{Q:V->St->Prop}(i:Nat)(ok:O.Ok)(hi:Y.mu[i]? =ah (a,.list (xs++[v])))(hz:xs.length<eU)(h:Q v ⟨Y.vals,Y.mu.set i (a,.list xs)⟩):
 cS O Ex (.builtin "list.pop") [.ref a] Q Y:=.one λ Kp Jj s u R l=>l.Rw ((R.mu _ (aX hi)).listE λ vs n e rs=>by
 have b:vs.length=xs.length+1:=rs.length.trans aF;refine b4 (rs.get (i:=xs.length) (v:=v) (by (refine (bG (aT _)).trans ?_;rw[eO]);rfl)) λ u f j=>?_;have d:di O.P Kp (vs.take xs.length) xs:=by have:=rs.take xs.length;rwa [List.take_left]at this
 have hk:vs.toArray.size-1=xs.length:=by simp only[bH,b,j6]
 refine kQ PySem.F.slot_list_pop ⟨_,e,rfl⟩ PySem.F.entry_list_pop (PySem.F.args_list_pop_1 _) (PySem.MeetsSeq.list_pop_last a _ n u ?_ (by simp only[bH,b];exact hz)) ⟨e,?_⟩
 ·simp only[hk,b5];exact f
 ·have x:=PySem.IsL.update (h:=s.heap) e (λ x=>x.eraseIdxIfInBounds (vs.toArray.size-1));have k:vs.toArray.eraseIdxIfInBounds (vs.toArray.size-1)=(vs.take xs.length).toArray:=by rw[hk];have c:=(nL f).1;rw[lI (cq b)]at c;have g:=d.length;generalize vs.take xs.length=q at c g;subst c;simp only[<-g,kl_erase,cL]
  rw[k]at x;exact ⟨v,_,Kp,.refl _,R.Sx (tk:=s.toks) (q:=(a,.list xs)) ok hi rfl (a:=a) (.head _) (Heap.SameBut.update ..) ⟨_,x⟩ (.list x d),j,h⟩)
theorem wY{n:Nat}(h:n<2^20):Builtin.List.listTooLong n=ao:=by unfold Builtin.List.listTooLong;simp[dA];exact bc (aH ‹_› (by decide))
theorem De{a:aG}{v:V}(i:Nat)(ok:O.Ok)(hi:Y.mu[i]? =ah (a,.list xs))(g:LV Y v ys)(hz:xs.length+ys.length<2^20)(h:Q .none ⟨Y.vals,Y.mu.set i (a,.list (xs++ys))⟩):cS O Ex (.builtin "list.extend") [.ref a,v] Q Y:=.two λ Kp Jj s u l R j f=>j.Rw ((R.mu _ (aX hi)).listE λ vs n e rs=>by
 obtain ⟨b,ws,m,k,c⟩:=g.at R f;have l1:vs.toArray.size=xs.length:=rs.length;have l2:ws.toArray.size=ys.length:=c.length;have x:=PySem.IsL.update (h:=s.heap) e (λ x=>x++ws.toArray);have d:xs.length+ys.length<=eU:=aA (bc hz) (by decide);refine kQ PySem.F.slot_list_extend ⟨_,e,rfl⟩ PySem.F.entry_list_extend (PySem.F.args_list_extend_2 _ _) (AutoSeq1.list_extend_list_list_0 a vs.toArray n b ws.toArray m ?_ ?_ ?_) ⟨e,k,?_⟩
 ·simp only[l1,l2,wY hz,mV];exact df
 ·rw[l1];exact aA (b0 _ _) d
 ·rw[l1,l2];exact cY d
 ·exact ⟨.none,_,Kp,.refl _,R.Sx (tk:=s.toks) (q:=(a,.list (xs++ys))) ok hi rfl (a:=a) (.head _) (Heap.SameBut.update ..) ⟨_,x⟩ (.list (vs:=vs++ws) (n:=if (vs.toArray++ws.toArray).size==vs.toArray.size then n else n+1) (by (refine x.trans ?_;rw[AA])) (rs.append c)),.none,h⟩)
section
theorem FC.Ok.u8(ok:O.Ok):O.A.units+1+8<e9:=by have:=ok.units;exact KF this
theorem fin{R:b7->α->β->Prop}{Q:β->St->Prop}(u:α)(b:β)(r:cQ O Y Kp Jj s)(h:R Kp u b)(q:Q b Y):Pt O Jj Kp R Q u s:=
 ⟨b,Y,Kp,.refl _,r,h,q⟩
theorem iB.ints{t:Value->Value->Sem Value}{a b:Int}(h:∀Kp Jj s d c,cQ O Y Kp Jj s->aW (bn O.G.prog O.G.w) O.A (t (.int a d) (.int b c)) (Pt O Jj Kp (VR O.P) Q) Ex s):iB O Ex t (VR O.P) (.int a) (.int b) Q Y:=
 λ Kp Jj s i g R e f=>e.Rc λ d=>f.Rc λ c=>h Kp Jj s d c R
theorem iB.strs{t:Value->Value->Sem Value}{a b:Str}(h:∀Kp Jj s d c,cQ O Y Kp Jj s->aW (bn O.G.prog O.G.w) O.A (t (.str a d) (.str b c)) (Pt O Jj Kp (VR O.P) Q) Ex s):iB O Ex t (VR O.P) (.str a) (.str b) Q Y:=
 λ Kp Jj s i g R e f=>e.Rh λ d=>f.Rh λ c=>h Kp Jj s d c R
section W0
variable{a b:Int}
theorem MP(h:Q (.int (a+b)) Y):iB O Ex (dP .Add) (VR O.P) (.int a) (.int b) Q Y:=.ints λ Kp Jj s d c R=>add_int (fin _ _ (R.toks _) (.int _ _) h)
theorem H4(h:Q (.int (a+b)) Y):iB O Ex (AE .Add) (VR O.P) (.int a) (.int b) Q Y:=.ints λ Kp Jj s d c R=>iadd_int (fin _ _ (R.toks _) (.int _ _) h)
theorem MF(h:Q (.int (a-b)) Y):iB O Ex (dP .Sub) (VR O.P) (.int a) (.int b) Q Y:=.ints λ Kp Jj s d c R=>sub_int (fin _ _ (R.toks _) (.int _ _) h)
theorem MK(c:IntMulOk a b)(h:Q (.int (a*b)) Y):iB O Ex (dP .Mult) (VR O.P) (.int a) (.int b) Q Y:=.ints λ Kp Jj s e d R=>mul_int (fin _ _ (R.toks _) (.int _ _) h) c
theorem GP(c:b≠0)(h:Q (.int (a.fmod b)) Y):iB O Ex (dP .Mod) (VR O.P) (.int a) (.int b) Q Y:=.ints λ Kp Jj s e d R=>mod_int c (fin _ _ (R.toks _) (.int _ _) h)
theorem H6(c:b≠0)(d:b.natAbs<1073741824)(h:Q (.int (a.fdiv b)) Y):iB O Ex (dP .FloorDiv) (VR O.P) (.int a) (.int b) Q Y:=.ints λ Kp Jj s f e R=>floordiv_int c (fin _ _ (R.toks _) (.int _ _) h) (.inl (PyProof.noPylong_small d))
theorem MN(h:Q (.int (Builtin.bitAnd a b)) Y):iB O Ex (dP .BitAnd) (VR O.P) (.int a) (.int b) Q Y:=.ints λ Kp Jj s d c R=>and_int (fin _ _ (R.toks _) (.int _ _) h)
theorem MH(h:Q (.int (Builtin.bitOr a b)) Y):iB O Ex (dP .BitOr) (VR O.P) (.int a) (.int b) Q Y:=.ints λ Kp Jj s d c R=>or_int (fin _ _ (R.toks _) (.int _ _) h)
theorem BU(c:0<=b)(h:Q (.int (a.fdiv (2^b.toNat))) Y):iB O Ex (dP .RShift) (VR O.P) (.int a) (.int b) Q Y:=.ints λ Kp Jj s e d R=>rshift_int c (fin _ _ (R.toks _) (.int _ _) h)
theorem MG(e:0<=b)(d:b<=1000000)(c:a.natAbs<2^64)(h:Q (.int (a*2^b.toNat)) Y):iB O Ex (dP .LShift) (VR O.P) (.int a) (.int b) Q Y:=.ints λ Kp Jj s g f R=>lshift_int_small e d c (fin _ _ (R.toks _) (.int _ _) h)
theorem tU(h:Q (.bool (decide (a<b))) Y):iB O Ex (cH .Lt) (VR O.P) (.int a) (.int b) Q Y:=.ints λ Kp Jj s d c R=>lt_int (fin _ _ R (.bool _) h)
theorem BX(h:Q (.bool (decide (b<a))) Y):iB O Ex (cH .Gt) (VR O.P) (.int a) (.int b) Q Y:=.ints λ Kp Jj s d c R=>gt_int (fin _ _ R (.bool _) h)
theorem H5(h:Q (.bool (decide (b<=a))) Y):iB O Ex (cH .GtE) (VR O.P) (.int a) (.int b) Q Y:=.ints λ Kp Jj s d c R=>ge_int (fin _ _ R (.bool _) h)
theorem GQ(h:Q (.bool (a==b)) Y):iB O Ex (cH .Eq) (VR O.P) (.int a) (.int b) Q Y:=.ints λ Kp Jj s d c R=>eq_int (fin _ _ R (.bool _) h)
theorem vI(h:Q (.bool (a !=b)) Y):iB O Ex (cH .NotEq) (VR O.P) (.int a) (.int b) Q Y:=.ints λ Kp Jj s d c R=>ne_int (fin _ _ R (.bool _) h)
theorem kw(h:Q (.int (-a)) Y):Nx O Ex (unaryOp .USub) (VR O.P) (.int a) Q Y:=λ Kp Jj s c R b=>b.Rc λ t=>neg_int (fin _ _ (R.toks _) (.int _ _) h)
end W0
section WZ
variable{a b:Str}
theorem BY(h:Q (.bool (a==b)) Y):iB O Ex (cH .Eq) (VR O.P) (.str a) (.str b) Q Y:=.strs λ Kp Jj s d c R=>SeqAt.RcAt.str_str a _ b _ _ _ Ex _ (fin _ _ R (.bool _) h)
theorem MJ(h:Q (.bool (!(a==b))) Y):iB O Ex (cH .NotEq) (VR O.P) (.str a) (.str b) Q Y:=.strs λ Kp Jj s d c R=>SeqAt.RcNeAt.str_str a _ b _ _ _ Ex _ (fin _ _ R (.bool _) h)
theorem i1(hz:a.length+b.length<=2^24)(h:Q (.str (a++b)) Y):iB O Ex (dP .Add) (VR O.P) (.str a) (.str b) Q Y:=.strs λ Kp Jj s e c R=>add_str (λ d tk=>fin _ _ (R.toks _) (.str _ _) h) (by exact hz)
end WZ
noncomputable def PD:V->Bool:=vB aj ao ao ao
theorem VR.isNone{P:bQ}{v:V}(h:VR P S u v):(u==Value.none)=PD v:=
 VR.rec (motive_1:=λ u v Z=>(u==Value.none)=PD v) (motive_2:=λ Z Z Z=>True) (motive_3:=λ Z Z Z=>True) (motive_4:=λ Z Z Z=>True) rfl (λ Z=>rfl) (λ Z Z=>rfl) (λ Z Z=>rfl) (λ Z Z Z=>rfl) (λ Z Z Z=>rfl) (λ Z Z Z Z=>rfl)
  (λ Z Z Z Z=>rfl) (λ Z=>rfl) (λ Z=>rfl) trivial (λ Z Z Z Z=>trivial) trivial (λ Z Z Z Z Z Z Z=>trivial) trivial (λ Z Z Z Z=>trivial) h
theorem vJ{v:V}(h:Q (.bool (!PD v)) Y):iB O Ex (cH .IsNot) (VR O.P) v .none Q Y:=λ Kp Jj s c d R a b=>b.RE (isNot_none (by show Pt _ _ _ _ _ (Value.bool (!(c==Value.none))) _;rw[a.isNone];exact fin _ _ R (.bool _) h))
theorem P7{n:Nat}(hS:∀b o,S b o->s.heap.get? b=ah o){A:Around}{a b:aG}{P:bQ}{vs:List Value}{xs:List V}{k:Nat}(i:s.heap.get? a=ah (W.listOf vs.toArray k))(h:s.heap.get? b=ah (W.listOf ws.toArray k'))(f:di P S vs xs)(g:di P S ws ys)(w:∀x∈xs,lP n x=aj)(u:∀x∈ys,lP n x=aj)(m:A.units+1+n<e9):RcAt A s (.ref a) (.ref b) (gz (.list xs) (.list ys))/\RcNeAt A s (.ref a) (.ref b) (!gz (.list xs) (.list ys)):=by
 have c:A.units<e9:=aQ (aA (gw _) (b0 _ n)) m;by_cases d:xs.length=ys.length
 ·have q:∀(j:Nat) (r:j<vs.toArray.size) (l:j<ws.toArray.size),EqAt A.in1 s vs.toArray[j] ws.toArray[j] (gz (xs.getD j .none) (ys.getD j .none)):=λ j r l=>by simp only[dH,dH];exact yH hS n A.in1 (fE w (iN n)) (fE u (iN n)) (f.getD (by exact r)) (g.getD (by exact l)) m
  have z:=nH xs ys;rw[d,Nat.min_self,beq_self_eq_true,Bool.and_true,A_]at z;have v:(aZ vs.toArray.size).all (λ j=>gz (xs.getD j .none) (ys.getD j .none))=gz (.list xs) (.list ys):=by simp only[bH,f.length,d,z]
  have p:=RcAt.lists (A:=A) (s:=s) (items:=vs.toArray) (items2:=ws.toArray) (e:=λ j=>gz (xs.getD j .none) (ys.getD j .none)) ⟨_,i,rfl,_,rfl⟩ ⟨_,h,rfl,_,rfl⟩ (by simp[f.length,g.length,d]) c q;have t:=RcNeAt.lists (A:=A) (s:=s) (items:=vs.toArray) (items2:=ws.toArray) (e:=λ j=>gz (xs.getD j .none) (ys.getD j .none)) ⟨_,i,rfl,_,rfl⟩ ⟨_,h,rfl,_,rfl⟩ (by simp[f.length,g.length,d]) c q;simp only[v]at p t;exact ⟨p,t⟩
 ·rw[ip λ e=>d (congrArg dv (V.list.inj e))];exact ⟨RcAt.lists_lengths (items:=vs.toArray) (items2:=ws.toArray) ⟨_,i,rfl,_,rfl⟩ ⟨_,h,rfl,_,rfl⟩ (by simp[f.length,g.length,d]) c,
   RcNeAt.lists_lengths (items:=vs.toArray) (items2:=ws.toArray) ⟨_,i,rfl,_,rfl⟩ ⟨_,h,rfl,_,rfl⟩ (by simp[f.length,g.length,d]) c⟩
theorem BZ{v w:V}{xs ys:List V}{Q:V->St->Prop}(ok:O.Ok)(k:LV Y v xs)(j:LV Y w ys)(g:∀x∈xs,lP 8 x=aj)(d:∀x∈ys,lP 8 x=aj)(h:Q (.bool (gz (.list xs) (.list ys))) Y):
 iB O Ex (cH .Eq) (VR O.P) v w Q Y:=λ Kp Jj s o p R i f=>by
 obtain ⟨a,vs,n,e,rs⟩:=k.at R i;obtain ⟨b,ws,m,l,c⟩:=j.at R f;exact (P7 R.sub e l rs c g d ok.u8).1 _ _ Ex _ (fin _ _ R (.bool _) h)
theorem BV{v w:V}{xs ys:List V}{Q:V->St->Prop}(ok:O.Ok)(k:LV Y v xs)(j:LV Y w ys)(g:∀x∈xs,lP 8 x=aj)(d:∀x∈ys,lP 8 x=aj)(h:Q (.bool (!gz (.list xs) (.list ys))) Y):
 iB O Ex (cH .NotEq) (VR O.P) v w Q Y:=λ Kp Jj s o p R i f=>by
 obtain ⟨a,vs,n,e,rs⟩:=k.at R i;obtain ⟨b,ws,m,l,c⟩:=j.at R f;exact (P7 R.sub e l rs c g d ok.u8).2 _ _ Ex _ (fin _ _ R (.bool _) h)
theorem P6{n:Nat}(hS:∀b o,S b o->s.heap.get? b=ah o){A:Around}{a b:aG}{P:bQ}{vs:List Value}{xs:List V}{k:Nat}(m:s.heap.get? a=ah (dU vs.toArray k))(i:s.heap.get? b=ah (dU ws.toArray k'))(g:di P S vs xs)(f:di P S ws ys)(u:∀x∈xs,lP n x=aj)(t:∀x∈ys,lP n x=aj)(h:A.units+1+n<e9):RcAt A s (.ref a) (.ref b) (gz (.tup xs) (.tup ys))/\RcNeAt A s (.ref a) (.ref b) (!gz (.tup xs) (.tup ys)):=by
 have c:A.units<e9:=aQ (aA (gw _) (b0 _ n)) h;have q:∀(j:Nat) (p:j<vs.toArray.size) (d:j<ws.toArray.size),EqAt A.in1 s vs.toArray[j] ws.toArray[j] (gz (xs.getD j .none) (ys.getD j .none)):=λ j p d=>by simp only[dH,dH];exact yH hS n A.in1 (fE u (iN n)) (fE t (iN n)) (g.getD (by exact p)) (f.getD (by exact d)) h
 have l:=RcAt.tuples (A:=A) (s:=s) (items:=vs.toArray) (items2:=ws.toArray) (e:=λ j=>gz (xs.getD j .none) (ys.getD j .none)) ⟨_,m,rfl,_,rfl⟩ ⟨_,i,rfl,_,rfl⟩ c q;have r:=RcNeAt.tuples (A:=A) (s:=s) (items:=vs.toArray) (items2:=ws.toArray) (e:=λ j=>gz (xs.getD j .none) (ys.getD j .none)) ⟨_,m,rfl,_,rfl⟩ ⟨_,i,rfl,_,rfl⟩ c q;simp only[bH,g.length,f.length,(nH xs ys)]at l r;exact ⟨l,r⟩
theorem MI{xs ys:List V}{Q:V->St->Prop}(ok:O.Ok)(d:∀x∈xs,lP 8 x=aj)(b:∀x∈ys,lP 8 x=aj)(h:Q (.bool (!gz (.tup xs) (.tup ys))) Y):
 iB O Ex (cH .NotEq) (VR O.P) (.tup xs) (.tup ys) Q Y:=λ Kp Jj s i j R f c=>f.Rn λ Z Z Z e rs=>c.Rn λ Z Z Z g a=>(P6 R.sub (R.sub _ _ e) (R.sub _ _ g) rs a d b ok.u8).2 _ _ Ex _ (fin _ _ R (.bool _) h)
theorem ma{P:bQ}{xs:List Str}{k:Str}{t:I2}:∀{us:List Value},di P S us (xs.map V.str)->(∀y,y∈us.toArray->EqAt A s y (.str k t) (isStrOf k y))/\us.any (isStrOf k)=xs.any (· ==k):=by
 induction xs with
 |nil=>exact λ r=>di.RA (Qs:=λ us=>(∀y,y∈us.toArray->EqAt A s y (.str k t) (isStrOf k y))/\us.any (isStrOf k)=ao) r ⟨λ y c=>absurd (eT.mp c) d7,rfl⟩
 |cons x xs d=>exact λ r=>di.Rd (Qs:=λ us=>(∀y,y∈us.toArray->EqAt A s y (.str k t) (isStrOf k y))/\us.any (isStrOf k)=(x::xs).any (· ==k)) r λ u us a b=>VR.Rh (Q:=λ u=>(∀y,y∈(u::us).toArray->EqAt A s y (.str k t) (isStrOf k y))/\(u::us).any (isStrOf k)=(x::xs).any (· ==k)) a λ f=>⟨λ y c=>(aI.mp (eT.mp c)).elim (λ e=>e▸(eqGives_str x k f t).at A s) λ c=>(d b).1 y (eT.mpr c),congrArg ((x==k)||·) (d b).2⟩
theorem H3{v:V}{k:Str}{xs:List Str}(f:LV Y v (xs.map .str))(h:Q (.bool (xs.any (· ==k))) Y):iB O Ex (cH .In) (VR O.P) (.str k) v Q Y:=λ Kp Jj s i j R e d=>by refine e.Rh λ t=>?_;obtain ⟨b,ws,m,g,a⟩:=f.at R d;have c:=ma (s:=s) (A:=O.A.in1) (k:=k) (t:=t) a;exact in_listAt (isStrOf k) ⟨_,g,rfl,_,rfl⟩ c.1 (by simp only[iW,c.2];exact fin _ _ R (.bool _) h)
theorem nU{v:V}{k:Str}{xs:List Str}(f:LV Y v (xs.map .str))(h:Q (.bool (!xs.any (· ==k))) Y):iB O Ex (cH .NotIn) (VR O.P) (.str k) v Q Y:=λ Kp Jj s i j R e d=>by refine e.Rh λ t=>?_;obtain ⟨b,ws,m,g,a⟩:=f.at R d;have c:=ma (s:=s) (A:=O.A.in1) (k:=k) (t:=t) a;exact notIn_listAt (isStrOf k) ⟨_,g,rfl,_,rfl⟩ c.1 (by simp only[iW,c.2];exact fin _ _ R (.bool _) h)
theorem H2{k:Str}{xs:List Str}(h:Q (.bool (xs.any (· ==k))) Y):iB O Ex (cH .In) (VR O.P) (.str k) (.tup (xs.map .str)) Q Y:=λ Kp Jj s g f R c d=>by refine c.Rh λ t=>d.Rn λ Z Z Z e a=>?_;have b:=ma (s:=s) (A:=O.A.in1) (k:=k) (t:=t) a;exact in_tupleAt (isStrOf k) ⟨_,R.sub _ _ e,rfl,_,rfl⟩ b.1 (by simp only[iW,b.2];exact fin _ _ R (.bool _) h)
theorem n8{v:V}{k:Str}{xs:List Str}(o:LV Y v (xs.map .str))(hk:k∈xs)(hz:xs.length<2^60)(h:Q (.int (xs.idxOf k:Nat)) Y):cS O Ex (.builtin "list.index") [v,.str k] Q Y:=.two λ Kp Jj s u p R l f=>f.Rh λ t=>by
 obtain ⟨b,ws,m,e,a⟩:=o.at R l;have n:=(ma (s:=s) (A:=O.A.in1) (k:=k) (t:=t) a).1;have c:ws.toArray.size=xs.length:=by (refine bH.trans ?_;refine a.length.trans ?_;rw[au])
 have hi:xs.idxOf k<xs.length:=g2.mpr hk;have at_:∀(i:Nat) (hi:i<ws.toArray.size),isStrOf k ws.toArray[i]=(xs[i]'(c▸hi)==k):=λ i hi=>by skip;have:=a.getD (j:=i) hi;simp only[aD,aN,ay (c▸hi)]at this;exact VR.Rh (Q:=λ u=>isStrOf k u=(xs[i]'(c▸hi)==k)) this λ Z=>rfl
 refine kQ F.slot_list_index ⟨_,e,rfl⟩ F.entry_list_index (F.args_list_index_2 _ _) (list_indexAt b ws.toArray m ai #[] (.str k t) (isStrOf k) (xs.idxOf k) (c▸hi) (cV.mpr (bC (bC hi hz) (by decide):xs.idxOf k<2^63-1)) ?_ ?_) ⟨e,n,fin _ _ (R.toks _) (.int _ _) h⟩
 ·rw[at_,beq_iff_eq];exact ot hi
 ·intro i g d;refine (at_ i g).trans ?_;exact List.not_of_lt_findIdx d
end
theorem cQ.Up(R:cQ O Y Kp Jj s){h':Heap}{tk:Nat}{a:aG}{o:Obj}{v:V}{Q:V->St->Prop}(k:∀b o,s.heap.get? b=ah o->h'.get? b=ah o)(e:s.heap.get? a=ai)(c:h'.get? a=ah o)
 (d:VR O.P (Kp.add a o) (.ref a) v) (q:Q v Y):Pt O Jj Kp (VR O.P) Q (.ref a) {s with heap:=h',toks:=tk}:=
 ⟨v,Y,_,b7.Rp _ _ _,R.Ue k e c,d,q⟩
theorem cQ.XM(R:cQ O Y Kp Jj s){h':Heap}{tk:Nat}{a:aG}{n:Nat}{us:List Value}{vs:List V}{Q:V->St->Prop}(k:∀b o,s.heap.get? b=ah o->h'.get? b=ah o)(e:s.heap.get? a=ai)(c:h'.get? a=ah (W.listOf us.toArray n))
 (d:di O.P Kp us vs) (q:Q (.list vs) Y):Pt O Jj Kp (VR O.P) Q (.ref a) {s with heap:=h',toks:=tk}:=
 R.Up k e c (.list (b7.Rq _ _ _) (d.mono (b7.Rp _ _ _))) q
theorem cQ.VZ(R:cQ O Y Kp Jj s){h':Heap}{tk:Nat}{a:aG}{n:Nat}{us:List Value}{vs:List V}{Q:V->St->Prop}(k:∀b o,s.heap.get? b=ah o->h'.get? b=ah o)(e:s.heap.get? a=ai)(c:h'.get? a=ah (dU us.toArray n))
 (d:di O.P Kp us vs) (q:Q (.tup vs) Y):Pt O Jj Kp (VR O.P) Q (.ref a) {s with heap:=h',toks:=tk}:=
 R.Up k e c (.tup (b7.Rq _ _ _) (d.mono (b7.Rp _ _ _))) q
theorem cQ.XK(R:cQ O Y Kp Jj s)(ok:O.Ok){h':Heap}{tk:Nat}{a:aG}{n:Nat}{us:List Value}{vs:List V}{Q:V->St->Prop}(k:∀b o,s.heap.get? b=ah o->h'.get? b=ah o)(f:s.heap.get? a=ai)(d:h'.get? a=ah (W.listOf us.toArray n))
 (e:di O.P Kp us vs) (q:∀a,Q (.ref a) ⟨Y.vals,(a,.list vs)::Y.mu⟩):Pt O Jj Kp (VR O.P) Q (.ref a) {s with heap:=h',toks:=tk}:=
 ⟨.ref a,_,Kp,.refl _,R.US (p:=(a,.list vs)) ok k (λ b c=>by simp[ce]at c;rw[c];exact f) (.list d e) (by simp[ce]),.ref _,q a⟩
inductive mL(Q:V->St->Prop)(Y:St)(vs:List V):Prop
 |F:Q (.list vs) Y->mL Q Y vs
 |M:(∀a,Q (.ref a) ⟨Y.vals,(a,.list vs)::Y.mu⟩)->mL Q Y vs
theorem cQ.SI(R:cQ O Y Kp Jj s)(ok:O.Ok){h':Heap}{tk:Nat}{a:aG}{n:Nat}{us:List Value}{vs:List V}{Q:V->St->Prop}(k:∀b o,s.heap.get? b=ah o->h'.get? b=ah o)(e:s.heap.get? a=ai)(c:h'.get? a=ah (W.listOf us.toArray n))
 (d:di O.P Kp us vs) (q:mL Q Y vs):Pt O Jj Kp (VR O.P) Q (.ref a) {s with heap:=h',toks:=tk}:=q.rec (λ q=>R.XM k e c d q) λ q=>R.XK ok k e c d q
theorem cQ.Tv(R:cQ O Y Kp Jj s)(ok:O.Ok){tk:Nat}{us:List Value}{vs:List V}{Q:V->St->Prop}(a:di O.P Kp us vs)(q:mL Q Y vs):Pt O Jj Kp (VR O.P) Q (.ref s.heap.objs.size) {s with heap:=s.heap.push (W.listOf us.toArray 0),toks:=tk}:=
 R.SI ok (λ b o e=>aL _ e) (dh _) (bO _ rfl) a q
theorem mm{n:Nat}(h:n<2^62):(n:Int)<2^63:=cV.mpr (bC h (by decide):n<2^63)
theorem gH{n:Nat}(h:n<=2^20):n<=eU:=aA h (by decide)
theorem di.sz{P:bQ}(h:di P S us vs):us.toArray.size=vs.length:=h.length
theorem lh{v:V}(c:LV Y v xs)(hz:xs.length<2^62)(h:Q (.int xs.length) Y):cS O Ex (.builtin "len") [v] Q Y:=.one λ Kp Jj s u R b=>let ⟨a,vs,n,e,rs⟩:=c.at R b;call_len_list ⟨_,e,rfl,_,rfl⟩ ((bz rs.sz)▸mm hz) (by simp only[rs.sz];exact fin _ _ (R.toks _) (.int _ _) h)
theorem C_(hz:xs.length<2^62)(h:Q (.int xs.length) Y):cS O Ex (.builtin "len") [.tup xs] Q Y:=.one λ Kp Jj s u R a=>a.Rn λ Z Z Z e rs=>P.len_tuple (R.sub _ _ e) (by rw[rs.sz];exact Int.not_le.mpr (mm hz)) (by rw[rs.sz];exact fin _ _ (R.toks _) (.int _ _) h)
theorem uC{v:V}(ok:O.Ok)(d:LV Y v xs)(hz:xs.length<=2^20)(h:mL Q Y xs):cS O Ex (.type "list") [v] Q Y:=.one λ Kp Jj s u R c=>let ⟨a,vs,n,e,rs⟩:=d.at R c;call_list_seq a (.inl rfl) e rfl rfl (λ h' f k b=>R.SI (tk:=s.toks) ok k (dh _) b rs h) ((bz rs.sz)▸gH hz)
theorem FB(ok:O.Ok)(hz:xs.length<=2^20)(h:mL Q Y xs):cS O Ex (.type "list") [.tup xs] Q Y:=.one λ Kp Jj s u R b=>b.Rn λ Z Z Z e rs=>call_list_seq _ (.inr rfl) (R.sub _ _ e) rfl rfl (λ h' c k a=>R.SI (tk:=s.toks) ok k (dh _) a rs h) ((bz rs.sz)▸gH hz)
theorem B4{h:Heap}(k:∀b o,h.get? b=ah o->h'.get? b=ah o):h.get? h'.objs.size=ai:=by
 cases a:h.get? h'.objs.size with
 |none=>rfl
 |some o=>exact absurd (cm (k _ _ a)) (bA _)
theorem rL{v:V}(d:LV Y v xs)(hz:xs.length<=2^20)(h:Q (.tup xs) Y):cS O Ex (.type "tuple") [v] Q Y:=.one λ Kp Jj s u R c=>let ⟨a,vs,n,e,rs⟩:=d.at R c;call_tuple_list ⟨_,e,rfl,_,rfl⟩ (λ h' k=>R.VZ (tk:=s.toks) (n:=0) (λ b o e=>aL _ (k _ _ e)) (B4 k) (bO _ rfl) rs h) ((bz rs.sz)▸gH hz)
theorem No{i:Int}(h:Q (.int i) Y):cS O Ex (.type "int") [.int i] Q Y:=.one λ Kp Jj s u R a=>a.Rc λ Z=>call_int_int (fin _ _ R (.int _ _) h)
theorem Nl{i:Int}(hi:i.natAbs<2^64)(h:Q (.str (toString i)) Y):cS O Ex (.type "str") [.int i] Q Y:=.one λ Kp Jj s u R b=>b.Rc λ Z=>P.str_of_int (by
 by_cases a:i.natAbs=0
 ·simp only[a];decide+kernel
 ·exact bC ((Nat.log2_lt a).mpr hi) (by decide)) (fin _ _ (R.toks _) (.str _ _) h)
theorem Er{P:bQ}{xs:List Str}:∀{us:List Value},di P S us (xs.map V.str)->AW us xs:=by
 induction xs with
 |nil=>exact λ r=>di.RA (Qs:=λ us=>AW us []) r .nil
 |cons x xs c=>exact λ r=>di.Rd (Qs:=λ us=>AW us (x::xs)) r λ u ws a b=>VR.Rh (Q:=λ u=>AW (u::ws) (x::xs)) a λ t=>.cons x t (c b)
theorem uE{v:V}{xs:List Str}(c:LV Y v (xs.map .str))(hz:(xs.map (·.length)).sum+xs.length*x.length<=16777216)(h:Q (.str (Txt.join x xs)) Y):cS O Ex (.builtin "str.join") [.str x,v] Q Y:=.two λ Kp Jj s u f R d b=>d.Rh λ Z=>let ⟨a,vs,n,e,rs⟩:=c.at R b;join_list ⟨_,e,rfl,_,rfl⟩ (Er rs) hz λ t k=>fin _ _ (R.toks _) (.str _ _) h
theorem HC{v:V}{Q:Bool->St->Prop}(d:LV Y v xs)(hz:xs.length<2^62)(h:Q (!xs.isEmpty) Y):Nx O Ex He (λ Z u b=>u=b) v Q Y:=λ Kp Jj s f R c=>let ⟨a,vs,n,e,rs⟩:=d.at R c;wpAny_truthy_list ⟨_,e,rfl,_,rfl⟩ ((bz rs.sz)▸mm hz) (by simp only[show (!vs.toArray.isEmpty)=!xs.isEmpty from rs.ind rfl λ Z Z Z Z Z Z Z=>rfl];exact fin _ _ (R.toks _) rfl h)
theorem jl{b:Bool}{Q:Bool->St->Prop}(h:Q b Y):Nx O Ex He (λ Z u b=>u=b) (.bool b) Q Y:=λ Kp Jj s c R a=>a.V3 (fA (fin _ _ R rfl h))
theorem m8{v w:V}(ok:O.Ok)(j:LV Y v xs)(i:LV Y w ys)(hz:xs.length+ys.length<=2^20)(h:mL Q Y (xs++ys)):iB O Ex (dP .Add) (VR O.P) v w Q Y:=λ Kp Jj s k l R g f=>by obtain ⟨a,vs,n,e,rs⟩:=j.at R g;obtain ⟨b,ws,m,d,c⟩:=i.at R f;refine concat_meets ⟨_,e,rfl⟩ ⟨_,d,rfl⟩ noFill_list_add seq_list_add PySem.F.slot_list_add PySem.F.entry_list_add (PySem.F.args_list_add_2 _ _) (list_addW a b vs.toArray ws.toArray n m ai ai #[] #[] ((bz rs.sz)▸(bz c.sz)▸gH hz)) ⟨e,d,?_⟩;rw[AA];exact R.Tv ok (rs.append c) h
theorem u7{n:Nat}(h:n<=2^20):Builtin.List.listTooLong n=ao:=by unfold Builtin.List.listTooLong;simp[dA];exact aA ‹_› (by decide)
theorem di.rep1{P:bQ}{v:V}(h:VR P S u v)(k:Nat):di P S (bu k u) (bu k v):=by
 induction k with
 |zero=>exact .nil
 |succ k a=>exact .cons h a
theorem Nf(u:α)(k:Nat):(bu k [u]).flatten=bu k u:=by
 induction k with
 |zero=>rfl
 |succ k a=>exact congrArg (u::·) a
theorem BW{v:V}{x:V}(ok:O.Ok)(q:LV Y v [x])(hz:i<=2^20)(h:mL Q Y (bu i x)):iB O Ex (dP .Mult) (VR O.P) v (.int i) Q Y:=λ Kp Jj s r t R p l=>l.Rc λ u=>by
 obtain ⟨a,vs,n,e,rs⟩:=q.at R p;revert e
 refine di.Tw (Qs:=λ vs=>s.heap.get? a=ah (W.listOf vs.toArray n)->_) rs λ c j e=>?_;have hi:((i:Int).toNat)=i:=gi i;have f:¬(!Builtin.List.listFitsIndex (i:Int))=aj:=by rw[AT (br _) (OZ hz)];exact df
 have d:¬#[c].size*(i:Int).toNat>(2^63-1)/8:=by show ¬1*i>_;exact OY hz
 have g:¬Builtin.List.listTooLong (#[c].size*(i:Int).toNat)=aj:=by simp only[hi,show #[c].size*i=i from Nat.one_mul i,u7 hz];exact df
 refine wpAny_binaryOp_repeat_ref (T:="list") (U:="int") (rfl) ⟨_,e,rfl⟩ (λ s'=>typeIs_int s' i u) noFill_list_mul PySem.F.fills_int_mul PySem.F.slot_int_rmul repeat_list PySem.F.slot_int_index.lookup ?_;refine kQ PySem.F.slot_int_rmul (typeIs_int s i u) PySem.F.entry_int_rmul (PySem.F.args_int_rmul_2 _ _) (lm_int_rmul_list_any i u a #[c] n ai #[]) ⟨e,rfl,⟨_,e,rfl⟩,?_⟩;generalize k:(i:Int)=m at f d g hi ⊢;refine kQ PySem.F.slot_list_mul ⟨_,e,rfl⟩ PySem.F.entry_list_mul (PySem.F.args_list_mul_2 _ _) (lm_list_mul_any a #[c] n ai #[] m u f d g) ⟨e,?_⟩;rw[listMul_foldl_if,hi];refine R.SI (tk:=s.toks) (n:=0) (us:=(bu i [c]).flatten) ok (λ b o e=>aL _ e) (dh _) (bO _ rfl) ?_ h;rw[Nf];exact .rep1 j i
noncomputable def NC(T:String):Prop:=∃id,typeLookup (.type T) "__getitem__"=pure (ah (.builtin id))
theorem yU.VX{v:V}{T:String}(h:yU Y v T):NC T:=yU.rec (motive:=λ Z T Z=>NC T) (λ Z=>⟨_,slot_list_getitem.lookup⟩) (λ Z=>⟨_,slot_dict_getitem.lookup⟩) ⟨_,slot_tuple_getitem.lookup⟩ ⟨_,PySem.F.slot_str_getitem.lookup⟩ h
inductive mP(O:FC)(Ex:Value->aR->Prop)(Q:V->St->Prop)(o:V)(i:V)(Y:St):Prop
 |mk (t:∃T,yU Y o T) (h:iB O Ex kf (VR O.P) o i Q Y)
theorem Jl(h:XV O Ex (bv value O.env) (kR O Ex slice (mP O Ex Q)) Y)(q:∀o i,subscripted slice ao o i=operate [o,i] (kf o i)):XV O Ex (bv (.Subscript value slice pos) O.env) Q Y:=λ Kp Jj s R=>by skip;refine aw (h.Q6 R λ t l o g Kk l₁ c n h₁=>aw (bD (h₁.Q6 c λ v Q8 i j d l₂ a hi f=>aw (ej ?_))));obtain ⟨⟨T,m⟩,u⟩:=f;refine ze m.VX λ id k=>?_;have b:=n.mono l₂;have p:=m.at a b;refine aw ?_;skip;refine aw (ig p.1 k ?_);refine az ?_;rw[q];refine aw (wpAny_operating (aY (u d Jj Q8 t v a b hi) (λ r Rz x=>aw (DY (az (up (l₁.trans l₂) x)))) λ Z Z e=>e))
theorem dM{v:V}{r:V}(g:LV Y v xs)(hk:xs[k]? =ah r)(hz:k<2^62)(h:Q r Y):iB O Ex kf (VR O.P) v (.int k) Q Y:=λ Kp Jj s i j R f d=>d.Rc λ Z=>by obtain ⟨a,vs,n,e,rs⟩:=g.at R f;refine b4 (rs.get hk) λ u c b=>?_;exact wpAny_getItem_list ⟨_,e,rfl,_,rfl⟩ (br _) (mm hz) (x:=u) (by rw[b5];exact c) (fin _ _ R b h)
theorem xC{v:V}{r:V}(j:LV Y v (xs++[r]))(hz:xs.length<2^60)(h:Q r Y):iB O Ex kf (VR O.P) v (.int (-1)) Q Y:=λ Kp Jj s k l R g f=>f.Rc λ Z=>by obtain ⟨a,vs,n,e,rs⟩:=j.at R g;have b:vs.toArray.size=xs.length+1:=rs.length.trans aF;refine b4 (rs.get (i:=xs.length) (v:=r) (by (refine (bG (aT _)).trans ?_;rw[eO]);rfl)) λ u d c=>?_;refine wpAny_getItem_list_neg ⟨_,e,rfl,_,rfl⟩ (by decide) (by rw[b];exact OX) (by decide) (x:=u) ?_ (fin _ _ R c h);simp only[b,show (-1+((xs.length+1:Nat):Int)).toNat=xs.length from OW,b5];exact d
theorem pq{r:V}(hk:xs[k]? =ah r)(hz:k<2^62)(h:Q r Y):iB O Ex kf (VR O.P) (.tup xs) (.int k) Q Y:=λ Kp Jj s g i R f d=>d.Rc λ Z=>f.Rn λ a vs n e rs=>by refine b4 (rs.get hk) λ u c b=>?_;exact P.getItem_tuple (R.sub _ _ e) (Int.le_trans (by decide) (br k)) (mm hz) (k:=k) (seqIndex_of (br _) (by rw[rs.sz];exact cV.mpr (bh.mp hk).1)) (y:=u) (by (refine (b5).trans ?_);exact c) (fin _ _ R b h)
theorem ux{d:aG}{Q:Value->aR->Prop}(a:s.TypeIs (.ref d) "dict")(h:aW (bn prog w) A.in1 (kh d ku) (λ r s'=>∃v,r=ah v/\Q v s') E s):aW (bn prog w) A (kf (.ref d) ku) Q E s:=by
 dsimp only[kf]
 try with_reducible refine bD ?_
 refine aw (r6 a (rfl) ?_);refine aw (mG (name:=Str.ofString "__getitem__") a slot_dict_getitem
  (dO slot_dict_getitem a entry_dict_getitem ?_ (args_dict_getitem _ _)))
 show aW _ _ (kh d ku>>=_) _ _ s;refine aw (aY h (λ r s' b=>b4 b λ v e q=>?_) λ Z Z e=>e);subst e;exact az ⟨v,rfl,az q⟩
theorem FC.Ok.SX(ok:O.Ok):O.A.in1.units+40<e9:=by have:=ok.units;show O.A.units+1+40<e9;exact OV this
theorem jp{v k r:V}(ok:O.Ok)(c:DV Y v kvs)(hk:f5 k kvs)(b:ez kvs k=ah r)(h:Q r Y):iB O Ex kf (VR O.P) v k Q Y:=λ Kp Jj s m o R j i=>let ⟨d,es,n,e,rs,_⟩:=c.at R j;ux ⟨_,e,rfl⟩ (sJ R.sub ok.SX e rs hk i (λ l u a f=>⟨u,rfl,fin _ _ (R.toks _) f (Option.some.inj (b.symm.trans a)▸h)⟩) λ g=>nomatch b.symm.trans g)
section
variable{d:aG}
theorem wb{Q:Bool->aR->Prop}(a:s.TypeIs (.ref d) "dict")(hd:(d==dz)=ao)(h:aW (bn prog w) A.in1 (kh d ku) (λ r s'=>Q r.isSome s') E s):aW (bn prog w) A (contains (.ref d) ku) Q E s:=by
 dsimp only[contains]
 try with_reducible refine bD ?_
 refine aw (ig a slot_dict_contains.lookup ?_);show aW _ _ (if (ah (Value.builtin "dict.__contains__")==ah Value.none)=aj then _ else _) _ E s;skip;refine aw (wpAny_callSpecialUnlessNone?_slot (name:=Str.ofString "__contains__") a slot_dict_contains
  (dO slot_dict_contains a entry_dict_contains ?_ (args_dict_contains _ _)))
 show aW _ _ (kh d ku>>=_) _ _ s;refine aw (aY h (λ r s' q=>?_) λ Z Z e=>e);cases r with
 |some p=>show aW _ _ (ret (.bool aj)) _ _ _;exact az ⟨_,rfl,fA q⟩
 |none=>show aW _ _ (Builtin.Dict.pendingKey? d ku>>=_) _ _ _;exact aw (wpAny_pendingKey_other hd (az ⟨_,rfl,fA q⟩))
theorem su{Q:Value->aR->Prop}(a:s.TypeIs (.ref d) "dict")(hd:(d==dz)=ao)(h:aW (bn prog w) A.in1 (kh d ku) (λ r s'=>Q (.bool r.isSome) s') E s):
 aW (bn prog w) A (cH .In ku (.ref d)) Q E s:=by
 show aW _ _ (do return .bool (<-contains (.ref d) ku)) Q E s;exact aw (wb a hd (aY h (λ Z Z q=>az q) λ Z Z e=>e))
theorem oX{Q:Value->aR->Prop}(a:s.TypeIs (.ref d) "dict")(hd:(d==dz)=ao)(h:aW (bn prog w) A.in1 (kh d ku) (λ r s'=>Q (.bool (!r.isSome)) s') E s):
 aW (bn prog w) A (cH .NotIn ku (.ref d)) Q E s:=by
 show aW _ _ (do return .bool (!(<-contains (.ref d) ku))) Q E s;exact aw (wb a hd (aY h (λ Z Z q=>az q) λ Z Z e=>e))
theorem z6{nF:Value}{Q:Value->aR->Prop}(a:s.TypeIs (.ref d) "dict")(hd:(d==dz)=ao)(h:aW (bn prog w) A.in1 (kh d ku) (λ r s'=>Q (r.getD nF) s') E s):
 aW (bn prog w) A (call (.builtin "dict.get") [.ref d,ku,nF]) Q E s:=by
 refine dO PySem.F.slot_dict_get a PySem.F.entry_dict_get ?_ (PySem.F.args_dict_get_3 _ _ _);show aW _ _ (kh d ku>>=_) _ _ s;refine aw (aY h (λ r s' q=>?_) λ Z Z e=>e);cases r with
 |some v=>exact az ⟨v,rfl,q⟩
 |none=>show aW _ _ (Builtin.Dict.missed d ku>>=_) _ _ _;exact aw (wpAny_missed_other hd (az ⟨nF,rfl,q⟩))
theorem pJ{nF:Value}{Q:Value->aR->Prop}(a:s.TypeIs (.ref d) "dict")(hd:(d==dz)=ao)(h:aW (bn prog w) A.in1 (oz d ku nF) Q E s):
 aW (bn prog w) A (call (.builtin "dict.setdefault") [.ref d,ku,nF]) Q E s:=by
 refine dO PySem.F.slot_dict_setdefault a PySem.F.entry_dict_setdefault ?_ (PySem.F.args_dict_setdefault_3 _ _ _);unfold Builtin.«dict.setdefault»;refine aw ?_;skip;refine aw (gr a ?_);show aW _ _ (pure (d,ku,ah nF)) _ _ s;refine az ?_;show aW _ _ (if (d==dz)=aj then _ else (oz d ku nF>>=_)) _ _ s;rw[if_neg ((bz hd)▸df)];exact aw (aY h (λ r s' q=>az ⟨r,rfl,q⟩) λ Z Z e=>e)
theorem uw{Q:Unit->aR->Prop}(a:s.TypeIs (.ref d) "dict")(h:aW (bn prog w) A.in1 (AU d ku u) Q E s):aW (bn prog w) A (AR (.ref d) ku u) Q E s:=by
 unfold AR
 try with_reducible refine bD ?_
 refine aw (r6 a (rfl) ?_);refine aw (mG (name:=Str.ofString "__setitem__") a IV
  (dO IV a entry_dict_setitem ?_ (args_dict_setitem _ _ _)))
 show aW _ _ (Builtin.Dict.notOrdered "__setitem__" ⟨[.ref d,ku,u],[]⟩>>=_) _ _ s;refine aw (gr a ?_);show aW _ _ (AU d ku u>>=_) _ _ s;exact aw (aY h (λ Z s' q=>az ⟨.none,rfl,az q⟩) λ Z Z e=>e)
theorem t6{l:aG}{items:List Value}{n:Nat}{t:I2}{Q:Unit->aR->Prop}(c:s.heap.get? l=ah (W.listOf items.toArray n))(i:j<items.length)(hz:j<2^62)(h:∀h' g,Heap.SameBut l s.heap h'->h'.get? l=ah (W.listOf (items.set j u).toArray g)->Q () {s with heap:=h'}):aW (bn prog w) A (AR (.ref l) (.int j t) u) Q E s:=by
 have f:s.heap.IsList l items.toArray:=⟨_,c,rfl,_,rfl⟩;obtain ⟨k,hk⟩:∃k:Int,k=(j:Int):=⟨_,rfl⟩;have b:Builtin.List.listFitsIndex k=aj:=AT (hk▸Int.le_trans (by decide) (br j)) (hk▸mm hz);rw[<-hk];clear hz;unfold AR
 try with_reducible refine bD ?_
 first|refine aw (az ?_)|skip
 refine aw (r6 f.typeIs (rfl) ?_);refine aw (mG (name:=Str.ofString "__setitem__") f.typeIs IU
  (dO IU f.typeIs entry_list_setitem ?_ (args_list_setitem _ _ _)))
 show aW _ _ (Builtin.List.listSubscript? (.int k t)>>=_) _ _ s;refine aw (wpAny_listSubscript_int b ?_);clear b;subst hk;have d:items.toArray[j]? =ah items[j]:=by exact (b5).trans (ay i)
 show aW _ _ ((seqItemAt l j>>=λ r=>pure (r.map (j,·)))>>=_) _ _ s;refine aw (aw (wpAny_seqItemAt c rfl (az ?_)));rw[d];show aW _ _ (setSeqItemAt l j u>>=_) _ _ s;have a:=PySem.IsL.update (h:=s.heap) c (·.setIfInBounds j u);refine aw (wpAny_setSeqItemAt c rfl ?_);have e:items.toArray.setIfInBounds j u=(items.set j u).toArray:=List.setIfInBounds_toArray ..;rw[e]at a
 first
  |exact aw (az (az ⟨.none,rfl,az (h _ _ (Heap.SameBut.update ..) a)⟩))
  |exact az ⟨.none,rfl,az (h _ _ (Heap.SameBut.update ..) a)⟩
end
theorem uk{k:V}(ok:O.Ok)(R:cQ O Y Kp Jj s){d:aG}{es:List bL}{n:Nat}(e:s.heap.get? d=ah (W.dictOf es n))(rs:f_ O.P Kp es kvs)(hk:f5 k kvs)(g:VR O.P Kp ku k){Q:Option Value->aR->Prop}(h:∀r s',(∀v,ez kvs k=ah v->∃u,r=ah u/\VR O.P Kp u v)->(ez kvs k=ai->r=ai)->r.isSome=(ez kvs k).isSome->cQ O Y Kp Jj s'->Q r s'):aW (bn O.G.prog O.G.w) O.A.in1 (kh d ku) Q Ex s:=
 sJ R.sub ok.SX e rs hk g (λ i u a f=>h _ _ (λ v b=>⟨u,rfl,Option.some.inj (a.symm.trans b)▸f⟩) (λ h=>nomatch a.symm.trans h) (by simp only[a];rfl) (R.toks _)) λ c=>h _ _ (λ v b=>nomatch c.symm.trans b) (λ Z=>rfl) (by simp only[c];rfl) (R.toks _)
theorem ML{v k:V}(ok:O.Ok)(a:DV Y v kvs)(hk:f5 k kvs)(h:Q (.bool (ez kvs k).isSome) Y):iB O Ex (cH .In) (VR O.P) k v Q Y:=λ Kp Jj s f g R c b=>let ⟨d,es,n,e,rs,hd⟩:=a.at R b;su ⟨_,e,rfl⟩ hd (uk ok R e rs hk c λ r s' Z Z e R'=>(bz e)▸fin _ _ R' (.bool _) h)
theorem xm{v k:V}(ok:O.Ok)(a:DV Y v kvs)(hk:f5 k kvs)(h:Q (.bool (!(ez kvs k).isSome)) Y):iB O Ex (cH .NotIn) (VR O.P) k v Q Y:=λ Kp Jj s f g R c b=>let ⟨d,es,n,e,rs,hd⟩:=a.at R b;oX ⟨_,e,rfl⟩ hd (uk ok R e rs hk c λ r s' Z Z e R'=>(bz e)▸fin _ _ R' (.bool _) h)
theorem yK{v k:V}(ok:O.Ok)(c:DV Y v kvs)(hk:f5 k kvs)(h:Q ((ez kvs k).getD nF) Y):cS O Ex (.builtin "dict.get") [v,k,nF] Q Y:=.three λ Kp Jj s j l m R i b g=>
 let ⟨d,es,n,e,rs,hd⟩:=c.at R i;z6 ⟨_,e,rfl⟩ hd (uk ok R e rs hk b λ r s' k1 k2 Z R'=>by
  cases a:ez kvs k with
  |some v=>refine b4 (k1 v a) λ u e f=>?_;rw[a]at h;rw[e];exact fin _ _ R' f h
  |none=>rw[a]at h;rw[k2 a];exact fin _ _ R' g h)
theorem uB{a:aG}{k:V}(i:Nat)(ok:O.Ok)(hi:Y.mu[i]? =ah (a,.dict kvs))(hk:f5 k kvs)(hz:kvs.length<=2^20)(h:match ez kvs k with|some v=>Q v Y|none=>Q nF ⟨Y.vals,Y.mu.set i (a,.dict (kvs++[(k,nF)]))⟩):cS O Ex (.builtin "dict.setdefault") [.ref a,k,nF] Q Y:=.three λ Kp Jj s p t w R m f c=>m.Rw ((R.mu _ (aX hi)).RL λ es n q e rs=>pJ ⟨_,e,rfl⟩ q (oC R.sub ok.SX e rs hk f c (gH hz) (λ r u b g=>by simp only[b]at h;exact fin _ _ (R.toks _) g h) λ j h' RB o tk l hd d=>by simp only[j]at h;exact ⟨nF,_,Kp,.refl _,R.Sx (q:=(a,.dict (kvs++[(k,nF)]))) ok hi rfl (a:=a) (.head _) l ⟨_,hd⟩ (.dict q hd d),c,h⟩))
noncomputable def wz(O:FC)(Ex:Value->aR->Prop)(o i v:V)(Q:St->Prop)(Y:St):Prop:=
 ∀Kp Jj s uo ui uv,cQ O Y Kp Jj s->VR O.P Kp uo o->VR O.P Kp ui i->VR O.P Kp uv v->aW (bn O.G.prog O.G.w) O.A (AR uo ui uv) (λ Z s'=>∃Y',cQ O Y' Kp Jj s'/\Q Y') Ex s
theorem w_{a:aG}{k v:V}{kvs:List (V×V)}{Q:St->Prop}(i:Nat)(ok:O.Ok)(hi:Y.mu[i]? =ah (a,.dict kvs))(hk:f5 k kvs)(hz:kvs.length<=2^20)(h:Q ⟨Y.vals,Y.mu.set i (a,.dict (io k v kvs))⟩):
 wz O Ex (.ref a) k v Q Y:=λ Kp Jj s m o l R g c d=>g.Rw ((R.mu _ (aX hi)).RL λ es n q e rs=>
 uw ⟨_,e,rfl⟩ (oE R.sub ok.SX e rs hk c d (gH hz) λ h' RB j tk f hd b=>⟨_,R.Sx (q:=(a,.dict (io k v kvs))) ok hi rfl (a:=a) (.head _) f ⟨_,hd⟩ (.dict q hd b),h⟩))
theorem HQ{a:aG}{v:V}{xs:List V}{j:Nat}{Q:St->Prop}(i:Nat)(ok:O.Ok)(hi:Y.mu[i]? =ah (a,.list xs))(f:j<xs.length)(hz:j<2^62)(h:Q ⟨Y.vals,Y.mu.set i (a,.list (xs.set j v))⟩):
 wz O Ex (.ref a) (.int j) v Q Y:=λ Kp Jj s m o l R g b c=>g.Rw (b.Rc λ Z=>(R.mu _ (aX hi)).listE λ vs n e rs=>
 t6 e (by simp only[rs.length];exact f) hz λ h' k d hd=>⟨_,R.Sx (q:=(a,.list (xs.set j v))) (tk:=s.toks) ok hi rfl (a:=a) (.head _) d ⟨_,hd⟩ (.list hd (rs.set c j)),h⟩)
noncomputable def QE(O:FC)(Ex:Value->aR->Prop)(v:V)(Q:Option (Option V)->St->Prop)(ov iv:V)(Y:St):Prop:=wz O Ex ov iv v (Q ai) Y
noncomputable def M3(O:FC)(Ex:Value->aR->Prop)(o i:Expr)(Q:Option (Option V)->St->Prop)(v:V)(Y:St):Prop:=XV O Ex (bv o O.env) (kR O Ex i (QE O Ex v Q)) Y
theorem A2{o i:Expr}{Q:Option (Option V)->St->Prop}(h:XV O Ex (bv e O.env) (M3 O Ex o i Q) Y)(z:eg e (ah (.Subscript o i pos')) pos.line O.env=pure ao):XF O Ex (gc (.Assign [.Subscript o i pos'] e pos) O.env) Q Y:=λ Kp Jj s R=>wpAny_Assign_Subscript (h.Q6 R λ u x v m Kk l₁ f B h₁=>h₁.Q6 f λ A Q8 ov r w l₂ d y k=>k.Q6 d λ C Rz D p b a g hi l=>aY (l b Jj Rz A C u g (y.mono a) hi (B.mono (l₂.trans a))) (λ Z t n=>by refine b4 n λ c j q=>?_;exact ⟨ai,c,b,(l₁.trans l₂).trans a,j,.next,q⟩) λ Z Z e=>e) z
noncomputable def l0(O:FC)(Ex:Value->aR->Prop)(o l u:V)(Q:V->St->Prop)(Y:St):Prop:=
 ∀Kp Jj s uo ul uu sl,cQ O Y Kp Jj s->VR O.P Kp uo o->VR O.P Kp ul l->VR O.P Kp uu u->s.heap.IsSliceOf sl ul uu .none->
  aW (bn O.G.prog O.G.w) O.A (kf uo (.ref sl)) (Pt O Jj Kp (VR O.P) Q) Ex s
theorem oP(h:Q .none Y):XV O Ex (D6 ai O.env) Q Y:=λ Kp Jj s R=>by exact az (fin _ _ R .none h)
theorem oO(h:XV O Ex (bv e O.env) Q Y):XV O Ex (D6 (ah e) O.env) Q Y:=by exact h
inductive Pj(O:FC)(Ex:Value->aR->Prop)(Q:V->St->Prop)(o l u:V)(Y:St):Prop
 |mk (t:∃T,yU Y o T) (h:l0 O Ex o l u Q Y)
noncomputable def Pk(O:FC)(Ex:Value->aR->Prop)(upper:Option Expr)(Q:V->St->Prop)(o l:V)(Y:St):Prop:=XV O Ex (D6 upper O.env) (Pj O Ex Q o l) Y
noncomputable def QF(O:FC)(Ex:Value->aR->Prop)(lower upper:Option Expr)(Q:V->St->Prop)(o:V)(Y:St):Prop:=XV O Ex (D6 lower O.env) (Pk O Ex upper Q o) Y
theorem l8{value:Expr}{a d:Option Expr}{p pos:gU}{Q:V->St->Prop}
 (h:XV O Ex (bv value O.env) (QF O Ex a d Q) Y):
 XV O Ex (bv (.Subscript value (.Slice a d ai p) pos) O.env) Q Y:=λ Kp Jj s R=>by
 skip;refine aw (h.Q6 R λ w E o t Kk l₁ j H h₁=>aw (bD (wpAny_Slice (h₁.Q6 j λ B Q8 l v C l₂ i I m=>m.Q6 i λ A Rz u g f c k J n=>?_))));obtain ⟨⟨T,z⟩,G⟩:=n;refine ze z.VX λ id y=>?_;skip;refine az (aw (ej ?_));have q:=H.mono (l₂.trans c);have D:cQ O g f Jj {Rz with heap:=Rz.heap.push {cls:=.type "slice",data:=.fields #[B,A,.none]}}:=k.keeps (tk:=Rz.toks) λ b o e=>aL _ e
 have F:=z.at D q;refine aw ?_;skip;refine aw (ig F.1 y ?_);refine az ?_;show aW _ _ (operate [.ref _,w] (kf w (.ref _))>>=_) _ _ _;refine aw (wpAny_operating (aY (G f Jj _ w B A Rz.heap.objs.size D q (I.mono c) J (Heap.IsSliceOf.new ..)) (λ r Rz x=>aw (DY (az (up ((l₁.trans l₂).trans c) x)))) λ Z Z e=>e))
theorem we(n a:Nat):mY n (a:Int)=min a n:=by unfold mY;skip;exact OU
theorem Ew{v:V}(ok:O.Ok)(k:LV Y v xs)(hz:xs.length<=2^20)(h:mL Q Y (xs.take b)):l0 O Ex v .none (.int b) Q Y:=λ Kp Jj s l c f sl R j g i d=>i.Rc (Q:=λ f=>s.heap.IsSliceOf sl c f .none->_) (λ Z=>g.RE (Q:=λ c=>s.heap.IsSliceOf sl c _ .none->_) λ d=>by
 obtain ⟨a,vs,n,e,rs⟩:=k.at R j;refine y4 (lo:=ai) (hi:=ah (b:Int)) (st:=ai) ⟨_,e,rfl,_,rfl⟩ d .none (.int _ _) .none (λ h=>nomatch h) ?_ (by rw[rs.sz];exact gH hz);rw[slicePick_plain];rw[show ((vs.toArray.toList.drop (j3 ai 0 (mY vs.toArray.size))).take (j3 (ah (b:Int)) vs.toArray.size (mY vs.toArray.size)-j3 ai 0 (mY vs.toArray.size)))=vs.take b by show DP (mY vs.length b-0) (List.drop 0 vs)=_;simp only[we,Nat.sub_zero,List.drop_zero,List.take_eq_take_iff];exact OT]
 exact R.Tv ok (rs.take b) h) d
theorem Ez{v:V}(ok:O.Ok)(l:LV Y v xs)(hz:xs.length<=2^20)(h:mL Q Y (xs.drop b)):l0 O Ex v (.int b) .none Q Y:=λ Kp Jj s m g f sl R k i j d=>i.Rc (Q:=λ g=>s.heap.IsSliceOf sl g f .none->_) (λ Z=>j.RE (Q:=λ f=>s.heap.IsSliceOf sl _ f .none->_) λ d=>by
 obtain ⟨a,vs,n,e,rs⟩:=l.at R k;refine y4 (lo:=ah (b:Int)) (hi:=ai) (st:=ai) ⟨_,e,rfl,_,rfl⟩ d (.int _ _) .none .none (λ h=>nomatch h) ?_ (by rw[rs.sz];exact gH hz);rw[slicePick_plain];rw[show ((vs.toArray.toList.drop (j3 (ah (b:Int)) 0 (mY vs.toArray.size))).take (j3 ai vs.toArray.size (mY vs.toArray.size)-j3 (ah (b:Int)) 0 (mY vs.toArray.size)))=vs.drop b by
  show DP (vs.length-mY vs.length b) (List.drop (mY vs.length b) vs)=_;rw[we,lG (cq fF)];rcases x2 b vs.length with c|c
  ·rw[jt c]
  ·rw[rW c,lI c,lI (aT _)]]
 exact R.Tv ok (rs.drop b) h) d
theorem HN(l:1<=b)(k:b<=xs.length)(hz:xs.length<=2^20)(h:Q (.tup (xs.drop b)) Y):l0 O Ex (.tup xs) (.int b) .none Q Y:=λ Kp Jj s m f d sl R i g j c=>i.Rn λ a vs n e rs=>g.Rc (Q:=λ f=>s.heap.IsSliceOf sl f d .none->_) (λ Z=>j.RE (Q:=λ d=>s.heap.IsSliceOf sl _ d .none->_) λ c=>getItem_tuple_from ⟨_,R.sub _ _ e,rfl,_,rfl⟩ c l (by simp only[rs.sz];exact k) (R.VZ (tk:=s.toks) (n:=0) (λ b o e=>aL _ e) (dh _) (bO _ rfl) (rs.drop b) h) (by rw[rs.sz];exact gH hz)) c
theorem Ey(d:x.length=1)(h:Q (.str x) Y):l0 O Ex (.str x) .none (.int 1) Q Y:=λ Kp Jj s i a c sl R f e g b=>f.Rh λ t=>g.Rc (Q:=λ c=>s.heap.IsSliceOf sl a c .none->_) (λ u=>e.RE (Q:=λ a=>s.heap.IsSliceOf sl a _ .none->_) λ b=>by
 refine wpAny_getItem_str_slice (l:=ai) (u:=ah (1,u)) (st:=ai) b rfl ?_;rw[show sliceMade x t ai (ah (1,u)) ai=.val (.str x t)by unfold sliceMade;rw[show slicePicked x ai (ah (1,u)) ai=[0] by unfold slicePicked;rw[d];rfl,d];rfl]
 exact fin _ _ R (.str _ _) h) b
structure IL(O:FC)(Y:St)(Kp:b7)(Jj:List (aG×Obj))(I:aG)(s:aR):Prop where
 gF:I∉O.fp++addrs Y.mu
 gK:∀o,¬Kp I o
 gJ:∀p∈Jj,p.1≠I
 gO:O.h₀.get? I=ai
 gL:I≠O.fL
 gC:∀u,¬s.heap.IsCell I u
theorem cQ.off(R:cQ O Y Kp Jj s)(Oo:IL O Y Kp Jj I s){h':Heap}{tk:Nat}(k:∀b d,b≠I->s.heap.get? b=ah d->h'.get? b=ah d):cQ O Y Kp Jj {s with heap:=h',toks:=tk}:=by
 obtain ⟨⟨m,t,Z⟩,hc,z,nd,Q,lv,C,gh,q,⟨K,S⟩,o,A,al,st⟩:=R;refine za gh λ T E=>?_;obtain ⟨X,N,V,J,W,M⟩:=Oo;have y:∀b∈O.fp++addrs Y.mu,b≠I:=λ b g e=>X (e▸g);have D:∀{L:aG} {m:Str->Option Value},L≠I->s.heap.Ns L m->h'.Ns L m:=λ P w=>by refine kj w λ d es ep f j r=>?_;exact ⟨d,es,ep,k _ _ P f,j,r⟩
 have F:∀{c:aG} {u:Option Value},s.heap.IsCell c u->h'.IsCell c u:=λ {c u} H=>by refine b4 (id H) λ d f j=>?_;refine ⟨d,k _ _ ?_ f,j⟩;rintro rfl;exact M _ H
 refine ⟨⟨m,D (y _ (by simp[FC.fp])) t,λ i x kk v a b=>?_⟩,λ i x c e=>by refine ze (hc i x c e) λ u U=>?_;exact ⟨u,F U⟩,λ p h=>(z p h).mono (.refl _) λ b g d e=>k b d (y b (ax _ (dr h g))) e,nd,Q,λ b g=>?_,λ b d e=>⟨k b d (λ l=>N d (l▸e)) (C b d e).1,(C b d e).2⟩,
  ⟨T,λ p h=>⟨k _ _ (V p h) (E p h).1,(E p h).2⟩⟩,λ b d e n=>k b d (λ l=>by rw[l,J]at e;exact nomatch e) (q b d e n),⟨K,D (Ne.symm W) S⟩,o,A,λ b d e=>?_,st⟩
 ·have:=Z i x kk v a b;cases kk with
  |loc=>exact this
  |Rl c=>exact let ⟨u,f,j⟩:=this;⟨u,F f,j⟩
  |glob=>exact this
  |other=>exact this
 ·refine ze (lv b g) λ d B=>?_;exact ⟨d,k b d (y b g) B⟩
 ·refine ze (al b d e) λ G f=>?_;exact ⟨G,k b G (λ l=>by rw[l,J]at e;exact nomatch e) f⟩
theorem cQ.drop{p:aG×Obj}(R:cQ O Y Kp (p::Jj) s):cQ O Y Kp Jj s:={R with ghost:=⟨(bB.mp R.ghost.1).2,λ q a=>R.ghost.2 q (.tail _ a)⟩}
theorem cQ.but(R:cQ O Y Kp ((I,o)::Jj) s){h':Heap}{tk:Nat}(k:∀b d,b≠I->s.heap.get? b=ah d->h'.get? b=ah d):cQ O Y Kp Jj {s with heap:=h',toks:=tk}:=by
 refine NX (R.ghost.2 (I,o) cf) λ f l j n vs g=>?_;refine R.drop.off ⟨l,j,λ p h e=>(bB.mp R.ghost.1).1 (aC.mpr ⟨p,h,e⟩),n,λ e=>?_,λ u i=>b4 i λ d c a=>?_⟩ k
 ·refine x6 R.frame λ m d es ep c a Z=>?_;simp only[<-e,f]at c;cases c;rw[g]at a;exact nomatch a
 ·rw[f]at c;cases c;rw[g]at a;exact nomatch a
theorem cQ.TM{I:aG}{o d:Obj}{vs:Array Value}(R:cQ O Y Kp ((I,o)::Jj) s){h':Heap}{tk:Nat}(j:Heap.SameBut I s.heap h')(i:h'.get? I=ah d)(hd:d.data=.fields vs):
 cQ O Y Kp ((I,d)::Jj) {s with heap:=h',toks:=tk}:=by
 have R':=R.but (h':=h') (tk:=tk) (λ b k h e=>(j.2 b h).trans e);have g:=R.ghost;have a:=g.2 (I,o) cf;exact {R' with ghost:=⟨g.1,λ p c=>by
  refine b6 (aI.mp c) (λ f=>?_) λ c=>?_
  ·subst f;exact ⟨i,a.2.1,a.2.2.1,a.2.2.2.1,vs,hd⟩
  ·exact R'.ghost.2 p c⟩}
theorem cQ.TN(R:cQ O Y Kp Jj s){o:Obj}{vs:Array Value}{tk:Nat}(hd:o.data=.fields vs):cQ O Y Kp ((s.heap.objs.size,o)::Jj) {s with heap:=s.heap.push o,toks:=tk}:=by
 have R':cQ O Y Kp Jj {s with heap:=s.heap.push o,toks:=tk}:=R.keeps λ b g e=>aL _ e
 have c:=dh s.heap;have f:(s.heap.push o).get? s.heap.objs.size=ah o:=bO _ (Obj.isFreed_of_fields hd);exact {R' with ghost:=⟨by
  simp only[be,bB];refine ⟨λ h=>?_,R.ghost.1⟩;refine b4 (aC.mp h) λ p a e=>?_;have:=(R.ghost.2 p a).1;rw[e,c]at this;exact absurd this (by simp),λ p a=>by
  refine b6 (aI.mp a) (λ d=>?_) λ a=>?_
  ·subst d;exact ⟨f,(R.RM c).1,λ i h=>(by have:=R.sub _ _ h;rw[c]at this;exact nomatch this),(R.RM c).2,vs,hd⟩
  ·exact R'.ghost.2 p a⟩}
structure uK(O:FC)(A:Around)(K_:b7)(it:Value)(n:Nat)(c_:St->Prop)(xs:Nat->V)(Tc:Nat->aG×Obj->Prop):Prop where
 next:∀i Y Kp Jj s g Q E,K_.le Kp->i<n->c_ Y->Tc i g->cQ O Y Kp (g::Jj) s->(∀u s' g',Tc (i+1) g'->cQ O Y Kp (g'::Jj) s'->VR O.P Kp u (xs i)->Q (ah u) s')->aW (bn O.G.prog O.G.w) A (wO it) Q E s
 done:∀Y Kp Jj s g Q E,K_.le Kp->c_ Y->Tc n g->cQ O Y Kp (g::Jj) s->(∀s',cQ O Y Kp Jj s'->Q ai s')->aW (bn O.G.prog O.G.w) A (wO it) Q E s
 letGo:∀i Y Kp Jj s g t u Q E,Tc i g->cQ O Y Kp (g::Jj) s->Q () s->aW (bn O.G.prog O.G.w) A (nA t it u) Q E s
 self:∀i Y Kp Jj s g Q E,Tc i g->cQ O Y Kp (g::Jj) s->Q it s->aW (bn O.G.prog O.G.w) A (pyIter it) Q E s
noncomputable def i3(O:FC)(A:Around)(v:V)(n:Nat)(xs:Nat->V)(c_:St->Prop)(Y:St):Prop:=
 ∀Ex Kp Jj s u Q,cQ O Y Kp Jj s->VR O.P Kp u v->(∀it Tc g s',(∀O':FC,O'.G=O.G->uK O' A Kp it n c_ xs Tc)->Tc 0 g->(∀b o,s.heap.get? b=ah o->s'.heap.get? b=ah o)->s.heap.get? g.1=ai->cQ O Y Kp (g::Jj) s'->Q it s')->aW (bn O.G.prog O.G.w) A (pyIter u) Q Ex s
theorem vS(h:i<xs.length):xs[i]? =ah (xs.getD i .none):=by rw[aD,ay h];rfl
theorem uK.of{K_:b7}{n:Nat}{c_:St->Prop}{xs:Nat->V}(D:Nat->Obj->Prop)(y:A.handled=ai)(next:∀i Y Kp Jj s o Q E,K_.le Kp->i<n->c_ Y->D i o->s.heap.get? I=ah o->cQ O Y Kp ((I,o)::Jj) s->(∀u h' tk f vs,D (i+1) f->Heap.SameBut I s.heap h'->h'.get? I=ah f->f.data=.fields vs->VR O.P Kp u (xs i)->Q (ah u) {s with heap:=h',toks:=tk})->aW (bn O.G.prog O.G.w) A (wO (.ref I)) Q E s)(done:∀Y Kp Jj s o Q E,K_.le Kp->c_ Y->D n o->s.heap.get? I=ah o->cQ O Y Kp ((I,o)::Jj) s->(∀h',(∀b p,b≠I->s.heap.get? b=ah p->h'.get? b=ah p)->Q ai {s with heap:=h'})->aW (bn O.G.prog O.G.w) A (wO (.ref I)) Q E s)(a:∀i s o t u Q E,D i o->s.heap.get? I=ah o->Q () s->aW (bn O.G.prog O.G.w) A (nA t (.ref I) u) Q E s)(c:∀i s o Q E,D i o->s.heap.get? I=ah o->Q (.ref I) s->aW (bn O.G.prog O.G.w) A (pyIter (.ref I)) Q E s):uK O A K_ (.ref I) n c_ xs (λ i g=>g.1=I/\D i g.2):=by
 have at_:∀{Y Kp Jj s} {g:aG×Obj},g.1=I->cQ O Y Kp (g::Jj) s->s.heap.get? I=ah g.2/\cQ O Y Kp ((I,g.2)::Jj) s:=λ {Y Kp Jj s g} e R=>by subst e;exact ⟨(R.ghost.2 _ (.head _)).1,R⟩
 exact ⟨λ i Y Kp Jj s g Q E l hi j m R k=>by refine za m λ e hd=>?_;exact next i Y Kp Jj s g.2 Q E l hi j hd (at_ e R).1 (at_ e R).2 λ u h' tk f vs d v r q w=>k u _ (I,f) ⟨rfl,d⟩ ((at_ e R).2.TM v r q) w,
  λ Y Kp Jj s g Q E l j h R k=>by refine za h λ e hd=>?_;exact done Y Kp Jj s g.2 Q E l j hd (at_ e R).1 (at_ e R).2 λ h' x=>k _ ((at_ e R).2.but (tk:=s.toks) x),
  λ i Y Kp Jj s g t u Q E ⟨e,hd⟩ R k=>a i s g.2 t u Q E hd (at_ e R).1 k,λ i Y Kp Jj s g Q E ⟨e,hd⟩ R k=>c i s g.2 Q E hd (at_ e R).1 k⟩
theorem i3.of{n:Nat}{xs:Nat->V}{c_:St->Prop}{Q:Value->aR->Prop}(D:Nat->Obj->Prop)(R:cQ O Y Kp Jj s){o:Obj}{vs:Array Value}(j:o.data=.fields vs)(hd:D 0 o)(q:∀f c g s',(∀a:FC,a.G=O.G->uK a A Kp f n c_ xs c)->c 0 g->(∀b o,s.heap.get? b=ah o->s'.heap.get? b=ah o)->s.heap.get? g.1=ai->cQ O Y Kp (g::Jj) s'->Q f s')(h:∀a:FC,a.G=O.G->a.P=O.P->uK a A Kp (.ref s.heap.objs.size) n c_ xs (λ i g=>g.1=s.heap.objs.size/\D i g.2)):Q (.ref s.heap.objs.size) {s with heap:=s.heap.push o}:=
 q _ _ (s.heap.objs.size,o) _ (λ a d=>h a d (congrArg (·.w.params) d)) ⟨rfl,hd⟩ (λ b o e=>aL _ e) (dh _) (R.TN (tk:=s.toks) j)
noncomputable def M_(T:String)(l:aG)(i:Nat)(o:Obj):Prop:=o.cls=.type T/\o.data=.fields #[.ref l,.int i 0]
theorem uK.list{A:Around}{K_:b7}{I a:aG}{xs:List V}{c_:St->Prop}(B:A.handled=ai)
 (e:∀Y Kp Jj s,K_.le Kp->c_ Y->cQ O Y Kp Jj s->NS O.P Kp s.heap xs (.ref a)):
 uK O A K_ (.ref I) xs.length c_ (λ i=>xs.getD i .none) (λ i g=>g.1=I/\M_ "list_iterator" a i g.2):=
 .of (M_ "list_iterator" a) B (λ i Y' n J' s' o z E p hi m ⟨d,hd⟩ b R' k=>by
  obtain ⟨_,y,C,r,c⟩:=e _ _ _ _ p m R';refine b4 (c.get (vS hi)) λ w D F=>?_;exact wpAny_pyNext_list_item (l:=a) (i:=i) ⟨_,b,d,hd⟩ ⟨_,r,rfl,_,rfl⟩ (x:=w) (by (refine (b5).trans ?_);exact D) λ h' ⟨H,v,q,j⟩ G=>k w h' s'.toks H _ ⟨q,j⟩ G v j F)
  (λ Y' n J' s' o z E p m ⟨d,hd⟩ b R' k=>by obtain ⟨_,y,C,r,c⟩:=e _ _ _ _ p m R';exact wpAny_pyNext_list_end B (l:=a) (i:=xs.length) ⟨_,b,d,hd⟩ ⟨_,r,rfl,_,rfl⟩ (by (refine (b5).trans ?_);exact bl (cq c.length)) k)
  (λ i s' o t u z E h b k=>by refine za h λ d hd=>?_;exact letGo_listiter (i:=i) ⟨_,b,d,hd⟩ k) λ i s' o z E f b k=>by refine za f λ d hd=>?_;exact wpAny_pyIter_listiter (i:=i) ⟨_,b,d,hd⟩ k
theorem kW(c:A.handled=ai):i3 O A (.list xs) xs.length (λ i=>xs.getD i .none) (λ Z=>True) Y:=λ Ex Kp Jj s u Q R d q=>d.listE λ a vs n e rs=>IR ⟨_,R.sub _ _ e,rfl,_,rfl⟩ (i3.of (M_ "list_iterator" a) R rfl ⟨rfl,rfl⟩ q λ g j h=>uK.list c λ Y' f J' s' b Z R'=>⟨_,_,_,R'.sub _ _ (b _ _ e),(h▸rs:di g.P Kp vs xs).mono b⟩)
theorem pX{a:aG}(b:A.handled=ai)(g:(a,MO.list xs)∈Y.mu):i3 O A (.ref a) xs.length (λ i=>xs.getD i .none) (λ Y=>(a,MO.list xs)∈Y.mu) Y:=λ Ex Kp Jj s u Q R c q=>c.Rw ((R.mu _ g).listE λ vs n e rs=>IR ⟨_,e,rfl,_,rfl⟩ (i3.of (M_ "list_iterator" a) R rfl ⟨rfl,rfl⟩ q λ k h l=>uK.list b λ Y' f J' s' j d R'=>(R'.mu _ d).listE λ vs n e rs=>⟨_,_,_,e,rs⟩))
theorem uY(v:A.handled=ai):i3 O A (.tup xs) xs.length (λ i=>xs.getD i .none) (λ Z=>True) Y:=λ Ex Kp Jj s u Q R C q=>C.Rn λ a vs n e rs=>by
 have j:∀{r:FC} {Y' c J' s'},Kp.le c->cQ r Y' c J' s'->s'.heap.IsTuple a vs.toArray:=λ f R'=>⟨_,R'.sub _ _ (f _ _ e),rfl,_,rfl⟩;refine Hc (j (.refl _) R) (i3.of (M_ "tuple_iterator" a) R rfl ⟨rfl,rfl⟩ q λ r H G=>.of _ v (λ i Y' c J' s' o p E f hi y ⟨d,hd⟩ b R' k=>?_) (λ Y' c J' s' o p E f y ⟨d,hd⟩ b R' k=>?_)
  (λ i s' o t u p E ⟨d,hd⟩ b k=>letGo_tupleiter (i:=i) ⟨_,b,d,hd⟩ k) λ i s' o p E ⟨d,hd⟩ b k=>wpAny_pyIter_tupleiter (i:=i) ⟨_,b,d,hd⟩ k)
 ·refine b4 (rs.get (vS hi)) λ w z B=>?_;exact AD (t:=a) (i:=i) ⟨_,b,d,hd⟩ (j f R') (x:=w) (by (refine (b5).trans ?_);exact z) λ h' g D=>by refine ew g λ F m l h=>?_;exact k w h' s'.toks F _ ⟨l,h⟩ D m h (G▸B.mono f)
 ·exact AP v (t:=a) (i:=xs.length) ⟨_,b,d,hd⟩ (j f R') (by (refine (b5).trans ?_);exact bl (cq rs.length)) k
theorem zS{prog:se}{w:I0}{A:Around}{E:Value->aR->Prop}{target:Expr}{I:aG}{x l st:Int}{v:Value}{b:Unit->aR->Prop}{s':aR}(a:IsRangeIter s'.heap I x l st)(h:b () s'):
 aW (bn prog w) A (nA target (.ref I) v) b E s':=by
 skip;cases target<;>first
  |exact az h
  |(cases v<;>first
   |exact az h
   |(refine aw (wpAny_load a ?_);exact az h))
theorem vA(a b:Int):Builtin.Range.rangeSize a b 1=((b-a).toNat:Int):=by
 show (if a<b then (b-a-1)/1+1 else 0)=_;by_cases h:a<b
 ·refine (if_pos h).trans ?_;rw[Int.ediv_one];exact OS h
 ·refine (if_neg h).trans ?_;exact OR h
theorem p8{x:Int}(a: -10000000<x)(b:x<10000000):Builtin.Range.rangeFitsLong x=aj:=by unfold Builtin.Range.rangeFitsLong;simp only[cW,decide_eq_true_eq];exact OQ a b
theorem zx{a b:Int}(hz: -1000000<a/\a<1000000/\ -1000000<b/\b<1000000):Builtin.Range.small a b 1=aj:=by unfold Builtin.Range.small;rw[vA,p8 (x:=a) (OP hz) (OO hz),p8 (x:=b) (ON hz) (OM hz),p8 (x:=((b-a).toNat:Int)) (br _) (OL hz),if_pos (by decide),p8 (x:=b+(1-1)) (OK hz) (OJ hz)];rw[Bool.or_true];rfl
noncomputable def zy(a l:Int)(i:Nat)(o:Obj):Prop:=o={cls:=.type "range_iterator",data:=.fields #[iY (a+i),iY (l-i),iY 1]}
theorem FV{a b:Int}(h:A.handled=ai)(hz: -1000000<a/\a<1000000/\ -1000000<b/\b<1000000):i3 O A (.SO a b) (b-a).toNat (λ i=>.int (a+i)) (λ Z=>True) Y:=λ Ex Kp Jj s u Q R n q=>n.W4 λ r t v j e=>by
 refine wpAny_pyIter_range (R.sub _ _ e) (zx hz) ?_;rw[vA];refine i3.of (zy a ((b-a).toNat:Int)) R rfl (by unfold zy;(dsimp only[Int.natCast_zero];rw[gE,Int.sub_zero])) q λ w x y=>.of _ h (λ i Y' f J' s' o g E m hi l hd c R' k=>?_) (λ Y' f J' s' o g E m l hd c R' k=>?_) (λ i s' o t u g E hd c k=>?_) λ i s' o g E hd c k=>?_
 ·unfold zy at hd;subst hd;refine wpAny_pyNext_range_item c (OI hi) λ h' d p=>k _ h' _ _ _ ?_ p d rfl (.int _ _);show _=_;simp only[Int.natCast_succ,wH,Int.sub_sub]
 ·unfold zy at hd;subst hd;exact wpAny_pyNext_range_end h c OH k
 ·unfold zy at hd;subst hd;exact zS c k
 ·unfold zy at hd;subst hd;exact wpAny_pyIter_rangeiter c k
theorem jr{n:Int}(h:Q (.SO 0 n) Y):cS O Ex (.type "range") [.int n] Q Y:=.one λ Kp Jj s u R a=>a.Rc λ Z=>call_range_1 (R.Up (λ b o e=>aL _ e) (dh _) (bO _ rfl) (.SO (b7.Rq _ _ _)) h)
theorem C9{a b:Int}(h:Q (.SO a b) Y):cS O Ex (.type "range") [.int a,.int b] Q Y:=.two λ Kp Jj s u f R d c=>d.Rc λ Z=>c.Rc λ Z=>call_range_2 (R.Up (λ b o e=>aL _ e) (dh _) (bO _ rfl) (.SO (b7.Rq _ _ _)) h)
theorem Fh{P:bQ}(E:f_ P S es kvs):(∀p∈kvs,kk p.1=1)->
 ∃rows:List (Int×Value),PySem.Pairs (j_ prog w) es rows/\rows.map (λ r=>V.int r.1)=kvs.map (·.1)/\∀e∈es,∃k,(j_ prog w).is k e.key=aj/\e.hash=hashInt k:=
 E.ind (λ Z=>⟨[],.nil,rfl,λ Z h=>nomatch h⟩) λ ku u es k v kvs a b Z j h=>by refine ew (j λ p d=>h p (.tail _ d)) λ rows l f g=>?_;refine ze (nh (h _ (.head _))) λ i e=>?_;subst e;refine ze (yb a) λ t c=>?_;subst c;exact ⟨(i,u)::rows,.cons (beq_self_eq_true i) rfl l,congrArg _ f,i8.mpr ⟨⟨i,beq_self_eq_true i,rfl⟩,g⟩⟩
theorem uf{P:bQ}{S:b7}{prog:se}{w:I0}{h:Heap}{d:aG}{es:List bL}{ep:Nat}{kvs:List (V×V)}(hd:h.get? d=ah (W.dictOf es ep))(E:f_ P S es kvs)(hk:∀p∈kvs,kk p.1=1)(nd:(kvs.map (·.1)).Nodup):
 ∃rows:List (Int×Value),h.DictAt (j_ prog w) d rows ep/\rows.map (λ r=>V.int r.1)=kvs.map (·.1)/\rows.length=kvs.length:=by
 refine ew (Fh (prog:=prog) (w:=w) E hk) λ rows g a c=>?_;refine ⟨rows,⟨_,es.toArray,hd,⟨rfl,rfl,rfl⟩,rfl,λ e f=>c e (eT.mp f),g,?_⟩,a,by have:=congrArg dv a;rwa [au,au]at this⟩;simp only[<-a]at nd;rw[aO,bS]at nd ⊢;exact nd.imp λ b e=>b (by exact congrArg _ e)
noncomputable def Pe(d:aG)(n ep i:Nat)(o:Obj):Prop:=o.cls=.type "dict_keyiterator"/\o.data=.fields #[.ref d,.int i 0,.int n 0,.int ep 0]
theorem A6(F:A.handled=ai)(hk:∀p∈kvs,kk p.1=1)(nd:(kvs.map (·.1)).Nodup):i3 O A (.dict kvs) kvs.length (λ i=>(kvs.map (·.1)).getD i .none) (λ Z=>True) Y:=λ Ex Kp Jj s u Q R I q=>I.RL λ d es ep J e rs=>by
 have y:∀{n:FC} {Y' c J' s'},Kp.le c->cQ n Y' c J' s'->∃rows:List (Int×Value),s'.heap.DictAt (j_ n.G.prog n.G.w) d rows ep/\rows.map (λ r=>V.int r.1)=kvs.map (·.1)/\rows.length=kvs.length:=λ j R'=>uf (R'.sub _ _ (j _ _ e)) rs hk nd;refine ew (y (.refl _) R) λ rows h w a=>?_;refine wpAny_pyIter_dict J h ?_;rw[a];clear h w a rows;refine i3.of (Pe d kvs.length ep) R rfl ⟨rfl,rfl⟩ q λ n L M=>.of _ F (λ i Y' c J' s' o D E j hi G ⟨g,hd⟩ b R' k=>?_) (λ Y' c J' s' o D E j G ⟨g,hd⟩ b R' k=>?_) (λ i s' o t u D E ⟨g,hd⟩ b k=>letGo_keyiter (i:=i) ⟨_,b,g,hd⟩ k) λ i s' o D E ⟨g,hd⟩ b k=>wpAny_pyIter_keyiter (i:=i) ⟨_,b,g,hd⟩ k
 ·refine ew (y j R') λ rows h w a=>?_;have l:i<rows.length:=a▸hi;refine wpAny_pyNext_dict_item (i:=i) (k:=rows[i].1) (v:=rows[i].2) (kvs:=rows) ⟨_,b,g,by rw[a];exact hd⟩ h (ay l) λ H h' m ⟨K,B,z,f⟩ x=>?_;rw[a]at f;refine k _ h' s'.toks K _ ⟨z,f⟩ x B f ?_;refine ze (Value.isInt_shape m) λ t C=>?_;subst C;simp only[<-w,aD,aN,ay l];exact .int _ _
 ·refine ew (y j R') λ rows h w a=>?_;exact wpAny_pyNext_dict_end F (kvs:=rows) (i:=kvs.length) ⟨_,b,g,by rw[a];exact hd⟩ h (bl (cq a)) k
noncomputable def XA(O:FC)(Ex:Value->aR->Prop)(t:Value->Sem Unit)(v:V)(Q:St->Prop)(Y:St):Prop:=
 ∀Kp Jj s u,cQ O Y Kp Jj s->VR O.P Kp u v->aW (bn O.G.prog O.G.w) O.A (t u) (λ Z s'=>∃Y',cQ O Y' Kp Jj s'/\Q Y') Ex s
noncomputable def Ny(O:FC)(Ex:Value->aR->Prop)(ts:List (Value->Sem Unit))(vs:List V)(Q:St->Prop)(Y:St):Prop:=
 ∀Kp Jj s us,cQ O Y Kp Jj s->di O.P Kp us vs->aW (bn O.G.prog O.G.w) O.A (assignInOrder ts us) (λ Z s'=>∃Y',cQ O Y' Kp Jj s'/\Q Y') Ex s
theorem Dw{v:V}{Q:St->Prop}(i:Nat)(ok:O.Ok)(b:nq O i x)(h:Q (Y.set i v)):XA O Ex (d9 (.Name x pos) O.env) v Q Y:=λ Kp Jj s u R a=>IT (qu ok b R a λ s' R'=>⟨_,R',h⟩)
theorem xQ{Q:St->Prop}(h:Q Y):Ny O Ex [] [] Q Y:=λ Kp Jj s us R a=>by cases a;exact az ⟨_,R,h⟩
noncomputable def QN(O:FC)(Ex:Value->aR->Prop)(ts:List (Value->Sem Unit))(vs:List V)(Q:St->Prop)(Y:St):Prop:=Ny O Ex ts vs Q Y
theorem jO{t:Value->Sem Unit}{a:List (Value->Sem Unit)}{v:V}{Q:St->Prop}(h:XA O Ex t v (QN O Ex a vs Q) Y):Ny O Ex (t::a) (v::vs) Q Y:=λ Kp Jj s us R d=>by
 cases d with
 |cons f c=>show aW _ _ (kc _ (t _)>>=λ Z=>assignInOrder a _) _ _ _;exact aw (bD (aY (h Kp Jj s _ R f) (λ Z s' b=>by refine b4 b λ Y' R' q=>?_;exact q Kp Jj s' _ R' c) λ Z Z e=>e))
theorem cQ.TO(R:cQ O Y Kp Jj s){h':Heap}{tk:Nat}(a:Heap.ExtBut s.heap.objs.size s.heap h'):cQ O Y Kp Jj {s with heap:=h',toks:=tk}:=
 R.keeps λ b o e=>a b o (λ c=>by have:=cm e;rw[c]at this;exact bA _ this) e
theorem G9{b:List (Value->Sem Unit)}{Q:St->Prop}(ok:O.Ok)(c:(dY elts O.env).map (·.2)=b)(g:(dY elts O.env).length=vs.length)(a:(dY elts O.env).findIdx? (·.1)=ai)(h:Ny O Ex b vs Q Y):XA O Ex (d9 (.Tuple elts k pos) O.env) (.tup vs) Q Y:=λ Kp Jj s u R d=>by
 cases d with
 |tup e rs=>refine wpAny_assign_Tuple ok.hand ⟨_,R.sub _ _ e,rfl,_,rfl⟩ (by simp only[g,bH,rs.length]) a λ h' f=>?_;simp only[c];exact h Kp Jj _ _ (R.TO (tk:=s.toks) f) rs
theorem II{v:V}{c:List (Value->Sem Unit)}{Q:St->Prop}(ok:O.Ok)(j:LV Y v vs)(i:(dY elts O.env).map (·.2)=c)(g:(dY elts O.env).length=vs.length)(b:(dY elts O.env).findIdx? (·.1)=ai)(h:Ny O Ex c vs Q Y):XA O Ex (d9 (.Tuple elts k pos) O.env) v Q Y:=λ Kp Jj s u R d=>by obtain ⟨a,us,n,e,rs⟩:=j.at R d;skip;refine aw (ej ?_);unfold unpack;rw[(show (dY elts O.env).length=us.toArray.size by simp only[g,bH,rs.length]),b];refine aw (bD (kun_itemsOf ok.hand ⟨_,e,rfl,_,rfl⟩ λ h' f=>?_));simp only[i];exact h Kp Jj _ _ (R.TO (tk:=s.toks) f) rs
noncomputable def M0(O:FC)(Ex:Value->aR->Prop)(target:Expr)(Q:Option (Option V)->St->Prop)(v:V)(Y:St):Prop:=XA O Ex (d9 target O.env) v (Q ai) Y
theorem y7{Q:Option (Option V)->St->Prop}(h:XV O Ex (bv e O.env) (M0 O Ex (.Tuple elts k pos') Q) Y)(j:eg e (ah (.Tuple elts k pos')) pos.line O.env=pure ao)(i:swappedStores [.Tuple elts k pos'] e O.env=pure ai):XF O Ex (gc (.Assign [.Tuple elts k pos'] e pos) O.env) Q Y:=λ Kp Jj s R=>wpAny_Assign_stores (h.Q6 R λ u d v g Kk l₁ c l h₁=>by show aW _ _ (assignAll u [d9 (.Tuple elts k pos') O.env]) _ _ _;exact aY (h₁ Kk Jj d u c l) (λ Z Q8 f=>by refine b4 f λ a b q=>?_;exact ⟨ai,a,Kk,l₁,b,.next,q⟩) λ Z Z e=>e) j i
noncomputable def Nb(O:FC)(Ex:Value->aR->Prop):Value->aR->Prop:=
 notedBy (bn O.G.prog O.G.w) O.A O.env λ e s'=>Hi (bn O.G.prog O.G.w) O.A O.env Ex e s'
theorem X.exc{a:Value->aR->Prop}{t:Sem α}{R:b7->α->β->Prop}{Q:β->St->Prop}(b:∀e s,a e s->Ex e s)(h:X O a t R Q Y):X O Ex t R Q Y:=λ Kp Jj s r=>aY (h Kp Jj s r) (λ Z Z q=>q) b
noncomputable def oo(Q:Option (Option V)->St->Prop)(Jn:St->Prop)(fl:Option (Option V))(Y:St):Prop:=match fl with|some (ah r)=>Q (ah (ah r)) Y|_=>Jn Y
inductive G0(n:Nat)(I:Nat->St->Prop)(Y:St):Prop
 |mk (m:Nat) (h:m<n) (q:I m Y)
noncomputable def Pf(O:FC)(Ex:Value->aR->Prop)(body:List Stmt)(Q:Option (Option V)->St->Prop)(Jn:St->Prop)(b:Bool)(Y:St):Prop:=if b=aj then XF O Ex (eI body O.env) (oo Q Jn) Y else Q ai Y
noncomputable def qe(O:FC)(Ex:Value->aR->Prop)(body:List Stmt)(Q:Option (Option V)->St->Prop)(Y:St):Prop:=XF O Ex (eI body O.env) Q Y
inductive Pz(O:FC)(Ex:Value->aR->Prop)(target:Expr)(body:List Stmt)(I:Nat->St->Prop)(Q:Option (Option V)->St->Prop)(v:V)(Y:St):Prop
 |mk (n:Nat) (xs:Nat->V) (c_:St->Prop) (W:i3 O O.A v n xs c_ Y) (h0:I 0 Y) (hG:∀i Y,i<=n->I i Y->c_ Y)
  (step:∀i Y,i<n->I i Y->XA O Ex (d9 target O.env) (xs i) (qe O Ex body (oo Q (I (i+1)))) Y) (fin:∀Y,I n Y->Q ai Y)
theorem i3.as{v:V}{n:Nat}{xs:Nat->V}{c_:St->Prop}(W:i3 O A v n xs c_ Y)(f:Nat->V)(h:∀i,i<n->xs i=f i):i3 O A v n f c_ Y:=λ Ex Kp Jj s u Q R p k=>W Ex Kp Jj s u Q R p λ r m g s' j=>k r m g s' λ l e=>⟨λ i Y Kp Jj s g Q E a hi b c d q=>(j l e).next i Y Kp Jj s g Q E a hi b c d λ u s' o x y z=>q u s' o x y (h i hi▸z),(j l e).done,(j l e).letGo,(j l e).self⟩
theorem pU{Q:Option (Option V)->St->Prop}(I:Nat->St->Prop)(v:∀e s,ExB e s->Nb O Ex e s)(step:∀n Y,I n Y->XB O ExB (eu test O.env (bv test O.env)) (Pf O ExB body Q (G0 n I)) Y)(n:Nat)(h:I n Y):XF O Ex (gc (.While test body [] pos) O.env) Q Y:=λ Kp Jj s R=>by
 refine wpAny_While (codeAny_whileLoop (λ n s=>∃Y K',Kp.le K'/\cQ O Y K' Jj s/\I n Y) (λ n p t=>fo t λ l K_ d o r=>?_) n ⟨Y,Kp,.refl _,R,h⟩);refine aY (X.exc v (step n l r) K_ Jj p o) (λ b Q8 t=>Pt.on t λ c i Kk l₁ k e q=>?_) λ Z Z e=>e;cases e;cases b with
 |false=>exact az ⟨ai,i,Kk,d.trans l₁,k,.next,q⟩
 |true=>
  refine aY (X.exc v (show XF O ExB (eI body O.env) (oo Q (G0 n I)) i from q) Kk Jj Q8 k) (λ f Rz t=>Pt.on t λ c a j l₂ g w q=>?_) λ Z Z e=>e;cases w with
  |next=>obtain ⟨m,u,r⟩:=q;exact ⟨m,u,a,j,(d.trans l₁).trans l₂,g,r⟩
  |cont=>obtain ⟨m,u,r⟩:=q;exact ⟨m,u,a,j,(d.trans l₁).trans l₂,g,r⟩
  |ret x=>exact ⟨_,a,j,(d.trans l₁).trans l₂,g,.ret x,q⟩
inductive PM(O:FC)(Jj:List (aG×Obj))(Kk:b7)(n:Nat)(Tc:Nat->aG×Obj->Prop)(I:Nat->St->Prop)(k:Nat)(s:aR):Prop
 |mk (i:Nat) (Y:St) (K:b7) (g:aG×Obj) (hk:i+k=n) (l:Kk.le K) (hc:Tc i g) (R:cQ O Y K (g::Jj) s) (q:I i Y)
theorem lm{Q:Option (Option V)->St->Prop}(I:Nat->St->Prop)(hE:∀e s,ExB e s->Nb O Ex e s)(h:XV O Ex (bv iter O.env) (Pz O ExB target body I Q) Y)(hs:∀x,eH iter O.env x=pure x):XF O Ex (gc (.For target iter body [] pos) O.env) Q Y:=λ Kp Jj s R=>by
 refine wpAny_For (h.Q6 R λ u L v A Kk l₁ F hv h₁=>?_) hs;obtain ⟨n,xs,c_,W,XI,hG,C,E⟩:=h₁;refine W Ex Kk Jj L u _ F hv λ it P g Q8 S J Z Z D=>?_;have It:=S O rfl;refine codeAny_forLoop_any (PM O Jj Kk n P I) (λ k Rz K=>?_) n ⟨0,A,Kk,g,cO n,.refl _,J,D,XI⟩;obtain ⟨i,a,d,y,hk,b,hc,z,N⟩:=K;cases k with
 |succ k=>
  have B:i<n:=hk▸ia (cp k);refine It.next i a d Jj Rz y _ _ b B (hG i a (bc B) N) hc z λ u' p j m o T=>?_;refine It.letGo (i+1) a d Jj p j target u' _ _ m o ?_;refine aY (C i a B N d (j::Jj) p u' o T) (λ Z H K=>b4 K λ U M q=>?_) hE;refine aY (q d (j::Jj) H M) (λ f YI K=>Pt.on K λ c l w t r hf q=>?_) hE;have G:i+1+k=n:=(cR i 1 k).trans hk;cases hf with
  |next=>exact ⟨k,b_ k,i+1,l,w,j,G,b.trans t,m,r,q⟩
  |cont=>exact ⟨k,b_ k,i+1,l,w,j,G,b.trans t,m,r,q⟩
  |ret X=>exact ⟨_,l,w,(l₁.trans b).trans t,r.drop,.ret X,q⟩
 |zero=>subst hk;exact It.done a d Jj Rz y _ _ b (hG i a (aT _) N) hc z λ p o=>az ⟨ai,a,d,l₁.trans b,o,.next,E a N⟩
noncomputable def C7(look:Str->aG):List (Str×NameKind)->List (Str×aG)->List (Str×aG)
 |[],acc=>acc
 |(n,k)::r,acc=>C7 look r (if k==.free then (n,look n)::acc else acc)
theorem Nj{a:Str->aG}{acc}:C7 a [] acc=(acc):=rfl
theorem Iv{a:Str->aG}{n k r acc}:C7 a ((n,k)::r) acc=(C7 a r (if k==.free then (n,a n)::acc else acc)):=rfl
theorem mR(h:∀x,(x,NameKind.free)∈scope.names->∃c,env.cells.lookup x=ah c):closureFor scope env=pure (C7 (λ x=>(env.cells.lookup x).getD 0) scope.names []):=by
 dsimp only[closureFor];generalize scope.names=l at h
 suffices H:∀(acc:List (Str×aG)),(forIn l acc (λ (x:Str×NameKind) (r:List (Str×aG))=>(if (x.2==NameKind.free)=aj then (do let a <-cellOf env x.1;pure (ForInStep.yield ((x.1,a)::r)))else pure (ForInStep.yield r):Sem _)):Sem (List (Str×aG)))=pure (C7 (λ x=>(env.cells.lookup x).getD 0) l acc)by
  have:=H []
  first
   |exact this
   |(show (forIn l [] _>>=λ r=>pure r)=_;rw[this];rfl)
 induction l with
 |nil=>intro acc;rfl
 |cons p r b=>
  intro acc;obtain ⟨n,k⟩:=p;simp only[jh];have b:=b λ x f=>h x (b8 _ f);by_cases hk:k=.free
  ·subst hk;refine ze (h n cf) λ c d=>?_;dsimp only[Nj,Iv,beq_self_eq_true,if_true];rw[(show cellOf env n=pure c by unfold cellOf;rw[d])];rw[d];exact b _
  ·have e:(k==NameKind.free)=ao:=by simpa using hk
   simp only[Iv,e,dC,if_false];exact b _
theorem xK{a:Str->aG}:∀{l:List (Str×NameKind)} {acc:List (Str×aG)} {x:Str},(l.map (·.1)).Nodup->(x,NameKind.free)∈l\/(x∉l.map (·.1)/\acc.lookup x=ah (a x))->(C7 a l acc).lookup x=ah (a x):=by
 intro l;induction l with
 |nil=>
  intro acc x Z h;rcases h with h|h
  ·exact nomatch h
  ·exact h.2
 |cons b r g=>
  obtain ⟨n,k⟩:=b;intro acc x d h;simp only[be,bB]at d;dsimp only[Nj,Iv];refine g d.2 ?_;rcases h with h|⟨c,f⟩
  ·rcases aI.mp h with e|h
   ·cases e;exact .inr ⟨d.1,by simp⟩
   ·exact .inl h
  ·simp only[be,aI,not_or]at c;refine .inr ⟨c.2,?_⟩;split
   ·simp only[bq,beq_eq_false_iff_ne.mpr c.1];exact f
   ·exact f
noncomputable def MZ(a:aG)(k:NameKind):NK:=NameKind.casesOn k .loc .other (.Rl a) .other .glob
theorem Fg{a:aG}{k:NameKind}(h:MZ a k=.loc):k=.local:=by cases k<;>first|rfl|cases h
theorem Co{a:aG}{k:NameKind}(h:MZ a k=.glob):k=.globalImplicit:=by cases k<;>first|rfl|cases h
theorem yC{a c:aG}{k:NameKind}(h:MZ a k=.Rl c):k=.free/\c=a:=by cases k<;>cases h;exact ⟨rfl,rfl⟩
noncomputable def GR(look:Str->aG)(l:List (Str×NameKind)):List (Str×NK):=l.map λ p=>(p.1,MZ (look p.1) p.2)
theorem zG(a:Str->aG)(l:List (Str×NameKind)):(GR a l).map (·.1)=l.map (·.1):=bs
theorem tW{a:Str->aG}{l:List (Str×NameKind)}{q:NK}(h:(GR a l)[i]? =ah (x,q)):∃k,l[i]? =ah (x,k)/\MZ (a x) k=q:=by refine b4 (bZ.mp (aN.symm.trans h)) λ p b c=>?_;cases p;cases c;exact ⟨_,b,rfl⟩
theorem EW{a:Str->aG}{l:List (Str×NameKind)}(h:(GR a l)[i]? =ah (x,.loc)):l[i]? =ah (x,.local):=by refine b4 (tW h) λ k b c=>?_;rw[<-Fg c];exact b
theorem B2{a:Str->aG}{l:List (Str×NameKind)}(h:(GR a l)[i]? =ah (x,.glob)):l[i]? =ah (x,.globalImplicit):=by refine b4 (tW h) λ k b c=>?_;rw[<-Co c];exact b
theorem qb{a:Str->aG}{l:List (Str×NameKind)}{c:aG}(h:(GR a l)[i]? =ah (x,.Rl c)):l[i]? =ah (x,.free)/\c=a x:=by refine b4 (tW h) λ k d b=>?_;rw[<-(yC b).1];exact ⟨d,(yC b).2⟩
noncomputable def n6(on:List Str)(vals:List (Option V))(cn:List (Str×NameKind)):List (Option V):=cn.map λ p=>if p.2==.free then (vals[on.idxOf p.1]?).join else ai
theorem rh(hk:env.scope.kind=.function):∀{a:List (Str×NameKind)} {i:Nat} {x:Str} {k:NameKind},(a.map (·.1)).Nodup->a[i]? =ah (x,k)->(k=.free->env.kindOf x=ah .cell)->
 (a.map λ (n,k)=>if (k==NameKind.free&&env.scope.kind==.function&&env.kindOf n==ah .cell)then (n,NameKind.cell)else (n,k)).lookup x=ah (if k=.free then .cell else k):=by
 intro a i x k d hi b;have c:(a.map λ (p:Str×NameKind)=>if (p.2==NameKind.free&&env.scope.kind==.function&&env.kindOf p.1==ah .cell)then (p.1,NameKind.cell)else (p.1,p.2))[i]? =ah (x,if k=.free then .cell else k):=by
  simp only[aN,hi];by_cases h:k=.free
  ·subst h;simp[hk,b rfl]
  ·have e:(k==NameKind.free)=ao:=by simpa using h
   simp[h]
 refine fR ?_ c;have:(a.map λ (p:Str×NameKind)=>if (p.2==NameKind.free&&env.scope.kind==.function&&env.kindOf p.1==ah .cell)then (p.1,NameKind.cell)else (p.1,p.2)).map (·.1)=a.map (·.1):=by refine bs.trans ?_;apply bE;intro p _;dsimp only[Function.comp];split<;>rfl
 simp only[this];exact d
structure uN(O O':FC)(scope:iD):Prop where
 ok:O'.Ok
 G:O'.G=O.G
 A:O'.A=O.A
 dep:O'.dep=O.dep
 ns:∃look,O'.ns=GR look scope.names
 bi:O'.env.builtins=O.env.builtins
 sk:O'.env.scope.kind=.function
 en:∃cl C env,O'.env=compEnvC scope cl C env
theorem z7{R:qr->aR->Prop}{l acc:Value}(I:Nat->aR->Prop)(k:∀n s,I n s->aW (bn prog w) A (wO l) (λ r b=>match r with
 |none=>R (.ok .next) b
 |some v=>aW (bn prog w) A (nA target l v) (λ Z a=>aW (bn prog w) A (d9 target env v) (λ Z Q8=>
  aW (bn prog w) A (forIn ifs aj λ c r=>if r=aj then do let ok <-eu c env (bv c env);pure (ForInStep.yield ok)else pure (ForInStep.yield r)) (λ ok Rz=>
   if ok=aj then aW (bn prog w) A (bv elt env) (λ x d=>aW (bn prog w) A (call (.builtin "list.append") [acc,x]) (λ Z f=>∃m,m<n/\I m f) (λ Z Z=>False) d) (λ Z Z=>False) Rz
   else ∃m,m<n/\I m Rz) (λ Z Z=>False) Q8) (λ Z Z=>False) a) (λ Z Z=>False) b) (λ Z Z=>False) s) (n:Nat) (h:I n s):gd (bn prog w) A (.compLoop (.ListComp elt [⟨target,iter,ifs,0⟩] scope pos) 0 l acc env) R s:=by
 refine codeAny_loop rfl I (λ n s o=>?_) n h;show aW _ A ((compTurn (.ListComp elt [⟨target,iter,ifs,0⟩] scope pos) 0 l acc env).onRaise (λ x=>do kM x env;theTreesLotGoes x)) _ _ s;refine wpAny_noted ?_;rw[compTurn_list];refine aw (ej (aw (aY (k n s o) (λ r b h₁=>?_) λ Z Z h'=>h'.elim)));cases r with
 |none=>exact az h₁
 |some v=>
  refine aw (aY h₁ (λ Z a h₁=>?_) λ Z Z h'=>h'.elim);refine aw (aY h₁ (λ Z Q8 j=>aw (aY j (λ ok Rz e=>?_) λ Z Z h'=>h'.elim)) λ Z Z h'=>h'.elim);cases ok with
  |false=>exact az ⟨rfl,e⟩
  |true=>exact aw (aw (aY e (λ x d i=>aw (aY i (λ Z f g=>az (az ⟨rfl,g⟩)) λ Z Z h'=>h'.elim)) λ Z Z h'=>h'.elim))
noncomputable def XT(O:FC)(ifs:List Expr)(Q:Bool->St->Prop)(Y:St):Prop:=
 X O (λ Z Z=>False) (forIn ifs aj λ c r=>if r=aj then do let ok <-eu c O.env (bv c O.env);pure (ForInStep.yield ok)else pure (ForInStep.yield r)) (λ Z u b=>u=b) Q Y
theorem gs{Q:Bool->St->Prop}(h:Q aj Y):XT O [] Q Y:=λ Kp Jj s R=>az ⟨_,Y,Kp,.refl _,R,rfl,h⟩
theorem Hk{c:Expr}{Q:Bool->St->Prop}(h:XB O (λ Z Z=>False) (eu c O.env (bv c O.env)) Q Y):XT O [c] Q Y:=λ Kp Jj s R=>by rw[jh];show aW _ _ ((eu c O.env (bv c O.env)>>=λ ok=>pure (ForInStep.yield ok))>>=_) _ _ _;refine aw (aw (aY (h Kp Jj s R) (λ b s' x=>az ?_) λ Z Z e=>e));exact az x
theorem wd{scope:iD}{d:St}{Kk:b7}{r Q8:aR}{h₁:Heap}{g:aG×Obj}{tk:Nat}(ok:O.Ok)(E:scope.kind=.function)(J:(scope.names.map (·.1)).Nodup)
 (M:∀x,(x,NameKind.free)∈scope.names->∃(i:Nat) (c:aG),O.ns[i]? =ah (x,NK.Rl c))
 (w:cQ O d Kk Jj r) (G:∀b o,r.heap.get? b=ah o->Q8.heap.get? b=ah o) (hg:r.heap.get? g.1=ai) (f:cQ O d Kk (g::Jj) Q8)
 (U:h₁.Ns (Q8.heap.objs.size+1) (λ Z=>ai)) (Q:Heap.SameBut (Q8.heap.objs.size+1) ((Q8.heap.push (W.listOf #[] 0)).push {cls:=.type "dict",data:=.dict #[]}) h₁):
 ∃z:FC,uN O z scope/\z.env=compEnvC scope (C7 (λ x=>(O.env.cells.lookup x).getD 0) scope.names []) (Q8.heap.objs.size+1) O.env/\z.h₀=r.heap/\z.S₀=Kk/\z.RQ=addrs d.mu/\z.RP=O.RP/\z.fp=[Q8.heap.objs.size+1]/\
  cQ z ⟨n6 (O.ns.map (·.1)) d.vals scope.names,(Q8.heap.objs.size,.list [])::d.mu⟩ Kk [g] {Q8 with heap:=h₁,toks:=tk}:=by
 have s:∀b o,Q8.heap.get? b=ah o->h₁.get? b=ah o:=λ b o e=>by have l:=cm e;exact (Q.2 b (ch (cA l))).trans (aL _ (aL _ e))
 have hD:h₁.get? Q8.heap.objs.size=ah (W.listOf #[] 0):=(Q.2 _ (ch (b_ _))).trans (aL _ (bO _ rfl));have n1:∀a,Q8.heap.objs.size<=a->r.heap.get? a=ai:=λ a ha=>by
  cases hh:r.heap.get? a with
  |none=>rfl
  |some o=>exact absurd (cm (G _ _ hh)) (bR.mpr ha)
 let t:Str->aG:=λ x=>(O.env.cells.lookup x).getD 0
 have F:∀x,(x,NameKind.free)∈scope.names->∃i:Nat,O.ns[i]? =ah (x,NK.Rl (t x))/\O.env.kindOf x=ah .cell:=λ x hx=>by obtain ⟨i,c,h⟩:=M x hx;obtain ⟨D,N⟩:=ok.Rl i x c h;exact ⟨i,by show _=ah (x,NK.Rl ((O.env.cells.lookup x).getD 0));rw[N];exact h,D⟩
 let z:FC:={O with env:=compEnvC scope (C7 t scope.names []) (Q8.heap.objs.size+1) O.env,h₀:=r.heap,S₀:=Kk,RQ:=addrs d.mu,ns:=GR t scope.names,own:=[]}
 have kd:∀{i x k},scope.names[i]? =ah (x,k)->z.env.kindOf x=ah (if k=.free then .cell else k):=λ {i x k} hi=>by show (relabel scope O.env).names.lookup x=_;exact rh ok.kind J hi λ hk=>(F x (hk▸aX hi)).elim λ Z h=>h.2
 have YO:z.Ok:=by
  refine ⟨ok.below,ok.Sb,ok.top,ok.frames,ok.RJ,ok.S9,ok.above,λ b o e=>?_,λ b o e=>⟨(w.kp b o e).1,λ l=>(w.kp b o e).2.1 (ax _ l)⟩,ok.hand,ok.depth,ok.units,E,ok.globals,
   λ i x h=>by have:=kd (EW h);simpa using this,λ i x c h=>?_,λ i x h=>by have:=kd (B2 h);simpa using this,by rw[show z.ns.map (·.1)=_ from zG t _];exact J,λ i j x y c h h'=>?_⟩
  ·obtain ⟨a,b'⟩:=ok.Sr b o e;refine ⟨w.old b o a b',λ l=>?_⟩;refine b6 (w.fresh b (ax _ l)) (λ q=>?_) λ q=>?_
   ·exact b' q
   ·rw[q]at a;cases a
  ·obtain ⟨D,rfl⟩:=qb h;have:=kd D;exact ⟨by simpa using this,xK J (.inl (aX D))⟩
  ·obtain ⟨D,rfl⟩:=qb h;obtain ⟨N,e⟩:=qb h';obtain ⟨p,C, -⟩:=F x (aX D);obtain ⟨q,hq, -⟩:=F y (aX N);have:=ok.cells p q x y _ C (e▸hq);subst this;rw[C]at hq;have ZS:x=y:=by cases hq;rfl
   subst ZS;have R:(scope.names.map (·.1))[i]? =ah x:=by rw[aN,D];rfl
   exact (fg (bh.mp R).1 J).mp (R.trans (show (scope.names.map (·.1))[j]? =ah x by rw[aN,N];rfl).symm)
 have A:z.fp=[Q8.heap.objs.size+1]:=rfl;have P:addrs ((Q8.heap.objs.size,MO.list [])::d.mu)=Q8.heap.objs.size::addrs d.mu:=rfl;have lv:∀b∈addrs d.mu,∃o,Q8.heap.get? b=ah o:=λ b l=>f.live b (ax _ l);have T:∀b∈addrs d.mu,b<Q8.heap.objs.size:=λ b l=>by obtain ⟨o,H⟩:=lv b l;exact cm H
 refine ⟨z,⟨YO,rfl,rfl,rfl,⟨t,rfl⟩,rfl,E,⟨_,_,_,rfl⟩⟩,rfl,rfl,rfl,rfl,rfl,A,?_⟩;have X:=f.ghost.2 g cf;have I:=cm X.1;refine ⟨⟨_,U,λ i x k v a b=>?_⟩,λ i x c e=>?_,λ p C=>?_,?_,?_,?_,λ b o e=>⟨s _ _ (f.kp b o e).1,?_,.inl e⟩,⟨by simp,λ p C=>?_⟩,λ b o e Z=>s _ _ (G _ _ e),?_,λ h=>?_,w.UT,λ b o e=>⟨o,s _ _ (G _ _ e)⟩,f.st⟩
 ·simp only[n6,aN]at b;refine b4 (tW a) λ kk D N=>?_;rw[D]at b;simp only[ql,Option.some.injEq]at b;by_cases hk:kk=.free
  ·subst hk;simp only[beq_self_eq_true,if_true]at b;obtain ⟨p,C, -⟩:=F x (aX D);have Y:(O.ns.map (·.1)).idxOf x=p:=by
    have R:(O.ns.map (·.1))[p]? =ah x:=by rw[aN,C];rfl
    have V:x∈O.ns.map (·.1):=aX R;have hl:=g2.mpr V;exact ((fg hl ok.names).mp ((show (O.ns.map (·.1))[(O.ns.map (·.1)).idxOf x]? =ah x by rw[ay hl,ot hl]).trans R.symm))
   rw[Y]at b;obtain ⟨o,H,e⟩:=kO.mp b|>λ h=>(⟨ah v,h,rfl⟩:∃o,d.vals[p]? =ah o/\o=ah v);subst e;obtain ⟨m,_,V⟩:=f.vars;subst N;obtain ⟨u,⟨ob,L,K⟩,hr⟩:=(V p x _ v C H);exact ⟨u,⟨ob,s _ _ L,K⟩,hr⟩
  ·have l:(kk==NameKind.free)=ao:=by simpa using hk
   rw[l]at b;cases b
 ·obtain ⟨D,rfl⟩:=qb e;obtain ⟨p,C, -⟩:=F x (aX D);obtain ⟨u,ob,L,K⟩:=f.TX p x _ C;exact ⟨u,ob,s _ _ L,K⟩
 ·refine b6 (aI.mp C) (λ B=>?_) λ C=>?_
  ·subst B;exact .list (vs:=[]) (n:=0) hD .nil
  ·exact (f.mu p C).mono (.refl _) λ b Z o e=>s b o e
 ·rw[A,P,d1,bB,bB];refine ⟨λ h=>?_,λ h=>bA _ (T _ h),((aV.mp f.nd).2.1)⟩;refine b6 (aI.mp h) (λ h=>?_) λ h=>?_
  ·exact absurd h (fi (b_ _))
  ·exact absurd (bC (b_ _) (T _ h)) (bA _)
 ·intro b l;rw[A,P,d1]at l;refine b6 (aI.mp l) (λ B=>?_) λ l=>?_
  ·subst B;exact .inr (n1 _ (gw _))
  ·refine b6 (aI.mp l) (λ B=>?_) λ l=>?_
   ·subst B;exact .inr (n1 _ (aT _))
   ·exact .inl l
 ·intro b l;rw[A,P,d1]at l;refine b6 (aI.mp l) (λ B=>?_) λ l=>?_
  ·subst B;obtain ⟨o,_,_,H,_⟩:=U;exact ⟨o,H⟩
  ·refine b6 (aI.mp l) (λ B=>?_) λ l=>?_
   ·subst B;exact ⟨_,hD⟩
   ·obtain ⟨o,H⟩:=lv b l;exact ⟨o,s _ _ H⟩
 ·intro l;rw[A,P,d1]at l;have S:=cm (f.kp b o e).1;refine b6 (aI.mp l) (λ B=>?_) λ l=>?_
  ·subst B;exact absurd (bC (b_ _) S) (bA _)
  ·refine b6 (aI.mp l) (λ B=>?_) λ l=>?_
   ·subst B;exact absurd S (bA _)
   ·exact (f.kp b o e).2.1 (ax _ l)
 ·rw[aE.mp C];refine ⟨s _ _ X.1,λ l=>?_,X.2.2.1,hg,X.2.2.2.2⟩;rw[A,P,d1]at l;refine b6 (aI.mp l) (λ h=>?_) λ l=>?_
  ·rw[h]at I;exact absurd (bC (b_ _) I) (bA _)
  ·refine b6 (aI.mp l) (λ h=>?_) λ l=>?_
   ·rw[h]at I;exact absurd I (bA _)
   ·exact X.2.1 (ax _ l)
 ·obtain ⟨m,V⟩:=f.frame;exact ⟨m,V.keeps s⟩
 ·rw[P]at h;refine b6 (aI.mp h) (λ h=>?_) λ h=>?_
  ·obtain ⟨m,o,_,_,H,_⟩:=f.frame;have:=cm H;rw[h]at this;exact absurd this (bA _)
  ·exact f.YC h
theorem gu.of{a b:aR}{c:aR}(h:a.gens=c.gens/\a.drawn=c.drawn/\a.os=c.os)(h':b.gens=c.gens/\b.drawn=c.drawn/\b.os=c.os):gu a b:=
 ⟨h'.1.trans h.1.symm,h'.2.1.trans h.2.1.symm,h'.2.2.trans h.2.2.symm⟩
inductive V7(O:FC)(Jj:List (aG×Obj))(Kk:b7)(C D:aG)(Q:V->St->Prop)(s:aR):Prop
 |mk (v:V) (Y:St) (K:b7) (l:Kk.le K) (R:cQ O Y K Jj s) (hv:VR O.P K (.ref D) v) (q:Q v Y) (o:IL O Y K Jj C s) (m:Str->Option Value) (n:s.heap.Ns C m)
theorem C3{g:FC}{a:St}{Kk K':b7}{d s':aR}{G:List (Option V)}{J:Mu}{acc:List V}{C D:aG}{Q:V->St->Prop}(ok:O.Ok)(f:cQ O a Kk Jj d)(X:Kk.le K')(R':cQ g ⟨G,(D,.list acc)::J⟩ K' [] s')
 (eG:g.G=O.G) (eh:g.h₀=d.heap) (eS:g.S₀=Kk) (em:g.RQ=addrs a.mu) (es:g.RP=O.RP) (P:g.fp=[C]) (N:d.heap.get? C=ai) (hD:d.heap.get? D=ai) (q:mL Q ⟨a.vals,J⟩ acc):
 V7 O Jj Kk C D Q s':=by
 have Y:g.P=O.P:=congrArg (·.w.params) eG;have S:addrs ((D,MO.list acc)::J)=D::addrs J:=rfl;obtain ⟨-, -,x,I,c, -,s, -,i, -, -, -,z,A⟩:=id R';refine b4 R'.vars λ mC r Z=>?_;have hL:g.env.locals=C:=by have:g.env.locals::g.own=[C]:=P;exact (List.cons.inj this).1
 rw[hL]at r;rw[P,S,d1]at I c;rw[eh]at c i z;rw[em]at c i;simp only[P,S,d1,eS,eh]at s;rw[es]at A;have st:gu d s':=gu.of f.st A;have j:=bB.mp I;have K:=bB.mp j.2;have v:∀{k:St} {l:b7},k.mu=J\/k.mu=(D,MO.list acc)::J->(∀o,¬l C o)->IL O k l Jj C s':=λ {k l} hm hk=>by
  have R:C∉addrs k.mu:=by
   rcases hm with h|h
   ·rw[h];exact (λ h=>j.1 (b8 _ h))
   ·rw[h,S];exact j.1
  refine ⟨λ h=>?_,hk,λ p L e=>?_,?_,λ e=>?_,λ u=>?_⟩
  ·rcases aM.mp h with h|h
   ·refine ze (f.live C (aJ _ h)) λ o t=>?_;rw[N]at t;cases t
   ·exact R h
  ·have:=(f.ghost.2 p L).1;rw[e,N]at this;cases this
  ·cases hh:O.h₀.get? C with
   |none=>rfl
   |some o=>refine ze (f.alive C o hh) λ o' t=>?_;rw[N]at t;cases t
  ·refine NU f.frame λ m o Z Z t Z=>?_;rw[<-e,N]at t;cases t
  ·intro T;refine b4 T λ o H B=>?_;refine kj r λ o' es ep y h4 Z=>?_;rw[H]at y;cases y;rw[B]at h4;cases h4
 have kC:∀o,¬K' C o:=λ o h=>(s C o h).2.1 cf;have base:∀{J':Mu} {S':b7},(∀b∈addrs J',b=D\/b∈addrs J)->K'.le S'->(∀b o,S' b o->s'.heap.get? b=ah o/\b∉addrs J'/\(Kk b o\/d.heap.get? b=ai))->(∀p∈J',MR O.P S' s'.heap p)->(addrs J').Nodup->
  cQ O ⟨a.vals,J'⟩ S' Jj s':=λ {J' S'} E U hS hM Th=>by
  have:=f.turned (J1:=a.mu) (J2:=[]) (J':=J') (s':=s') (S':=S') ok (by simp) st (λ b o e w=>i b o e w) (λ b o e=>z b o e) (X.trans U) hS hM Th (λ b w=>?_)
  ·simpa using this
  ·rcases E b w with rfl|h
   ·exact .inr hD
   ·exact c b (b8 _ (b8 _ h))
 refine (x _ cf).listE λ us n eD rs=>?_;rw[Y]at rs;cases q with
 |F q=>
  refine ⟨.list acc,⟨a.vals,J⟩,K'.add D (W.listOf us.toArray n),X.trans (b7.Rp _ _ _),base (λ b w=>.inr w) (b7.Rp _ _ _) (λ b o e=>?_) (λ p L=>?_) K.2,.list (b7.Rq _ _ _) (rs.mono (b7.Rp _ _ _)),q,v (.inl rfl) (λ o h=>?_),mC,r⟩
  ·rcases e with e|⟨rfl,rfl⟩
   ·refine jw (s b o e) λ H B y=>?_;exact ⟨H,λ h=>B (b8 _ (b8 _ h)),y⟩
   ·exact ⟨eD,K.1,.inr hD⟩
  ·have:=x p (b8 _ L);rw[Y]at this;exact this.mono (b7.Rp _ _ _) λ Z Z Z e=>e
  ·rcases h with h|⟨e, -⟩
   ·exact kC o h
   ·exact j.1 (e▸cf)
 |M q=>
  refine ⟨.ref D,⟨a.vals,(D,.list acc)::J⟩,K',X,base (λ b w=>?_) (.refl _) (λ b o e=>?_) (λ p L=>?_) j.2,.ref _,q D,v (.inr rfl) kC,mC,r⟩
  ·rcases aI.mp w with h|h
   ·exact .inl h
   ·exact .inr h
  ·refine jw (s b o e) λ H B y=>?_;exact ⟨H,λ h=>B (b8 _ h),y⟩
  ·have:=x p L;rw[Y]at this;exact this
inductive M6(D:aG)(acc:List V)(J:Mu)(I:List (Option V)->List V->Mu->Prop)(y:V)(Y:St):Prop
 |mk (J':Mu) (e:Y.mu=J'++(D,.list acc)::J) (h:I Y.vals (acc++[y]) (J'++J))
inductive GZ(D:aG)(acc:List V)(J:Mu)(I:List (Option V)->List V->Mu->Prop)(Y:St):Prop
 |mk (J':Mu) (e:Y.mu=J'++(D,.list acc)::J) (h:I Y.vals acc (J'++J))
noncomputable def Ps(O:FC)(elt:Expr)(D:aG)(acc:List V)(J:Mu)(I:List (Option V)->List V->Mu->Prop)(b:Bool)(Y:St):Prop:=
 if b=aj then XV O (λ Z Z=>False) (bv elt O.env) (M6 D acc J I) Y else GZ D acc J I Y
noncomputable def M1(O:FC)(ifs:List Expr)(elt:Expr)(D:aG)(acc:List V)(J:Mu)(I:List (Option V)->List V->Mu->Prop)(Y:St):Prop:=XT O ifs (Ps O elt D acc J I) Y
inductive mA(O:FC)(elt target:Expr)(ifs:List Expr)(scope:iD)(Q:V->St->Prop)(v:V)(SW:St):Prop
 |mk (n:Nat) (xs:Nat->V) (c_:St->Prop) (W:i3 O O.A v n xs c_ SW) (hn:n<=2^20) (I:Nat->List (Option V)->List V->Mu->Prop) (h0:I 0 (n6 (O.ns.map (·.1)) SW.vals scope.names) [] SW.mu)
  (hg:∀i vals acc J,i<=n->I i vals acc J->acc.length<=i/\∀D,c_ ⟨vals,(D,.list acc)::J⟩)
  (step:∀O',uN O O' scope->∀i vals acc J D,i<n->I i vals acc J->XA O' (λ Z Z=>False) (d9 target O'.env) (xs i) (M1 O' ifs elt D acc J (I (i+1))) ⟨vals,(D,.list acc)::J⟩)
  (fin:∀vals acc J,I n vals acc J->mL Q ⟨SW.vals,J⟩ acc)
inductive NI(O:FC)(D:aG)(Kk:b7)(n:Nat)(Tc:Nat->aG×Obj->Prop)(I:Nat->List (Option V)->List V->Mu->Prop)(k:Nat)(s:aR):Prop
 |mk (i:Nat) (vals:List (Option V)) (acc:List V) (J:Mu) (K:b7) (g:aG×Obj) (hk:i+k=n) (l:Kk.le K) (hc:Tc i g) (R:cQ O ⟨vals,(D,.list acc)::J⟩ K [g] s) (q:I i vals acc J)
theorem tu{elt target iter:Expr}{ifs:List Expr}{scope:iD}{pos:gU}{v:V}{p:St}{Kk:b7}{j:aR}{u:Value}{Q:V->St->Prop}(ok:O.Ok)(t:scope.kind=.function)(Th:(scope.names.map (·.1)).Nodup)(VP:∀y∈scope.names,y.2≠.cell)
 (VN:∀x,(x,NameKind.free)∈scope.names->∃(i:Nat) (c:aG),O.ns[i]? =ah (x,NK.Rl c)) (H:mA O elt target ifs scope Q v p) (w:cQ O p Kk Jj j) (hu:VR O.P Kk u v) {RR:Value->aG->qr->aR->Prop}
 (ZI:∀D C s',V7 O Jj Kk C D Q s'->RR (.ref D) C (.ok .next) s'):
 aW (bn O.G.prog O.G.w) O.A (pyIter u) (λ it Q8=>aW (bn O.G.prog O.G.w) O.A (newList []) (λ acc Rz=>aW (bn O.G.prog O.G.w) O.A (newFunctionEnv scope O.env.globals (C7 (λ x=>(O.env.cells.lookup x).getD 0) scope.names []) [] O.env.qual ai .none (ah O.env)) (λ V1 WV=>
  gd (bn O.G.prog O.G.w) O.A (.compStart (.ListComp elt [⟨target,iter,ifs,0⟩] scope pos) 0 it acc {V1 with scope:=relabel scope O.env}) (RR acc V1.locals) WV) Ex Rz) Ex Q8) Ex j:=by
 obtain ⟨n,xs,c_,W,hn,I,XI,ZM,VB,Xw⟩:=H;refine W Ex Kk Jj j u _ w hu λ it Tc g Q8 hit T N hg XQ=>?_;refine r7 (wpAny_newFunctionEnv VP (by intro y hy;simp at hy) (λ h₁ f h=>?_) t);have hsz:(Q8.heap.push ({cls:=.type "list",data:=.seq ([]:List Value).toArray}:Obj)).objs.size=Q8.heap.objs.size+1:=Heap.size_push _ _;dsimp only at f h ⊢;rw[hsz]at f h ⊢;refine NT (wd (tk:=Q8.toks+([]:List (Str×Value)).length) ok t Th VN w N hg XQ f h) λ O' l Zt eh eS em es ef S=>?_;have It:=hit O' l.G;have n1:∀a,Q8.heap.objs.size<=a->j.heap.get? a=ai:=λ a ha=>by
  cases hh:j.heap.get? a with
  |none=>rfl
  |some o=>exact absurd (cm (N _ _ hh)) (bR.mpr ha)
 have eA:=l.A;have loop:gd (bn O.G.prog O.G.w) O.A (.compLoop (.ListComp elt [⟨target,iter,ifs,0⟩] scope pos) 0 it (.ref Q8.heap.objs.size) O'.env) (RR (.ref Q8.heap.objs.size) (Q8.heap.objs.size+1)) {Q8 with heap:=h₁,toks:=Q8.toks+([]:List (Str×Value)).length}:=by
  rw[<-l.G,<-eA];rw[<-eA]at It;refine z7 (NI O' Q8.heap.objs.size Kk n Tc I) (λ k M K=>?_) n ⟨0,_,[],p.mu,Kk,g,cO n,.refl _,T,S,XI⟩;obtain ⟨i,P,acc,J,K',g',hk,l',Ys,R',hI⟩:=K;refine za (ZM i P acc J (hk▸b0 i k) hI) λ VT z=>?_;cases k with
  |succ k=>
   have VK:i<n:=hk▸ia (cp k);have Yj:i+1+k=n:=(cR i 1 k).trans hk;refine It.next i _ K' [] M g' _ _ l' VK (z _) Ys R' λ u' G d m s Y7=>?_;refine It.letGo (i+1) _ K' [] G d target u' _ _ m s ?_;refine aY (VB O' l i P acc J Q8.heap.objs.size VK hI K' [d] G u' s Y7) (λ Z WU K=>b4 K λ XW XP q=>?_) λ Z Z e=>e;refine aY (q K' [d] WU XP) (λ b WT K=>Pt.on K λ c Vs R L U e q=>?_) λ Z Z e=>e;subst e;cases b with
   |false=>obtain ⟨J',Xe,X⟩:=(show GZ _ _ _ _ _ from q);exact ⟨k,b_ k,i+1,Vs.vals,acc,J'++J,R,d,Yj,l'.trans L,m,U.perm (Xe▸eR.symm),X⟩
   |true=>refine aY ((show XV _ _ _ (M6 _ _ _ _) _ from q) R [d] WT U) (λ y WS K=>Pt.on K λ yv r XR W8 XO hy zg=>?_) λ Z Z e=>e;obtain ⟨J',Xe,X⟩:=zg;refine aY ((wg (O:=O') (Ex:=λ Z Z=>False) (Y:=⟨r.vals,(Q8.heap.objs.size,.list acc)::(J'++J)⟩) (a:=Q8.heap.objs.size) (v:=yv) (xs:=acc) (Q:=λ Z Y=>Y=⟨r.vals,(Q8.heap.objs.size,.list (acc++[yv]))::(J'++J)⟩) 0 l.ok rfl (gH (aA VT (aA (bc VK) hn))) rfl) XR [d] WS [.ref Q8.heap.objs.size,y] (XO.perm (Xe▸eR.symm)) (.cons (.ref _) (.cons hy .nil))) (λ Z V_ K=>Pt.on K λ Z Vt F A B Z e=>?_) λ Z Z e=>e;subst e;exact ⟨k,b_ k,i+1,r.vals,acc++[yv],J'++J,F,d,Yj,((l'.trans L).trans W8).trans A,m,B,X⟩
  |zero=>subst hk;exact It.done _ K' [] M g' _ _ l' (z _) Ys R' λ G s=>ZI _ _ _ (C3 ok w l' s l.G eh eS em es ef (n1 _ (gw _)) (n1 _ (aT _)) (Xw _ _ _ hI))
 have hE:({newEnv scope (Q8.heap.objs.size+1) O.env.globals (C7 (λ x=>(O.env.cells.lookup x).getD 0) scope.names []) O.env.qual ai .none (ah O.env) e_ with scope:=relabel scope O.env}:Env)=O'.env:=by rw[Zt];rfl
 have E:=hE▸loop;refine codeAny_compStart_list E ?_;have sf:=λ Q' E'=>It.self 0 _ Kk [] _ g Q' E' T S;simp only[l.G]at sf;exact sf _ _ E
theorem Ht(ok:O.Ok)(a:scope.kind=.function)(l:(scope.names.map (·.1)).Nodup)(f:∀y∈scope.names,y.2≠.cell)(d:∀x,(x,NameKind.free)∈scope.names->∃(i:Nat) (c:aG),O.ns[i]? =ah (x,NK.Rl c))(h:XV O Ex (bv iter O.env) (mA O elt target ifs scope Q) Y)(G:∀x,eH iter O.env x=pure x):XV O Ex (bv (.ListComp elt [⟨target,iter,ifs,0⟩] scope pos) O.env) Q Y:=λ Kp Jj s R=>by
 skip;refine y5 (use:=ai) rfl G (mR λ x r=>(d x r).elim λ i h=>h.elim λ c h=>⟨c,(ok.Rl i x c h).2⟩) a (λ x r z=>by obtain ⟨i,hi⟩:=cI.mp r;obtain ⟨y,k⟩:=x;simp only at z;subst z;exact fR l hi) (h.Q6 R λ u A v p Kk l₁ j I h₁=>?_)
 refine tu (RR:=λ acc C=>compPost (bn O.G.prog O.G.w) O.A Ex ai (Pt O Jj Kp (VR O.P) Q) acc C) ok a l f d h₁ j I λ D C s' F=>?_;obtain ⟨w,t,n,l₂,g,E,q,J,m,H⟩:=F;exact ⟨m,H,λ h' o=>⟨w,t,n,l₁.trans l₂,g.off (tk:=s'.toks) J λ b K B e=>(o.2 b B).trans e,E,q⟩⟩
theorem IL.set{v:V}(a:IL O Y Kp Jj I s)(b:∀u,¬h'.IsCell I u):IL O (Y.set i v) Kp Jj I {s with heap:=h',toks:=tk}:=⟨a.gF,a.gK,a.gJ,a.gO,a.gL,b⟩
theorem tH{y:Str}{Q:Option (Option V)->St->Prop}(j:Nat)(ok:O.Ok)(S:O.ns[j]? =ah (y,NK.loc))(d:scope.kind=.function)(E:(scope.names.map (·.1)).Nodup)(t:∀y∈scope.names,y.2≠.cell)(f:∀x,(x,NameKind.free)∈scope.names->∃(i:Nat) (c:aG),O.ns[i]? =ah (x,NK.Rl c))(h:XV O Ex (bv iter O.env) (mA O elt target ifs scope (v6 j Q)) Y)(I:eg (.ListComp elt [⟨target,iter,ifs,0⟩] scope pos) (ah (.Name y py)) Tq.line O.env=pure aj)(hs:∀x,eH iter O.env x=pure x):XF O Ex (gc (.Assign [.Name y py] (.ListComp elt [⟨target,iter,ifs,0⟩] scope pos) Tq) O.env) Q Y:=λ Kp Jj s R=>by
 rw[exec_Assign_Name_used _ _ _ _ I];refine aw (ej (aw ?_));show aW _ _ (do let _ <-comprehension (.ListComp elt [⟨target,iter,ifs,0⟩] scope pos) scope O.env _ (newList []) ao (bv iter O.env) (ah (d9 (.Name y py) O.env))) _ _ s;refine aw (aY (y5 (use:=ah (d9 (.Name y py) O.env)) (Q:=λ Z=>Pt O Jj Kp (tA O.P) Q .next) rfl hs (mR λ x J=>(f x J).elim λ i h=>h.elim λ c h=>⟨c,(ok.Rl i x c h).2⟩) d (λ x J P=>by refine ze (cI.mp J) λ i hi=>?_;obtain ⟨y,k⟩:=x;simp only at P;subst P;exact fR E hi) (h.Q6 R λ u U v G Kk l₁ A hv h₁=>?_)) (λ Z s' hq=>az (az hq)) λ Z Z e=>e)
 refine tu (RR:=λ acc C=>compPost (bn O.G.prog O.G.w) O.A Ex (ah (d9 (.Name y py) O.env)) (λ Z=>Pt O Jj Kp (tA O.P) Q .next) acc C) ok d E t f h₁ A hv λ D C s' H=>?_;obtain ⟨w,L,p,l₂,n,hw,q,W,m,hm⟩:=H;show aW _ _ (d9 (.Name y py) O.env (.ref D)) _ _ _;refine b4 (id n.vars) λ m0 F K=>?_;refine IT (nD (ok.loc j y S) F (λ B z g=>?_) (by rw[ok.kind];rfl));have l:=hm.sameBut g (λ e=>W.gF (by simp only[e];simp[FC.fp]));refine ⟨m,l,λ N r=>?_⟩;refine ⟨ai,_,p,l₁.trans l₂,?_,.next,q⟩;have O':IL O (L.set j w) p Jj C {s' with heap:=B,toks:=s'.toks+1}:=W.set λ u H=>b4 H λ o a b=>by refine kj l λ o' es ep T M Z=>?_;rw[a]at T;cases T;rw[b]at M;cases M
 exact (n.Ts (tk:=s'.toks+1) S hw ok F K z g).off (tk:=s'.toks+1) O' λ b ob X e=>(r.2 b X).trans e
noncomputable abbrev Ky:=List Int
noncomputable abbrev Ky.lt(a b:Ky):Prop:=LT.lt (α:=List Int) a b
theorem Ky.tr{a b c:Ky}(d:¬b.lt a)(e:¬c.lt b):¬c.lt a:=List.le_trans (α:=Int) d e
theorem Ky.ir(a:Ky):¬a.lt a:=List.lt_irrefl (α:=Int) a
theorem Ky.as{a b:Ky}(h:a.lt b):¬b.lt a:=List.le_of_lt (α:=Int) h
theorem Ky.W9{a b c:Ky}(d:a.lt b)(e:¬c.lt b):a.lt c:=Classical.byContradiction λ h=>Ky.tr e h d
theorem Ky.eq{a b:Ky}(c:¬b.lt a)(d:¬a.lt b):a=b:=List.le_antisymm (α:=Int) c d
inductive j2{α:Type}(r:Nat->Ky)(n:Nat)(P:α->Prop):KasT α->Prop
 |ret {a:α}:P a->j2 r n P (.ret a)
 |ask {i j:Nat} {k:Bool->KasT α}:i<n->j<n->j2 r n P (k (decide ((r i).lt (r j))))->j2 r n P (.ask i j k)
theorem j2.bind{r:Nat->Ky}{n:Nat}{P:α->Prop}{b:β->Prop}{f:α->KasT β}{t:KasT α}(h:j2 r n P t)(c:∀a,P a->j2 r n b (f a)):j2 r n b (t.bind f):=
 h.rec (c _) λ hi d Z e=>.ask hi d e
theorem Cq{n:Nat}{r:Nat->Ky}{P:aR->Prop}{e:α->Prop}{b:Nat->Nat->(Bool->aR->Prop)->aR->Prop}(l:∀i j C s,i<n->j<n->P s->(∀s',P s'->C (decide ((r i).lt (r j))) s')->b i j C s){t:KasT α}{Q:α->aR->Prop}{s:aR}(h:j2 r n e t)(d:P s)(k:∀a s',e a->P s'->Q a s'):t.kasWp b Q s:=by
 induction h generalizing s with
 |ret h=>exact k _ _ h d
 |ask hi f _ g=>exact l _ _ _ s hi f d λ s' c=>g c
section ZT
variable{r:Nat->Ky}{n:Nat}
noncomputable def Pm(n:Nat)(p:Array Nat):Prop:=p.Perm (dm (aZ n))
theorem Pm.of{p:Array Nat}(h:Pm n p)(h':p'.Perm p):Pm n p':=h'.trans h
theorem Pm.size{p:Array Nat}(h:Pm n p):p.size=n:=by exact (Array.Perm.size_eq h).trans (bH.trans bf)
theorem Pm.lt{p:Array Nat}(h:Pm n p){i:Nat}(hi:i<n):p.getD i 0<n:=by have hi:=h.size.symm▸hi;rw[show p.getD i 0=p[i] from dif_pos hi];exact bN.mp (eT.mp ((Array.Perm.mem_iff h).mp (Array.getElem_mem hi)))
variable(r) in
noncomputable def qv(p:Array Nat)(i:Nat):Ky:=r (p.getD i 0)
theorem j2.two{P:α->Prop}{p:Array Nat}(a:Pm n p){i j:Nat}(hi:i<n)(c:j<n){k:Bool->KasT α}(d:(qv r p i).lt (qv r p j)->j2 r n P (k aj))(b:¬(qv r p i).lt (qv r p j)->j2 r n P (k ao)):j2 r n P (.ask (p.getD i 0) (p.getD j 0) k):=
 .ask (a.lt hi) (a.lt c) (by
  by_cases h:(qv r p i).lt (qv r p j)
  ·exact decide_eq_true h▸d h
  ·exact decide_eq_false h▸b h)
variable(r) in
noncomputable def DM(p:Array Nat)(k:Nat):Prop:=∀i j,i<=j->j<k->¬(qv r p j).lt (qv r p i)
variable(r) in
noncomputable def rU(p:Array Nat)(k:Nat):Prop:=∀i j,i<=j->j<k->¬(qv r p i).lt (qv r p j)
theorem qQ{p:Array Nat}(h:p[i]? =p'[j]?):qv r p i=qv r p' j:=by unfold qv;simp only[r5,r5,h]
theorem yR(p:Array Nat){k:Nat}(h:k<=1):DM r p k:=λ i j a b=>by obtain rfl:i=j:=OG a b h;exact Ky.ir _
theorem F7{C:Nat->Nat->Prop}(d:∀i,C i i)(b:∀{i j l},C i j->C j l->C i l){k:Nat}(h:∀i j,i<=j->j<k->C i j)(hk:0<k->C (k-1) k)(i j:Nat)(a:i<=j)(c:j<k+1):C i j:=
 (cF.mp c).elim (h i j a) λ e=>(o9 a).elim (λ hi=>b (h i (k-1) (jd (e▸hi)) (Aw (e▸hi))) (e▸hk (DN (e▸hi)))) λ f=>f▸d i
theorem DM.snoc{p:Array Nat}(h:DM r p k)(hk:0<k->¬(qv r p k).lt (qv r p (k-1))):DM r p (k+1):=F7 (C:=λ i j=>¬(qv r p j).lt (qv r p i)) (λ i=>Ky.ir _) (λ a b=>Ky.tr a b) h hk
theorem rU.snoc{p:Array Nat}(h:rU r p k)(hk:0<k->¬(qv r p (k-1)).lt (qv r p k)):rU r p (k+1):=F7 (C:=λ i j=>¬(qv r p i).lt (qv r p j)) (λ i=>Ky.ir _) (λ a b=>Ky.tr b a) h hk
variable(r n) in
inductive PV(p:Array Nat)(m:Nat):Prop
 |mk (h1:1<=m) (le:m<=n) (a:DM r p m) (lt:m<n->(qv r p m).lt (qv r p (m-1)))
variable(r n) in
inductive PJ(x:Nat×Array Nat):Prop
 |mk (h1:1<=x.1) (le:x.1<=n) (a:DM r x.2 x.1) (p:Pm n x.2)
variable(r n) in
inductive DC(N:Nat)(x:Array Nat×Nat×Nat):Prop
 |mk (perm:Pm n x.1) (desc:rU r x.1 x.2.1) (eqs:∀i,x.2.1-1-x.2.2<=i->i<x.2.1->qv r x.1 i=qv r x.1 (x.2.1-1)) (q:x.2.2+1<=x.2.1) (lo:N<=x.2.1) (hi:x.2.1<=n)
theorem FY{p:Array Nat}(d:Pm n p)(f:Nat):∀m,m+f=n->1<=m->DM r p m->j2 r n (PV r n p) (kas_asc p f m):=by
 induction f with
 |zero=>exact λ m e b h=>.ret ⟨b,cq e,h,λ h=>absurd (e▸h) (bA _)⟩
 |succ f g=>intro m e b h;have a:m<n:=H0 e;exact .two d a (aQ (o0 _ _) a) (λ c=>.ret ⟨b,bc a,h,λ Z=>c⟩) λ c=>g (m+1) (JG e) (bJ _ _) (h.snoc λ Z=>c)
theorem Pm.rev{p:Array Nat}(h:Pm n p)(i j:Nat):Pm n (kas_rev p i j):=h.of (mirror_perm _ _ _ _)
theorem xf{p:Array Nat}(a:Pm n p){i j:Nat}(b:j<=n)(k:Nat):qv r (kas_rev p i j) k=if i<=k/\k<j then qv r p (i+j-1-k)else qv r p k:=by
 have:=getElem?_mirror_all (xs:=p) (i:=i) (a.size.symm▸b) k;split
 ·rename_i h;rw[if_pos h]at this;exact qQ this
 ·rename_i h;rw[if_neg h]at this;exact qQ this
theorem qP{p:Array Nat}(a:Pm n p){i j:Nat}(b:j<=n)(h:∀k,i<=k->k<j->qv r p k=qv r p (j-1))(k:Nat):qv r (kas_rev p i j) k=qv r p k:=by
 rw[xf a b];split
 ·rename_i hk;simp only[h k hk.1 hk.2,h (i+j-1-k) (OF hk) (OE hk)]
 ·rfl
theorem rU.same{p:Array Nat}(h:rU r p k)(e:∀k,qv r p' k=qv r p k):rU r p' k:=λ i j a b=>by simp only[e];exact h i j a b
theorem HJ(f:Nat):∀(p:Array Nat) m q,m+f=n->DC r n N (p,m,q)->j2 r n (DC r n N) (kas_desc f p m q):=by
 induction f with
 |zero=>exact λ p m q Z h=>.ret h
 |succ f u=>
  intro p m q e h;obtain ⟨d,hd,o,t,l,c⟩:=h;dsimp only at d hd o t l c;have c:m<n:=H0 e;have j:m-1<n:=aQ (o0 _ _) c;have v:m+1+f=n:=JG e;refine .two d c j (λ s=>?_) λ s=>.two d j c (λ g=>.ret ⟨d,hd,o,t,l,bc c⟩) λ g=>?_
  ·have one:∀p':Array Nat,∀i,m+1-1-0<=i->i<m+1->qv r p' i=qv r p' (m+1-1):=λ p' i a b=>congrArg _ (f9 (ci b) a);show j2 r n _ (if q>0 then _ else _);split
   ·have w:=qP d (i:=m-(q+1)) (bc c) λ k a b=>o k (JF a) b;exact u _ _ _ v ⟨d.rev _ _,(hd.same w).snoc λ Z=>by simp only[w];exact Ky.as s,one _,bJ _ _,cY l,c⟩
   ·exact u _ _ _ v ⟨d,hd.snoc λ Z=>Ky.as s,one _,bJ _ _,cY l,c⟩
  ·refine u _ _ _ v ⟨d,hd.snoc λ Z=>g,λ i a b=>?_,ea t,cY l,c⟩;rcases cF.mp b with b|rfl
   ·exact (o i (by dsimp only at a;exact OD a) b).trans (Ky.eq s g)
   ·rfl
theorem Bj{p:Array Nat}(f:Pm n p){m:Nat}(o:1<=m)(g:m<=n)(h:rU r p m):j2 r n (PJ r n) (kas_tail3 m n p):=
 (FY (f.rev 0 m) (n-m) m (kP g) o λ i j e k=>by rw[xf f g,xf f g,if_pos ⟨bg _,k⟩,if_pos ⟨bg _,aQ e k⟩];exact h _ _ (OC e) (OB k)).bind λ x l=>by obtain ⟨a,b,c,d⟩:=l;exact .ret ⟨a,b,c,f.rev 0 m⟩
theorem qE{p:Array Nat}(j:Pm n p){m:Nat}(l:1<=m)(f:m<n)(h:rU r p (m+1)):j2 r n (PJ r n) (kas_descPart m n p):=
 (HJ (N:=1) (n-(m+1)) p (m+1) 0 (kP f) ⟨j,h,λ i a b=>congrArg _ (f9 (ci b) a),bJ _ _,bJ _ _,f⟩).bind λ x ⟨a,b,c,d,e,g⟩=>by
  split
  ·exact Bj (a.rev _ _) e g (b.same (qP a g λ k u v=>c k (JF u) v))
  ·exact Bj a e g b
theorem Eo{p:Array Nat}(f:Pm n p)(s:1<=n):j2 r n (PJ r n) (kas_count n p):=
 (FY f (n-1) 1 (kP s) (aT _) (yR p (aT _))).bind λ m ⟨a,b,c,d⟩=>by
  split
  ·exact .ret ⟨a,b,c,f⟩
  ·rename_i Ui;have h:m<n:=j5 b λ e=>Ui (beq_iff_eq.mpr e);split
   ·refine .two f s (aQ (o0 _ _) h) (λ Z=>.ret ⟨a,b,c,f⟩) λ t=>?_;have o:∀k,0<=k->k<m->qv r p k=qv r p (m-1):=λ k Z hk=>Ky.eq (c _ _ (jd hk) (Aw hk)) (Ky.tr t (c 0 k (bg _) hk));have q:=qP f b o;exact qE (f.rev _ _) a h (((show rU r p m from λ i j g l=>by simp only[o i (bg _) (aQ g l),o j (bg _) l];exact Ky.ir _).same q).snoc λ Z=>by simp only[q];exact Ky.as (d h))
   ·obtain rfl:m=1:=f9 (bR.mp ‹_›) a;exact qE f a h (rU.snoc (λ i j g l=>by obtain rfl:i=j:=OA g l;exact Ky.ir _) λ Z=>Ky.as (d h))
variable(r) in
inductive QV(p:Array Nat)(k l:Nat):Prop
 |mk (le:l<=k) (lo:∀i,i<l->¬(qv r p k).lt (qv r p i)) (hi:∀i,l<=i->i<k->(qv r p k).lt (qv r p i))
theorem Qx{l u f:Nat}(h:l<u)(a:u-l<=f+1):l<=(l+u)/2/\(l+u)/2<u/\(l+u)/2-l<=f/\u-((l+u)/2+1)<=f:=Oz h a
theorem En{p:Array Nat}(v:Pm n p)(hk:k<n)(t:DM r p k)(f:Nat):∀l u,l<=u->u<=k->u-l<=f->(∀i,i<l->¬(qv r p k).lt (qv r p i))->(∀i,u<=i->i<k->(qv r p k).lt (qv r p i))->j2 r n (QV r p k) (kas_place p k f l u):=by
 induction f with
 |zero=>exact λ l u m c j d e=>.ret ⟨aA m c,d,λ i a=>e i (aA (Nat.sub_eq_zero_iff_le.mp (rZ.mp j)) a)⟩
 |succ f s=>
  intro l u m c j d e;dsimp only[kas_place];split
  ·rename_i h;exact .ret ⟨aA m c,d,λ i a=>e i (aA h a)⟩
  ·rename_i h;have b:=Qx (o5.mp h) j;have g:=aH b.2.1 c;exact .two v hk (bC g hk) (λ o=>s _ _ b.1 (bc g) b.2.2.1 d λ i hi q=>Ky.W9 o (t _ _ hi q)) λ o=>s _ _ b.2.1 c b.2.2.2 (λ i hi=>Ky.tr (t i _ (ci hi) g) o) e
noncomputable def mv(l k i:Nat):Nat:=if i=l then k else if l<i/\i<=k then i-1 else i
theorem yA{l:Nat}(h:i<l):mv l k i=i:=by (dsimp only[mv];rw[if_neg (ch h),if_neg λ a=>Nat.lt_asymm h a.1])
theorem GV{l:Nat}(h:l<i)(a:i<k+1):mv l k i=i-1:=by (dsimp only[mv];rw[if_neg (fi h),if_pos ⟨h,ci a⟩])
theorem H8{q:Nat->Ky}{l:Nat}(h:∀i j,i<=j->j<k->¬(q j).lt (q i))(a:l<=k)(b:∀i,i<l->¬(q k).lt (q i))(c:∀i,l<=i->i<k->(q k).lt (q i))(i j:Nat)(d:i<=j)(g:j<k+1):¬(q (mv l k j)).lt (q (mv l k i)):=by
 have n:mv l k l=k:=if_pos rfl;rcases pP j l with e|rfl|e
 ·rw[yA e,yA (aQ d e)];exact h i j d (aH e a)
 ·rw[n];rcases o9 d with e|rfl
  ·rw[yA e];exact b i e
  ·rw[n];exact Ky.ir _
 ·have m:j-1<k:=Nat.sub_one_lt_of_le (DN e) (ci g);rw[GV e g];rcases pP i l with f|rfl|f
  ·rw[yA f];exact h _ _ (aA (bc f) (jd e)) m
  ·rw[n];exact Ky.as (c _ (jd e) m)
  ·rw[GV f (aQ d g)];exact h _ _ (Nat.sub_le_sub_right d 1) m
variable(r n) in
inductive IK(p:Array Nat):Prop
 |mk (a:DM r p n) (p:Pm n p)
theorem Ju(f:Nat):∀(p:Array Nat) k,k+f=n->Pm n p->DM r p k->j2 r n (IK r n) (kas_bin f p k):=by
 induction f with
 |zero=>exact λ p k e d h=>.ret ⟨e▸h,d⟩
 |succ f s=>
  intro p k e d h;have hk:k<n:=H0 e;refine (En d hk h k 0 k (bg _) (aT _) (aT _) (λ i hi=>absurd hi (c6 _)) λ i t m=>absurd m (bR.mpr t)).bind λ l ⟨a,b,c⟩=>s _ _ (by rw[cR];exact e) (d.of (bubble_perm _ _ _)) λ i j g q=>?_;have o:∀i,qv r (bubble p k (k-l)) i=qv r p (mv l k i):=λ i=>by
   have:=getElem?_bubble (xs:=p) (src:=k) (d.size.symm▸hk) (k-l) (o0 _ _) i;rw[Nat.sub_sub_self a]at this;refine qQ (this.trans ?_);unfold mv;split
   ·rfl
   ·split<;>rfl
  simp only[o];exact H8 h a b c i j g q
theorem HI(f:1<=n):j2 r n (IK r n) (kas_sort n):=
 (Eo (.refl _) f).bind λ x ⟨a,b,c,d⟩=>by
  split
  ·have e:max x.1 1=x.1:=Oy a;simp only[e];exact Ju _ _ _ (kP b) d c
  ·exact .ret ⟨(show x.1=n from f9 ‹_› (bR.mp ‹_›))▸c,d⟩
end ZT
noncomputable def tM(x:Str):Ky:=x.cps.toList.map nC
noncomputable def NO(v:V)(l:Ky):Ky:=match v with
 |.int i=>i::l
 |.str x=>tM x
 |_=>l
noncomputable def ky(v:V):Ky:=match v with
 |.tup xs=>xs.foldr NO []
 |v=>NO v []
noncomputable def Qm(k:Nat)(i j:Int)(x:Str):V:=match k with
 |0=>.int i
 |1=>.str x
 |2=>.tup [.int i,.int j]
 |_+3=>.tup [.int i,.int j,.str x]
inductive Sh(k:Nat)(v:V):Prop
 |mk (i j:Int) (x:Str) (e:v=Qm k i j x)
theorem Sh.int(i:Int):Sh 0 (.int i):=⟨i,i,⟨#[]⟩,rfl⟩
theorem Sh.str(x:Str):Sh 1 (.str x):=⟨0,0,x,rfl⟩
theorem Sh.pair(i j:Int):Sh 2 (.tup [.int i,.int j]):=⟨i,j,⟨#[]⟩,rfl⟩
theorem Sh.XX(i j:Int)(x:Str):Sh 3 (.tup [.int i,.int j,.str x]):=⟨i,j,x,rfl⟩
theorem vc{y:Str}(h:tM x=tM y):x=y:=
 congrArg Str.mk (Array.toList_inj.mp ((oq λ a b e=>nC.inj e).mp h))
theorem yc{y:Str}:(tM x).lt (tM y)↔x.cps.toList<y.cps.toList:=
 ⟨λ h=>Classical.byContradiction λ n=>(List.le_iff_lt_or_eq.mp (List.not_lt.mp n)).elim (λ g=>Ky.as h (List.map_lt (λ Z Z=>cV.mpr) g)) λ g=>by rw[show tM x=tM y from congrArg (y1 nC) g.symm]at h;exact Ky.ir _ h,List.map_lt λ Z Z=>cV.mpr⟩
theorem Ia{a b:V}(d:Sh k a)(e:Sh k b)(h:ky a=ky b):a=b:=by
 obtain ⟨i,j,x,rfl⟩:=d;obtain ⟨g,f,l,rfl⟩:=e;cases k with
 |zero=>exact congrArg V.int (List.cons.inj h).1
 |succ k=>
  cases k with
  |zero=>exact congrArg V.str (vc h)
  |succ k=>
   cases k with
   |zero=>simp only[(List.cons.inj h).1,((List.cons.inj (List.cons.inj h).2).1)];rfl
   |succ k=>have c:=List.cons.inj (List.cons.inj h).2;simp only[(List.cons.inj h).1,c.1,vc c.2]
noncomputable def du(l:List V):Prop:=l.Pairwise λ a b=>¬(ky b).lt (ky a)
theorem du.uniq{a b:List V}(c:a.Perm b)(d:∀x∈a,Sh k x)(g:du a)(e:du b):a=b:=
 List.Perm.eq_of_pairwise (λ x y h f l m=>Ia (d x h) (d y (c.mem_iff.mpr f)) (Ky.eq l m)) g e c
theorem du.map{f:α->V}{r:α->α->Prop}(h:l.Pairwise r)(k:∀{a b},r a b->¬(ky (f b)).lt (ky (f a))):du (l.map f):=by unfold du;rw[bS];exact h.imp k
theorem Cp{a b:Int}{l m:Ky}(h:a<b):Ky.lt (a::l) (b::m):=iU.mpr (.inl h)
theorem zk{a:aG}{vs:List Value}{n:Nat}{P:PySem.Fin->aR->Prop}(t:sd)(r:Nat->Ky)(u:s.heap.get? a=ah (wN "list" #[] n))(q:vs.length<64)
 (hk:2<=vs.length->∀(z:Value->aR->Prop) (x:sd->aR->Prop),x t s->aW (bn prog w) A (D3 vs.toArray) x z s)
 (H:∀(i j:Nat) (C:Bool->aR->Prop),i<vs.length->j<vs.length->C (decide ((r i).lt (r j))) s->aW (bn prog w) A (keyLt' t (vs.getD i Value.none) (vs.getD j Value.none)) C (λ Z Z=>False) s)
 (h:∀p:Array Nat,IK r vs.length p->P (.done (.ret .none)) {s with heap:=s.heap.update a (Obj.mapSeq λ Z=>dm (p.toList.map λ i=>vs.getD i Value.none))}):
 aW (bn prog w) A (do
  let k <-if vs.toArray.size<2 then pure general' else D3 vs.toArray
  let ((),s) <-(if vs.toArray.size<2 then pure ()else sortRuns').run (SortSt.mk' k (vs.toArray.zip vs.toArray) #[] 7 ai)
  let d:=(arrOf s).map (·.2)
  let b:=(<-seqEpoch a) !=n
  Builtin.List.listUpdate (.ref a) λ Z=>d
  if let ah e:=D5 s then rule "list.sort.comparison-raised";throw e
  if b then rule "list.sort.modified";raiseError "ValueError" "list modified during sort"
  ret .none) P E s:=by
 have fin:∀(c:SortSt) (p:Array Nat),IK r vs.length p->(arrOf c).map (·.2)=dm (p.toList.map λ i=>vs.getD i Value.none)->D5 c=ai->aW (bn prog w) A (do
  let d:=(arrOf c).map (·.2)
  let b:=(<-seqEpoch a) !=n
  Builtin.List.listUpdate (.ref a) λ Z=>d
  if let ah e:=D5 c then rule "list.sort.comparison-raised";throw e
  if b then rule "list.sort.modified";raiseError "ValueError" "list modified during sort"
  ret .none) P E s:=λ c p g e m=>by
  dsimp only;simp only[e,m];refine aw (seqEpoch_at u rfl (aw (listUpdate_at u rfl ?_ (bg _) ?_)))
  ·rw[bne_self_eq_false];exact az (h p g)
  ·simp only[bH,au,nz,g.2.size,dA];exact bc (aH ‹_› (by decide))
 by_cases f:vs.toArray.size<2
 ·rw[if_pos f,if_pos f];refine aw (az (aw (az (fin _ (dm (aZ vs.length)) ⟨yR _ (ci f),.refl _⟩ ?_ rfl))));show (vs.toArray.zip vs.toArray).map (·.2)=_
  match vs,f with
  |[],_=>simp
  |[v],_=>simp
  |_::_::_,f=>exact absurd f (bR.mpr (bJ _ _))
 ·rw[if_neg f,if_neg f];have f:2<=vs.length:=bR.mp f;refine aw (hk f _ _ (aw (aY (kat_run (ks:=vs) (Q:=λ c s'=>∃p:Array Nat,(arrOf c=p.map (kas_item (vs.toArray.zip vs.toArray))/\D5 c=ai)/\s'=s/\IK r vs.length p)
   rfl f q (λ p' c s' a1 F B D=>⟨p',⟨F,B⟩,D⟩) (Cq (r:=r) (P:=λ s'=>s'=s) (λ i j C s' hi G o y=>o▸H i j C hi G (y _ rfl)) (HI (iC f)) rfl λ p s' g o=>⟨o,g⟩)) ?_ λ Z Z e=>e)))
  rintro ⟨⟨⟩,c⟩ s' ⟨p,⟨l,m⟩,rfl,g⟩;exact fin c p g (kat_snds (ks:=vs) (vs:=vs) rfl l) m
theorem vZ{a:aG}{vs:List Value}{n:Nat}{P:PySem.Fin->aR->Prop}(k:sd)(r:Nat->Ky)(g:s.heap.get? a=ah (wN "list" vs.toArray n))(c:vs.length<64)
 (hk:2<=vs.length->∀(s':aR) (l:Value->aR->Prop) (f:sd->aR->Prop),(∀b o,b≠a->s.heap.get? b=ah o->s'.heap.get? b=ah o)->f k s'->aW (bn prog w) A (D3 vs.toArray) f l s')
 (t:∀(s':aR) (i j:Nat) (C:Bool->aR->Prop),(∀b o,b≠a->s.heap.get? b=ah o->s'.heap.get? b=ah o)->i<vs.length->j<vs.length->C (decide ((r i).lt (r j))) s'->aW (bn prog w) A (keyLt' k (vs.getD i Value.none) (vs.getD j Value.none)) C (λ Z Z=>False) s')
 (h:∀p:Array Nat,IK r vs.length p->P (.done (.ret .none)) {s with heap:=sortedHeap s.heap a vs (dm (p.toList.map λ i=>vs.getD i Value.none))}):
 aW (bn prog w) A (Builtin.«list.sort» ⟨[.ref a],[]⟩) P E s:=by
 rw[list_sort_plain];have hz:∀n,n<64->n<=eU:=λ n h=>by exact bc (aH ‹_› (by decide))
 have d:=get?_update_seq g (λ Z=>(#[]:Array Value));have sub:∀b o,b≠a->s.heap.get? b=ah o->(((s.heap.update a (Obj.mapSeq λ Z=>#[])).push (wN "tuple" vs.toArray 0)).push (wN "list" #[] 0)).get? b=ah o:=λ b o q e=>aL _ (aL _ ((fC _ _ _ _ q).trans e))
 exact aw (listItems_at g rfl (aw (listUpdate_at g rfl (aw (seqEpoch_at d rfl (aw (wpAny_newTuple (aw (wpAny_newList (bD (zk k r (aL _ (aL _ d)) c (λ m l f=>hk m _ l f sub) (λ i j C=>t _ i j C sub) h)) (bg _))) (hz _ c))))) (hz _ c) (bg _))))
theorem zj{P:bQ}{S:b7}{vs:List Value}{ks:List V}(r:di P S vs ks){p:Array Nat}(h:IK (λ i=>ky (ks.getD i .none)) vs.length p):
 ∃ys,di P S (p.toList.map λ i=>vs.getD i Value.none) ys/\ys.Perm ks/\du ys:=by
 obtain ⟨f,b⟩:=h;have g:=r.length;have a:∀i∈p.toList,i<vs.length:=λ i hi=>bN.mp (eT.mp ((Array.Perm.mem_iff b).mp (Array.mem_toList_iff.mp hi)));refine ⟨p.toList.map λ i=>ks.getD i .none,?_,?_,?_⟩
 ·clear f b;generalize p.toList=l at a;induction l with
  |nil=>exact .nil
  |cons i l m=>have hi:=a i (.head _);refine .cons ?_ (m λ j c=>a j (.tail _ c));show VR P S (vs.getD i Value.none) _;rw[show vs.getD i Value.none=vs[i] by (refine (aD).trans ?_;rw[ay hi]);rfl];exact (r.getD hi)
 ·refine ((Array.perm_iff_toList_perm.mp b).map _).trans ?_;rw[show (y1 (λ i=>ks.getD i V.none) (aZ vs.length).toArray.toList)=ks from ?_];rw[g];exact List.ext_getElem (by simp only[au,bf]) λ i e k=>by rw[bU,jR,aD,ay k];rfl
 ·unfold du;rw[bS,j8];intro i j hi c d;have hz:∀{i} (hi:i<p.toList.length),p.getD i 0=p.toList[i]:=λ {i} hi=>dif_pos (by rwa [nz]at hi);have e:=f i j (bc d) (by rwa [nz,Pm.size b]at c);unfold qv at e;rwa [hz hi,hz c]at e
noncomputable def Pn(k:Nat):sd:=match k with
 |0=>oneType'
 |1=>oneType'
 |_+2=>tuples' aj
theorem ED{P:bQ}{ks:List V}(r:di P S us ks):(∀x∈ks,Sh 0 x)->∃ns,IntsAre us ns:=
 r.ind (λ Z=>⟨[],.nil⟩) λ u us v vs a Z d h=>by obtain ⟨i,_,_,e⟩:=h _ (.head _);subst e;obtain ⟨ns,c⟩:=d λ x b=>h x (.tail _ b);exact a.Rc λ t=>⟨_,.cons i t c⟩
theorem EC{P:bQ}{ks:List V}(r:di P S us ks):(∀x∈ks,Sh 1 x)->∃ns,AW us ns:=
 r.ind (λ Z=>⟨[],.nil⟩) λ u us v vs a Z d h=>by obtain ⟨_,_,i,e⟩:=h _ (.head _);subst e;obtain ⟨ns,c⟩:=d λ x b=>h x (.tail _ b);exact a.Rh λ t=>⟨_,.cons i t c⟩
theorem HO{P:bQ}(hS:∀b o,S b o->H.get? b=ah o){us:List Value}{ks:List V}(r:di P S us ks):(∀x∈ks,Sh (k+2) x)->∃fs,KatTups H us fs/\fs.length=us.length/\∀f∈fs,∃i t,f=Value.int i t:=
 r.ind (λ Z=>⟨[],.nil,rfl,λ Z h=>nomatch h⟩) λ u us v vs a Z m h=>by
  refine ew (m λ x g=>h x (.tail _ g)) λ fs p c d=>?_;obtain ⟨i,j,x,e⟩:=h _ (.head _);obtain ⟨l,e⟩:∃l,v=.tup (.int i::l):=by cases k<;>exact ⟨_,e⟩
  cases e;exact a.Rn λ q ws n e rs=>rs.Rd (Qs:=λ ws=>H.get? q=ah (dU ws.toArray n)->_) (λ w ws b Z=>b.Rc λ t e=>⟨.int i t::fs,.cons e rfl rfl rfl p,congrArg j4 c,i8.mpr ⟨⟨i,t,rfl⟩,d⟩⟩) (hS _ _ e)
theorem Fe{P:bQ}{vs:List Value}{ks:List V}{Q:sd->aR->Prop}(hS:∀b o,S b o->s.heap.get? b=ah o)(r:di P S vs ks)(c:∀x∈ks,Sh k x)(a:2<=vs.length)(q:Q (Pn k) s):aW (bn prog w) A (D3 vs.toArray) Q E s:=by
 cases k with
 |zero=>
  refine ze (ED r c) λ ns f=>?_;clear r c;cases vs with
  |nil=>exact absurd a (by decide)
  |cons d vs=>
   cases vs with
   |nil=>exact absurd a (nw 1)
   |cons e vs=>simp only[keyKind_ints f];exact az q
 |succ k=>
  cases k with
  |zero=>
   refine ze (EC r c) λ ns f=>?_;clear r c;cases vs with
   |nil=>exact absurd a (by decide)
   |cons d vs=>
    cases vs with
    |nil=>exact absurd a (nw 1)
    |cons e vs=>simp only[keyKind_strs f];exact az q
  |succ k=>refine ew (HO hS r c) λ fs j h m=>?_;exact kat_kind (T:=Value.type "int") j (h.symm▸aH Nat.two_pos a) (λ v l=>by refine Jc (m v l) λ i t g=>?_;subst g;exact Looks.of_pure rfl) rfl q
inductive Ha:List V->List V->Prop
 |nil:Ha [] []
 |int (a c:Int) {xs ys:List V}:Ha xs ys->Ha (.int a::xs) (.int c::ys)
 |str (x y:Str):Ha [.str x] [.str y]
theorem E_{b:Bool}{a c:Int}{t u:I2}{C:Bool->aR->Prop}(h:C (decide (a<c)) s):aW (bn prog w) A (oneLt' b (.int a t) (.int c u)) C E s:=by
 cases b with
 |false=>exact kat_one _ _ (lt_int h)
 |true=>exact oneLt_int h
theorem E9{b:Bool}{a c:Str}{t u:I2}{C:Bool->aR->Prop}(h:C (decide (a.cps.toList<c.cps.toList)) s):aW (bn prog w) A (oneLt' b (.str a t) (.str c u)) C E s:=by
 cases b with
 |false=>exact kat_one _ _ (PyProof.Rows.lt_str h)
 |true=>exact kas_lt_str h
theorem rH{p q:Prop}{c:Decidable p}{d:Decidable q}(h:p↔q):decide p=decide q:=by
 by_cases a:p
 ·refine (decide_eq_true a).trans ?_;rw[decide_eq_true (h.mp a)]
 ·refine (decide_eq_false a).trans ?_;rw[decide_eq_false λ b=>a (h.mpr b)]
theorem Fz{P:bQ}{b fin:Bool}(f:fin=ao){xs:List V}{C:Bool->aR->Prop}(R:Ha xs ys):∀{us vs:List Value} {i:Nat},di P S us xs->di P S vs ys->C (decide ((xs.foldr NO []).lt (ys.foldr NO []))) s->KatLex prog w A b fin C (us.zip vs) i s:=by
 induction R with
 |nil=>exact λ r d h=>r.RA (d.RA (kat_nil (f▸h)))
 |@int a c xs ys R k=>
  exact λ r d h=>r.Rd λ u us x r=>d.Rd λ v vs y d=>x.Rc λ t=>y.Rc λ j=>kat_cons (wpAny_eqBool_int (by
   by_cases e:a=c
   ·rw[beq_iff_eq.mpr e];exact kat_yes (k r d (rH (iU.trans (or_iff_right (e▸Int.lt_irrefl a) |>.trans (and_iff_right e)))▸h))
   ·rw[beq_eq_false_iff_ne.mpr e];exact kat_no (E_ (rH (iU.trans (or_iff_left λ g=>e g.1))▸h))))
 |str x y=>
  exact λ r d h=>r.Tw λ u a=>d.Tw λ v l=>a.Rh λ t=>l.Rh λ j=>kat_cons (wpAny_eqBool_str (by
   have h:C (decide ((tM x).lt (tM y))) s:=h;by_cases e:x=y
   ·rw[decide_eq_true e];subst e;rw[decide_eq_false (Ky.ir _)]at h;exact kat_yes (kat_nil (f▸h))
   ·rw[decide_eq_false e];exact kat_no (E9 (rH yc▸h))))
theorem Ha.len(R:Ha xs ys):xs.length=ys.length:=by
 induction R with
 |nil=>rfl
 |int _ _ _ k=>exact congrArg j4 k
 |str=>rfl
theorem yJ{P:bQ}{v:Value}{C:Bool->aR->Prop}(hS:∀b o,S b o->s.heap.get? b=ah o)(d:VR P S u (.tup xs))(g:VR P S v (.tup ys))(R:Ha xs ys)(h:C (decide ((ky (.tup xs)).lt (ky (.tup ys)))) s):aW (bn prog w) A (keyLt' (tuples' aj) u v) C E s:=
 d.Rn λ a us n e rs=>g.Rn λ k f j i c=>kat_lt (hS _ _ e) rfl (hS _ _ i) rfl (Fz (decide_eq_false (by simp only[bH,bH,rs.length,c.length,R.len];exact bA _)) R rs c h)
theorem Iu{P:bQ}{v:Value}{x y:V}{C:Bool->aR->Prop}(hS:∀b o,S b o->s.heap.get? b=ah o)(e:VR P S u x)(f:VR P S v y)(l:Sh k x)(i:Sh k y)(h:C (decide ((ky x).lt (ky y))) s):aW (bn prog w) A (keyLt' (Pn k) u v) C E s:=by
 obtain ⟨a,b,x,rfl⟩:=l;obtain ⟨c,d,y,rfl⟩:=i;cases k with
 |zero=>exact e.Rc λ t=>f.Rc λ j=>oneLt_int (rH (iU.trans (or_iff_left λ g=>List.not_lt_nil ([]:List Int) g.2))▸h)
 |succ k=>
  cases k with
  |zero=>exact e.Rh λ t=>f.Rh λ j=>kas_lt_str (rH yc▸h)
  |succ k=>
   cases k with
   |zero=>exact yJ hS e f (.int _ _ (.int _ _ .nil)) h
   |succ k=>exact yJ hS e f (.int _ _ (.int _ _ (.str _ _))) h
theorem Ev{k:Nat}{S:b7}{a:aG}{vs:List Value}{ks:List V}{n:Nat}{P:PySem.Fin->aR->Prop}(hS:∀b o,S b o->b≠a/\s.heap.get? b=ah o)(m:s.heap.get? a=ah (wN "list" vs.toArray n))(d:vs.length<64)(r:di w.params S vs ks)(f:∀x∈ks,Sh k x)
 (h:∀out ys,di w.params S out ys->ys.Perm ks->du ys->P (.done (.ret .none)) {s with heap:=sortedHeap s.heap a vs out.toArray}):
 aW (bn prog w) A (Builtin.«list.sort» ⟨[.ref a],[]⟩) P E s:=
 vZ (Pn k) (λ i=>ky (ks.getD i .none)) m d (λ t s' B z c u=>Fe (λ b o e=>c b o (hS b o e).1 (hS b o e).2) r f t u)
  (λ s' i j C c hi g q=>by
   have at_:∀{i:Nat},i<vs.length->VR w.params S (vs.getD i Value.none) (ks.getD i .none)/\Sh k (ks.getD i .none):=λ {i} hi=>by
    have e:vs.getD i Value.none=vs[i]:=by (refine (aD).trans ?_;rw[ay hi]);rfl
    exact ⟨e▸r.getD hi,by simp only[aD,ay (r.length▸hi)];exact f _ (cG _)⟩
   exact Iu (λ b o e=>c b o (hS b o e).1 (hS b o e).2) (at_ hi).1 (at_ g).1 (at_ hi).2 (at_ g).2 q)
  λ p l=>by refine ew (zj r l) λ ys a1 v y=>?_;exact h _ ys a1 v y
theorem qH{k:Nat}{S:b7}{u:Value}{ks:List V}{Q:Value->aR->Prop}(hS:∀b o,S b o->s.heap.get? b=ah o)(g:ks.length<64)(n:∀x∈ks,Sh k x)
 (i:∀(E:Value->aR->Prop) (R:List Value->aR->Prop),(∀h' tk vs,(∀b o,s.heap.get? b=ah o->h'.get? b=ah o)->di w.params S vs ks->R vs {s with heap:=h',toks:=tk})->aW (bn prog w) A.in1 (collect u) R E s)
 (h:∀a h' tk out ys c,(∀b o,s.heap.get? b=ah o->h'.get? b=ah o)->s.heap.get? a=ai->h'.get? a=ah (W.listOf out.toArray c)->di w.params S out ys->ys.Perm ks->du ys->Q (.ref a) {s with heap:=h',toks:=tk}):
 aW (bn prog w) A (call (.builtin "sorted") [u]) Q E s:=by
 refine Calls.call_function_entry kind_sorted plain_sorted entry_sorted (args_sorted1 _) ?_;unfold Builtin.«sorted»;refine aw (m:=checkCount "sorted" 1 1 _) (az ?_);refine aw (i _ _ λ h₁ tk vs hk r=>?_);have j:=r.length;refine aw (wpAny_newList ?_ (by exact JE j g));have d:(h₁.push (wN "list" vs.toArray 0)).get? h₁.objs.size=ah (wN "list" vs.toArray 0):=bO _ rfl;refine aw (bD (dO slot_list_sort ⟨_,d,rfl⟩ entry_list_sort (Ev (λ b o e=>⟨ch (cm (hk b o (hS b o e))),aL _ (hk b o (hS b o e))⟩) d (Ox j g) r n λ out ys a1 p q=>⟨_,rfl,?_⟩) (args_list_sort _)));refine ze (sortedHeap_at (vs:=vs) (out:=out.toArray) d) λ c i=>?_;refine az ⟨_,rfl,h _ _ tk out ys c (λ b o e=>?_) ?_ i a1 p q⟩
 ·have f:b<h₁.objs.size:=cm (hk b o e);exact (sortedHeap_old (ch f) (by simp only[size_push'];exact cA f)).trans (aL _ (hk b o e))
 ·cases l:s.heap.get? h₁.objs.size with
  |none=>rfl
  |some o=>exact absurd (cm (hk _ _ l)) (bA _)
theorem kF{v:V}(ok:O.Ok)(i:LV Y v xs)(d:xs.length<64)(f:∀x∈xs,Sh k x)(h:∀ys,ys.Perm xs->du ys->mL Q Y ys):cS O Ex (.builtin "sorted") [v] Q Y:=.one λ Kp Jj s u R g=>by obtain ⟨a,vs,n,e,rs⟩:=i.at R g;refine qH R.sub d f (λ E R' q=>collect_list ⟨_,e,rfl,_,rfl⟩ (q _ s.toks _ (λ b o e=>?_) (rs.mono (.refl _))) (by rw[rs.length];exact bc (aH ‹_› (by decide)))) λ a h' tk out ys c k1 k2 k3 a1 j l=>R.SI (tk:=tk) ok k1 k2 k3 a1 (h ys j l);exact (fC _ _ _ _ (ch (cm e))).trans (aL _ e)
theorem v2{P:bQ}{rows:List (Int×Value)}{acc:Array Value}(h:ItemsOf (λ i v=>∃k x,rows[i]? =ah (k,x)/\(j_ prog w).is k v=aj) acc rows.length):di P S acc.toList (rows.map λ r=>V.int r.1):=by refine di.Sg (by simp[h.1]) λ i u v c b=>?_;refine g_ (h.2 i u (by simpa using c)) λ k x d hk=>?_;simp[d]at b;refine ze (Value.isInt_shape hk) λ t a=>?_;subst a;subst b;exact .int _ _
theorem kG{v:V}(ok:O.Ok)(m:DV Y v kvs)(g:kvs.length<64)(l:∀p∈kvs,kk p.1=1)(nd:(kvs.map (·.1)).Nodup)(h:∀ys,ys.Perm (kvs.map (·.1))->du ys->mL Q Y ys):cS O Ex (.builtin "sorted") [v] Q Y:=.one λ Kp Jj s u R o=>by
 obtain ⟨a,es,n,e,rs,lo⟩:=m.at R o;refine ew (uf (prog:=O.G.prog) (w:=O.G.w) e rs l nd) λ rows y B d=>?_;refine qH (k:=0) (ks:=kvs.map (·.1)) R.sub (by simpa using g) (λ x z=>?_) (λ E R' q=>?_) λ b h' tk out ys c k1 k2 k3 a1 C r=>R.SI (tk:=tk) ok k1 k2 k3 a1 (h ys C r)
 ·refine b4 (aC.mp z) λ p t j=>?_;subst j;refine ze (nh (l p t)) λ i e=>?_;simp only[e];exact .int i
 ·refine kdu_collect (A:=O.A.in1) (kdl_dict (knd:=j_ O.G.prog O.G.w) (kvs:=rows) (ep:=n) lo) ok.hand y (by exact JE d g) λ h' tk acc hk f=>q h' tk _ hk ?_;simp only[<-B];exact v2 f
theorem FD{v:V}(ok:O.Ok)(g:DV Y v kvs)(hz:kvs.length<=2^20)(i:∀p∈kvs,kk p.1=1)(nd:(kvs.map (·.1)).Nodup)(h:mL Q Y (kvs.map (·.1))):cS O Ex (.type "list") [v] Q Y:=.one λ Kp Jj s u R l=>by obtain ⟨a,es,n,e,rs,lo⟩:=g.at R l;refine ew (uf (prog:=O.G.prog) (w:=O.G.w) e rs i nd) λ rows f j d=>?_;refine kdl_call (kdl_dict (knd:=j_ O.G.prog O.G.w) (kvs:=rows) (ep:=n) lo) ok.hand f (by exact Ow d hz) λ h' tk acc c hk k b=>?_;refine R.SI (tk:=tk) (us:=acc.toList) (n:=c) ok hk (dh _) (by exact k) ?_ h;simp only[<-j];exact v2 b
theorem z9(ok:O.Ok)(hz:x.cps.size<=2^20)(h:mL Q Y (x.cps.toList.map λ c=>V.str ⟨#[c]⟩)):cS O Ex (.type "list") [.str x] Q Y:=.one λ Kp Jj s u R l=>by refine ze (ya l) λ t d=>?_;subst d;refine call_list_str ok.hand x t (λ h' tk acc c hk j a=>?_) (by exact aA ‹_› (by decide));refine R.SI (tk:=tk) (us:=acc.toList) (n:=c) ok hk (dh _) (by exact j) ?_ h;refine di.Sg (by simp[a.1]) λ i u v f e=>?_;refine g_ (a.2 i u (by simpa using f)) λ k t g b=>?_;subst b;simp[g]at e;subst e;exact .str _ _
set_option maxRecDepth 8000 in
theorem wW{a:aG}{vs:Array Value}{Q:Option Value->aR->Prop}(l:s.heap.get? a=ah (dU vs k))(u:A.handled=ai)(h:∀h' tk,(∀b o,s.heap.get? b=ah o->h'.get? b=ah o)->Q ai {s with heap:=h',toks:=tk}):aW (bn prog w) A (getAttr? (.ref a) "keys") Q E s:=by
 obtain ⟨p,g,d,tk,os⟩:=s;have n:∀f,(⟨p,g,d,f,os⟩:aR).TypeIs (.ref a) "tuple":=λ Z=>⟨_,l,rfl⟩;have m:=sub_AttributeError;have x:=F.slot_tuple_getattribute.lookup;have y:=F.slot_tuple_getattribute.bind (.ref a);have v:=am_tuple_getattr_none;unfold getAttr? getAttrBy? getAttrBy
 repeat (any_goals (first|assumption|exact n _|((with_reducible show aW _ _ (call (Value.builtin "tuple.__getattribute__") _ _) _ _ _);refine kQ F.slot_tuple_getattribute (n _) am_entry_tuple_getattribute (F.args_tuple_getattribute_2 _ _) (meets_getattribute_miss_tuple a vs k #[] "keys" _ (am_miss_of_fast (by decide+kernel)) (by decide+kernel)) ⟨l,u,λ h' f e c=>?_⟩)|wp_step))
 refine fo c.of.there λ o r t q Z=>?_;have j:∀i,(⟨h',g,d,i,os⟩:aR).TypeIs (.ref e) "AttributeError":=λ Z=>⟨_,t,q⟩;show aW _ _ (getattributeRaised _ _ _ _ _ _ _) _ _ _;skip;refine aw (ji (j _) m ?_);skip
 repeat (any_goals (first|assumption|exact j _|(with_reducible refine aw (ji (j _) m ?_))|wp_step))
 exact h _ _ c.of.keeps
theorem VR.pair{P:bQ}{x y:V}(h:VR P S u (.tup [x,y])):∃a m v w,u=.ref a/\S a (dU (dm [v,w]) m)/\VR P S v x/\VR P S w y:=
 h.Rn (Q:=λ u=>∃a m v w,u=.ref a/\S a (dU (dm [v,w]) m)/\VR P S v x/\VR P S w y) λ a vs m e r=>r.UK (Qs:=λ vs=>S a (dU (dm vs) m)->∃b m v w,Value.ref a=.ref b/\S b (dU (dm [v,w]) m)/\VR P S v x/\VR P S w y) (λ v w p q e=>⟨a,m,v,w,rfl,e,p,q⟩) e
theorem to:entryFor table "dict.update.loop"=ah Builtin.«dict.update.loop»:=entryFor_of_tree (by kernel_rfl)
theorem mh:plainId "dict.update.loop"=aj:=by decide+kernel
theorem A8{k v:V}(hk:kk k=1)(c:∀p∈kvs,kk p.1=1)(d:k∉kvs.map (·.1)):io k v kvs=kvs++[(k,v)]:=by refine l_ (dq.mpr λ p b=>?_);refine ze (nh (c p b)) λ i e=>?_;refine ze (nh hk) λ j a=>?_;subst a;rw[e,kX];refine decide_eq_false λ q=>d ?_;simp only[<-q,<-e];exact bp b
theorem z5{R:qr->aR->Prop}{S:b7}{d I a:aG}{vs:List Value}{n:Nat}{ps:List (V×V)}{h₀:Heap}(hS:∀b o,S b o->h₀.get? b=ah o)(hA:A.handled=ai)(hu:A.units+60<e9)(hsz:vs.length<=1000)
 (z:d≠I) (Zv:h₀.get? d=ai) (C:h₀.get? I=ai) (ha:h₀.get? a=ah (dU vs.toArray n)) (hv:di w.params S vs (ps.map λ p=>V.tup [p.1,p.2])) (hk:∀p∈ps,kk p.1=1) (nd:(ps.map (·.1)).Nodup):
 ∀(k i:Nat) (s:aR) (es:List bL) (ep:Nat),i+k=vs.length->s.heap.get? d=ah (W.dictOf es ep)->f_ w.params S es (ps.take i)->s.heap.IsTupleIter I a i->
  (∀b o,h₀.get? b=ah o->s.heap.get? b=ah o)->
  (∀h' tk RB t,(∀b o,h₀.get? b=ah o->h'.get? b=ah o)->h'.get? d=ah (W.dictOf RB t)->f_ w.params S RB ps->R (.ok (.ret .none)) {s with heap:=h',toks:=tk})->
  gd (bn prog w) A (.builtin "dict.update.loop" ⟨[.ref d,.ref I,.int i 0,.none],[]⟩) R s:=by
 have h:ps.length=vs.length:=(au _).symm.trans hv.length.symm;have L:A.units+41<e9:=aQ (jv (by decide) _) hu;intro k;induction k with
 |zero=>intro i s es ep j hd F Q f hR;have U:i=vs.length:=j;refine codeAny_builtin to ?_;rw[Around.under_plainId mh _];show aW _ A.in1 (wO (.ref I)>>=_) _ _ s;refine aw (AP hA Q ⟨_,f _ _ ha,rfl,_,rfl⟩ (by rw[b5];exact bl (cq (bz ‹_›))) λ h' he=>?_);refine aw (az ?_);refine az (hR h' s.toks es ep (λ b o e=>he b o (λ q=>by rw[q,C]at e;cases e) (f b o e)) (he _ _ z hd) ?_);rw[lG (cq (h.trans U.symm))]at F;exact F
 |succ k ih=>
  intro i s es ep j hd F Q f hR;have g:i<ps.length:=h▸j▸ia (cp k);refine b4 (hv.get (i:=i) (v:=.tup [ps[i].1,ps[i].2]) (by simp[g])) λ u H K=>?_;refine codeAny_builtin to ?_;rw[Around.under_plainId mh _];show aW _ A.in1 (wO (.ref I)>>=_) _ _ s;refine aw (AD Q ⟨_,f _ _ ha,rfl,_,rfl⟩ (x:=u) (by rw[b5];exact H) λ h' Z hs=>?_);have k1:∀b o,h₀.get? b=ah o->h'.get? b=ah o:=λ b o e=>(hs.2 b (λ q=>by rw[q,C]at e;cases e)).trans (f b o e);refine AY K.pair λ c m O N Y e r1 r2=>?_;subst Y;have hc:h'.get? c=ah (dU [O,N].toArray m):=k1 _ _ (hS _ _ e);refine aw (bD ?_);refine aw (wpAny_tryCatch ?_);unfold Builtin.Dict.pairItems;refine aw (wpAny_typeOf (T:="tuple") ⟨_,hc,rfl⟩ ?_);rw[if_pos (by decide)];refine aw (wpAny_seqItems hc rfl ?_);refine az ?_;show aW _ _ (kc [O,N] (AU d O N)) _ _ _;refine bD ?_;have G:=hk ps[i] (cG g);have r:∀p∈ps.take i,kk p.1=1:=λ p P=>hk p (cE P);have y:((ps.take (i+1)).map (·.1)).Nodup:=by rw[g1];exact nd.sublist (ff _ _)
  rw[aS g,aK,aV]at y;have E:ps[i].1∉(ps.take i).map (·.1):=λ q=>y.2.2 _ q _ (by simp) rfl;refine oE (s:={s with heap:=h'}) (λ b o e=>k1 b o (hS b o e)) L ((hs.2 d z).trans hd) F (k:=ps[i].1) ⟨λ e=>absurd (G.symm.trans e) (by decide),λ p P=>(r p P).trans G.symm,y.1⟩ r1 r2 (gH (aA (List.length_take_le _ _) (aA (bc (h▸g)) (aA hsz (by decide))))) λ M RB t tk sb B l=>?_
  rw[A8 G r E,<-aS g]at l;show aW _ _ (again _) _ _ _;refine az ⟨plainId_quiet mh _,?_⟩;refine ew Z λ oI X J D=>?_;exact ih (i+1) {s with heap:=M,toks:=tk} RB t ((cR i 1 k).trans j) B l ⟨oI,(sb.2 I (Ne.symm z)).trans X,J,D⟩ (λ b o e=>(sb.2 b (λ q=>by rw[q,Zv]at e;cases e)).trans (k1 b o e)) hR
theorem pL{S:b7}{a:aG}{vs:List Value}{n:Nat}{ps:List (V×V)}{Q:Value->aR->Prop}(hS:∀b o,S b o->s.heap.get? b=ah o)(u:A.handled=ai)(x:A.units+80<e9)(hsz:vs.length<=1000)
 (v:s.heap.get? a=ah (dU vs.toArray n)) (y:di w.params S vs (ps.map λ p=>V.tup [p.1,p.2])) (hk:∀p∈ps,kk p.1=1) (nd:(ps.map (·.1)).Nodup)
 (h:∀h' tk RB j,(∀b o,s.heap.get? b=ah o->h'.get? b=ah o)->h'.get? s.heap.objs.size=ah (W.dictOf RB j)->f_ w.params S RB ps->Q (.ref s.heap.objs.size) {s with heap:=h',toks:=tk}):
 aW (bn prog w) A (call (.type "dict") [.ref a]) Q E s:=by
 refine callType_codes (Q₁:=λ l g=>l=.ref s.heap.objs.size/\g={s with heap:=s.heap.push {cls:=.type "dict",data:=.dict #[]}}) F.kt_called_dict (F.kt_typeCall_dict_1 _) F.entry_dict_init (kt_code_dict_new _ ⟨rfl,rfl⟩) ?_
 rintro l g ⟨rfl,rfl⟩;have f:(s.heap.push {cls:=.type "dict",data:=.dict #[]}).get? s.heap.objs.size=ah (W.dictOf [] 0):=bO _ rfl;have i:(s.heap.push {cls:=.type "dict",data:=.dict #[]}).get? a=ah (dU vs.toArray n):=aL _ v;refine ⟨⟨_,f,rfl⟩,F.args_dict_init_2 _ _,?_⟩;unfold Builtin.«dict.__init__»;refine aw ?_;dsimp only[Builtin.Dict.selfAndRest];refine aw (gr ⟨_,f,rfl⟩ ?_);show aW _ _ (pure (s.heap.objs.size,[Value.ref a])) _ _ _;refine az ?_;show aW _ _ (Builtin.Dict.updateFrom "dict.__init__" s.heap.objs.size (.ref a) [] .none) _ _ _;dsimp only[Builtin.Dict.updateFrom];refine aw (wpAny_typeOf (T:="tuple") ⟨_,i,rfl⟩ ?_);skip;refine aw (wW (s:={s with heap:=s.heap.push {cls:=.type "dict",data:=.dict #[]}}) i (by first|exact u|simpa using u) λ h₁ r c=>?_)
 refine wpAny_ite_split (λ Z=>?_) (λ q=>absurd rfl q);refine aw (ik ?_);refine aw (Hc (t:=a) (items:=vs.toArray) ⟨_,c _ _ i,rfl,_,rfl⟩ ?_);have m:=c _ _ f;have k:s.heap.objs.size<h₁.objs.size:=cm m;refine az ⟨plainId_quiet mh _,?_⟩;refine z5 (A:=A.in1) (S:=S) (d:=s.heap.objs.size) (I:=h₁.objs.size) (a:=a) (vs:=vs) (n:=n) (ps:=ps) (h₀:=s.heap) hS u (by show A.units+1+60<e9;exact Ov x) hsz (ch k) (dh _) (ee (bc k)) v y hk nd
  vs.length 0 _ [] 0 (cO _) (aL _ m) .nil ⟨_,bO _ rfl,rfl,rfl⟩ (λ b o e=>aL _ ((λ b o e=>c _ _ (aL _ e)) b o e)) λ h' tk RB j k1 k2 k3=>⟨rfl,h h' tk RB j k1 k2 k3⟩
theorem wf{ps:List (V×V)}(ok:O.Ok)(hz:ps.length<=1000)(hk:∀p∈ps,kk p.1=1)(nd:(ps.map (·.1)).Nodup)(h:∀a,Q (.ref a) ⟨Y.vals,(a,.dict ps)::Y.mu⟩):cS O Ex (.type "dict") [.tup (ps.map λ p=>V.tup [p.1,p.2])] Q Y:=λ Kp Jj s us R d=>by cases d with|cons h1 h2=>cases h2;cases h1 with|tup e rs=>exact pL (S:=Kp) R.sub ok.hand (by have:=ok.units;exact Ou this) (by rw[rs.length];simpa using hz) (R.sub _ _ e) rs hk nd λ h' tk RB f k1 k2 k3=>⟨.ref _,_,Kp,.refl _,R.US (p:=(_,.dict ps)) ok k1 (λ b c=>by simp[ce]at c;rw[c];exact dh _) (.dict (R.Sq ok) k2 k3) (by simp[ce]),.ref _,h _⟩
noncomputable def rz(kb:List (V×V))(p:V×V):Bool:=match ez kb p.1 with|some y=>gz p.2 y|none=>ao
noncomputable def C0(ka kb:List (V×V)):Bool:=ka.length==kb.length&&ka.all (rz kb)
theorem zX{p:V×V}(h:kb.findIdx? (λ q=>gz q.1 p.1)=ai):rz kb p=ao:=by unfold rz;rw[(show ez kb p.1=ai by unfold ez;rw[List.find?_eq_none.mpr λ q a=>by simpa using dq.mp h q a];rfl)]
theorem zW{p:V×V}(h:kb.findIdx? (λ q=>gz q.1 p.1)=ah j):∃d:j<kb.length,rz kb p=gz p.2 kb[j].2:=by
 refine Qg (e7.mp h) λ a b c=>?_;have:ez kb p.1=ah kb[j].2:=by unfold ez;rw[show kb.find? (λ q=>gz q.1 p.1)=ah kb[j] from List.find?_eq_some_iff_getElem.mpr ⟨b,j,a,rfl,λ k hk=>by simpa using c k hk⟩];rfl
 exact ⟨a,by unfold rz;rw[this]⟩
inductive QU(ka kb:List (V×V))(s:aR)(rest:List Nat)(q:Option Bool×Unit)(s':aR):Prop
 |mk (i k:Nat) (e:s'=s) (eq:q=(ai,())) (er:rest=List.range' i k) (hk:i+k=ka.length) (h:(ka.drop i).all (rz kb)=ka.all (rz kb))
theorem u4{N:String}{a b:aG}{RB:List bL}{C:Nat}{Q:Bool->aR->Prop}(hS:∀b o,S b o->s.heap.get? b=ah o)(J:A.units+60<e9)(T:(a==dz)=ao)(v:(b==dz)=ao)(d:s.heap.get? a=ah (W.dictOf es ep))(m:s.heap.get? b=ah (W.dictOf RB C))(H:f_ w.params S es ka)(y:f_ w.params S RB kb)(X:c≠0)(F:∀p∈ka,kk p.1=c/\lP 8 p.2=aj)(t:∀p∈kb,kk p.1=c/\lP 8 p.2=aj)(nd:(kb.map (·.1)).Nodup)(h:Q (C0 ka kb) s):aW (bn prog w) A (Builtin.Dict.samePairs N a b) Q E s:=by
 have r:=H.length;have G:=y.length;unfold C0 at h;rw[<-r,<-G]at h;unfold Builtin.Dict.samePairs Builtin.Dict.showsAll;rw[if_neg (show ¬(a==dz)=aj by rw[T];exact df),if_neg (show ¬(b==dz)=aj by rw[v];exact df)];refine aw (az (aw (az ?_)));refine aw (gy d rfl ?_);dsimp only;refine aw (gy m rfl ?_);rw[bH,bH];by_cases hsz:es.length=RB.length
 case neg=>rw[if_pos (by simpa using hsz)];rw[(show (es.length==RB.length)=ao by simpa using hsz),Bool.false_and]at h;exact aw (ik (az h))
 case pos=>
  rw[if_neg (by rw[hsz];simp)];have h':Q (ka.all (rz kb)) s:=by simpa[hsz]using h
  refine aw (wpAny_dictEpoch d rfl ?_);refine aw ?_;rw[Std.Legacy.Range.forIn_eq_forIn_range'];simp only[Std.Legacy.Range.size,Nat.sub_zero,j6,Nat.div_one];refine tB _ (QU ka kb s) _ ?_ ?_ _ _ ⟨0,es.length,rfl,rfl,by simp,by rw[r];exact cO _,rfl⟩
  ·intro x M q s' ⟨i,k,u,n,e,hk,SF⟩;subst u;subst n;cases k with
   |zero=>cases e
   |succ k=>
   rw[DQ]at e;refine za (List.cons.inj e) λ B e=>?_;subst B;have l:x<ka.length:=hk▸ia (cp k);refine aw (gy d rfl ?_);obtain ⟨K,u,n,R,V⟩:=H.get (ay l);rw[b5,u];rw[j9 l,uU]at SF;have z:=F _ (cG l);show aW _ _ (kc [K.key,K.val] _>>=_) _ _ _;rw[n];have I:rz kb ka[x]=ao->Q ao s':=λ D=>by rw[D,Bool.false_and]at SF;rw[<-SF]at h';exact h'
   refine aw (bD (aw (kY hS (Ot J) m y ⟨by rw[z.1];exact X,λ p P=>(t p P).1.trans z.1.symm,nd⟩ R ?_)));cases L:kb.findIdx? λ p=>gz p.1 ka[x].1 with
   |none=>refine az ?_;show aW _ _ (if (!ao)=aj then _ else _) _ _ _;rw[if_pos (by decide)];exact az (az (I (zX L)))
   |some j=>
    refine zd (zW L) λ g D=>?_;obtain ⟨f,O,Y,Z,U⟩:=y.get (ay g);refine aw (gy m rfl ?_);rw[b5,O];refine bD (yH hS 8 A z.2 (t _ (cG g)).2 V U (Os J) prog w _ _ ?_);rw[<-D];cases v:rz kb ka[x]with
    |false=>show aW _ _ (if (!ao)=aj then _ else _) _ _ _;rw[if_pos (by decide)];exact az (az (I v))
    |true=>rw[v,Bool.true_and]at SF;show aW _ _ (if (!aj)=aj then _ else _) _ _ _;rw[if_neg (by decide)];refine aw (wpAny_dictEpoch d rfl ?_);rw[if_neg (by simp)];exact az ⟨x+1,k,rfl,rfl,e,(cR x 1 k).trans hk,SF⟩
  ·intro q s' ⟨i,k,u,n,e,hk,SF⟩;subst u;subst n;cases k with
   |succ k=>rw[DQ]at e;exact nomatch e
   |zero=>refine az ?_;rw[show i=ka.length from hk,iV]at SF;rw[<-SF]at h';exact h'
theorem Bc{a b:aG}{es RB:List bL}{ep e:Nat}{r:Bool}{Q:Value->aR->Prop}(d:s.heap.get? a=ah (W.dictOf es ep))(c:s.heap.get? b=ah (W.dictOf RB e))(i:A.units<e9)
 (j:∀g Q E,Q r s->aW (bn prog w) A.in1 (Builtin.Dict.samePairs g a b) Q E s) (h:Q (.bool r) s):
 aW (bn prog w) A (cH .Eq (.ref a) (.ref b)) Q E s:=by
 have f:s.TypeIs (.ref a) "dict":=⟨_,d,rfl⟩;refine wI (op:=.Eq) f ⟨_,c,rfl⟩ PySem.F.slot_dict_eq (dO PySem.F.slot_dict_eq f PySem.F.entry_dict_eq ?_ (PySem.F.args_dict_eq_2 _ _)) i;show aW _ _ (Builtin.Dict.dictSlotArgs "__eq__" ⟨[.ref a,.ref b],[]⟩>>=_) _ _ s;refine aw ?_;skip;refine aw (gr f ?_);show aW _ _ (pure (Value.ref a,Value.ref b)) _ _ s;refine az ?_;refine aw (ji (T:="dict") ⟨_,c,rfl⟩ PySem.F.sub_dict_dict ?_);simp only[g4,dC,if_false];refine aw (az (aw (az ?_)));refine aw (j _ _ _ ?_);exact az ⟨_,rfl,(λ x=>nomatch x),by simpa using h⟩
theorem Bb{a b:aG}{es RB:List bL}{ep e:Nat}{r:Bool}{Q:Value->aR->Prop}(d:s.heap.get? a=ah (W.dictOf es ep))(c:s.heap.get? b=ah (W.dictOf RB e))(i:A.units<e9)
 (j:∀g Q E,Q r s->aW (bn prog w) A.in1 (Builtin.Dict.samePairs g a b) Q E s) (h:Q (.bool (!r)) s):
 aW (bn prog w) A (cH .NotEq (.ref a) (.ref b)) Q E s:=by
 have f:s.TypeIs (.ref a) "dict":=⟨_,d,rfl⟩;refine wI (op:=.NotEq) f ⟨_,c,rfl⟩ PySem.F.slot_dict_ne (dO PySem.F.slot_dict_ne f PySem.F.entry_dict_ne ?_ (PySem.F.args_dict_ne_2 _ _)) i;show aW _ _ (Builtin.Dict.dictSlotArgs "__ne__" ⟨[.ref a,.ref b],[]⟩>>=_) _ _ s;refine aw ?_;skip;refine aw (gr f ?_);show aW _ _ (pure (Value.ref a,Value.ref b)) _ _ s;refine az ?_;refine aw (ji (T:="dict") ⟨_,c,rfl⟩ PySem.F.sub_dict_dict ?_);simp only[g4,dC,if_false];refine aw (az (aw (az ?_)));refine aw (j _ _ _ ?_);exact az ⟨_,rfl,(λ x=>nomatch x),by simpa using h⟩
inductive NH(O:FC)(ka kb:List (V×V))(s:aR)(ua ub:Value):Prop
 |mk (a b:aG) (es RB:List bL) (ep ZU:Nat) (e:ua=.ref a) (e':ub=.ref b) (h1:s.heap.get? a=ah (W.dictOf es ep)) (h2:s.heap.get? b=ah (W.dictOf RB ZU)) (h3:∀nm Q E,Q (C0 ka kb) s->aW (bn O.G.prog O.G.w) O.A.in1 (Builtin.Dict.samePairs nm a b) Q E s)
theorem tt{v w:V}(ok:O.Ok)(l:DV Y v ka)(u:DV Y w kb)(x:c≠0)(g:∀p∈ka,kk p.1=c/\lP 8 p.2=aj)(f:∀p∈kb,kk p.1=c/\lP 8 p.2=aj)(nd:(kb.map (·.1)).Nodup)(R:cQ O Y Kp Jj s){i j:Value}(t:VR O.P Kp i v)(o:VR O.P Kp j w):NH O ka kb s i j:=by obtain ⟨a,es,n,e,rs,q⟩:=l.at R t;obtain ⟨b,RB,m,k,d,r⟩:=u.at R o;exact ⟨a,b,es,RB,n,m,rfl,rfl,e,k,λ y Q E h=>u4 R.sub (by have:=ok.units;show O.A.units+1+60<e9;exact Oq this) q r e k rs d x g f nd h⟩
theorem MM{v w:V}(ok:O.Ok)(g:DV Y v ka)(m:DV Y w kb)(o:c≠0)(e:∀p∈ka,kk p.1=c/\lP 8 p.2=aj)(d:∀p∈kb,kk p.1=c/\lP 8 p.2=aj)(nd:(kb.map (·.1)).Nodup)(h:Q (.bool (C0 ka kb)) Y):iB O Ex (cH .Eq) (VR O.P) v w Q Y:=λ Kp Jj s q r R k i=>by obtain ⟨a,b,es,RB,ep,n,rfl,rfl,l,f,j⟩:=tt ok g m o e d nd R k i;exact Bc l f (by have:=ok.units;exact JD this) j (fin _ _ R (.bool _) h)
theorem GO{v w:V}(ok:O.Ok)(g:DV Y v ka)(m:DV Y w kb)(o:c≠0)(e:∀p∈ka,kk p.1=c/\lP 8 p.2=aj)(d:∀p∈kb,kk p.1=c/\lP 8 p.2=aj)(nd:(kb.map (·.1)).Nodup)(h:Q (.bool (!C0 ka kb)) Y):iB O Ex (cH .NotEq) (VR O.P) v w Q Y:=λ Kp Jj s q r R k i=>by obtain ⟨a,b,es,RB,ep,n,rfl,rfl,l,f,j⟩:=tt ok g m o e d nd R k i;exact Bb l f (by have:=ok.units;exact JD this) j (fin _ _ R (.bool _) h)
theorem x_{l r:Expr}(h:XV O Ex (bv l O.env) (kR O Ex r (I5 O Ex (cH op) Q)) Y)(p:y6 op r=ao):XV O Ex (bv (.Compare l [op] [r] pos) O.env) Q Y:=λ Kp Jj s R=>wpAny_Compare1 (h.Q6 R λ n k a i Kk l₁ d q h₁=>h₁.Q6 d λ o Q8 b j f l₂ c m g=>aY (g f Jj Q8 n o c (q.mono l₂) m) (λ Z Z x=>up (l₁.trans l₂) x) λ Z Z e=>e) p
theorem Hv{x y:Expr}{pos:gU}{Q:V->St->Prop}(h:XV O Ex (bv x O.env) (λ v c=>∃b,v=.bool b/\if b=aj then XV O Ex (bv y O.env) Q c else Q v c) Y):
 XV O Ex (bv (.BoolOp .And [x,y] pos) O.env) Q Y:=λ Kp Jj s R=>wpAny_And2 (h.Q6 R λ i f a c Kk l₁ d g h₁=>by
 obtain ⟨b,rfl,h₁⟩:=h₁;cases g;refine fA ?_;cases b with
 |true=>exact aY (h₁ Kk Jj f d) (λ Z Z x=>up l₁ x) λ Z Z e=>e
 |false=>exact ⟨_,c,Kk,l₁,d,.bool _,h₁⟩)
theorem x9{k v:Expr}{pos:gU}{Q:V->St->Prop}(ok:O.Ok)
 (h:∀a,XV O Ex (bv k O.env) (λ m f=>XV O Ex (bv v O.env) (λ y c=>kk m≠0/\∃i:Nat,c.mu[i]? =ah (a,.dict [])/\Q (.ref a) ⟨c.vals,c.mu.set i (a,.dict [(m,y)])⟩) f) ⟨Y.vals,(a,.dict [])::Y.mu⟩):
 XV O Ex (bv (.Dict [ah k] [v] pos) O.env) Q Y:=λ Kp Jj s R=>by
 refine wpAny_Dict_any rfl rfl (by simp) (by simp) ?_;refine pairTrees_cons_walk ((h _).Q6 (R.TB (p:=(s.heap.objs.size,.dict [])) (o:=W.dictOf [] 0) (tk:=s.toks) ok rfl (.dict (n:=0) (es:=[]) (R.Sq ok) (bO _ rfl) .nil)) λ B r a f Kk l₁ g z h₁=>h₁.Q6 g λ C Q8 b c l l₂ d t j=>pairTrees_nil_walk ?_);refine Ec j λ hk i hi q=>?_;unfold storeAll;rw[jh];cases d.mu _ (aX hi)with
 |dict A e rs=>refine aw (aw (oE d.sub (by have:=ok.units;exact O0 this) e rs ⟨hk,(λ Z h=>nomatch h),bK⟩ (z.mono l₂) t (by simp) λ h' RB u tk x hd w=>az ?_));show aW _ _ (forIn [] PUnit.unit _) _ _ _;rw[List.forIn_nil];exact az ⟨.ref _,_,l,l₁.trans l₂,d.Sx (q:=(s.heap.objs.size,.dict [(a,b)])) ok hi rfl (a:=s.heap.objs.size) (by simp[ce]) x ⟨_,hd⟩ (.dict A hd w),.ref _,q⟩
noncomputable def Around.made(A:Around):Around:={A with depth:=A.depth+1,units:=A.units+1}
theorem qB(C:aG)(r:List Value)(A:Around):A.under (.builtin "type.__call__" ⟨.ref C::r,[]⟩)=Around.made A:=by have a:=A;kernel_rfl
theorem Dx.made{g:Heap}{l:aG}{h:Heap}(S:Dx G (d+1) A g l h){h':Heap}(k:∀b o,h.get? b=ah o->h'.get? b=ah o):Dx G d (Around.made A) g l h':=by obtain ⟨⟨c,base,outer,e,m,B,F,p,n,j⟩,i,top,f,a,units⟩:=S;exact ⟨⟨c,base,outer,e,m,B,F.keeps k,p,n,j⟩,i,top,f,by show A.depth+1+d<900;exact JC a,by show A.units+1+40*d+100<e9;exact Op units⟩
theorem nW{args:List V}(hm:makesIn G.K C=aj)(hi:g9 G.K (.ref C) "__init__"=ah (ah (.ref fI)))(P:lJ G.K (.ref fI)=ah (.type "function"))(H:∀x dx,cD G d (.ref fI) (.ref x::args) ((x,.inst C dx [])::J) (λ v J'=>v=.none/\post (.ref x) J')):cD G (d+1) (.ref C) args J post:=by
 intro A g S s us S₀ Q hS M R hN U Y;have i:G.K.In s.heap:=by obtain ⟨⟨z,base,outer,E,m,B,F,hA,P,O⟩,i,_⟩:=Q;exact i.keeps F.keep
 obtain ⟨c,g',d',t,os⟩:=s;have k:∀b o,c.get? b=ah o->((c.push tD).push (ii C c.objs.size)).get? b=ah o:=λ b o e=>aL _ (aL _ e);have I:c.get? c.objs.size=ai:=dh _;have L:c.get? (c.objs.size+1)=ai:=ee (gw _);have j:∀b,c.get? b=ai->g.get? b=ai/\b≠S:=λ b e=>by
  obtain ⟨⟨z,base,outer,E,m,B,F,hA,P,O⟩,_⟩:=Q;constructor
  ·cases q:g.get? b with
   |none=>rfl
   |some o=>rw[F.keep _ _ q]at e;cases e
  ·rintro rfl;refine mI F.ns λ o Z Z w Z=>?_;rw[w]at e;cases e
 have K:addrs ((c.objs.size+1,MO.inst C c.objs.size [])::J)=[c.objs.size+1,c.objs.size]++addrs J:=rfl;have y:∀b∈addrs J,∃o,c.get? b=ah o:=λ b f=>by refine b4 (bT.mp f) λ p l f=>?_;exact (R p l).live b f
 refine make_core (makes_of i hm) (g5 i hi) (λ D=>bind_fn i D P) (.inl rfl) ?_;rw[qB];have hx:((c.push tD).push (ii C c.objs.size)).get? (c.objs.size+1)=ah (ii C c.objs.size):=by heap_get
 have hd:((c.push tD).push (ii C c.objs.size)).get? c.objs.size=ah tD:=by heap_get
 refine ki (H (c.objs.size+1) c.objs.size (Around.made A) g S ⟨(c.push tD).push (ii C c.objs.size),g',d',t,os⟩ (.ref (c.objs.size+1)::us) S₀ (Q.made k) (λ b o e=>⟨k _ _ (hS b o e).1,λ f=>?_⟩) M (λ p l=>?_) ?_ (λ b f=>?_) (.cons (.ref _) Y)) ?_
 ·rw[K]at f;rcases aM.mp f with h|h
  ·have:=(hS b o e).1;rcases aI.mp h with h|h
   ·rw[h,L]at this;cases this
   ·rw[aE.mp h,I]at this;cases this
  ·exact (hS b o e).2 h
 ·rcases aI.mp l with rfl|l
  ·exact .inst (es:=[]) (n:=0) hx hd .nil
  ·exact (R p l).mono (.refl _) λ b Z o e=>k b o e
 ·rw[K,aV];refine ⟨by simp,hN,λ a ha b f e=>?_⟩;subst e;refine ze (y a f) λ o w=>?_;rcases aI.mp ha with h|h
  ·rw[h,L]at w;cases w
  ·rw[aE.mp h,I]at w;cases w
 ·rw[K]at f;rcases aM.mp f with h|h
  ·rcases aI.mp h with h|h
   ·rw[h];exact j _ L
   ·rw[aE.mp h];exact j _ I
  ·exact U b h
 ·rintro r s' ⟨u,v,J',S',rfl,st,keep,al,le,Vo,Ug,TC,Uo,hv,rfl,l⟩;cases hv;refine ⟨rfl,_,.ref (c.objs.size+1),J',S',rfl,st,λ b o e W=>keep b o (k b o e) ?_,λ b o e=>al b o (k b o e),le,λ b o e=>?_,Ug,TC,λ b f=>?_,.ref _,l⟩
  ·rw[K];intro f;rcases aM.mp f with h|h
   ·rcases aI.mp h with h|h
    ·rw[h,L]at e;cases e
    ·rw[aE.mp h,I]at e;cases e
   ·exact W h
  ·refine jw (Vo b o e) λ X T h3=>?_;refine ⟨X,T,h3.imp id λ q=>?_⟩;cases N:c.get? b with
   |none=>rfl
   |some o'=>rw[k _ _ N]at q;cases q
  ·rcases Uo b f with h|h
   ·rw[K]at h;rcases aM.mp h with h|h
    ·rcases aI.mp h with h|h
     ·rw[h];exact .inr L
     ·rw[aE.mp h];exact .inr I
    ·exact .inl h
   ·refine .inr ?_;cases N:c.get? b with
    |none=>rfl
    |some o'=>rw[k _ _ N]at h;cases h
theorem cD.frozen{f:Value}{args:List V}(h:cD G d f args J post)(k:∀v J',post v J'->Fin J post' v J'):cD G d f args J post':=by
 intro A g E s us S₀ z hS m t H x y;refine ki (h A g E s us S₀ z hS m t H x y) ?_;rintro r s' ⟨u,v,J',S',rfl,st,keep,al,le,Vo,Ug,TC,Uo,hv,q⟩;obtain ⟨c,D,i,w,rfl,hk,ss,B,F⟩:=k v J' q;have n:∀p∈c,MR G.w.params S' s'.heap p:=λ p k=>Ug p (aJ _ k);rw[cv]at TC;have nd:=aV.mp TC;refine ⟨u,w,i,S'.with s'.heap (addrs c),rfl,st,keep,al,le.trans (b7.Rm _ _ _),λ b o e=>?_,dE.sound n ss (λ p k=>Ug p (ax _ k)),?_,λ b a=>?_,B.sound n hv,F⟩
 ·rw[ss.addrs];rcases e with e|⟨j,l⟩
  ·refine jw (Vo b o e) λ j l C=>?_;exact ⟨j,λ a=>l (by rw[cv];exact ax _ a),C⟩
  ·refine ⟨l,λ a=>nd.2.2 b j b a rfl,.inr ?_⟩;rcases Uo b (by rw[cv];exact aJ _ j)with q|q
   ·exact absurd rfl (nd.2.2 b j b (hk b q))
   ·exact q
 ·rw[ss.addrs];exact nd.2.1
 ·rw[ss.addrs]at a;exact Uo b (by rw[cv];exact ax _ a)
inductive M2(K:f7)(name:Str)(Q:Option (Option V)->St->Prop)(v ov:V)(Y:St):Prop
 |mk (i:Nat) (a C d:aG) (fs:List (Str×V)) (e:ov=.ref a) (h:Y.mu[i]? =ah (a,.inst C d fs)) (s:iJ K C name=aj) (z:fs.length<900) (q:Q ai ⟨Y.vals,Y.mu.set i (a,.inst C d (m7 name v fs))⟩)
theorem Ho{o:Expr}{Q:Option (Option V)->St->Prop}(ok:O.Ok)(h:XV O Ex (bv e O.env) (kR O Ex o (M2 O.G.K name Q)) Y)(p:eg e (ah (.Attribute o name pos')) pos.line O.env=pure ao):XF O Ex (gc (.Assign [.Attribute o name pos'] e pos) O.env) Q Y:=λ Kp Jj s R=>
 sF (h.Q6 R λ u l v j Kk l₁ c q h₁=>X.Q6 h₁ c λ r Q8 ov k g l₂ b n f=>by
  cases f with
  |mk i a C d fs e hi hk hz m=>subst e;cases n;have sp:=nL hi;exact Hl ok b sp.1 hk hz (q.mono l₂) λ s' R'=>⟨ai,_,g,l₁.trans l₂,sp.2 _▸R',.next,m⟩) p
theorem Ai:entryFor table "BaseException.__getattribute__"=ah Builtin.«object.__getattribute__»:=
 entryFor_alias (id':="object.__getattribute__") (by kernel_rfl) (by first|rfl|decide+kernel) (by decide+kernel) (by kernel_rfl)
theorem wl:builtinKind "BaseException.__getattribute__"=ah .slot:=by decide+kernel
theorem Ag:splitId "BaseException.__getattribute__"=ah ("BaseException","__getattribute__"):=by decide+kernel
theorem Ah:plainId "BaseException.__getattribute__"=aj:=by decide+kernel
theorem Aj:(Manifest.canonical "BaseException.__getattribute__" !="object.__getattribute__")=ao:=by decide+kernel
theorem Dm(a:Value):D9 (.builtin "BaseException.__getattribute__") a=pure (.builtin "BaseException.__getattribute__",[a]):=by dsimp only[D9,Hd,builtinType,(show withoutEnding? "BaseException.__getattribute__" "#opaque"=ai by decide+kernel),(show withoutEnding? "BaseException.__getattribute__" "#data"=ai by decide+kernel),wl];rfl
theorem Dn(a b:Value):argsOk "BaseException.__getattribute__" ⟨[a,b],[]⟩:=by kernel_rfl
section
variable{R:qr->aR->Prop}{K:f7}{x:aG}{ox:Obj}{od:Option Obj}
theorem oV(h:oW K C=aj):g9 K (.ref C) "__getattribute__"=ah (ah (.builtin "BaseException.__getattribute__"))/\g9 K (.ref C) "__getattr__"=ah ai/\IW K C (.type "BaseException")=ah aj:=by dsimp only[oW]at h;simp only[cW,beq_iff_eq]at h;exact ⟨h.1.1,h.1.2,h.2⟩
theorem v8(X:K.In s.heap)(I:InstAt s.heap x ox C od){b:Value}(a:IW K C b=ah aj):Looks M s.heap (mX (.ref x) b) aj:=I.type.andThen (D2 X a)
theorem Io{v:Value}{tk:I2}(X:K.In s.heap)(I:InstAt s.heap x ox C od)(c:IW K C (.type "BaseException")=ah aj)(b:findObj K C od name=ah (.value v))(h:R (.ok (.ret v)) s):
 gd (bn prog w) A (.call (.builtin "BaseException.__getattribute__") ⟨[.ref x,.str name tk],[]⟩) R s:=by
 refine oA Ah Ai (@Hh (bn prog w) _ _ s "BaseException.__getattribute__" "BaseException" "__getattribute__" (.ref x) [.str name tk] [] _ wl Ag (v8 X I c) (Dn _ _) ?_);unfold Builtin.«object.__getattribute__»;refine aw (wpAny_of_eq (a:=(.ref x,[.str name tk])) (by kernel_rfl) ?_);refine aw (wpAny_of_eq (a:=name) (by kernel_rfl) ?_);refine aw (I.type.here ?_);refine aw ((looks_find X I b).here ?_);exact az h
theorem Fu{v:Value}{Q:Value->aR->Prop}(X:K.In s.heap)(I:InstAt s.heap x ox C od)(hk:oW K C=aj)(b:findObj K C od name=ah (.value v))(c:handedIn v=aj)(h:Q v {s with toks:=s.toks+1}):aW (bn prog w) A (AS (.ref x) name expr) Q E s:=by
 have a:=oV hk;skip;refine aw (AQ (bD (aw (I.type.here (s:={s with toks:=s.toks+1}) (aw ((g5 X a.1).here (s:={s with toks:=s.toks+1}) ?_))))))
 show aW _ _ (getAttrByItsOwn _ _ _ _ _ _) _ _ _;dsimp only[getAttrByItsOwn,callGetattribute,boundAndCalled];refine aw ((g5 X a.2.1).here (s:={s with toks:=s.toks+1}) (aw (wpAny_attempt (bD ?_))))
 rw[show (expr&&onTheHeap (Value.builtin "BaseException.__getattribute__"))=ao from mV expr,Dm];refine aw (az (jj (Io (s:={s with toks:=s.toks+1}) (tk:=s.toks) X I a.2.2 b ?_)))
 show aW _ _ (handedOut v) _ _ _;rw[handedOut_of c];exact az h
theorem xE{f:aG}{g:Sem Bool}{Q:Value×List Value->aR->Prop}(X:K.In s.heap)(I:InstAt s.heap x ox C od)(hk:oW K C=aj)(d:g9 K (.ref C) name=ah (ah (.ref f)))(i:lJ K (.ref f)=ah (.type "function"))
 (j:shadowIn od name=ah ao) (h:Q (.ref f,[.ref x]) s):aW (bn prog w) A (getMethod (.ref x) name g) Q E s:=by
 have c:=oV hk;dsimp only[getMethod,specialOf];refine aw (aw (I.type.here ((g5 X c.1).here ?_)));dsimp only;rw[Aj];refine aw (aw (I.type.here ((g5 X c.2.1).here ?_)));refine aw (aw (I.type.here ((g5 X d).here (aw ((looks_typeIn X i).here ?_)))));skip;refine aw (e8 I.at_ ?_);have hd:=I.dict;cases e:ox.dict with
 |none=>exact aw (ik (az h))
 |some k=>
  cases od with
  |none=>rw[e]at hd;exact hd.elim
  |some o=>simp only[e]at hd;refine b4 (bZ.mp j) λ r a b=>?_;refine aw (aw (e8 hd ?_));simp only[nsLook_of a];refine az ?_;rw[b];exact aw (ik (az h))
end
noncomputable abbrev fz(l:List Env):List aG:=l.filterMap (·.frame)
inductive PP(H:Heap)(C e:aG)(h:Heap):Prop
 |mk (oe:Obj) (vs:Array Value) (D:aG) (oD:Obj) (a1:h.get? e=ah oe) (a2:oe.cls=.ref C) (a3:oe.data=.fields vs) (a4:1<vs.size) (a5:oe.dict=ah D) (a6:H.get? D=ai) (a7:h.get? D=ah oD) (a8:qq "at" oD=ah (ah .none)) (a9:qq "told" oD=ah ai)
inductive PN(H:Heap)(fl:Value)(e:aG)(h:Heap):Prop
 |mk (oe:Obj) (vs:Array Value) (T:aG) (oT:Obj) (ts:Array Value) (a1:h.get? e=ah oe) (a2:oe.data=.fields vs) (a3:vs[1]? =ah (.ref T)) (a4:T≠e) (a5:H.get? T=ai) (a6:h.get? T=ah oT) (a7:oT.data=.fields ts) (a8:ts[3]? =ah fl)
structure Pre(H:Heap)(l:List Env)(C e:aG)(h:Heap):Prop where
 keep:∀b o,H.get? b=ah o->b∉fz l->h.get? b=ah o
 slot:H.UpToSlots h
 fn:h.FunFrames (r9 H (fz l)) l
 new:H.get? e=ai
 exc:PP H C e h
structure yY(H:Heap)(l:List Env)(C:aG)(fl:Value)(e:aG)(h:Heap):Prop extends Pre H l C e h where
 tr:PN H fl e h
theorem xx{r:Option Value}(h:qq x o=ah r):∀vs,o.data≠.fields vs:=λ vs e=>by unfold qq at h;rw[e]at h;cases h
theorem ti{h B c:Heap}:∀{l:List Env},h.FunFrames B l->(∀b∈fz l,c.get? b=ai)->h.FunFrames c l:=by
 intro l;induction l with
 |nil=>exact λ Z Z=>trivial
 |cons env l m=>intro g d;obtain ⟨hk,⟨L,o,a,_,f,hd⟩,i⟩:=g;exact ⟨hk,⟨L,o,a,d L (d8.mpr ⟨env,.head _,a⟩),f,hd⟩,m i λ b j=>by refine b4 (d8.mp j) λ x k e=>?_;exact d b (d8.mpr ⟨x,.tail _ k,e⟩)⟩
section
variable{l outer:List Env}{e L:aG}{fl:Value}{Q:Unit->aR->Prop}
theorem Pre.step{h:Heap}(K:Pre H l C e h)(k:∀b o,h.get? b=ah o->(∀vs,o.data≠.fields vs)->∃sl,h'.get? b=ah {o with slots:=sl})(kk:∀b o,H.get? b=ah o->b∉fz l->h.get? b=ah o->h'.get? b=ah o)(v:∀d vs,h.get? e=ah d->d.data=.fields vs->∃a c,h'.get? e=ah a/\a.cls=d.cls/\a.dict=d.dict/\a.data=.fields c/\c.size=vs.size):Pre H l C e h':=by
 obtain ⟨k1,k2,k3,z,d,vs,D,w,a1,x,y,i,A,u,p,g,q⟩:=K;refine ⟨λ b o e n=>kk b o e n (k1 b o e n),λ b o e n=>?_,k3.of_keeps λ b o e n=>?_,z,?_⟩
 ·refine ze (k2 b o e n) λ sl f=>?_;exact let ⟨YM,e2⟩:=k b _ f n;⟨YM,e2⟩
 ·refine ze (k b o e n) λ sl f=>?_;exact ⟨_,f,rfl⟩
 ·refine Jb (v d vs a1 y) λ a c j r t s m=>?_;refine ze (k D w p (xx g)) λ sl f=>?_;exact ⟨a,c,D,_,j,r.trans x,s,by simp only[m];exact i,t.trans A,u,f,g,q⟩
theorem Pre.Tz{h:Heap}(K:Pre H l C e h):e∉fz l:=λ c=>by obtain ⟨i,vs,D,f,a1,g,d,_⟩:=K.exc;refine Ec (K.fn.mem c) λ Z o b a=>?_;rw[a1]at b;cases b;exact a vs d
theorem H_{h:Heap}{a:aG}{o:Obj}{vs:Array Value}(f:Array Value->Array Value)(c:h.get? a=ah o)(hd:o.data=.fields vs):
 ∃b,(h.update a (Obj.mapFields f)).get? a=ah b/\b.cls=o.cls/\b.dict=o.dict/\b.data=.fields (f vs):=
 ⟨_,c9 _ c (Obj.isFreed_of_fields (Obj.data_mapFields hd f)),Obj.cls_mapFields _ _,by obtain ⟨_,_,d,_⟩:=o;subst hd;rfl,Obj.data_mapFields hd f⟩
theorem HB{h:Heap}{a:aG}{o:Obj}{vs:Array Value}(f:Array Value->Array Value)(d:h.get? a=ah o)(hd:o.data=.fields vs){b:aG}{p:Obj}(c:h.get? b=ah p)(n:∀vs,p.data≠.fields vs):
 (h.update a (Obj.mapFields f)).get? b=ah p:=by
 refine (fY _ _ λ q=>?_).trans c;subst q;rw[d]at c;cases c;exact n vs hd
theorem Pre.fields{h:Heap}(K:Pre H l C e h){a:aG}{o:Obj}{vs:Array Value}(f:Array Value->Array Value)(k:∀vs,(f vs).size=vs.size)(g:h.get? a=ah o)(hd:o.data=.fields vs)(v:H.get? a=ai):Pre H l C e (h.update a (Obj.mapFields f)):=by
 refine K.step (λ b p c n=>⟨p.slots,HB f g hd c n⟩) (λ b p c Z j=>(fY _ _ λ q=>by subst q;rw[v]at c;cases c).trans j) λ w ws i d=>?_;by_cases q:a=e
 ·subst q;rw[g]at i;cases i;refine kS (H_ f g hd) λ u m s t r=>?_;rw[hd]at d;cases d;exact ⟨u,_,m,s,t,r,k _⟩
 ·exact ⟨w,ws,(fY _ _ q).trans i,rfl,rfl,d,rfl⟩
theorem vN(k:A.frames=ah (env::outer))(G:env.frame=ah L)(K:Pre H (env::outer) C e s.heap){head:Value}{J:Bool}(q:∀h',yY H (env::outer) C (iY L) e h'->Q () {s with heap:=h'}):
 aW M A (do let a <-frameOf env;let i <-entryPlaceOf L J;let b <-EntryCells.newEntry head a .none (iY L) .none i;setField (.ref e) 1 b) Q E s:=by
 have d:=K.Tz;refine aw (wpAny_frameOf_fun k K.fn G λ h₁ c=>aw (wpAny_entryPlaceOf λ i l=>?_));skip;refine aw (r7 ?_ (l.sizeOk5 _ _ _ _ _));refine ze (show ∃f:Array Value,([head,.ref L,.none,iY L,.none]++(if i.isEmpty then bu 6 Value.none else i)).toArray=f from ⟨_,rfl⟩) λ f h=>?_;simp only[h];have w:Pre H (env::outer) C e (h₁.push {cls:=.type "traceback",data:=.fields f}):=K.step
  (λ b o m n=>by refine ze (c.2.2 b o m) λ sl v=>?_;exact ⟨sl,aL _ v⟩)
  (λ b o Z n m=>aL _ ((c.2.1 b n).trans m))
  λ x vs N hd=>⟨x,vs,aL _ ((c.2.1 e d).trans N),rfl,rfl,hd,rfl⟩
 obtain ⟨x,vs,D,P,a1,S,r,y,_⟩:=id w.exc;have g:h₁.objs.size≠e:=by obtain ⟨B,_,_,_,j,_⟩:=K.exc;exact fi (cm ((c.2.1 e d).trans j))
 have p:H.get? h₁.objs.size=ai:=by
  cases F:H.get? h₁.objs.size with
  |none=>rfl
  |some o=>
   exfalso
   by_cases u:h₁.objs.size∈fz (env::outer)
   ·refine Ec (K.fn.mem u) λ Z z t Z=>?_;refine ze (c.2.2 _ _ t) λ Z v=>?_;exact bA _ (cm v)
   ·exact bA _ (cm ((c.2.1 _ u).trans (K.keep _ _ F u)))
 refine ow a1 r y (q _ ⟨w.fields (λ a=>a.setIfInBounds 1 (Value.ref h₁.objs.size)) (λ Z=>gT ..) a1 r K.new,?_⟩);refine kS (H_ (λ a=>a.setIfInBounds 1 (Value.ref h₁.objs.size)) a1 r) λ z j R O I=>?_;exact ⟨z,_,h₁.objs.size,_,f,j,I,by exact mF y,g,p,(fY _ _ (Ne.symm g)).trans (bO h₁ (o:={cls:=.type "traceback",data:=.fields f}) rfl),rfl,(by rw[<-h];rfl)⟩
theorem xq(a:A.frames=ah (env::outer))(d:env.frame=ah L)(K:Pre H (env::outer) C e s.heap)(b:∃c vs,s.heap.get? e=ah c/\c.data=.fields vs/\vs[1]? =ah .none)(q:∀h',yY H (env::outer) C (iY L) e h'->Q () {s with heap:=h'}):
 aW M A (kM (.ref e) env) Q E s:=by
 refine fo b λ c vs f hd b=>?_;unfold kM;rw[d];refine aw (gM f hd b ?_);skip;exact vN a d K q
theorem zH(b:A.frames=ah (env::outer))(g:env.frame=ah L)(K:yY H (env::outer) C .none e s.heap)(q:∀h',yY H (env::outer) C (iY L) e h'->Q () {s with heap:=h'}):
 aW M A (kM (.ref e) env) Q E s:=by
 obtain ⟨n,vs,T,l,m,a1,h,i,k,j,d,c,f⟩:=K.tr;unfold kM;rw[g];refine aw (gM a1 h i ?_);skip;refine aw (gM d c f ?_);skip;refine aw (ow d c (jC.mp f).1 ?_);exact vN b g (K.toPre.fields (λ a=>a.setIfInBounds 3 .none) (λ Z=>gT ..) d c j) q
theorem rc(b:env.frame=ah L)(K:yY H l C (iY L) e s.heap)(q:Q () s):aW M A (kM (.ref e) env) Q E s:=by obtain ⟨k,vs,T,i,j,a1,f,g,h,m,d,c,a⟩:=K.tr;unfold kM;rw[b];refine aw (gM a1 f g ?_);skip;refine aw (gM d c a ?_);rw[if_pos (show (iY L==iY L)=aj by simp[iY])];exact az q
theorem k4(K:yY H l C fl e s.heap)(b:Option aG)(q:∀h',yY H l C (b.elim .none λ f=>iY f) e h'->Q () {s with heap:=h'}):aW M A (setFlight (.ref e) b) Q E s:=by obtain ⟨p,vs,T,r,v,a1,h,i,g,j,d,c,k⟩:=K.tr;have hsz:=(jC.mp k).1;skip;refine aw (gM a1 h i ?_);skip;refine ow d c hsz (q _ ⟨K.toPre.fields (λ a=>a.setIfInBounds 3 (b.elim .none λ f=>iY f)) (λ Z=>gT ..) d c j,?_⟩);refine kS (H_ (λ a=>a.setIfInBounds 3 (b.elim .none λ f=>iY f)) d c) λ o m t u n=>?_;exact ⟨p,vs,T,o,_,(fY _ _ g).trans a1,h,i,g,j,m,n,by exact mF hsz⟩
theorem yY.leave{h:Heap}(K:yY H (env::outer) C fl e h)(c:env.frame=ah L)(j:H.get? L=ai):yY H outer C fl e h:=by
 obtain ⟨⟨k1,k2,⟨_,⟨p,s,t,k,l,u⟩,k3⟩,i,g⟩,a⟩:=K;have d:∀b o,H.get? b=ah o->b≠L:=λ b o q r=>by subst r;rw[j]at q;exact nomatch q
 refine ⟨⟨λ b o q n=>k1 b o q (by rw[(show fz (env::outer)=L::fz outer by unfold fz;simp only[Ay,c])];exact λ m=>(aI.mp m).elim (d b o q) n),k2,?_,i,g⟩,a⟩;exact ti k3 λ b f=>r8 _ f
end
section
open PySem PySem.W PySem.Calls PyProof.Rows Builtin Builtin.ObjectAttr
theorem xF(X:String):∀{l:List Value},rD l=aj->l.contains (.type X)=FG.contains (.type X):=by
 intro l;induction l with
 |nil=>intro h;cases h
 |cons v l b=>
  intro h;cases v with
  |ref a=>rw[AO,b h];rfl
  |_=>rw[show _::l=FG from eq_of_beq h]
theorem v9(b:Value):∀{l:List Value},rD l=aj->refuseLoop b "__setattr__" l=pure ():=by
 intro l;induction l with
 |nil=>intro h;cases h
 |cons v l c=>
  intro h;cases v with
  |ref a=>rw[refuseLoop_ref];exact c h
  |_=>rw[show _::l=FG from eq_of_beq h];exact PySem.F.store_Exception.passes b
inductive IP(h:Heap)(C:aG):Prop
 |mk (oc:Value) (od:Option aG) (cd:ClassData) (sl:Array (Option Value)) (a:h.get? C=ah ⟨oc,od,.cls cd,sl⟩) (b:cd.hasDel=ao) (c:cd.hasDict=aj) (e:cd.mro.isEmpty=ao)
structure xW(M:Model)(h:Heap)(C:aG):Prop where
 obj:IP h C
 made:Looks M h (Bind.madeBy (.ref C)) (ah "Exception.__new__")
 base:Looks M h (Bind.staticBase (.ref C)) (.ref C)
 self:Looks M h (isSubtype (.ref C) (.ref C)) aj
 sub:∀X,Looks M h (isSubtype (.ref C) (.type X)) (FG.contains (.type X))
 call:Looks M h (specialOf (.ref C) "__call__") (ah (.builtin "type.__call__"))
 typ:Looks M h (mX (.ref C) (.type "type")) aj
theorem Nw{o:Option α}{p:α->Bool}(h:o.any p=aj):∃a,o=ah a/\p a=aj:=by cases o with
 |none=>cases h
 |some a=>exact ⟨a,rfl,h⟩
theorem FA{d:Data}{c:ClassData}(h:Nk d=ah c):d=.cls c:=by cases d<;>cases h<;>rfl
set_option tactic.hygienic true in
theorem ml{K:f7}{h:Heap}(X:K.In h){C:aG}(e:hV K C=aj):xW M h C/\∃a,clsIn K C=ah a/\a.hasDict=aj/\rD a.mro=aj/\a.mro.isEmpty=ao:=by
 refine b4 (Nw e) λ o d e=>b4 (Nw e) λ a hd e=>?_;cases o with|mk oc od da sl=>
  cases FA hd;simp only[cW,pH,beq_iff_eq]at e;refine za e λ f r=>?_;obtain ⟨⟨⟨⟨t,n⟩,u⟩,w,m⟩,p⟩:=f;have i:clsIn K C=ah a:=by unfold clsIn;rw[d]
  have j:Looks M h (mroOf (.ref C)) a.mro:=(oy X i).andThen .now;refine ze (List.head?_eq_some_iff.mp w) λ l c=>?_;have g:a.mro.isEmpty=ao:=by rw[c];rfl
  have b:Looks M h (Bind.madeBy (.ref C)) (ah "Exception.__new__"):=by intro A Q E s k q;unfold Bind.madeBy;refine aw (j A _ E s k ?_);rw[c,jh];refine aw (aw (aw (aw (e8 (k _ _ (X _ _ d)) (az ?_)))));dsimp only;rw[<-Array.getElem?_toList,u];exact az (az (az q))
  have mi:∀v,IW K C v=ah (a.mro.contains v):=λ v=>by unfold IW;rw[i,Option.bind_some,if_neg (by rw[g];decide)]
  refine ⟨⟨⟨oc,od,a,sl,X _ _ d,t,n,g⟩,b,?_,D2 X ?_,λ T=>D2 X ?_,looks_specialIn X p,looks_instIn X r⟩,a,i,n,m,g⟩
  ·intro A Q E s k q;unfold Bind.staticBase;refine aw (j A _ E s k ?_);rw[c,jh];exact aw (aw (aw (b A _ E s k (az (az (az q))))))
  ·rw[mi,c,AO];simp
  ·rw[mi,xF T m]
noncomputable abbrev k7(C t:aG):Obj:={cls:=.ref C,data:=.fields #[.ref t,.none,.none,.none,.bool ao,.none]}
section
variable{K:f7}{R:qr->aR->Prop}{h:Heap}{g:Array GenState}{d:Drawn}{t:Nat}
theorem H7{a:List Value}(Yy:xW (bn prog w) h C)(c:a.length<=eU)
 (m:R (.ok (.ret (.ref (h.objs.size+1)))) ⟨(h.push (dU a.toArray 0)).push (k7 C h.objs.size),g,d,t,os⟩):
 gd (bn prog w) A (.call (.builtin "Exception.__new__") ⟨.ref C::a,[]⟩) R ⟨h,g,d,t,os⟩:=by
 obtain ⟨⟨s,od,r,sl,j,n,v,u⟩,f,base,i,sub,e,k⟩:=Yy;have F:=PySem.F.excBase_Exception;have l:=sub "Exception";have o:=sub "AttributeError";have q:=sub "NameError";rw[show FG.contains (.type "Exception")=aj by decide+kernel]at l;rw[show FG.contains (.type "AttributeError")=ao by decide+kernel]at o;rw[show FG.contains (.type "NameError")=ao by decide+kernel]at q;refine codeAny_call_builtin_code (Code.quiet_builtin _ F.quiet) ?_;unfold checkBuiltinCall;rw[F.newKind,F.newSplit,F.newRow];dsimp only;rw[if_pos (show ("__new__"=="__new__")=aj from rfl)];rw[(show Bind.checkArgs "Exception.__new__" ⟨.any,"Exception","Exception",.cls,[⟨"args",.varPos,ao⟩,⟨"kwargs",.varKw,ao⟩]⟩ ⟨.ref C::a,[]⟩=pure ()from by kernel_rfl)]
 repeat (first|simp only[bne_self_eq_false,dC,if_false,g4]|lk)
 refine codeAny_builtinAt F.entry ?_;unfold Builtin.«BaseException.__new__»;refine PySem.wpAt_bind ?_;show PySem.wpAt _ _ _ (stack>>=_) _ _ _;refine PySem.wpAt_bind (PySem.wpAt_stack λ p b=>PySem.wpAt_of_wpAny ?_);dsimp only;rw[if_pos F.ends];refine az (PySem.wpAt_of_wpAny ?_);rw[F.owner]
 repeat (first|simp only[bne_self_eq_false,dC,if_false,g4]|lk)
 rw[if_neg (by rw[bH];exact bR.mpr ‹_›)];unfold newObjAsIs;refine aw (DZ (az (aw ?_)));show aW _ _ (newObj (.ref C) (.fields #[.ref h.objs.size,.none,.none,.none,.bool ao,.none])) _ _ _;unfold newObj;dsimp only;rw[if_neg (show ¬(#[Value.ref h.objs.size,Value.none,Value.none,Value.none,Value.bool ao,Value.none].size>eU+2)from by show ¬(6>eU+2);rw[dA];decide)];unfold newObjAsIs classHasDel;refine aw (DZ (aw (aw (wpAny_load (aL (k7 C h.objs.size) (aL (dU a.toArray 0) j)) (az ?_)))));rw[n];refine az (az ?_);show R _ _;rw[Heap.size_push];exact m
theorem xv{c:List Value}{init:Value}(Yy:xW (bn prog w) h C)(i:c.length<=eU)(hi:Looks (bn prog w) h (typeLookup (.ref C) "__init__") (ah init))
 (q:∀f,Looks (bn prog w) h (D9 init f) (init,[f]))
 (s:gd (bn prog w) (A.under (.builtin "type.__call__" ⟨.ref C::c,[]⟩)) (.call init ⟨.ref (h.objs.size+1)::c,[]⟩) (InitBack (h.objs.size+1) R) ⟨(h.push (dU c.toArray 0)).push (k7 C h.objs.size),g,d,t,os⟩):
 gd (bn prog w) A (.call (.ref C) ⟨c,[]⟩) R ⟨h,g,d,t,os⟩:=by
 have Y':=Yy;obtain ⟨⟨x,od,p,sl,m,F,G,u⟩,n,base,f,sub,j,l⟩:=Yy;refine codeAny_of_tree ?_;show aW _ _ (callAny (.ref C) _) _ _ _;refine nd_load m ?_;show aW _ _ (callAny.viaDunder (.ref C) _) _ _ _;unfold callAny.viaDunder;refine aw (j.at ?_);dsimp only;rw[tc_bind];refine aw (az (aw (az ?_)));refine az (a:=Fin.again (.call (.builtin "type.__call__") ⟨.ref C::c,[]⟩)) (And.intro rfl ?_);refine codeAny_call_builtin_at (Code.quiet_builtin _ (by decide+kernel)) entry_typeCall (Hh tc_kind tc_split l (tc_args _ _ _) ?_);unfold Builtin.«type.__call__»;have D:Looks (bn prog w) h (mroOf (.ref C)) p.mro:=((Looks.ld (part:=ai) m).andThen .now).andThen .now
 repeat (first|simp only[u,dC,if_false]|with_reducible refine jj ?_|lk)
 refine H7 Y' i ?_;have k:∀b o,h.get? b=ah o->((h.push (dU c.toArray 0)).push (k7 C h.objs.size)).get? b=ah o:=λ b o e=>aL _ (aL _ e);have t1:Looks (bn prog w) ((h.push (dU c.toArray 0)).push (k7 C h.objs.size)) (Hd (.ref (h.objs.size+1))) (.ref C):=(Looks.ld (by heap_get)).andThen .now;have y:=f.keeps k;have B:=hi.keeps k;have E:=(q (.ref (h.objs.size+1))).keeps k;unfold mX callSpecial? specialOf
 repeat (first|with_reducible refine jj ?_|lk)
 refine ki s λ r s' z=>?_;rcases r with e|(v|_|_|_)<;>first|exact z|exact z.elim|skip;obtain ⟨rfl,z⟩:=z;exact az (az z)
end
section
variable{K:f7}{x:aG}{R:qr->aR->Prop}
theorem EV{ox:Obj}{od:Option Obj}{name:Str}{tk:I2}{v:Value}(X:K.In s.heap)(I:InstAt s.heap x ox C od)(g:hV K C=aj)(k:takerIn K C name=ah ai)
 (h:∀b,aW (bn prog w) A.in1 (storeInOwnDict (.ref x) (.ref C) (.str name tk) name v b)
  (λ fin s'=>match fin with|.done f=>R (.ok f) s'|.again c'=>c'.quiet=aj/\gd (bn prog w) A c' R s') (λ e s'=>R (.error e) s') s):
 gd (bn prog w) A (.call (.builtin "object.__setattr__") ⟨[.ref x,.str name tk,v],[]⟩) R s:=by
 have c:=PySem.F.store_object;refine FU (ml (M:=bn prog w) X g) λ Yy j o hd i p=>?_;have sub:Looks (bn prog w) s.heap (mX (.ref x) (.type "object")) aj:=I.type.andThen (by have:=Yy.sub "object";rw[show FG.contains (.type "object")=aj by decide+kernel]at this;exact this)
 refine oA c.slot.plain c.entry (@Hh (bn prog w) _ _ s "object.__setattr__" "object" "__setattr__" (.ref x) [.str name tk,v] [] _ c.kind c.split sub (c.args (.ref x) (.str name tk) v) ?_);refine b4 (ei.mp k) λ attr n d=>?_;have m:Looks (bn prog w) s.heap (storeTaker? attr) ai:=by
  cases attr with
  |none=>exact .now
  |some a=>
   refine b4 (bZ.mp d) λ b l d=>?_;refine (looks_takesIn X l).andThen ?_;cases b
   ·exact .now
   ·cases d
 rw[osa_eq,refuse_eq];refine aw (aw (I.type.here (aw ((show Looks (bn prog w) s.heap (mroOf (.ref C)) j.mro from (oy X o).andThen .now).here ?_))));rw[v9 _ i];refine az (aw (I.type.here (aw ((g5 X n).here (aw (m.here ?_))))));exact h _
end
end
section
open PySem PySem.W PySem.Calls PyProof.Rows Builtin Builtin.ObjectAttr
theorem uq(K:f7):findCls K (.type "Exception") (.type "type") "__init__"=ah (.val (.builtin "Exception.__init__")):=by kernel_rfl
theorem Ft:Hd (.type "Exception")=pure (.type "type"):=by kernel_rfl
theorem CQ:Manifest.isStub "Exception"=ao:=by decide+kernel
section
variable{K:f7}{x:aG}{R:qr->aR->Prop}
theorem ur{ox:Obj}{od:Option Obj}{vs:Array Value}{t0:Value}{a:List Value}(X:K.In s.heap)(I:InstAt s.heap x ox C od)(l:hV K C=aj)(hd:ox.data=.fields vs)(j:vs[0]? =ah t0)(c:a.length<=eU)
 (h:R (.ok (.ret .none)) {s with heap:=(s.heap.push (dU a.toArray 0)).update x (Obj.mapFields (·.setIfInBounds 0 (.ref s.heap.objs.size)))}):
 gd (bn prog w) A (.call (.builtin "Exception.__init__") ⟨.ref x::a,[]⟩) R s:=by
 have F:=PySem.F.excBase_Exception;have e:=ml (M:=bn prog w) X l;have sub:Looks (bn prog w) s.heap (mX (.ref x) (.type "Exception")) aj:=I.type.andThen (by skip;exact (e.1.sub "Exception"))
 refine oA F.init.plain F.initEntry ?_;have k:=I.at_;dsimp only[checkBuiltinCall,F.initKind,F.initSplit,F.initRow];refine aw (sub.here ?_);simp only[g4,dC,if_false];obtain ⟨⟨p,o,d,sl,f, -, -, -⟩, -⟩:=e.1;obtain ⟨i,g,q,tk,os⟩:=s;dsimp only at k f X sub h;have n:Looks (bn prog w) i (Bind.printed "*" aj ⟨.positional,"*","Exception",.self,[⟨"args",.varPos,ao⟩]⟩ (ah (.ref x))) d.name.toString:=by skip;exact I.type.andThen ((((Looks.ld (part:=ai) f).andThen .now).andThen .now).andThen .now)
 unfold Bind.checkArgs;dsimp only;refine aw (m:=Bind.printed "*" aj _ _) (n.at ?_);refine aw (m:=Bind.printed "Exception" ao _ _) (printed_name (rfl) ?_);refine wpAny_onRaise ?_;show aW _ _ (Bind.check _ _ _ _ []) _ _ _;rw[check_varPos];refine az ?_;unfold Builtin.«BaseException.__init__»;dsimp only;skip;skip;have b:=aL (h:=i) (dU a.toArray 0) k;refine aw (r7 (aw (aw (gM b hd j (aw (ow b hd ((jC.mp j).1) ?_))))) (by show a.toArray.size<=eU;exact c));cases t0<;>first|exact wpAny_letGo (az h)|exact az (az h)|exact az h
end
inductive PQ(P:bQ)(S:b7)(h:Heap)(a C d:aG)(vs:Array Value)(fs:List (Str×V)):Prop
 |mk (es:List bL) (n:Nat) (e1:h.get? a=ah {cls:=.ref C,dict:=ah d,data:=.fields vs}) (e2:h.get? d=ah (dictOf es n)) (hf:g6 P S es fs)
theorem MR.S_{P:bQ}{h:Heap}{a d:aG}{vs:Array Value}(m:MR P S h (a,.exc C (ah d) vs fs)):PQ P S h a C d vs fs:=by
 cases m with
 |SG x y z=>exact ⟨_,_,x,y,z⟩
theorem MR.VY{P:bQ}{h:Heap}{a:aG}{vs:Array Value}(m:MR P S h (a,.exc C ai vs [])):h.get? a=ah {cls:=.ref C,data:=.fields vs}:=by
 cases m with
 |SH x=>exact x
theorem z_{a:aG}{vs:Array Value}{t0:Value}{v:V}(ok:O.Ok)(d:Y.mu=J1++(a,.exc C ai vs [])::J2)(hk:hV O.G.K C=aj)(i:vs[0]? =ah t0)(q:∀c:Array Value,c.size=vs.size->c[1]? =vs[1]?->Q .none ⟨Y.vals,J1++(a,.exc C ai c [])::J2⟩):cS O Ex (.builtin "Exception.__init__") [.ref a,v] Q Y:=.two λ Kp Jj s h u R j k=>j.Rw (Q:=λ h=>aW _ _ (call _ [h,u]) _ _ _)<|by
 have g:=(R.mu _ (d▸ax _ (.head _))).VY;refine jj (ur (R.Sb ok) (od:=ai) ⟨g,rfl,rfl,trivial⟩ hk rfl i (by simp only[dA];simp) ?_);have f:((s.heap.push (dU #[u] 0)).update a (Obj.mapFields λ w=>w.setIfInBounds 0 (Value.ref s.heap.objs.size))).get? a=ah {cls:=.ref C,data:=.fields (vs.setIfInBounds 0 (Value.ref s.heap.objs.size))}:=c9 _ (aL (dU #[u] 0) g) rfl;exact ⟨.none,_,Kp,.refl _,(R.keeps (h':=s.heap.push (dU #[u] 0)) (tk:=s.toks) λ b o e=>aL _ e).Ub (q:=(a,.exc C ai (vs.setIfInBounds 0 (Value.ref s.heap.objs.size)) [])) (a:=a) (tk:=s.toks) ok d rfl (by simp[ce]) (Heap.SameBut.update ..) ⟨_,f⟩ (.SH f),.none,
  q _ (gT ..) (Array.getElem?_setIfInBounds_ne (by decide))⟩
theorem vF{p:aG×MO}:(p::(J1++J2)).Perm (J1++p::J2):=eR.symm
theorem cQ.VW(R:cQ O Y Kp Jj s)(ok:O.Ok){J1 J2:Mu}{p q:aG×MO}(f:Y.mu=J1++p::J2){s':aR}(st:gu s s')(i:∀b o,s.heap.get? b=ah o->b∉ce p->s'.heap.get? b=ah o)
 (al:∀b o,s.heap.get? b=ah o->∃k,s'.heap.get? b=ah k) (m:MR O.P Kp s'.heap q) (nd:(ce q).Nodup) (j:∀b∈ce q,b∈ce p\/s.heap.get? b=ai):cQ O ⟨Y.vals,J1++q::J2⟩ Kp Jj s':=by
 have c:∀p:aG×MO,addrs [p]=ce p:=λ p=>cL _;have g:cQ O ⟨Y.vals,p::(J1++J2)⟩ Kp Jj s:=R.perm (f▸vF);refine (g.turned (J1:=[p]) (J2:=J1++J2) (J':=[q]) (S':=Kp) ok rfl st (λ b o e a=>i b o e (c p▸a)) al (.refl _) (λ b o e=>?_) (λ x l=>(bz (aE.mp l))▸m) (c q▸nd) λ b a=>by rw[c]at a ⊢;exact j b a).perm vF.symm;have d:=g.kp b o e;have a:b∉ce p:=λ a=>d.2.1 (ax _ (aJ _ a));refine ⟨i b o d.1 a,λ h=>?_,.inl e⟩;rw[c]at h;rcases j b h with h|h
 ·exact a h
 ·rw[d.1]at h;cases h
theorem sM{a d:aG}{vs:Array Value}{v:V}{tk:I2}{Q:PySem.Fin->aR->Prop}(ok:O.Ok)(R:cQ O Y Kp Jj s)(b:Y.mu=J1++(a,.exc C (ah d) vs fs)::J2)(hz:fs.length<900)(o:VR O.P Kp u v)(h:∀s',cQ O ⟨Y.vals,J1++(a,.exc C (ah d) vs (m7 name v fs))::J2⟩ Kp Jj s'->Q (.done (.ret .none)) s'):aW (bn O.G.prog O.G.w) A (storeInDict d (.str name tk) name u) Q E s:=by
 have l:(a,MO.exc C (ah d) vs fs)∈Y.mu:=by rw[b];simp
 obtain ⟨es,n,m,c,e⟩:=(R.mu _ l).S_;have nd:=R.nd;simp only[b,cv]at nd;have f:=(aV.mp (aV.mp nd).2.1).2.1;have i:a≠d:=by have:(ce (a,MO.exc C (ah d) vs fs)).Nodup:=(aV.mp f).1;simp[ce]at this;exact this
 skip;refine aw (az (aw ?_));unfold nsSet;refine aw (aw (wpAny_askSetting (az (aw (AQ (aw (e8 c ?_)))))));have k:FT name es.toArray=ao:=by rw[AV];simp only[(show es.toArray.any (·.refKey)=ao by (refine iW.trans ?_);exact e.noRef),mV]
 dsimp only;rw[k];refine wpAny_updatePart c ?_;have j:=putName_dict name (PyData.keyHash O.P name) (.str name s.toks) u es n;have g:(s.heap.update d (Obj.putName name (PyData.keyHash O.P name) (.str name s.toks) u)).get? d=ah (dictOf (putL name (PyData.keyHash O.P name) (.str name s.toks) u es) (putN name es n)):=by rw[<-j];exact c9 _ c (by rw[j];rfl)
 refine aw (wpAny_lookBehind g (pastItsLine_dict (by simp only[bH,dA];exact Ga hz (pf name (PyData.keyHash O.P name) (.str name s.toks) u es) e.length)) ?_);refine az (h _ ?_);exact R.Ub (q:=(a,.exc C (ah d) vs (m7 name v fs))) (a:=d) ok b rfl (by simp[ce]) (Heap.SameBut.update ..) ⟨_,g⟩ (.SG ((fC _ _ _ _ i).trans m) g (e.put o))
set_option tactic.hygienic true in
theorem Ef{a:aG}{x:Option aG}{vs:Array Value}{v:V}(ok:O.Ok)(R:cQ O Y Kp Jj s)(g:Y.mu=J1++(a,.exc C x vs fs)::J2)(hk:sm O.G.K C name=aj)(hz:fs.length<900)(y:VR O.P Kp u v){Q:Unit->aR->Prop}(h:∀D s',cQ O ⟨Y.vals,J1++(a,.exc C (ah D) vs (m7 name v fs))::J2⟩ Kp Jj s'->Q () s'):aW (bn O.G.prog O.G.w) O.A (setAttr (.ref a) name u) Q Ex s:=by
 unfold sm at hk;simp only[cW,beq_iff_eq]at hk;refine za hk λ m k3=>?_;obtain ⟨k1,k2⟩:=m;have X:=R.Sb ok;refine FU (ml (M:=bn O.G.prog O.G.w) X k2) λ Z P z hd Z Z=>?_;have L:(a,MO.exc C x vs fs)∈Y.mu:=by rw[g];simp
 have main:∀(j:aR) (od:Option Obj) (ox:Obj),InstAt s.heap a ox C od->(∀A c E,(∀D s',cQ O ⟨Y.vals,J1++(a,.exc C (ah D) vs (m7 name v fs))::J2⟩ Kp Jj s'->c (.done (.ret .none)) s')->aW (bn O.G.prog O.G.w) A (storeInOwnDict (.ref a) (.ref C) (.str name s.toks) name u aj) c E {s with toks:=s.toks+1})->
  (∀A c E,(∀D s',cQ O ⟨Y.vals,J1++(a,.exc C (ah D) vs (m7 name v fs))::J2⟩ Kp Jj s'->c (.done (.ret .none)) s')->aW (bn O.G.prog O.G.w) A (storeInOwnDict (.ref a) (.ref C) (.str name s.toks) name u ao) c E {s with toks:=s.toks+1})->
  aW (bn O.G.prog O.G.w) O.A (setAttr (.ref a) name u) Q Ex s:=λ j od ox I K B=>by
  refine set_plain X I k1 (EV (s:={s with toks:=s.toks+1}) X (by exact ⟨I.at_,I.cls,I.no,I.dict⟩) k2 k3 λ b=>?_)
  cases b
  ·exact B _ _ _ λ D s' R'=>h D s' R'
  ·exact K _ _ _ λ D s' R'=>h D s' R'
 cases R.mu _ L with
 |SH f=>
  have k:∀b A c E,(∀D s',cQ O ⟨Y.vals,J1++(a,.exc C (ah D) vs (m7 name v []))::J2⟩ Kp Jj s'->c (.done (.ret .none)) s')->aW (bn O.G.prog O.G.w) A (storeInOwnDict (.ref a) (.ref C) (.str name s.toks) name u b) c E {s with toks:=s.toks+1}:=λ b A c E r=>by
   refine aw (az (aw (aw (e8 f (aw (oy X z _ _ _ _ (λ Z Z e=>e) ?_))))));rw[hd];refine aw (DZ (aw (wpAny_update (aL _ f) ?_)));refine az (a:=ah s.heap.objs.size) (aw (az ?_));have i:a≠s.heap.objs.size:=ch (cm f);have t:((s.heap.push {cls:=.type "dict",data:=.dict #[]}).update a λ o=>{cls:=o.cls,dict:=ah s.heap.objs.size,data:=o.data,slots:=o.slots}).get? a=ah {cls:=.ref C,dict:=ah s.heap.objs.size,data:=.fields vs}:=
    c9 _ (aL _ f) rfl
   have F:((s.heap.push {cls:=.type "dict",data:=.dict #[]}).update a λ o=>{cls:=o.cls,dict:=ah s.heap.objs.size,data:=o.data,slots:=o.slots}).get? s.heap.objs.size=ah (dictOf [] 0):=
    (fC _ _ _ _ i.symm).trans (Heap.get?_push_at rfl rfl)
   have w:∀b o,s.heap.get? b=ah o->b≠a->((s.heap.push {cls:=.type "dict",data:=.dict #[]}).update a λ o=>{cls:=o.cls,dict:=ah s.heap.objs.size,data:=o.data,slots:=o.slots}).get? b=ah o:=
    λ b o e G=>(fC _ _ _ _ G).trans (aL _ e)
   have J:=R.VW (q:=(a,.exc C (ah s.heap.objs.size) vs [])) (s':={s with heap:=(s.heap.push {cls:=.type "dict",data:=.dict #[]}).update a λ o=>{cls:=o.cls,dict:=ah s.heap.objs.size,data:=o.data,slots:=o.slots},toks:=s.toks+1}) ok g ⟨rfl,rfl,rfl⟩
    (λ b o e p=>w b o e λ l=>p (by simp[ce,l])) (λ b o e=>by
     by_cases l:b=a
     ·subst l;exact ⟨_,t⟩
     ·exact ⟨_,w b o e l⟩) (.SG t F .nil) (by simp[ce,i]) (λ b p=>by
     rcases aI.mp p with h|h
     ·exact .inl (by rw[h];exact aE.mpr rfl)
     ·exact .inr (by rw[aE.mp h];exact dh _))
   exact sM (tk:=s.toks) ok J rfl (by decide) y λ s' R'=>r _ s' R'
  exact main s ai _ ⟨f,rfl,rfl,trivial⟩ (k aj) (k ao)
 |SG f H N=>
  rename_i d es n;have k:∀b A c E,(∀D s',cQ O ⟨Y.vals,J1++(a,.exc C (ah D) vs (m7 name v fs))::J2⟩ Kp Jj s'->c (.done (.ret .none)) s')->aW (bn O.G.prog O.G.w) A (storeInOwnDict (.ref a) (.ref C) (.str name s.toks) name u b) c E {s with toks:=s.toks+1}:=λ b A c E r=>by refine aw (az (aw (aw (e8 f (aw (oy X z _ _ _ _ (λ Z Z e=>e) ?_))))));rw[hd];refine az (a:=ah d) (aw (az ?_));exact sM (tk:=s.toks) ok (R.toks (s.toks+1)) g hz y λ s' R'=>r _ s' R'
  exact main s (ah (dictOf es n)) _ ⟨f,rfl,rfl,H⟩ (k aj) (k ao)
inductive Pi(K:f7)(name:Str)(Q:Option (Option V)->St->Prop)(v ov:V)(Y:St):Prop
 |mk (a C:aG) (dd:Option aG) (vs:Array Value) (fs:List (Str×V)) (J1 J2:Mu) (e:ov=.ref a) (h:Y.mu=J1++(a,.exc C dd vs fs)::J2) (s:sm K C name=aj) (z:fs.length<900) (q:∀D,Q ai ⟨Y.vals,J1++(a,.exc C (ah D) vs (m7 name v fs))::J2⟩)
theorem Hp{o:Expr}{Q:Option (Option V)->St->Prop}(ok:O.Ok)(h:XV O Ex (bv e O.env) (kR O Ex o (Pi O.G.K name Q)) Y)(n:eg e (ah (.Attribute o name pos')) pos.line O.env=pure ao):XF O Ex (gc (.Assign [.Attribute o name pos'] e pos) O.env) Q Y:=λ Kp Jj s R=>
 sF (h.Q6 R λ u k v g Kk l₁ c p h₁=>X.Q6 h₁ c λ q Q8 ov j f l₂ b m d=>by
  cases d with
  |mk a C r vs fs J1 J2 e i hk hz l=>subst e;cases m;exact Ef ok b i hk hz (p.mono l₂) λ D s' R'=>⟨ai,_,f,l₁.trans l₂,R',.next,l D⟩) n
theorem Eh{x:Str}{i:Nat}{np a pos:gU}{args:List Expr}{Q:V->St->Prop}(ok:O.Ok)(d:O.env.builtins=e_)(hi:O.ns[i]? =ah (x,.glob))(k:mH O.G.K cj x=ah ai)(j:r_ x=ah (.type "Exception"))(l:x≠"__name__")(hd:iO x=aj)
 (b:Dy pos args O.env) (h:XL O Ex (c4 (cM pos (bk args O.env))) (λ vs c=>cS O Ex (.builtin "Exception.__init__") vs Q c) Y)
 (n:bv (.Call (.Attribute (.Name x np) "__init__" a) args [] pos) O.env=(do
  let ov <-bv (.Name x np) O.env
  iX a.atName
  gN (.Name x np) "__init__" a pos O.env ov (args.length+0) (cM pos (bk args O.env)) []))
 (g:Hb pos args O.env) (f:(a.endLine==pos.line)=aj):
 XV O Ex (bv (.Call (.Attribute (.Name x np) "__init__" a) args [] pos) O.env) Q Y:=λ Kp Jj s R=>by
 rw[n];refine aw (uV i ok d hi k j l hd R (aw (ej ?_)));dsimp only[gN];refine aw (bD ?_);dsimp only[D7];rw[g,if_pos rfl];refine ze (R.fr ok) λ m F=>?_;refine method_type F ok.Sb Ft CQ (uq _) rfl ?_;show aW _ _ (dW aj (.Name x np) O.env a pos>>=_) _ _ _;rw[(show dW aj (.Name x np) O.env a pos=pure pos by dsimp only[dW];rw[f];rfl)];refine aw (az ?_);exact aY (jk (first:=[]) ok (iF _ _) b h Kp Jj _ [] (R.toks _) .nil) (λ Z Z x=>x) λ Z Z e=>e
end
noncomputable def mJ(sc:iD)(look:Str->aG):List (Str×NK):=lQ (look "") sc.names
structure f6(O:FC)(G:GC)(d:Nat)(T:(Str->aG)->List (Str×NK)):Prop where
 ok:O.Ok
 g:O.G=G
 dep:O.dep=d
 ns:∃look,O.ns=T look
 bt:O.env.builtins=e_
noncomputable def dL:Value->aR->Prop:=λ Z Z=>False
theorem lX{G:GC}{d:Nat}{f:aG}{name qual:Str}{a:eJ}{body:List Stmt}{scope:iD}{pn:List Str}{Rj:List V}(Yy:cr G f name qual a body scope pn Rj)
 (args:List V) (J:Mu) (post:V->Mu->Prop) (b:args.length+Rj.length=pn.length)
 (H:∀O:FC,f6 O G d (mJ scope)->(∀(i:Nat) (x:Str) (c:aG),O.ns[i]? =ah (x,NK.Rl c)->c∈O.own)->XF O dL (eI body O.env) (Av J post) ⟨(args++Rj).map ah++bu (scope.names.length-pn.length) ai,J⟩):
 cD G (d+1) (.ref f) args J post:=
 Nh Yy args J post b λ O ok j hd e g l h=>by refine ze e λ n k=>?_;exact H O ⟨ok,j,hd,⟨λ Z=>n,k⟩,h⟩ g
theorem de{G:GC}{d:Nat}{f:aG}{name qual:Str}{a:eJ}{body:List Stmt}{scope:iD}{pn:List Str}{Rj:List V}(Yy:cr G f name qual a body scope pn Rj)
 (args:List V) (J:Mu) (post:V->Mu->Prop) (b:args.length+Rj.length=pn.length)
 (H:∀O:FC,f6 O G d (mJ scope)->XF O dL (eI body O.env) (Av J post) ⟨(args++Rj).map ah++bu (scope.names.length-pn.length) ai,J⟩):
 cD G (d+1) (.ref f) args J post:=lX Yy args J post b λ O I Z=>H O I
theorem uN.SE{b:FC}(I:f6 O G d T)(C:uN O b sc):f6 b G d (λ a=>GR a sc.names):=
 ⟨C.ok,C.G.trans I.g,C.dep.trans I.dep,C.ns,C.bi.trans I.bt⟩
theorem f6.at(I:f6 O G d T)(i:Nat){x:Str}{k:NK}(h:∀n,(T n)[i]? =ah (x,k)):O.ns[i]? =ah (x,k):=by refine ze I.ns λ n e=>?_;rw[e];exact h n
noncomputable def I6(O:FC):Prop:=∀(i:Nat) (x:Str) (c:aG),O.ns[i]? =ah (x,NK.Rl c)->c∈O.own
theorem f6.cell(I:f6 O G d T)(i:Nat){x:Str}(h:∀n,∃c,(T n)[i]? =ah (x,.Rl c)):∃c,O.ns[i]? =ah (x,.Rl c):=by refine ze I.ns λ n e=>?_;rw[e];exact h n
theorem f6.own(I:f6 O G d T)(a:I6 O)(i:Nat){x:Str}(h:∀n,∃c,(T n)[i]? =ah (x,.Rl c)):nq O i x:=
 by refine ze (I.cell i h) λ c e=>?_;exact .Rl e (a i x c e)
theorem f6.ZW(I:f6 O G d T)(i:Nat){x:Str}(h:∀n,∃c,(T n)[i]? =ah (x,.Rl c)):rT O i x:=by refine ze (I.cell i h) λ c e=>?_;exact .Rl e
theorem nl(I:f6 O G d T)(i:Nat){x:Str}{pos:gU}{v:V}{Q:V->St->Prop}(a:Y.vals[i]? =ah (ah v))(h:Q v Y)(b:autoParam (∀n,(T n)[i]? =ah (x,.loc)) rf)(hd:autoParam (iO x=aj) rf):
 XV O Ex (bv (.Name x pos) O.env) Q Y:=A4 i I.ok (.loc (I.at i b)) a h hd
theorem nc(I:f6 O G d T)(i:Nat){x:Str}{pos:gU}{v:V}{Q:V->St->Prop}(a:Y.vals[i]? =ah (ah v))(h:Q v Y)(b:autoParam (∀n,∃c,(T n)[i]? =ah (x,.Rl c)) rx)(hd:autoParam (iO x=aj) rf):
 XV O Ex (bv (.Name x pos) O.env) Q Y:=A4 i I.ok (I.ZW i b) a h hd
theorem sl(I:f6 O G d T)(i:Nat){x:Str}{e:Expr}{Q:Option (Option V)->St->Prop}(h:XV O Ex (bv e O.env) (v6 i Q) Y)(b:autoParam (∀n,(T n)[i]? =ah (x,.loc)) rf)(a:autoParam (eg e (ah (.Name x pos')) pos.line O.env=pure ao) rf):XF O Ex (gc (.Assign [.Name x pos'] e pos) O.env) Q Y:=
 uW i I.ok (.loc (I.at i b)) h a
theorem DH(I:f6 O G d T)(a:I6 O)(i:Nat){x:Str}{e:Expr}{Q:Option (Option V)->St->Prop}(h:XV O Ex (bv e O.env) (v6 i Q) Y)(f:autoParam (∀n,∃c,(T n)[i]? =ah (x,.Rl c)) rx)(b:autoParam (eg e (ah (.Name x pos')) pos.line O.env=pure ao) rf):XF O Ex (gc (.Assign [.Name x pos'] e pos) O.env) Q Y:=
 uW i I.ok (I.own a i f) h b
theorem al(I:f6 O G d T)(i:Nat){x:Str}{v:V}{Q:St->Prop}(h:Q (Y.set i v))(a:autoParam (∀n,(T n)[i]? =ah (x,.loc)) rf):XA O Ex (d9 (.Name x pos) O.env) v Q Y:=
 Dw i I.ok (.loc (I.at i a)) h
theorem ac(I:f6 O G d T)(a:I6 O)(i:Nat){x:Str}{v:V}{Q:St->Prop}(h:Q (Y.set i v))(b:autoParam (∀n,∃c,(T n)[i]? =ah (x,.Rl c)) rx):XA O Ex (d9 (.Name x pos) O.env) v Q Y:=
 Dw i I.ok (I.own a i b) h
theorem ag(I:f6 O G d T)(i:Nat){x:Str}{op:Operator}{e:Expr}{v:V}{Q:Option (Option V)->St->Prop}(b:Y.vals[i]? =ah (ah v))(h:XV O Ex (bv e O.env) (I5 O Ex (AE op) (v6 i Q) v) Y)(a:autoParam (∀n,(T n)[i]? =ah (x,.loc)) rf):XF O Ex (gc (.AugAssign (.Name x pos') op e pos) O.env) Q Y:=
 Jo i I.ok (.loc (I.at i a)) (.loc (I.at i a)) b h
theorem sb(h:XV O Ex (bv value O.env) (kR O Ex slice (mP O Ex Q)) Y)(a:autoParam (∀o i,subscripted slice ao o i=operate [o,i] (kf o i)) rf):XV O Ex (bv (.Subscript value slice pos) O.env) Q Y:=Jl h a
theorem a1{Q:List V->St->Prop}(h:XV O Ex (bv e O.env) (Pv Q) Y)(a:autoParam (bk [e] O.env=(ao,bv e O.env)::bk [] O.env) rf):XL O Ex (c4 (cM pos (bk [e] O.env))) Q Y:=
 o_ (h.mono λ Z Z q=>cx q) a
theorem an{a:List Expr}{Q:List V->St->Prop}(h:XV O Ex (bv e O.env) (M8 O Ex a pos Q) Y)(b:autoParam (bk (e::a) O.env=(ao,bv e O.env)::bk a O.env) rf):XL O Ex (c4 (cM pos (bk (e::a) O.env))) Q Y:=o_ h b
theorem tv{Q:Bool->St->Prop}(h:XV O Ex (bv e O.env) (kT O Ex Q) Y)(a:autoParam (∀whole,eu e O.env whole=(do let v <-whole;iX e.pos;kc [v] (He v))) rf):XB O Ex (eu e O.env (bv e O.env)) Q Y:=Js h a
theorem tq{l r:Expr}{Q:Bool->St->Prop}(h:XV O Ex (bv l O.env) (kR O Ex r (I5 O Ex (cH op) (kB Q))) Y)(a:autoParam (y6 op r=ao) rf):XB O Ex (eu (.Compare l [op] [r] pos) O.env whole) Q Y:=Jt h a
noncomputable def QD(Q:V->St->Prop)(v:V)(Y:St):Prop:=Q (.tup [v]) Y
noncomputable def QC(Q:V->St->Prop)(v w:V)(Y:St):Prop:=Q (.tup [v,w]) Y
noncomputable def QB(Q:V->St->Prop)(u v w:V)(Y:St):Prop:=Q (.tup [u,v,w]) Y
noncomputable def Pg(O:FC)(Ex:Value->aR->Prop)(c:Expr)(Q:V->St->Prop)(u v:V)(Y:St):Prop:=XV O Ex (bv c O.env) (QB Q u v) Y
noncomputable def QJ(Q:V->St->Prop)(v:V)(Y:St):Prop:=Q (.list [v]) Y
theorem t1{a:Expr}{k:Nat}{pos:gU}{Q:V->St->Prop}(h:XV O Ex (bv a O.env) (QD Q) Y)(b:autoParam (bk [a] O.env=(ao,bv a O.env)::bk [] O.env) rf):
 XV O Ex (bv (.Tuple [a] k pos) O.env) Q Y:=pW (a1 (h.mono λ Z Z q=>⟨by simp only[dA];simp,q⟩) b)
theorem t2{a b:Expr}(h:XV O Ex (bv a O.env) (kR O Ex b (QC Q)) Y)(c:autoParam (bk [a,b] O.env=(ao,bv a O.env)::bk [b] O.env) rf)(d:autoParam (bk [b] O.env=(ao,bv b O.env)::bk [] O.env) rf):XV O Ex (bv (.Tuple [a,b] k pos) O.env) Q Y:=pW (an (h.mono λ Z Z h=>a1 (h.mono λ Z Z q=>⟨by simp only[dA];simp,q⟩) d) c)
theorem t3{a b c:Expr}(h:XV O Ex (bv a O.env) (kR O Ex b (Pg O Ex c Q)) Y)(f:autoParam (bk [a,b,c] O.env=(ao,bv a O.env)::bk [b,c] O.env) rf)(e:autoParam (bk [b,c] O.env=(ao,bv b O.env)::bk [c] O.env) rf)(d:autoParam (bk [c] O.env=(ao,bv c O.env)::bk [] O.env) rf):XV O Ex (bv (.Tuple [a,b,c] k pos) O.env) Q Y:=
 pW (an (h.mono λ Z Z h=>an (h.mono λ Z Z h=>a1 (h.mono λ Z Z q=>⟨by simp only[dA];simp,q⟩) d) e) f)
theorem l1{a:Expr}{pos:gU}{Q:V->St->Prop}(h:XV O Ex (bv a O.env) (QJ Q) Y)(b:autoParam (bk [a] O.env=(ao,bv a O.env)::bk [] O.env) rf):
 XV O Ex (bv (.List [a] pos) O.env) Q Y:=f1 (a1 (h.mono λ Z Z q=>⟨by simp only[dA];simp,q⟩) b)
structure Qd(G:GC)(x qual:Str)(st:Stmt)(pn:List Str)(Rj:List V)(f:aG):Prop where
 g:mH G.K cj x=ah (ah (.ref f))
 k:mW G.K (.ref f)=aj
 y:cr G f x qual (cN st) (cy st) (bF st) pn Rj
noncomputable abbrev Fn(G:GC)(x qual:Str)(st:Stmt)(pn:List Str)(Rj:List V):Prop:=∃f,Qd G x qual st pn Rj f
section
variable{st:Stmt}
noncomputable def Fn.f(F:Fn G x qual st pn Rj):aG:=F.choose
theorem Fn.p(F:Fn G x qual st pn Rj):Qd G x qual st pn Rj F.f:=F.choose_spec
theorem Fn.y(F:Fn G x qual st pn Rj):cr G F.f x qual (cN st) (cy st) (bF st) pn Rj:=F.p.y
end
structure fx(G:GC)(x:Str)(v:Value):Prop where
 n:mH G.K cj x=ah ai
 b:r_ x=ah v
 ne:x≠"__name__"
 k:nt G v
theorem cg(I:f6 O G d T)(i:Nat){x:Str}{st:Stmt}(F:Fn G x qual st pn Rj){Q:V->St->Prop}(h:XL O Ex (c4 (cM pos (bk args O.env))) (rq O Ex (.ref F.f) Q) Y)(hi:autoParam (∀n,(T n)[i]? =ah (x,.glob)) rf)(hd:autoParam (iO x=aj) rf)(a:autoParam (Dy pos args O.env) rf):XV O Ex (bv (.Call (.Name x np) args [] pos) O.env) Q Y:=
 tG i I.ok (I.at i hi) (by rw[I.g];exact F.p.g) hd (by rw[I.g];exact F.p.k) a h
theorem cb(I:f6 O G d T)(i:Nat){x:Str}{v:Value}(F:fx G x v){Q:V->St->Prop}(h:XL O Ex (c4 (cM pos (bk args O.env))) (rq O Ex v Q) Y)(hi:autoParam (∀n,(T n)[i]? =ah (x,.glob)) rf)(hd:autoParam (iO x=aj) rf)(a:autoParam (Dy pos args O.env) rf):XV O Ex (bv (.Call (.Name x np) args [] pos) O.env) Q Y:=
 Ek i I.ok I.bt (I.at i hi) ((bz I.g)▸F.n) F.b F.ne hd (by rw[I.g];exact F.k) a h
theorem sp(I:f6 O G d T){f:Value}{vs:List V}{Q:V->St->Prop}{J1:Mu}(J2:Mu){post:V->Mu->Prop}(h:cD G d' f vs J1 post)(hd:d'<=d)(a:Y.mu=J1++J2)(q:∀v J',post v J'->Q v ⟨Y.vals,J'++J2⟩):cS O Ex f vs Q Y:=
 Hn J2 I.ok ((bz I.g)▸h) (by simp only[I.dep];exact hd) a q
theorem i2{v:V}(h:post v J):Fin J post v J:=⟨[],J,J,v,rfl,λ Z h=>h,dE.refl _ _,.refl v,h⟩
theorem LV.of{v:V}(h:LV Y v xs)(e:autoParam (Y.mu=Y'.mu) rf):LV Y' v xs:=by
 cases h with
 |frozen=>exact .frozen
 |led i hi=>exact .led i (e▸hi)
noncomputable abbrev V.nat(n:Nat):V:=.int n
theorem tx(a b:Nat):Builtin.bitOr (a:Int) (b:Int)=((a|||b:Nat):Int):=by
 have e:∀n:Nat,Builtin.bitNot (n:Int)=r4 n:=λ n=>by cases n<;>rfl
 have c:∀n:Nat,Builtin.bitNot (r4 n)=(n:Int):=λ n=>Int.add_sub_cancel n 1;dsimp only[Builtin.bitOr,Builtin.bitAnd];rw[e,e];have d:decide (0<=r4 a)=ao:=by simp
 simp only[d,(show decide (0<=r4 b)=ao by simp)];simp only[c,gi];simp only[e,c]
theorem dT{f:α->V}{xs:List α}(h:i<xs.length)(d:α):(xs.map f)[i]? =ah (f (xs.getD i d)):=by simp only[aN,ay h,aD];rfl
theorem fN{f:α->V}{xs:List α}(h:i<xs.length)(d:α):(xs.map f).getD i .none=f (xs.getD i d):=by refine (aD).trans ?_;rw[dT h d];rfl
theorem jf{xs:List α}(h:i<xs.length)(d:α):xs.drop i=xs.getD i d::xs.drop (i+1):=by simp only[j9 h,aD,ay h];rfl
theorem bd{xs:List α}(h:i<xs.length)(d:α):xs.getD i d∈xs:=by simp only[aD,ay h];exact cG h
theorem Qk{n:Nat}(h:n<=16):n<=eU:=by exact aA ‹_› (by decide)
inductive At{A:Type}(st:A->St)(I:A->Prop)(Y:St):Prop
 |mk (a:A) (e:Y=st a) (h:I a)
inductive I9{A:Type}(n:Nat)(st:A->St)(I:Nat->A->Prop)(Y:St):Prop
 |mk (m:Nat) (l:m<n) (a:A) (e:Y=st a) (h:I m a)
theorem At.on{A:Type}{st:A->St}{I:A->Prop}{g:Prop}(h:At st I Y)(k:∀a,Y=st a->I a->g):g:=by cases h;exact k _ ‹_› ‹_›
inductive G1(O:FC)(Ex:Value->aR->Prop)(target:Expr)(body:List Stmt){A:Type}(st:A->St)(In:Nat->A->Prop)(Q:Option (Option V)->St->Prop)(v:V)(Y:St):Prop
 |mk (n:Nat) (xs:Nat->V) (c_:St->Prop) (W:i3 O O.A v n xs c_ Y) (a:A) (e:Y=st a) (h0:In 0 a) (hG:∀i a,i<=n->In i a->c_ (st a))
  (step:∀i a,i<n->In i a->XA O Ex (d9 target O.env) (xs i) (qe O Ex body (oo Q (At st (In (i+1))))) (st a)) (fin:∀a,In n a->Q ai (st a))
section
variable{f:aG}
theorem iH{A:Type}{Q:Option (Option V)->St->Prop}(st:A->St)(g:Nat->A->Prop)(h:XV O Ex (bv iter O.env) (G1 O dL target body st g Q) Y)(k:autoParam (∀x,eH iter O.env x=pure x) rf):XF O Ex (gc (.For target iter body [] pos) O.env) Q Y:=
 lm (ExB:=dL) (λ i=>At st (g i)) (λ Z Z h=>h.elim) (h.mono λ Z Z c=>by obtain ⟨n,xs,c_,W,a,e,j,l,step,fin⟩:=c;exact ⟨n,xs,c_,W,⟨a,e,j⟩,λ i Z hi d=>by obtain ⟨a,e,h⟩:=d;exact e▸l i a hi h,
  λ i Z hi b=>by obtain ⟨a,e,h⟩:=b;exact e▸step i a hi h,λ Z f=>by obtain ⟨a,e,h⟩:=f;exact e▸fin a h⟩) k
theorem tE{A:Type}{Q:Option (Option V)->St->Prop}(st:A->St)(d:Nat->A->Prop)(n:Nat)(a:A)(e:Y=st a)(h:d n a)(step:∀n a,d n a->XB O dL (eu test O.env (bv test O.env)) (Pf O dL body Q (I9 n st d)) (st a)):XF O Ex (gc (.While test body [] pos) O.env) Q Y:=
 pU (ExB:=dL) (λ n=>At st (d n)) (λ Z Z h=>h.elim) (λ n Z g=>At.on g λ a e h=>by
  cases e;refine (step n a h).mono λ b c q=>?_;cases b with
  |false=>exact q
  |true=>
   refine X.mono (show XF O dL (eI body O.env) (oo Q (I9 n st d)) c from q) λ fl f q=>?_
   match fl,q with
   |some (ah r),q=>exact q
   |none,⟨m,l,a,e,h⟩=>exact ⟨m,l,a,e,h⟩
   |some ai,⟨m,l,a,e,h⟩=>exact ⟨m,l,a,e,h⟩) n ⟨a,e,h⟩
end
theorem rC(a b:Nat):Int.fdiv (a:Int) (b:Int)=((a/b:Nat):Int):=by refine (Int.fdiv_eq_ediv_of_nonneg _ (br b)).trans ?_;rfl
theorem CL(a b:Nat):Int.fmod (a:Int) (b:Int)=((a%b:Nat):Int):=by refine (Int.fmod_eq_emod_of_nonneg _ (br b)).trans ?_;rfl
theorem xn{i:Int}(n:Nat)(h:Q (.nat n) Y)(e:autoParam (i=(n:Int)) rf):XV O Ex (bv (.Constant (.int i) k pos) O.env) Q Y:=dJ ((bz e)▸h)
theorem fM(h:Q (.nat (a+b)) Y):iB O Ex (dP .Add) (VR O.P) (.nat a) (.nat b) Q Y:=MP h
theorem E3(h:Q (.nat (a+1)) Y):iB O Ex (AE .Add) (VR O.P) (.nat a) (.int 1) Q Y:=H4 h
theorem yz(c:b<=a)(h:Q (.nat (a-b)) Y):iB O Ex (dP .Sub) (VR O.P) (.nat a) (.nat b) Q Y:=MF (by rwa [show (a:Int)-b=((a-b:Nat):Int)from Mk c])
theorem B8(d:0<b)(c:b<2^20)(h:Q (.nat (a/b)) Y):iB O Ex (dP .FloorDiv) (VR O.P) (.nat a) (.nat b) Q Y:=H6 (GG d) (aH ‹_› (by decide)) (by rwa [rC])
theorem B7(c:0<b)(h:Q (.nat (a%b)) Y):iB O Ex (dP .Mod) (VR O.P) (.nat a) (.nat b) Q Y:=GP (GG c) (by rwa [CL])
theorem B6(h:Q (.nat (a|||b)) Y):iB O Ex (dP .BitOr) (VR O.P) (.nat a) (.nat b) Q Y:=MH (by rwa [tx])
theorem GT(c:Builtin.Int.intBits (a:Int)<=64)(h:Q (.nat (a*b)) Y):iB O Ex (dP .Mult) (VR O.P) (.nat a) (.nat b) Q Y:=MK (.of_left c) h
theorem tY(h:Q (.bool (decide (a<b))) Y):iB O Ex (cH .Lt) (VR O.P) (.nat a) (.nat b) Q Y:=tU (by rwa [show decide ((a:Int)<b)=decide (a<b)by simp])
theorem zK(h:Q (.bool (a==b)) Y):iB O Ex (cH .Eq) (VR O.P) (.nat a) (.nat b) Q Y:=GQ (by rwa [show ((a:Int)==b)=(a==b)by rw[fc];simp;exact GF])
theorem EZ(h:Q (.bool (a !=b)) Y):iB O Ex (cH .NotEq) (VR O.P) (.nat a) (.nat b) Q Y:=vI (by rwa [show ((a:Int) !=b)=(a !=b)by rw[fc];simp;exact Mj])
noncomputable def eB(nul:List Bool)(fs:List Nat):Nat->List Nat->Nat×Bool
 |m,[]=>(m,aj)
 |m,s::r=>if nul.getD s ao=aj then eB nul fs (m|||fs.getD s 0) r else (m|||fs.getD s 0,ao)
theorem n2{a:List Bool}{fs:List Nat}{m}:eB a fs m []=((m,aj)):=rfl
theorem lW{a:List Bool}{fs:List Nat}{m s r}:eB a fs m (s::r)=(if a.getD s ao=aj then eB a fs (m|||fs.getD s 0) r else (m|||fs.getD s 0,ao)):=rfl
theorem qM{G:GC}{d:Nat}{f:aG}{name qual:Str}(Yy:cr G f name qual (cN (top 17)) (cy (top 17)) (bF (top 17)) ["symbols","nullables","firsts"] []){J:Mu}{l:V}(a:List Nat)(b:List Bool)(fs:List Nat)
 (p:LV ⟨[],J⟩ l (fs.map V.nat)) (r:∀s∈a,s<b.length/\s<fs.length/\s<2^62):
 cD G (d+1) (.ref f) [.tup (a.map V.nat),.list (b.map .bool),l] J (λ v J'=>v=.tup [.nat (eB b fs 0 a).1,.bool (eB b fs 0 a).2]/\J'=J):=by
 refine de Yy _ J _ rfl λ O I=>?_;let Z:Nat->St->Prop:=λ i Y=>∃m o,Y=⟨[ah (.tup (a.map V.nat)),ah (.list (b.map .bool)),ah l,ah (.nat m),o],J⟩/\eB b fs m (a.drop i)=eB b fs 0 a
 refine aB (sl I 3 (dJ (aB (lm (ExB:=dL) Z (λ Z Z h=>h.elim) (nl I 0 rfl ⟨_,_,_,uY I.ok.hand,⟨0,ai,rfl,rfl⟩,λ Z Z Z Z=>trivial,λ i Y hi=>?_,?_⟩) λ Z=>rfl))))
 ·intro k;refine g_ k λ m o n e=>?_;subst n;simp only[au]at hi;have c:=r _ (bd hi 0);simp only[fN hi 0];refine al I 4 (aB (sl I 3 (bw (nl I 3 rfl (sb (nl I 2 rfl (nl I 4 rfl ⟨⟨_,.list p.of⟩,dM p.of (dT c.2.1 0) c.2.2 (MH ?_)⟩)))))));rw[tx];refine aB (eW (sL (tv (sb (nl I 1 rfl (nl I 4 rfl ⟨⟨_,.list .frozen⟩,dM .frozen (dT c.1 ao) c.2.2 (jl ?_)⟩))))));rw[jf hi 0]at e;cases q:b.getD (a.getD i 0) ao with
  |true=>exact bm (bm ⟨_,_,rfl,by (rw[<-e];dsimp only[n2,lW];rw[if_pos q])⟩)
  |false=>exact aB (dB (t2 (nl I 3 rfl (iZ (i2 ⟨by (rw[<-e];dsimp only[n2,lW];rw[if_neg (by rw[q];decide)]),rfl⟩)))))
 ·intro Y g;refine g_ g λ m o j e=>?_;subst j;rw[au,iV]at e;exact aB (dB (t2 (nl I 3 rfl (iZ (i2 ⟨by rw[<-e];rfl,rfl⟩)))))
noncomputable def td(tc:Nat)(l:List Nat):Int:=l.foldl (λ f s=>if s<tc then (s:Int)else f) (-1)
theorem xz{l:List Nat}(hi:i<l.length):td tc (l.take (i+1))=if l.getD i 0<tc then ((l.getD i 0:Nat):Int)else td tc (l.take i):=by unfold td;rw[aS hi,fh,aD,ay hi];rfl
theorem pI{G:GC}{d:Nat}{f:aG}{name qual:Str}(Yy:cr G f name qual (cN (top 12)) (cy (top 12)) (bF (top 12)) ["right","terminal_count"] []){J:Mu}(l:List Nat)(tc:Nat):
 cD G (d+1) (.ref f) [.tup (l.map V.nat),.nat tc] J (λ v J'=>v=.int (td tc l)/\J'=J):=by
 refine de Yy _ J _ rfl λ O I=>?_;let Z:Nat->St->Prop:=λ i Y=>∃o,Y=⟨[ah (.tup (l.map V.nat)),ah (.nat tc),ah (.int (td tc (l.take i))),o],J⟩
 refine aB (sl I 2 (il (dJ (kw (aB (lm (ExB:=dL) Z (λ Z Z h=>h.elim) (nl I 0 rfl ⟨_,_,_,uY I.ok.hand,⟨ai,rfl⟩,λ Z Z Z Z=>trivial,λ i Y hi=>?_,?_⟩) λ Z=>rfl))))))
 ·intro b;obtain ⟨o,rfl⟩:=b;simp only[au]at hi;rw[fN hi 0];refine al I 3 (aB (eW (tq (nl I 3 rfl (nl I 1 rfl (tU ⟨_,rfl,?_⟩))))));have h:=xz (tc:=tc) hi;by_cases a:l.getD i 0<tc
  ·rw[if_pos a]at h;refine iz (by simpa using a) ?_;exact aB (sl I 2 (nl I 3 rfl (bm (bm ⟨_,by rw[h];rfl⟩))))
  ·rw[if_neg a]at h;refine fS (by simpa using a) ?_;exact bm (bm ⟨_,by rw[h];rfl⟩)
 ·intro Y c;obtain ⟨o,rfl⟩:=c;rw[au,a0];exact aB (dB (nl I 2 rfl (i2 ⟨rfl,rfl⟩)))
noncomputable def pick(row:List Nat)(i m:Nat):Nat:=(row.getD (i%row.length) 0/(1+i/row.length)+5*(i/row.length))%m
theorem Bx{G:GC}{d:Nat}{f:aG}{name qual:Str}(Yy:cr G f name qual (cN (top 30)) (cy (top 30)) (bF (top 30)) ["row","at","most"] [])(B:fx G "len" (.builtin "len")){J:Mu}(row:List Nat)(i m:Nat)
 (e:0<row.length) (g:row.length<64) (hi:i<1000) (k:0<m) (j:m<3000):
 cD G (d+1) (.ref f) [.list (row.map V.nat),.nat i,.nat m] J (λ v J'=>v=.nat (pick row i m)/\J'=J):=by
 refine de Yy _ J _ rfl λ O I=>?_;have c:=Nat.mod_lt i e;have l:i/row.length<=i:=Nat.div_le_self _ _;have a:(row.map V.nat).length=row.length:=au ..;have n:Builtin.Int.intBits ((5:Nat):Int)<=64:=by decide
 have b:∀{Ex:Value->aR->Prop} {Y:St} {Q:V->St->Prop},Q (.nat row.length) Y->cS O Ex (.builtin "len") [.list (row.map V.nat)] Q Y:=λ h=>lh .frozen (by rw[a];exact aH ‹_› (by decide)) ((bz a)▸h);refine aB (sl I 3 (bw (nl I 1 rfl (cb I 4 B (a1 (nl I 0 rfl (b (B8 e (bC g (by decide)) (aB (dB (bw (bw (bw (sb (nl I 0 rfl (bw (nl I 1 rfl (cb I 4 B (a1 (nl I 0 rfl (b (B7 e ⟨⟨_,.list .frozen⟩,dM .frozen (dT c 0) (LH c g) ?_⟩))))))))))))))))))))));refine bw (xn 1 (nl I 3 rfl (fM (B8 (by simp only[fj];exact cp _) (aQ (jv l 1) (LI hi)) (bw (xn 5 (nl I 3 rfl (GT n (fM (nl I 2 rfl (B7 k (i2 ⟨rfl,rfl⟩))))))))))))
theorem Fi{vs:List Value}(a:j<=vs.length):(have k:=if (j:Int)<0 then ((j:Int)+((vs.toArray.size:Nat):Int)).toNat else min (j:Int).toNat vs.toArray.size;(vs.toArray.extract 0 k).push u++vs.toArray.extract k)=(vs.take j++u::vs.drop j).toArray:=by
 have hk:(if (j:Int)<0 then ((j:Int)+((vs.toArray.size:Nat):Int)).toNat else min (j:Int).toNat vs.toArray.size)=j:=by rw[if_neg (i4.mpr (br j))];dsimp only[gi];rw[bH,jt a]
 show (vs.toArray.extract 0 _).push u++vs.toArray.extract _=_;rw[hk];simp[lG]
theorem Da{a:aG}{v:V}{xs:List V}{j:Nat}{Q:V->St->Prop}(i:Nat)(ok:O.Ok)(hi:Y.mu[i]? =ah (a,.list xs))(hz:xs.length<=2^20)(f:j<=xs.length)(h:Q .none ⟨Y.vals,Y.mu.set i (a,.list (xs.take j++v::xs.drop j))⟩):
 cS O Ex (.builtin "list.insert") [.ref a,.nat j,v] Q Y:=.three λ Kp Jj s u w c R o g l=>o.Rw (g.Rc λ t=>(R.mu _ (aX hi)).listE λ vs n e rs=>by
 have b:Builtin.List.listFitsIndex (j:Int)=aj:=AT (br _) (Kv f hz);have p:=Fi (u:=c) (rs.length▸f);generalize r:(j:Int)=x at*;obtain ⟨m,d⟩:∃m,(s.heap.update a (Obj.mapSeq λ xs=>have k:=if x<0 then (x+((xs.size:Nat):Int)).toNat else min x.toNat xs.size;(xs.extract 0 k).push c++xs.extract k)).get? a=ah (W.listOf (vs.take j++c::vs.drop j).toArray m):=
  ⟨_,(c9 _ e rfl).trans (congrArg ah (congrArg (W.listOf · _) p))⟩
 exact kQ PySem.F.slot_list_insert ⟨_,e,rfl⟩ PySem.F.entry_list_insert (PySem.F.args_list_insert_3 _ _ _) (PySem.AutoListH.list_insert_list_int_val_1 a vs.toArray n x t c (by rw[b];decide) (rs.sz.symm▸gH hz)) ⟨e,
  ⟨_,_,Kp,.refl _,R.Sx (tk:=s.toks) (q:=(a,.list (xs.take j++v::xs.drop j))) ok hi rfl (a:=a) (by simp[ce]) (Heap.SameBut.update ..) ⟨_,d⟩ (.list d ((rs.take j).append (.cons l (rs.drop j)))),.none,h⟩⟩)
inductive QH(O:FC)(Ex:Value->aR->Prop)(args:List Expr)(pos:gU)(T id:String)(Q:V->St->Prop)(ov:V)(Y:St):Prop
 |mk (t:yU Y ov T) (h:XL O Ex (c4 (cM pos (bk args O.env))) (ue O Ex (.builtin id) ov Q) Y)
inductive QG(O:FC)(Ex:Value->aR->Prop)(G:GC)(name:Str)(args:List Expr)(pos:gU)(Q:V->St->Prop)(ov:V)(Y:St):Prop
 |mk (C:aG) (fs:List (Str×V)) (f:aG) (I:sB Y ov C fs) (m:re G.K C name f=aj) (l:fs.lookup name=ai) (h:XL O Ex (c4 (cM pos (bk args O.env))) (ue O Ex (.ref f) ov Q) Y)
inductive QM(G:GC)(attr:Str)(Q:V->St->Prop)(o:V)(Y:St):Prop
 |mk (C:aG) (fs:List (Str×V)) (v:V) (I:sB Y o C fs) (h:jY G.K C attr=aj) (l:fs.lookup attr=ah v) (q:Q v Y)
inductive PA(a:aG)(Q:V->St->Prop)(v:V)(Y:St):Prop
 |mk (i:Nat) (xs:List V) (e:Y.mu[i]? =ah (a,.list xs)) (z:xs.length<=2^20) (q:Q .none ⟨Y.vals,Y.mu.set i (a,.list (xs++[v]))⟩)
inductive QP(O:FC)(Ex:Value->aR->Prop)(e:Expr)(Q:V->St->Prop)(ov:V)(Y:St):Prop
 |mk (a:aG) (To:List V) (j:Nat) (e1:ov=.ref a) (e2:Y.mu[j]? =ah (a,.list To)) (h:XV O Ex (bv e O.env) (PA a Q) Y)
theorem mb(I:f6 O G d T){o:Expr}{name:Str}{c pos:gU}{args:List Expr}{T id:String}{Q:V->St->Prop}(m:PlainAttrs T)(f:Slot T name id)(g:Hd (.builtin id)=pure (.type "method_descriptor"))
 (h:XV O Ex (bv o O.env) (QH O Ex args pos T id Q) Y)
 (l:autoParam (I7 o name args c pos O.env) rf)
 (e:autoParam (Dy pos args O.env) rf)
 (k:autoParam (Hb pos args O.env) rf) (j:autoParam ((c.endLine==pos.line)=aj) rf):
 XV O Ex (bv (.Call (.Attribute o name c) args [] pos) O.env) Q Y:=Ej I.ok e m f g (h.mono λ Z Z i=>by obtain ⟨a,b⟩:=i;exact ⟨a,b⟩) l k j
theorem mi(I:f6 O G d T){o:Expr}{name:Str}{e pos:gU}{args:List Expr}{Q:V->St->Prop}
 (h:XV O Ex (bv o O.env) (QG O Ex G name args pos Q) Y)
 (l:autoParam (I7 o name args e pos O.env) rf)
 (g:autoParam (Dy pos args O.env) rf)
 (k:autoParam (Hb pos args O.env) rf) (j:autoParam ((e.endLine==pos.line)=aj) rf):
 XV O Ex (bv (.Call (.Attribute o name e) args [] pos) O.env) Q Y:=Ei I.ok g (h.mono λ Z Z i=>by obtain ⟨C,fs,f,a,b,c,d⟩:=i;exact ⟨C,fs,f,a,(bz I.g)▸b,c,d⟩) l k j
theorem at_(I:f6 O G d T){Q:V->St->Prop}(h:XV O Ex (bv value O.env) (QM G attr Q) Y)(f:autoParam (I_ value attr pos O.env) rf):XV O Ex (bv (.Attribute value attr pos) O.env) Q Y:=Hu I.ok (h.mono λ Z Z e=>by obtain ⟨C,fs,v,a,b,c,d⟩:=e;exact ⟨C,fs,v,a,(bz I.g)▸b,c,d⟩) f
theorem f6.quiet(I:f6 O G d T):D4 O.env=ao:=by dsimp only[D4];rw[I.ok.kind];rfl
theorem xe(I:f6 O G d T){e:Expr}{Q:Option (Option V)->St->Prop}(h:XV O Ex (bv e O.env) (kE Q) Y)(a:autoParam (eg e ai pos.line O.env=pure ao) rf):XF O Ex (gc (.Expr e pos) O.env) Q Y:=Hs h I.quiet a
theorem H9(I:f6 O G d T){o e:Expr}{b pos:gU}{Q:V->St->Prop}
 (h:XV O Ex (bv o O.env) (QP O Ex e Q) Y)
 (s:autoParam (bv (.Call (.Attribute o "append" b) [e] [] pos) O.env=(do
  let ov <-bv o O.env
  iX b.atName
  gN o "append" b pos O.env ov ([e].length+0) (cM pos (bk [e] O.env)) [])) rf)
 (n:autoParam (bk [e] O.env=(ao,bv e O.env)::bk [] O.env) rf)
 (c:autoParam ((cM pos (bk [e] O.env)).any (·.1)=ao) rf)
 (m:autoParam (wP ([e].length+0) (cM pos (bk [e] O.env)) []=aj) rf) (l:autoParam ((b.endLine==pos.line)=aj) rf):
 XV O Ex (bv (.Call (.Attribute o "append" b) [e] [] pos) O.env) Q Y:=
 mb I PySem.F.plainAttrs_list PySem.F.slot_list_append PySem.F.type_list_append (h.mono λ Z Z f=>by obtain ⟨a,g,j,p,t,h⟩:=f;exact by subst p;exact ⟨.list (.led j t),a1 (h.mono λ Z Z k=>by obtain ⟨i,xs,r,u,q⟩:=k;exact wg i I.ok r (by exact aA ‹_› (by decide)) q) n⟩) s c m l
structure Ru where
 left:Nat
 right:List Nat
 lv:Int
structure Gr where
 names:List Str
 tc:Nat
 start:Nat
 rules:List Ru
variable{g:Gr}
noncomputable def hQ:Nat->List Ru->List Nat
 |_,[]=>[]
 |a,r::rs=>a::hQ (a+(r.right.length+1)) rs
theorem yu{w0}:hQ w0 []=([]):=rfl
theorem vG{a r rs}:hQ a (r::rs)=(a::hQ (a+(r.right.length+1)) rs):=rfl
noncomputable def gP:Nat->List Ru->List Nat
 |_,[]=>[]
 |i,r::rs=>bu (r.right.length+1) i++gP (i+1) rs
theorem qZ{w0}:gP w0 []=([]):=rfl
theorem i7{i r rs}:gP i (r::rs)=(bu (r.right.length+1) i++gP (i+1) rs):=rfl
noncomputable def Gr.by(g:Gr)(s:Nat):List Nat:=(aZ g.rules.length).filter λ i=>((g.rules.map (·.left)).getD i 0)==s
noncomputable def Gr.owners(g:Gr):List Nat:=gP 0 g.rules
noncomputable def Gr.Rb(g:Gr):List Nat:=hQ 0 g.rules
noncomputable def Gr.right(g:Gr)(r:Nat):List Nat:=(g.rules.map (·.right)).getD r []
noncomputable def Gr.off(g:Gr)(r:Nat):Nat:=g.Rb.getD r 0
noncomputable def Gr.Q3(g:Gr)(i:Nat):Nat:=g.owners.getD i 0
noncomputable def Gr.Q7(g:Gr)(i:Nat):Nat:=i-g.off (g.Q3 i)
noncomputable def Gr.after(g:Gr)(i:Nat):Int:=if g.Q7 i<(g.right (g.Q3 i)).length then (((g.right (g.Q3 i)).getD (g.Q7 i) 0:Nat):Int)else -1
theorem jH:∀(l:List Ru) (a:Nat),(hQ a l).length=l.length:=by
 intro l;induction l with
 |nil=>intro Z;exact rfl
 |cons Z l b=>intro a;simp[vG,b]
theorem EU:∀(l:List Ru) (i a k:Nat),k<(gP i l).length->∃r,(gP i l)[k]? =ah (i+r)/\r<l.length/\(hQ a l).getD r 0<=a+k/\a+k-(hQ a l).getD r 0<=((l.map (·.right)).getD r []).length:=by
 intro l;induction l with
 |nil=>intro i a k h;simp[qZ]at h
 |cons q l b=>
  intro i a k h;simp only[i7,aF,bP]at h;dsimp only[qZ,i7];by_cases hk:k<q.right.length+1
  ·refine ⟨0,?_,by simp,by simp[yu,vG],by simp[yu,vG];exact ci ‹_›⟩;refine (c0 (by simpa using hk)).trans ?_;refine (lw).trans ?_;refine (if_pos hk).trans ?_;rfl
  ·refine kS (b (i+1) (a+(q.right.length+1)) (k-(q.right.length+1)) (JS h hk)) λ r f c g d=>?_;refine ⟨r+1,?_,by simpa using c,?_,?_⟩
   ·refine (bG (by simp;exact bR.mp ‹_›)).trans ?_;rw[bP,f];congr 1;exact cR _ _ _
   ·have e:(hQ a (q::l)).getD (r+1) 0=(hQ (a+(q.right.length+1)) l).getD r 0:=rfl;exact JR g hk
   ·have e:(hQ a (q::l)).getD (r+1) 0=(hQ (a+(q.right.length+1)) l).getD r 0:=rfl;rw[(show ((y1 (·.right) (q::l)).getD (r+1) [])=((l.map (·.right)).getD r [])from rfl)];exact JQ d
theorem Gr.item_at(g:Gr){i:Nat}(h:i<g.owners.length):g.Q3 i<g.rules.length/\g.off (g.Q3 i)<=i/\g.Q7 i<=(g.right (g.Q3 i)).length:=by refine kS (EU g.rules 0 0 i h) λ r b d c a=>?_;rw[cO]at b c a;unfold Gr.Q7;rw[(show g.Q3 i=r by dsimp only[Gr.Q3,Gr.owners];refine (aD).trans ?_;rw[b];rfl)];exact ⟨d,c,a⟩
noncomputable def zv(CR:aG)(p:Ru×Nat):V:=.inst CR [("number",.nat p.2),("left",.nat p.1.left),("right",.tup (p.1.right.map .nat)),("level_of",.int p.1.lv),("action",.none),("line",.int 0),("before",.int 0)]
noncomputable def Gr.Q9(g:Gr)(CR:aG):List V:=g.rules.zipIdx.map (zv CR)
noncomputable def Gr.Us(g:Gr):List V:=(aZ g.names.length).map λ s=>.list ((g.by s).map .nat)
noncomputable def Gr.RV(g:Gr)(CR:aG):List (Str×V):=[("names",.list (g.names.map .str)),("terminal_count",.nat g.tc),("rules",.list (g.Q9 CR)),("levels",.dict []),("expect",.none),("start",.nat g.start),
 ("by_left",.list g.Us),("offsets",.list (g.Rb.map .nat)),("owners",.list (g.owners.map .nat)),("item_count",.nat g.owners.length)]
noncomputable def Gr.v(g:Gr)(CG CR:aG):V:=.inst CG (g.RV CR)
noncomputable def yQ(K:f7)(C:aG)(l:List Str):Prop:=∀x∈l,jY K C x=aj
structure Small(g:Gr):Prop where
 names:g.names.length<2^10
 rules:g.rules.length<2^10
 owners:g.owners.length<2^10
 right:∀r∈g.rules,r.right.length<2^10
theorem Gr.SA(g:Gr)(S:Small g)(r:Nat):(g.right r).length<2^10:=by
 unfold Gr.right;rw[aD,aN];cases h:g.rules[r]? with
 |none=>show [].length<_;decide
 |some q=>exact S.right q (aX h)
structure wD(G:GC)(CG CR:aG):Prop where
 g:yQ G.K CG ["names","terminal_count","rules","start","by_left","offsets","owners","item_count"]
 r:yQ G.K CR ["number","left","right"]
inductive QL(G:GC)(attr:Str)(Q:V->St->Prop)(o:V)(Y:St):Prop
 |mk (C:aG) (fs:List (Str×V)) (v:V) (e:o=.inst C fs) (h:jY G.K C attr=aj) (l:fs.lookup attr=ah v) (q:Q v Y)
theorem fa(I:f6 O G d T){Q:V->St->Prop}(h:XV O Ex (bv value O.env) (QL G attr Q) Y)(g:autoParam (I_ value attr pos O.env) rf):XV O Ex (bv (.Attribute value attr pos) O.env) Q Y:=at_ I (h.mono λ Z Z f=>by obtain ⟨C,fs,v,e,a,b,c⟩:=f;exact ⟨C,fs,v,e▸.frozen,a,b,c⟩) g
theorem qL{f:aG}{name qual:Str}(F:wD G CG CR)(Yy:cr G f name qual (cN (mem 9 6)) (cy (mem 9 6)) (bF (mem 9 6)) ["self","rule","dot"] []){J:Mu}(g:Gr)(r k:Nat)(a:r<g.rules.length)(hz:Small g):
 cD G (d+1) (.ref f) [g.v CG CR,.nat r,.nat k] J (λ v J'=>v=.nat (g.off r+k)/\J'=J):=by
 refine de Yy _ J _ rfl λ O I=>?_;exact aB (dB (bw (sb (fa I (nl I 0 rfl ⟨CG,g.RV CR,.list (g.Rb.map .nat),rfl,F.g _ (by decide+kernel),by kernel_rfl,nl I 1 rfl ⟨⟨_,.list .frozen⟩,dM .frozen (dT (by dsimp only[Gr.Rb];simp only[jH];exact a) 0) (bC a (bC hz.rules (by decide))) (nl I 2 rfl (fM (i2 ⟨rfl,rfl⟩)))⟩⟩)))))
section
variable{f:aG}
inductive M5(o' v:V)(Q:V->St->Prop)(o:V)(Y:St):Prop
 |mk (e:o=o') (q:Q v Y)
theorem ga(I:f6 O G d T)(F:wD G CG CR)(g:Gr){Q:V->St->Prop}(v:V)(h:XV O Ex (bv value O.env) (M5 (g.v CG CR) v Q) Y)(b:autoParam ((g.RV CR).lookup attr=ah v) rk)(c:autoParam ((["names","terminal_count","rules","start","by_left","offsets","owners","item_count"]:List Str).elem attr=aj) rk)(f:autoParam (I_ value attr pos O.env) rf):XV O Ex (bv (.Attribute value attr pos) O.env) Q Y:=fa I (h.mono λ Z Z a=>by obtain ⟨e,q⟩:=a;exact ⟨CG,_,v,e,F.g _ (uS c),b,q⟩) f
theorem gA{n m:Nat}(h:n<m)(a:m<2^10):n<2^62:=bC h (bC a (by decide))
theorem lL(F:wD G CG CR)(Yy:cr G f name qual (cN (mem 9 1)) (cy (mem 9 1)) (bF (mem 9 1)) ["self"] [])(B:fx G "len" (.builtin "len"))(g:Gr)(hz:Small g):
 cD G (d+1) (.ref f) [g.v CG CR] J (λ v J'=>v=.nat g.names.length/\J'=J):=by
 refine de Yy _ J _ rfl λ O I=>?_;have a:(g.names.map V.str).length=g.names.length:=au ..;have:=hz.names;exact aB (dB (cb I 1 B (a1 (ga I F g (.list (g.names.map .str)) (nl I 0 rfl ⟨rfl,lh .frozen ((bz a)▸aH ‹_› (by decide)) (i2 ⟨by rw[a],rfl⟩)⟩)))))
theorem mO(F:wD G CG CR)(Yy:cr G f name qual (cN (mem 9 2)) (cy (mem 9 2)) (bF (mem 9 2)) ["self","symbol"] [])(g:Gr)(s:Nat):
 cD G (d+1) (.ref f) [g.v CG CR,.nat s] J (λ v J'=>v=.bool (decide (s<g.tc))/\J'=J):=by
 refine de Yy _ J _ rfl λ O I=>?_;exact aB (dB (x_ (nl I 1 rfl (ga I F g (.nat g.tc) (nl I 0 rfl ⟨rfl,tY (i2 ⟨rfl,rfl⟩)⟩))) rfl))
theorem w4(F:wD G CG CR)(Yy:cr G f name qual (cN (mem 9 5)) (cy (mem 9 5)) (bF (mem 9 5)) ["self","symbol"] [])(B:fx G "list" (.type "list"))(g:Gr)(s:Nat)(hz:Small g)(a:s<g.names.length):
 cD G (d+1) (.ref f) [g.v CG CR,.nat s] J (λ v J'=>v=.list ((g.by s).map .nat)/\J'=J):=by
 refine de Yy _ J _ rfl λ O I=>?_;have c:(g.Us)[s]? =ah (.list ((g.by s).map .nat)):=by dsimp only[Gr.Us];refine (aN).trans ?_;rw[fB a];rfl
 have b:((g.by s).map V.nat).length<=2^20:=by simp only[au];exact aA (aA (c8 ..) (by simp)) (bc (bC hz.rules (by decide)))
 exact aB (dB (cb I 2 B (a1 (sb (ga I F g (.list g.Us) (nl I 0 rfl ⟨rfl,nl I 1 rfl ⟨⟨_,.list .frozen⟩,dM .frozen c (gA a hz.names) (uC I.ok .frozen b (.F (i2 ⟨rfl,rfl⟩)))⟩⟩))))))
theorem kq(F:wD G CG CR)(Yy:cr G f name qual (cN (mem 9 7)) (cy (mem 9 7)) (bF (mem 9 7)) ["self","item"] [])(g:Gr)(i:Nat)(hz:Small g)(hi:i<g.owners.length):
 cD G (d+1) (.ref f) [g.v CG CR,.nat i] J (λ v J'=>v=.nat (g.Q3 i)/\J'=J):=by
 refine de Yy _ J _ rfl λ O I=>?_;exact aB (dB (sb (ga I F g (.list (g.owners.map .nat)) (nl I 0 rfl ⟨rfl,nl I 1 rfl ⟨⟨_,.list .frozen⟩,dM .frozen (dT hi 0) (gA hi hz.owners) (i2 ⟨rfl,rfl⟩)⟩⟩))))
theorem nM(F:wD G CG CR)(Yy:cr G f name qual (cN (mem 9 8)) (cy (mem 9 8)) (bF (mem 9 8)) ["self","item"] [])(g:Gr)(i:Nat)(hz:Small g)(hi:i<g.owners.length):
 cD G (d+1) (.ref f) [g.v CG CR,.nat i] J (λ v J'=>v=.nat (g.Q7 i)/\J'=J):=by
 refine de Yy _ J _ rfl λ O I=>?_;have a:=g.item_at hi;have b:g.Q3 i<g.Rb.length:=by dsimp only[Gr.Rb];simp only[jH];exact a.1
 refine aB<|dB<|bw<|nl I 1 rfl<|sb<|ga I F g (.list (g.Rb.map .nat))<|nl I 0 rfl ⟨rfl,sb<|ga I F g (.list (g.owners.map .nat))<|nl I 0 rfl ⟨rfl,nl I 1 rfl ⟨⟨_,.list .frozen⟩,dM .frozen (dT hi 0) (gA hi hz.owners) ?_⟩⟩⟩;exact ⟨⟨_,.list .frozen⟩,dM .frozen (dT b 0) (gA a.1 hz.rules)<|yz a.2.1<|i2 ⟨rfl,rfl⟩⟩
theorem sT(g:Gr){r:Nat}(a:r<g.rules.length):(g.Q9 CR)[r]? =ah (zv CR (g.rules[r],r)):=by unfold Gr.Q9;simp only[aN,mT,ay a];simp
theorem kr(g:Gr){r:Nat}(a:r<g.rules.length):g.rules[r].right=g.right r:=by unfold Gr.right;simp only[aD,aN,ay a];rfl
theorem tP(F:wD G CG CR)(Yy:cr G f name qual (cN (mem 9 9)) (cy (mem 9 9)) (bF (mem 9 9)) ["self","item"] [])(B:fx G "len" (.builtin "len"))(g:Gr)(i:Nat)(hz:Small g)(hi:i<g.owners.length):
 cD G (d+1) (.ref f) [g.v CG CR,.nat i] J (λ v J'=>v=.int (g.after i)/\J'=J):=by
 refine de Yy _ J _ rfl λ O I=>?_;refine jw (g.item_at hi) λ a c h=>?_;have e:=g.SA hz (g.Q3 i);have b:((g.right (g.Q3 i)).map V.nat).length=(g.right (g.Q3 i)).length:=au ..;refine aB<|sl I 2<|fa I<|sb<|ga I F g (.list (g.Q9 CR))<|nl I 0 rfl ⟨rfl,sb<|ga I F g (.list (g.owners.map .nat))<|nl I 0 rfl ⟨rfl,nl I 1 rfl ⟨⟨_,.list .frozen⟩,dM .frozen (dT hi 0) (gA hi hz.owners) ?_⟩⟩⟩;refine ⟨⟨_,.list .frozen⟩,dM .frozen (sT g a) (gA a hz.rules) ⟨CR,_,.tup ((g.right (g.Q3 i)).map .nat),rfl,F.r _ (by decide+kernel),by rw[<-kr g a];with_unfolding_all rfl,?_⟩⟩;refine aB<|sl I 3<|bw<|nl I 1 rfl<|sb<|ga I F g (.list (g.Rb.map .nat))<|nl I 0 rfl ⟨rfl,sb<|ga I F g (.list (g.owners.map .nat))<|nl I 0 rfl ⟨rfl,nl I 1 rfl ⟨⟨_,.list .frozen⟩,dM .frozen (dT hi 0) (gA hi hz.owners) ?_⟩⟩⟩;refine ⟨⟨_,.list .frozen⟩,dM .frozen (dT (show g.Q3 i<g.Rb.length by unfold Gr.Rb;simp only[jH];exact a) 0) (gA a hz.rules)<|yz c ?_⟩;refine aB<|dB<|l9<|tq<|nl I 3 rfl<|cb I 4 B<|a1<|nl I 2 rfl<|C_ ((bz b)▸aH ‹_› (by decide))<|tY ⟨_,rfl,?_⟩;rw[b];show if decide (g.Q7 i<_)=aj then _ else _;by_cases hd:g.Q7 i<(g.right (g.Q3 i)).length
 ·refine iz (by simpa using hd) ?_;exact sb (nl I 2 rfl (nl I 3 rfl ⟨⟨_,.tup⟩,pq (dT (f:=V.nat) hd 0) (gA hd e) (i2 ⟨by unfold Gr.after;rw[if_pos hd],rfl⟩)⟩))
 ·refine fS (by simpa using hd) ?_;exact il (dJ (kw (i2 ⟨by unfold Gr.after;rw[if_neg hd],rfl⟩)))
end
noncomputable def Gr.num(g:Gr)(x:Str):Int:=if g.names.any (· ==x)=aj then ((g.names.idxOf x:Nat):Int)else -1
structure fy where
 number:Nat
 kernel:List (Nat×Nat)
 symbol:Int
 items:List (Nat×Nat)
 moves:List (Nat×Nat)
 Q5:List Nat
 Q4:List (Nat×Nat)
noncomputable def dp(p:Nat×Nat):V:=.tup [.nat p.1,.nat p.2]
noncomputable def e6(k:List (Nat×Nat)):V:=.tup (k.map dp)
noncomputable def dV(l:List (Nat×Nat)):List (V×V):=l.map λ p=>(.nat p.1,.nat p.2)
noncomputable def fy.RV(s:fy):List (Str×V):=[("number",.nat s.number),("kernel",e6 s.kernel),("core",.tup (s.kernel.map λ p=>.nat p.1)),("symbol",.int s.symbol),("items",.dict (dV s.items)),("moves",.dict (dV s.moves)),("reductions",.list (s.Q5.map .nat)),("masks",.dict (dV s.Q4))]
noncomputable def fy.v(CS:aG)(s:fy):V:=.inst CS s.RV
noncomputable def mK(CG CR CS:aG)(g:Gr)(bx:List fy):List (Str×V):=[("grammar",g.v CG CR),("states",.list (bx.map (fy.v CS)))]
noncomputable def kJ(CG CR CS CA:aG)(g:Gr)(bx:List fy):V:=.inst CA (mK CG CR CS g bx)
theorem lb(l:List (Nat×Nat)):(dV l).map (·.1)=(l.map (·.1)).map V.nat:=by simp[dV]
theorem yx:V.nat a=V.nat b↔a=b:=by simp;exact GF
theorem fO{l:List (Nat×Nat)}(h:(l.map (·.1)).Nodup):((dV l).map (·.1)).Nodup:=by rw[lb,aO,bS];exact (aO.mp h).imp λ h e=>h (yx.mp e)
theorem uc(n:Nat):kk (.nat n)=1:=rfl
theorem px(l:List (Nat×Nat)):∀p∈dV l,kk p.1=1:=λ p b=>by refine b4 (aC.mp b) λ q Z a=>?_;subst a;rfl
theorem jq{l:List (Nat×Nat)}(k:Nat)(h:(l.map (·.1)).Nodup):f5 (.nat k) (dV l):=⟨by rw[uc];decide,λ p a=>px l p a,fO h⟩
theorem rI(k:Nat):∀l:List (Nat×Nat),ez (dV l) (.nat k)=(l.lookup k).map V.nat:=by
 intro l;induction l with
 |nil=>exact rfl
 |cons c l d=>
  obtain ⟨a,b⟩:=c;unfold ez dV at*;rw[be,cU,bq,kX];by_cases e:k=a
  ·subst e;simp
  ·have f:((a:Int)==(k:Int))=ao:=by simp;exact BM e
   rw[f,(show (k==a)=ao by simpa using e)];exact (d)
noncomputable def wJ(bx:List fy)(s x:Nat):Int:=match ((bx.map (·.moves)).getD s []).lookup x with|some n=>((n:Nat):Int)|none=> -1
noncomputable def jD(bx:List fy):Int->List Nat->Int
 |s,[]=>s
 |s,x::r=>if s<0 then -1 else jD bx (wJ bx s.toNat x) r
theorem wT{bx:List fy}{s}:jD bx s []=(s):=rfl
theorem qz{bx:List fy}{s x r}:jD bx s (x::r)=(if s<0 then -1 else jD bx (wJ bx s.toNat x) r):=rfl
structure pD(bx:List fy):Prop where
 len:bx.length<2^12
 keys:∀s∈bx,(s.moves.map (·.1)).Nodup
 goals:∀s∈bx,∀p∈s.moves,p.2<bx.length
theorem Ih{bx:List fy}(h:pD bx){s x:Nat}:wJ bx s x<bx.length/\ -1<=wJ bx s x:=by
 unfold wJ;cases e:((bx.map (·.moves)).getD s []).lookup x with
 |none=>exact ⟨by show (-1:Int)<_;exact br _,by show (-1:Int)<= -1;exact br _⟩
 |some n=>
  refine ⟨?_,by show (-1:Int)<=(n:Int);exact br _⟩;rw[aD,aN]at e;cases a:bx[s]? with
  |none=>rw[a]at e;cases e
  |some t=>rw[a]at e;refine g_ (bM.mp e) λ l₁ l₂ b Z=>?_;show (n:Int)<_;simpa using (h.goals t (aX a) (x,n) (by show _∈t.moves;rw[show t.moves=_ from b];simp))
section
variable{f:aG}
theorem vq(F:wD G CG CR)(Yy:cr G f name qual (cN (mem 9 4)) (cy (mem 9 4)) (bF (mem 9 4)) ["self","name"] [])(g:Gr)(x:Str)(hz:Small g):
 cD G (d+1) (.ref f) [g.v CG CR,.str x] J (λ v J'=>v=.int (g.num x)/\J'=J):=by
 refine de Yy _ J _ rfl λ O I=>?_;refine aB<|dB<|l9<|tq<|nl I 1 rfl<|ga I F g (.list (g.names.map .str))<|nl I 0 rfl ⟨rfl,H3 .frozen ⟨_,rfl,?_⟩⟩;unfold Gr.num;cases h:g.names.any (· ==x)with
 |true=>exact mb I PySem.F.plainAttrs_list PySem.F.slot_list_index PySem.F.type_list_index<|ga I F g (.list (g.names.map .str))<|nl I 0 rfl ⟨rfl,.list .frozen,a1<|nl I 1 rfl<|n8 .frozen (by refine b4 (dI.mp h) λ y a e=>?_;rw[<-beq_iff_eq.mp e];exact a) (bC hz.names (by decide))<|i2 ⟨rfl,rfl⟩⟩
 |false=>exact il<|dJ<|kw<|i2 ⟨rfl,rfl⟩
structure FR(G:GC)(CS CA:aG):Prop where
 s:yQ G.K CS ["number","kernel","core","symbol","items","moves","reductions","masks"]
 a:yQ G.K CA ["grammar","states"]
theorem sn(F:FR G CS CA)(Yy:cr G f name qual (cN (mem 21 1)) (cy (mem 21 1)) (bF (mem 21 1)) ["self"] [])(B:fx G "len" (.builtin "len"))(g:Gr)(bx:List fy)(hz:pD bx):
 cD G (d+1) (.ref f) [kJ CG CR CS CA g bx] J (λ v J'=>v=.nat bx.length/\J'=J):=by
 refine de Yy _ J _ rfl λ O I=>?_;have a:(bx.map (fy.v CS)).length=bx.length:=au ..;have:=hz.len;exact aB<|dB<|cb I 1 B<|a1<|fa I<|nl I 0 rfl ⟨CA,mK CG CR CS g bx,.list (bx.map (fy.v CS)),rfl,F.a _ (by decide+kernel),by kernel_rfl,lh .frozen (by rw[a];exact aH ‹_› (by decide))<|i2 ⟨by rw[a],rfl⟩⟩
theorem w8(F:FR G CS CA)(Yy:cr G f name qual (cN (mem 21 2)) (cy (mem 21 2)) (bF (mem 21 2)) ["self","state","symbol"] [])(g:Gr)(bx:List fy)(hz:pD bx)(s x:Nat)(a:s<bx.length):
 cD G (d+1) (.ref f) [kJ CG CR CS CA g bx,.nat s,.nat x] J (λ v J'=>v=.int (wJ bx s x)/\J'=J):=by
 refine de Yy _ J _ rfl λ O I=>?_;refine aB<|dB<|mb I PySem.F.plainAttrs_dict PySem.F.slot_dict_get PySem.F.type_dict_get<|fa I<|sb<|fa I<|nl I 0 rfl ⟨CA,mK CG CR CS g bx,.list (bx.map (fy.v CS)),rfl,F.a _ (by decide+kernel),by kernel_rfl,nl I 1 rfl ⟨⟨_,.list .frozen⟩,dM .frozen (by rw[aN,ay a];rfl) (JP a hz.len) ?_⟩⟩;refine ⟨CS,bx[s].RV,.dict (dV bx[s].moves),rfl,F.s _ (by decide+kernel),by kernel_rfl,.dict .frozen,an<|nl I 2 rfl<|a1<|il<|dJ<|kw<|yK I.ok .frozen (jq x (hz.keys _ (cG a)))<|i2 ⟨?_,rfl⟩⟩;rw[rI];unfold wJ;rw[(show (bx.map (·.moves)).getD s []=bx[s].moves by rw[aD,aN,ay a];rfl)];cases bx[s].moves.lookup x<;>rfl
end
structure Qb(G:GC)(C:aG)(x qual:Str)(st:Stmt)(pn:List Str)(Rj:List V)(f:aG):Prop where
 m:re G.K C x f=aj
 y:cr G f x qual (cN st) (cy st) (bF st) pn Rj
noncomputable abbrev Me(G:GC)(C:aG)(x qual:Str)(st:Stmt)(pn:List Str)(Rj:List V):Prop:=∃f,Qb G C x qual st pn Rj f
section
variable{st:Stmt}
noncomputable def Me.f(M:Me G C x qual st pn Rj):aG:=M.choose
theorem Me.p(M:Me G C x qual st pn Rj):Qb G C x qual st pn Rj M.f:=M.choose_spec
theorem Me.y(M:Me G C x qual st pn Rj):cr G M.f x qual (cN st) (cy st) (bF st) pn Rj:=M.p.y
end
section
variable{f:aG}
inductive Pw(O:FC)(Ex:Value->aR->Prop)(C f:aG)(x:Str)(args:List Expr)(pos:gU)(Q:V->St->Prop)(ov:V)(Y:St):Prop
 |mk (fs:List (Str×V)) (I:sB Y ov C fs) (l:fs.lookup x=ai) (h:XL O Ex (c4 (cM pos (bk args O.env))) (ue O Ex (.ref f) ov Q) Y)
theorem mc(I:f6 O G d T){C:aG}{x q:Str}{st:Stmt}{pn:List Str}{Rj:List V}(M:Me G C x q st pn Rj){o:Expr}{e pos:gU}{args:List Expr}{Q:V->St->Prop}
 (h:XV O Ex (bv o O.env) (Pw O Ex C M.f x args pos Q) Y)
 (k:autoParam (I7 o x args e pos O.env) rf)
 (f:autoParam (Dy pos args O.env) rf)
 (j:autoParam (Hb pos args O.env) rf) (i:autoParam ((e.endLine==pos.line)=aj) rf):
 XV O Ex (bv (.Call (.Attribute o x e) args [] pos) O.env) Q Y:=mi I (h.mono λ Z Z g=>by obtain ⟨fs,a,b,c⟩:=g;exact ⟨C,fs,M.f,a,M.p.m,b,c⟩) k f j i
theorem iu(I:f6 O G d T){f:Value}{vs:List V}{Q:V->St->Prop}{r:V}(h:cD G d' f vs [] (λ v J'=>v=r/\J'=[]))(hd:d'<=d)(q:Q r Y):cS O Ex f vs Q Y:=
 sp I Y.mu h hd rfl λ v J' a=>by obtain ⟨b,c⟩:=a;exact by subst b;subst c;exact q
theorem Bt(F:FR G CS CA)(Yy:cr G f name qual (cN (mem 21 3)) (cy (mem 21 3)) (bF (mem 21 3)) ["self","state","symbols"] [])(M:Me G CA "goto" "CanonicalAutomaton.goto" (mem 21 2) ["self","state","symbol"] [])
 (g:Gr) (bx:List fy) (hz:pD bx) (s:Int) (p:s<bx.length) (l:List Nat):
 cD G (d+2) (.ref f) [kJ CG CR CS CA g bx,.int s,.list (l.map .nat)] J (λ v J'=>v=.int (jD bx s l)/\J'=J):=by
 refine de Yy _ J _ rfl λ O I=>?_;let j:Int->(Option V)->St:=λ t o=>⟨[ah (kJ CG CR CS CA g bx),ah (.int t),ah (.list (l.map .nat)),o],J⟩
 let Z:Nat->St->Prop:=λ i Y=>∃(t:Int) (o:Option V),Y=j t o/\t<bx.length/\jD bx t (l.drop i)=jD bx s l
 refine aB<|lm (ExB:=dL) Z (λ Z Z h=>h.elim) (nl I 2 rfl ⟨_,_,_,kW I.ok.hand,⟨s,ai,rfl,p,rfl⟩,λ Z Z Z Z=>trivial,λ i Y hi=>?_,?_⟩) λ Z=>rfl
 ·intro k;refine fo k λ t o m n a=>?_;subst m;simp only[au]at hi;rw[fN hi 0];rw[jf hi 0]at a;refine al I 3<|aB<|eW<|tq<|nl I 1 rfl<|dJ<|tU ⟨_,rfl,?_⟩;by_cases b:t<0
  ·refine iz (by simpa using b) ?_;refine aB<|dB<|il<|dJ<|kw<|i2 ⟨?_,rfl⟩;rw[<-a];dsimp only[wT,qz];rw[if_pos b]
  ·refine fS (by simpa using b) ?_;refine bm<|aB<|sl I 1<|mc I M<|nl I 0 rfl ⟨mK CG CR CS g bx,.frozen,by kernel_rfl,an<|nl I 1 rfl<|a1<|nl I 3 rfl<|?_⟩;rw[(show V.int t=.nat t.toNat by show V.int t=V.int _;rw[gR (JN b)])];refine iu I (w8 (d:=d) F M.y g bx hz _ _ (JO n b)) (aT _)<|bm ⟨_,_,rfl,(Ih hz (s:=t.toNat) (x:=l.getD i 0)).1,?_⟩;rw[<-a];dsimp only[wT,qz];rw[if_neg b]
 ·intro Y c;refine fo c λ t o e n a=>?_;subst e;rw[au,iV]at a;exact aB<|dB<|nl I 1 rfl<|i2 ⟨by (rw[<-a];dsimp only[wT,qz]),rfl⟩
end
noncomputable def Na:Option (Str×NK)->Bool
 |some (_,.Rl _)=>aj
 |_=>ao
noncomputable def um(ns:List (Str×NK))(l:List (Str×NameKind)):Bool:=l.all λ p=>match p.2 with|.free=>Na (ns.find? λ q=>q.1==p.1)|_=>aj
noncomputable def tX(l:List (Str×NameKind)):Bool:=l.all λ p=>match p.2 with|.cell=>ao|_=>aj
noncomputable def tz:List Str->Bool
 |[]=>aj
 |x::l=>l.all (λ y=>!(x==y))&&tz l
theorem pB:∀{l:List Str},tz l=aj->l.Nodup:=by
 intro l;induction l with
 |nil=>intro Z;exact bK
 |cons x l a=>intro h;dsimp only[tz]at h;simp only[cW]at h;refine bB.mpr ⟨λ b=>?_,a h.2⟩;have:=b9.mp h.1 x b;simp at this
theorem f6.free(I:f6 O G d T){l:List (Str×NameKind)}(h:∀n,um (T n) l=aj):∀x,(x,NameKind.free)∈l->∃(i:Nat) (c:aG),O.ns[i]? =ah (x,NK.Rl c):=λ x f=>by
 refine ze I.ns λ n e=>?_;have:=b9.mp (h n) _ f;simp only at this;rw[<-e]at this;cases a:O.ns.find? λ q=>q.1==x with
 |none=>rw[a]at this;exact nomatch this
 |some q=>
  rw[a]at this;obtain ⟨y,k⟩:=q;have b:=List.find?_some a;simp only[beq_iff_eq]at b;subst b;cases k with
  |Rl c=>refine ze (cI.mp (List.mem_of_find?_eq_some a)) λ i hi=>?_;exact ⟨i,c,hi⟩
  |_=>cases this
theorem s_{l:List (Str×NameKind)}(h:tX l=aj):∀y∈l,y.2≠.cell:=λ y a e=>by have:=b9.mp h y a;rw[e]at this;exact nomatch this
theorem lc(I:f6 O G d T){Q:V->St->Prop}(h:XV O Ex (bv iter O.env) (mA O elt target ifs scope Q) Y)(a:autoParam (scope.kind=.function) rf)(e:autoParam (tz (scope.names.map (·.1))=aj) rk)(c:autoParam (tX scope.names=aj) rk)(b:autoParam (∀n,um (T n) scope.names=aj) rk)(f:autoParam (∀x,eH iter O.env x=pure x) rf):XV O Ex (bv (.ListComp elt [⟨target,iter,ifs,0⟩] scope pos) O.env) Q Y:=
 Ht I.ok a (pB e) (s_ c) (I.free b) h f
theorem Qy(I:f6 O G d T)(j:Nat){y:Str}{Q:Option (Option V)->St->Prop}(h:XV O Ex (bv iter O.env) (mA O elt target ifs scope (v6 j Q)) Y)(g:autoParam (∀n,(T n)[j]? =ah (y,.loc)) rf)(a:autoParam (scope.kind=.function) rf)(f:autoParam (tz (scope.names.map (·.1))=aj) rk)(c:autoParam (tX scope.names=aj) rk)(b:autoParam (∀n,um (T n) scope.names=aj) rk)(e:autoParam (eg (.ListComp elt [⟨target,iter,ifs,0⟩] scope pos) (ah (.Name y py)) Tq.line O.env=pure aj) rf)(i:autoParam (∀x,eH iter O.env x=pure x) rf):XF O Ex (gc (.Assign [.Name y py] (.ListComp elt [⟨target,iter,ifs,0⟩] scope pos) Tq) O.env) Q Y:=
 tH j I.ok (I.at j g) a (pB f) (s_ c) (I.free b) h e i
theorem Jw{l:List Nat}(a:ys.Perm (l.map V.nat))(b:du ys):∃m:List Nat,ys=m.map V.nat/\m.Perm l/\m.Pairwise (·<=·):=by
 let f:V->Nat:=λ v=>((ky v).headD 0).toNat
 have e:(ys.map f).map V.nat=ys:=bs.trans ((bE λ y c=>by refine b4 (aC.mp (a.mem_iff.mp c)) λ n Z e=>?_;subst e;rfl).trans (ed ys));refine ⟨ys.map f,e.symm,(a.map f).trans (.of_eq (bs.trans (ed l))),?_⟩;rw[<-e]at b;exact (bS.mp b).imp λ h=>eY λ g=>h (Cp (cV.mpr g))
theorem Il{v:V}(a:∀b∈addrs J,b∈addrs J')(h:post v J'):Fin J post v J':=⟨[],J',J',v,rfl,a,dE.refl _ _,.refl v,h⟩
section
variable{f:aG}
theorem si(I:f6 O G d T){o e:Expr}{name:Str}{Q:Option (Option V)->St->Prop}(h:XV O Ex (bv e O.env) (kR O Ex o (M2 G.K name Q)) Y)(a:autoParam (eg e (ah (.Attribute o name pos')) pos.line O.env=pure ao) rf):XF O Ex (gc (.Assign [.Attribute o name pos'] e pos) O.env) Q Y:=
 Ho I.ok ((bz I.g)▸h) a
noncomputable def fy.new(number:Nat)(kernel:List (Nat×Nat))(symbol:Int)(moves:V):List (Str×V):=[("number",.nat number),("kernel",e6 kernel),("core",.tup (kernel.map λ p=>.nat p.1)),("symbol",.int symbol),("items",.dict []),("moves",moves),("reductions",.list []),("masks",.dict [])]
theorem tO(S:∀x∈(["number","kernel","core","symbol","items","moves","reductions","masks"]:List Str),iJ G.K CS x=aj)(h:fx G "tuple" (.type "tuple"))(Yy:cr G f name qual (cN (mem 20 0)) (cy (mem 20 0)) (bF (mem 20 0)) ["self","number","kernel","symbol"] [])
 (x c:aG) (n:Nat) (k:List (Nat×Nat)) (s:Int) (hk:k.length<2^10):
 cD G (d+1) (.ref f) [.ref x,.nat n,e6 k,.int s] [(x,.inst CS c [])] (λ v J'=>v=.none/\∃e,J'=[(e,.dict []),(x,.inst CS c (fy.new n k s (.ref e)))]):=by
 refine de Yy _ _ _ rfl λ O I=>?_;refine aB<|si I<|nl I 1 rfl<|nl I 0 rfl ⟨0,x,CS,c,_,rfl,rfl,S _ (by decide+kernel),aP rfl,?_⟩;refine aB<|si I<|nl I 2 rfl<|nl I 0 rfl ⟨0,x,CS,c,_,rfl,rfl,S _ (by decide+kernel),aP rfl,?_⟩;refine aB<|si I<|cb I 4 h<|a1<|lc I<|nl I 2 rfl ⟨_,_,_,uY I.ok.hand,?_,(λ i a acc J=>∃o,a=[ai,o]/\acc=(k.take i).map (λ p=>V.nat p.1)/\J=[(x,.inst CS c [("number",.nat n),("kernel",e6 k)])]),⟨_,rfl,rfl,rfl⟩,?_,?_,?_⟩
 ·rw[au];exact bc (aH ‹_› (by decide))
 ·rintro i a acc J hi ⟨o,rfl,rfl,rfl⟩;exact ⟨by simp only[au,bb];exact qV,λ Z=>trivial⟩
 ·rintro O' C i a acc J D hi ⟨o,rfl,rfl,rfl⟩;simp only[au]at hi;rw[fN hi (0,0)];have g:=C.SE I;refine al g 1<|gs<|sb<|nl g 1 rfl<|xn 0 ⟨⟨_,.tup⟩,pq (k:=0) rfl (by decide) ⟨[],rfl,_,rfl,?_,rfl⟩⟩;simp only[aS hi,aK,aD,ay hi];rfl
 ·rintro a acc J ⟨o,rfl,rfl,rfl⟩;dsimp only[show (e6 k)=.tup (k.map dp)from rfl];rw[au,a0];refine .F<|rL .frozen (by rw[au];exact bc (aH ‹_› (by decide)))<|nl I 0 rfl ⟨0,x,CS,c,_,rfl,rfl,S _ (by decide+kernel),aP rfl,?_⟩;refine aB<|si I<|nl I 3 rfl<|nl I 0 rfl ⟨0,x,CS,c,_,rfl,rfl,S _ (by decide+kernel),aP rfl,?_⟩;refine aB<|si I<|qw I.ok<|nl I 0 rfl ⟨0,x,CS,c,_,rfl,rfl,S _ (by decide+kernel),aP rfl,?_⟩;refine aB<|si I<|hH I.ok λ e=>nl I 0 rfl ⟨1,x,CS,c,_,rfl,rfl,S _ (by decide+kernel),aP rfl,?_⟩;refine aB<|si I<|f1 (cx ⟨by simp,nl I 0 rfl ⟨1,x,CS,c,_,rfl,rfl,S _ (by decide+kernel),aP rfl,?_⟩⟩);refine aB<|si I<|qw I.ok<|nl I 0 rfl ⟨1,x,CS,c,_,rfl,rfl,S _ (by decide+kernel),aP rfl,?_⟩;refine bm (Il (λ b j=>ax _ j) ⟨rfl,e,?_⟩);rfl
end
section
variable{f:aG}
theorem vp(S:∀x∈(["number","left","right","level_of","action","line","before"]:List Str),iJ G.K CR x=aj)(Yy:cr G f name qual (cN (mem 8 0)) (cy (mem 8 0)) (bF (mem 8 0)) ["self","number","left","right","level_of","action","line","before"] [.none,.int 0,.int 0])
 (x a:aG) (n:Nat) (r:Ru):cD G (d+1) (.ref f) [.ref x,.nat n,.nat r.left,.tup (r.right.map .nat),.int r.lv] [(x,.inst CR a [])] (λ v J'=>v=.none/\J'=[(x,.inst CR a [("number",.nat n),("left",.nat r.left),("right",.tup (r.right.map .nat)),("level_of",.int r.lv),("action",.none),("line",.int 0),("before",.int 0)])]):=by
 refine de Yy _ _ _ rfl λ O I=>?_;refine aB<|si I<|nl I 1 rfl<|nl I 0 rfl ⟨0,x,CR,a,_,rfl,rfl,S _ (by decide+kernel),aP rfl,?_⟩;refine aB<|si I<|nl I 2 rfl<|nl I 0 rfl ⟨0,x,CR,a,_,rfl,rfl,S _ (by decide+kernel),aP rfl,?_⟩;refine aB<|si I<|nl I 3 rfl<|nl I 0 rfl ⟨0,x,CR,a,_,rfl,rfl,S _ (by decide+kernel),aP rfl,?_⟩;refine aB<|si I<|nl I 4 rfl<|nl I 0 rfl ⟨0,x,CR,a,_,rfl,rfl,S _ (by decide+kernel),aP rfl,?_⟩;refine aB<|si I<|nl I 5 rfl<|nl I 0 rfl ⟨0,x,CR,a,_,rfl,rfl,S _ (by decide+kernel),aP rfl,?_⟩;refine aB<|si I<|nl I 6 rfl<|nl I 0 rfl ⟨0,x,CR,a,_,rfl,rfl,S _ (by decide+kernel),aP rfl,?_⟩;refine aB<|si I<|nl I 7 rfl<|nl I 0 rfl ⟨0,x,CR,a,_,rfl,rfl,S _ (by decide+kernel),aP rfl,?_⟩;exact bm (Il (λ b c=>c) ⟨rfl,rfl⟩)
theorem xb(S:∀x∈(["grammar","states"]:List Str),iJ G.K CA x=aj)(Yy:cr G f name qual (cN (mem 21 0)) (cy (mem 21 0)) (bF (mem 21 0)) ["self","grammar","states"] [])
 (x a:aG) (c vs:V):cD G (d+1) (.ref f) [.ref x,c,vs] ((x,.inst CA a [])::J) (λ v J'=>v=.none/\J'=(x,.inst CA a [("grammar",c),("states",vs)])::J):=by
 refine de Yy _ _ _ rfl λ O I=>?_;refine aB<|si I<|nl I 1 rfl<|nl I 0 rfl ⟨0,x,CA,a,_,rfl,rfl,S _ (by decide+kernel),aP rfl,?_⟩;refine aB<|si I<|nl I 2 rfl<|nl I 0 rfl ⟨0,x,CA,a,_,rfl,rfl,S _ (by decide+kernel),aP rfl,?_⟩;exact bm (Il (λ b e=>e) ⟨rfl,rfl⟩)
theorem qN(Yy:cr G f name qual (cN (top 24)) (cy (top 24)) (bF (top 24)) ["grammar"] [])(F:wD G CG CR)(M:Me G CG "item" "Grammar.item" (mem 9 6) ["self","rule","dot"] [])(g:Gr)(hz:Small g)(a:0<g.rules.length):
 cD G (d+2) (.ref f) [g.v CG CR] J (λ v J'=>v=e6 [(0,0)]/\J'=J):=by
 refine de Yy _ _ _ rfl λ O I=>?_;refine aB<|dB<|t1<|t2<|mc I M<|nl I 0 rfl ⟨g.RV CR,.frozen,by kernel_rfl,an<|xn 0<|a1<|xn 0<|iu I (qL (d:=d) F M.y g 0 0 a hz) (aT _)<|xn 0<|i2 ⟨?_,rfl⟩⟩;have:g.off 0=0:=by
  dsimp only[Gr.off,Gr.Rb];cases h:g.rules with
  |nil=>rw[h]at a;simp at a
  |cons q l=>rfl
 rw[this];rfl
end
theorem Rf.refl(J:Mu):∀xs:List V,Rf J xs xs:=by
 intro xs;induction xs with
 |nil=>exact .nil
 |cons x xs a=>exact .cons (.refl x) (a)
theorem CO{a:aG}(b:(a,MO.list xs)∈J1)(h:post (.list xs) J):Fin J post (.ref a) (J1++J):=
 ⟨J1,J,J,.list xs,rfl,λ Z h=>h,dE.refl _ _,.list b (Rf.refl _ _),h⟩
noncomputable def rN:Nat->Nat->Nat->List Nat
 |0,_,_=>[]
 |f+1,i,n=>if n=0 then []else (if n%2=1 then [i]else [])++rN f (i+1) (n/2)
noncomputable def dk(i n:Nat):List Nat:=rN n i n
theorem Ac(f:Nat):∀{g i n:Nat},n<=f->n<=g->rN f i n=rN g i n:=by
 induction f with
 |zero=>intro g i n h Z;cases rZ.mp h;cases g<;>rfl
 |succ f a=>
  intro g i n h h';by_cases e:n=0
  ·subst e;cases g<;>rfl
  ·have q:n/2<n:=sD (cw e) (by decide);cases g with
   |zero=>exact absurd (rZ.mp h') e
   |succ g=>exact (if_neg e).trans ((congrArg _ (a (ci (aH q h)) (ci (aH q h')))).trans (if_neg e).symm)
theorem Dj(i:Nat){n:Nat}(h:n≠0):dk i n=(if n%2=1 then [i]else [])++dk (i+1) (n/2):=by
 cases n with
 |zero=>exact absurd rfl h
 |succ n=>rw[(show dk i (n+1)=(if (n+1)%2=1 then [i]else [])++rN n (i+1) ((n+1)/2)from rfl),Ac n (ci (sD (cp n) (by decide))) (aT _)];rfl
section
variable{f:aG}
theorem HS(Yy:cr G f name qual (cN (top 4)) (cy (top 4)) (bF (top 4)) ["mask"] [])(m:Nat)(p:(dk 0 m).length<2^20):
 cD G (d+1) (.ref f) [.nat m] J (λ v J'=>v=.list ((dk 0 m).map .nat)/\J'=J):=by
 refine de Yy _ _ _ rfl λ O I=>?_;refine aB<|sl I 1<|ey I.ok<|cx ⟨by simp,λ a=>aB<|sl I 2<|xn 0<|aB<|sl I 3<|nl I 0 rfl ?_⟩;let c:Nat->(List Nat)->Nat->St:=λ n acc i=>⟨[ah (.nat m),ah (.ref a),ah (.nat i),ah (.nat n)],(a,.list (acc.map .nat))::J⟩
 let Z:Nat->St->Prop:=λ n Y=>∃(acc:List Nat) (i:Nat),Y=c n acc i/\acc++dk i n=dk 0 m
 refine aB<|pU (ExB:=dL) Z (λ Z Z h=>h.elim) (λ n Y q=>g_ q λ acc i e b=>?_) m ⟨[],0,rfl,rfl⟩;subst e;refine tq<|nl I 3 rfl<|dJ<|BX ⟨_,rfl,?_⟩;by_cases g:n=0
 ·refine fS (by simp;exact ‹_›) ?_;subst g;rw[show dk i 0=[] from rfl,cL]at b;rw[<-b];exact aB<|dB<|nl I 1 rfl<|CO (J1:=[(a,.list (acc.map .nat))]) cf ⟨rfl,rfl⟩
 ·refine iz (by simp;exact Od g) ?_;have l:n/2<n:=Oe g;rw[Dj i g]at b;have k:acc.length<2^20:=by rw[<-b,aF]at p;exact Oc p
  have o:Int.fdiv (n:Int) (2^(1:Int).toNat)=((n/2:Nat):Int):=rC n 2;refine aB<|eW<|tq<|bw<|nl I 3 rfl<|dJ<|MN<|dJ<|GQ ⟨_,rfl,?_⟩;rw[bitAnd_m1];by_cases j:n%2=1
  ·rw[if_pos j]at b;refine iz (by simp;exact Ob j) ?_;refine aB<|xe I<|H9 I<|nl I 1 rfl ⟨a,acc.map .nat,0,rfl,rfl,nl I 2 rfl ⟨0,acc.map .nat,rfl,by rw[au];exact bc ‹_›,?_⟩⟩;refine bm<|aB<|sl I 3<|bw<|nl I 3 rfl<|dJ<|BU (by decide) ?_;rw[o];refine aB<|sl I 2<|bw<|nl I 2 rfl<|xn 1<|fM<|bm ⟨n/2,l,acc++[i],i+1,by unfold c;rw[aK];rfl,by rw[bY];exact b⟩
  ·rw[if_neg j]at b;refine fS (by simp;exact Oa j) ?_;refine bm<|aB<|sl I 3<|bw<|nl I 3 rfl<|dJ<|BU (by decide) ?_;rw[o];exact aB<|sl I 2<|bw<|nl I 2 rfl<|xn 1<|fM<|bm ⟨n/2,l,acc,i+1,rfl,b⟩
end
inductive yV(Y:St):List (V×V)->List (Str×List Str)->Prop
 |nil:yV Y [] []
 |cons {v:V} {x:Str} {l:List Str} {kvs:List (V×V)} {st:List (Str×List Str)}:LV Y v (l.map .str)->yV Y kvs st->yV Y ((.str x,v)::kvs) ((x,l)::st)
theorem yV.keys{st:List (Str×List Str)}(h:yV Y kvs st):kvs.map (·.1)=(st.map (·.1)).map V.str:=by
 induction h with
 |nil=>rfl
 |cons _ _ a=>simp[a]
theorem yV.none{st:List (Str×List Str)}(h:yV Y kvs st){x:Str}(e:st.lookup x=ai):ez kvs (.str x)=ai:=by
 induction h with
 |nil=>rfl
 |@cons v y l kvs st _ _ b=>
  rw[bq]at e;unfold ez at*;cases a:x==y with
  |true=>rw[a]at e;cases e
  |false=>rw[a]at e;rw[cU,hP,show (y==x)=ao by rw[<-a];exact fm ..];exact b e
theorem yV.some{st:List (Str×List Str)}(h:yV Y kvs st){x:Str}{l:List Str}(e:st.lookup x=ah l):∃v,ez kvs (.str x)=ah v/\LV Y v (l.map .str):=by
 induction h with
 |nil=>cases e
 |@cons v y l' kvs st d _ b=>
  rw[bq]at e;unfold ez at*;cases a:x==y with
  |true=>rw[a]at e;cases e;exact ⟨v,by rw[cU,hP,show (y==x)=aj by rw[<-a];exact fm ..];rfl,d⟩
  |false=>rw[a]at e;refine b4 (b e) λ w f c=>?_;exact ⟨w,by rw[cU,hP,show (y==x)=ao by rw[<-a];exact fm ..];exact f,c⟩
theorem DV.of{v:V}{xs:List (V×V)}(h:DV Y v xs)(e:autoParam (Y.mu=Y'.mu) rf):DV Y' v xs:=by
 cases h with
 |frozen=>exact .frozen
 |led i hi=>exact .led i (e▸hi)
theorem oG{l:List Str}(h:l.Nodup):(l.map V.str).Nodup:=by rw[aO,bS];exact (aO.mp h).imp λ h e=>h (by simpa using e)
theorem yV.keyed{st:List (Str×List Str)}(h:yV Y kvs st)(nd:(st.map (·.1)).Nodup)(x:Str):f5 (.str x) kvs:=by refine ⟨by show (2:Nat)≠0;decide,λ p a=>?_,by rw[h.keys];exact oG nd⟩;have:p.1∈kvs.map (·.1):=bp a;rw[h.keys]at this;refine b4 (aC.mp this) λ y Z e=>?_;rw[<-e];rfl
noncomputable def jX(em:List (Str×Bool)):List (V×V):=em.map λ p=>(.str p.1,.bool p.2)
theorem oH{em:List (Str×Bool)}(nd:(em.map (·.1)).Nodup)(x:Str):f5 (.str x) (jX em):=by
 refine ⟨by show (2:Nat)≠0;decide,λ p a=>?_,?_⟩
 ·refine b4 (aC.mp a) λ y Z e=>?_;rw[<-e];rfl
 ·rw[show (jX em).map (·.1)=(em.map (·.1)).map V.str by simp[jX]];exact oG nd
theorem EE(x:Str):∀em:List (Str×Bool),ez (jX em) (.str x)=(em.lookup x).map V.bool:=by
 intro em;induction em with
 |nil=>exact rfl
 |cons c l d=>
  obtain ⟨a,b⟩:=c;unfold ez jX at*;rw[be,cU,bq,hP];cases e:x==a with
  |true=>rw[show (a==x)=aj by rw[<-e];exact fm ..];rfl
  |false=>rw[show (a==x)=ao by rw[<-e];exact fm ..];exact (d)
noncomputable def d_(st:List (Str×List Str))(em:List (Str×Bool))(ahead:Str):List Str->List Str->List Str
 |acc,[]=>acc++[ahead]
 |acc,x::r=>match st.lookup x with
  |none=>acc++[x]
  |some l=>if em.lookup x=ah aj then d_ st em ahead (acc++l) r else acc++l
theorem qi{st:List (Str×List Str)}{em:List (Str×Bool)}{ahead:Str}{acc}:d_ st em ahead acc []=(acc++[ahead]):=rfl
theorem mx{st:List (Str×List Str)}{em:List (Str×Bool)}{ahead:Str}{acc x r}:d_ st em ahead acc (x::r)=(match st.lookup x with
 |none=>acc++[x]
 |some l=>if em.lookup x=ah aj then d_ st em ahead (acc++l) r else acc++l):=rfl
section
variable{f:aG}
theorem yh(Yy:cr G f name qual (cN (top 32)) (cy (top 32)) (bF (top 32)) ["symbols","ahead","starts","empties"] [])(a:List Str)(ahead:Str){vs ve:V}{kvs:List (V×V)}(st:List (Str×List Str))(em:List (Str×Bool))
 (B:DV ⟨[],J⟩ vs kvs) (c:yV ⟨[],J⟩ kvs st) (D:DV ⟨[],J⟩ ve (jX em)) (nd:(st.map (·.1)).Nodup) (hk:em.map (·.1)=st.map (·.1)) (F:∀p∈st,p.2.length<=1000) (z:a.length<=100):
 cD G (d+1) (.ref f) [.list (a.map .str),.str ahead,vs,ve] J (λ v J'=>v=.list ((d_ st em ahead [] a).map .str)/\J'=J):=by
 refine de Yy _ _ _ rfl λ O I=>?_;let r:(List Str)->(Option V)->St:=λ acc o=>⟨[ah (.list (a.map .str)),ah (.str ahead),ah vs,ah ve,ah (.list (acc.map .str)),o],J⟩
 let Z:Nat->St->Prop:=λ i Y=>∃(acc:List Str) (o:Option V),Y=r acc o/\acc.length<=i*1000/\d_ st em ahead acc (a.drop i)=d_ st em ahead [] a
 refine aB<|sl I 4<|f1<|cx ⟨by simp,aB<|lm (ExB:=dL) Z (λ Z Z h=>h.elim) (nl I 0 rfl ⟨_,_,_,kW I.ok.hand,⟨[],ai,rfl,by simp,rfl⟩,λ Z Z Z Z=>trivial,λ i Y hi=>?_,?_⟩) λ Z=>rfl⟩
 ·intro t;refine fo t λ acc o u m g=>?_;subst u;rw[au]at hi;rw[fN hi ""];rw[jf hi ""]at g;generalize a.getD i ""=x at*;refine al I 5<|aB<|eW<|tq<|nl I 5 rfl<|nl I 2 rfl<|xm I.ok B.of (c.keyed nd x) ⟨_,rfl,?_⟩;cases j:st.lookup x with
  |none=>rw[c.none j];refine aB<|dB<|bw<|nl I 4 rfl<|l1<|nl I 5 rfl<|m8 I.ok .frozen .frozen (by rw[au,cJ];exact N_ m hi z)<|.F<|i2 ⟨?_,rfl⟩;rw[<-g,mx,j];simp
  |some l=>
   refine b4 (c.some j) λ w C E=>?_;rw[C];have n:l.length<=1000:=by refine g_ (bM.mp j) λ l₁ l₂ e Z=>?_;exact F (x,l) (by rw[e];simp)
   refine bm<|aB<|sl I 4<|bw<|nl I 4 rfl<|sb<|nl I 2 rfl<|nl I 5 rfl ⟨⟨_,.dict B.of⟩,jp I.ok B.of (c.keyed nd x) C<|m8 I.ok .frozen E.of (by rw[au,au];exact N9 m n hi z)<|.F ?_⟩;have y:(em.lookup x).isSome=aj:=by
    have K:x∈em.map (·.1):=by rw[hk];refine g_ (bM.mp j) λ l₁ l₂ e Z=>?_;rw[e];simp
    cases q:em.lookup x with
    |some _=>rfl
    |none=>refine b4 (aC.mp K) λ p H e=>?_;have:=dG.mp q p H;rw[e]at this;simp at this
   refine ze (Option.isSome_iff_exists.mp y) λ b k=>?_;refine aB<|eW<|sL<|tv<|sb<|nl I 3 rfl<|nl I 5 rfl ⟨⟨_,.dict D.of⟩,jp I.ok D.of (oH (by rw[hk];exact nd) x) (by rw[EE,k];rfl)<|jl ?_⟩;cases b with
   |true=>exact bm<|bm ⟨acc++l,_,by unfold r;rw[aK];rfl,by rw[aF];exact N8 m n,by rw[<-g,mx,j];simp[k]⟩
   |false=>exact aB<|dB<|nl I 4 rfl<|i2 ⟨by rw[<-g,mx,j];simp[k],rfl⟩
 ·intro Y s;refine fo s λ acc o A m g=>?_;subst A;rw[au]at m;rw[au,iV]at g;refine aB<|dB<|bw<|nl I 4 rfl<|l1<|nl I 1 rfl<|m8 I.ok .frozen .frozen (by rw[au,cJ];exact N7 m z)<|.F<|i2 ⟨?_,rfl⟩;rw[<-g,qi];simp
end
noncomputable def f8(k v:Nat):List (Nat×Nat)->List (Nat×Nat)
 |[]=>[(k,v)]
 |p::r=>if p.1=k then (p.1,v)::r else p::f8 k v r
theorem rE{v:Nat}:f8 k v []=([(k,v)]):=rfl
theorem v_{k v:Nat}{p r}:f8 k v (p::r)=(if p.1=k then (p.1,v)::r else p::f8 k v r):=rfl
theorem C2(k v:Nat):∀l:List (Nat×Nat),io (.nat k) (.nat v) (dV l)=dV (f8 k v l):=by
 intro l;induction l with
 |nil=>exact rfl
 |cons p r a=>
  have a:=a;dsimp only[dV]at*;simp only[be,nG,rE,v_,kX];by_cases e:p.1=k
  ·rw[if_pos e,if_pos (by simp[e])];rfl
  ·rw[if_neg e,if_neg (by simp;exact HZ e),a];rfl
theorem kD(k v:Nat):∀l:List (Nat×Nat),(f8 k v l).map (·.1)=if k∈l.map (·.1)then l.map (·.1)else l.map (·.1)++[k]:=by
 intro l;induction l with
 |nil=>exact rfl
 |cons p r a=>
  dsimp only[rE,v_];by_cases e:p.1=k
  ·rw[if_pos e,if_pos (by simp[e])];rfl
  ·rw[if_neg e,be,(a),be];by_cases h:k∈r.map (·.1)
   ·rw[if_pos h,if_pos (b8 _ h)]
   ·rw[if_neg h,if_neg (by simp only[aI,not_or];exact ⟨λ q=>e q.symm,h⟩)];rfl
theorem gf{v:Nat}{l:List (Nat×Nat)}(h:(l.map (·.1)).Nodup):((f8 k v l).map (·.1)).Nodup:=by
 rw[kD];by_cases q:k∈l.map (·.1)
 ·rw[if_pos q];exact h
 ·rw[if_neg q,aV];exact ⟨h,by simp,λ a c b d e=>q (by simp only[aE.mp d]at e;simp only[<-e];exact c)⟩
theorem jN(k v:Nat):∀l:List (Nat×Nat),(f8 k v l).length<=l.length+1:=by
 intro l;induction l with
 |nil=>simp[rE]
 |cons p r a=>dsimp only[rE,v_];split<;>simp<;>exact N6 (a)
noncomputable def zh(n:Nat)(k:List (Nat×Nat))(s:Int)(items moves Q5 Q4:V):List (Str×V):=[("number",.nat n),("kernel",e6 k),("core",.tup (k.map λ p=>.nat p.1)),("symbol",.int s),("items",items),("moves",moves),("reductions",Q5),("masks",Q4)]
noncomputable def cP(g:Gr):List (Nat×Nat)->List (Nat×Nat)->List (Nat×Nat)
 |acc,[]=>acc
 |acc,p::r=>cP g (if 0<g.Q3 p.1/\g.after p.1<0 then f8 (g.Q3 p.1) p.2 acc else acc) r
theorem vT{g:Gr}{acc}:cP g acc []=(acc):=rfl
theorem rg{g:Gr}{acc p r}:cP g acc (p::r)=(cP g (if 0<g.Q3 p.1/\g.after p.1<0 then f8 (g.Q3 p.1) p.2 acc else acc) r):=rfl
theorem gY{l:List (Nat×Nat)}(nd:(l.map (·.1)).Nodup){i:Nat}(hi:i<l.length):l.lookup (l.getD i (0,0)).1=ah (l.getD i (0,0)).2:=by rw[(show l.getD i (0,0)=l[i] by (refine (aD).trans ?_;rw[ay hi]);rfl),bM];refine ⟨l.take i,l.drop (i+1),by simp only[<-j9 hi,c7],λ p c=>?_⟩;refine Eb (List.mem_take_iff_getElem.mp c) λ j d a=>?_;subst a;have b:j<i:=N5 d;rw[bne_iff_ne];intro e;have:=(aO.mp nd);rw[j8]at this;have h:=this j i (by simp;exact bC ‹_› ‹_›) (by simpa using hi) b;simp at h;exact h e.symm
section
variable{f:aG}
theorem ss{o i:Expr}{Q:Option (Option V)->St->Prop}(h:XV O Ex (bv e O.env) (M3 O Ex o i Q) Y)(a:autoParam (eg e (ah (.Subscript o i pos')) pos.line O.env=pure ao) rf):XF O Ex (gc (.Assign [.Subscript o i pos'] e pos) O.env) Q Y:=A2 h a
theorem vn(S:∀x∈(["items","masks","reductions"]:List Str),iJ G.K CS x=aj)(F:wD G CG CR)(A:FR G CS CA)(Bs:fx G "sorted" (.builtin "sorted"))(Yy:cr G f name qual (cN (mem 20 1)) (cy (mem 20 1)) (bF (mem 20 1)) ["self","grammar","items"] [])
 (U:Me G CG "rule_of" "Grammar.rule_of" (mem 9 7) ["self","item"] []) (R:Me G CG "after" "Grammar.after" (mem 9 9) ["self","item"] []) (B:fx G "len" (.builtin "len"))
 (g:Gr) (hz:Small g) (x r:aG) (n:Nat) (k:List (Nat×Nat)) (s:Int) (v1 K T v4:V) (items:List (Nat×Nat)) (nd:(items.map (·.1)).Nodup) (hv:∀p∈items,p.1<g.owners.length) (X:items.length<60):
 cD G (d+2) (.ref f) [.ref x,g.v CG CR,.dict (dV items)] [(x,.inst CS r (zh n k s v1 K T v4))] (λ v J'=>v=.none/\∃Q5:List Nat,Q5.Perm ((cP g [] items).map (·.1))/\Q5.Pairwise (·<=·)/\
  J'=[(x,.inst CS r (zh n k s (.dict (dV items)) K (.list (Q5.map .nat)) (.dict (dV (cP g [] items)))))]):=by
 refine de Yy _ _ _ rfl λ O I=>?_;refine aB<|si I<|nl I 2 rfl<|nl I 0 rfl ⟨0,x,CS,r,_,rfl,rfl,S _ (by decide+kernel),aP rfl,?_⟩;refine aB<|si I<|hH I.ok λ w=>nl I 0 rfl ⟨1,x,CS,r,_,rfl,rfl,S _ (by decide+kernel),aP rfl,?_⟩;let M:(List (Nat×Nat))->(Option V)->(Option V)->St:=λ acc o D=>⟨[ah (.ref x),ah (g.v CG CR),ah (.dict (dV items)),o,D,ai],[(w,.dict (dV acc)),(x,.inst CS r (zh n k s (.dict (dV items)) K T (.ref w)))]⟩
 let Z:Nat->St->Prop:=λ i Y=>∃(acc:List (Nat×Nat)) (o D:Option V),Y=M acc o D/\
  (acc.map (·.1)).Nodup/\acc.length<=i/\cP g acc (items.drop i)=cP g [] items
 have t:(dV items).length=items.length:=au ..;refine aB<|lm (ExB:=dL) Z (λ Z Z h=>h.elim) (nl I 2 rfl ⟨_,_,_,A6 I.ok.hand (px items) (fO nd),⟨[],ai,ai,rfl,bK,aT _,rfl⟩,λ Z Z Z Z=>trivial,λ i Y hi=>?_,?_⟩) λ Z=>rfl
 ·intro N;refine qs N λ acc o D P j l C=>?_;subst P;rw[t]at hi;have hk:((dV items).map (·.1)).getD i .none=.nat (items.getD i (0,0)).1:=by rw[lb,fN (d:=0) (by simpa using hi)];rw[aD,aD,aN,ay hi];rfl
  have Q:=gY nd hi;have y:=hv _ (bd hi (0,0));rw[jf hi (0,0)]at C;rw[hk];generalize items.getD i (0,0)=p at*;refine al I 3<|aB<|sl I 4<|mc I U<|nl I 1 rfl ⟨g.RV CR,.frozen,by kernel_rfl,a1<|nl I 3 rfl<|iu I (kq (d:=d) F U.y g p.1 hz y) (aT _) ?_⟩;have c:∀a:List (Nat×Nat),(a=if 0<g.Q3 p.1/\g.after p.1<0 then f8 (g.Q3 p.1) p.2 acc else acc)->(a.map (·.1)).Nodup/\a.length<=i+1/\cP g a (items.drop (i+1))=cP g [] items:=λ a e=>by
   refine ⟨?_,?_,by rw[<-C,rg,<-e]⟩
   ·rw[e];split
    ·exact gf j
    ·exact j
   ·rw[e];split
    ·exact aA (jN ..) (dc ‹_›)
    ·exact cY ‹_›
  refine aB<|eW<|lp<|tq<|nl I 4 rfl<|dJ<|BX ⟨_,rfl,?_⟩;by_cases J:0<g.Q3 p.1
  ·refine iz (by simpa using J) ?_;refine lp<|tq<|mc I R<|nl I 1 rfl ⟨g.RV CR,.frozen,by kernel_rfl,a1<|nl I 3 rfl<|iu I (tP (d:=d) F R.y B g p.1 hz y) (aT _)<|dJ<|tU ⟨_,rfl,?_⟩⟩;by_cases H:g.after p.1<0
   ·refine iz (by simpa using H) ?_;refine je ?_;refine iz rfl ?_;refine jw (c _ (if_pos ⟨J,H⟩).symm) λ a1 E z=>?_;refine aB<|ss<|sb<|nl I 2 rfl<|nl I 3 rfl ⟨⟨_,.dict .frozen⟩,jp I.ok .frozen (jq p.1 nd) (by rw[rI,Q];rfl)<|at_ I<|nl I 0 rfl ⟨CS,_,.ref w,.led (d:=r) (b8 _ cf),A.s _ (by decide+kernel),by kernel_rfl,nl I 4 rfl<|w_ 0 I.ok rfl (jq _ j) ?_ ?_⟩⟩
    ·rw[show (dV acc).length=acc.length from au ..];exact N4 l hi X
    ·rw[C2];exact bm<|bm ⟨_,_,_,rfl,a1,E,z⟩
   ·refine fS (by simpa using H) ?_;refine jw (c _ (if_neg λ q=>H q.2).symm) λ a1 E z=>?_;exact bm<|bm ⟨_,_,_,rfl,a1,E,z⟩
  ·refine fS (by simpa using J) ?_;refine jw (c _ (if_neg λ q=>J q.1).symm) λ a1 E z=>?_;exact bm<|bm ⟨_,_,_,rfl,a1,E,z⟩
 ·intro Y L;refine qs L λ acc o D u j l C=>?_;subst u;rw[t]at l;rw[t,iV,vT]at C;subst C;refine aB<|si I<|cb I 5 Bs<|a1<|at_ I<|nl I 0 rfl ⟨CS,_,.ref w,.led (d:=r) (b8 _ cf),A.s _ (by decide+kernel),by kernel_rfl,kG I.ok (.led 0 rfl) ?_ (px _) (fO j) λ ys W hs=>?_⟩
  ·rw[show (dV (cP g [] items)).length=(cP g [] items).length from au ..];exact HY l X
  ·rw[lb]at W;refine ew (Jw W hs) λ m u m1 m2=>?_;subst u;refine .F<|nl I 0 rfl ⟨1,x,CS,r,_,rfl,rfl,S _ (by decide+kernel),aP rfl,?_⟩;refine bm ⟨[(w,.dict (dV (cP g [] items)))],_,[(x,.inst CS r (zh n k s (.dict (dV items)) K (.list (m.map .nat)) (.dict (dV (cP g [] items)))))],.none,rfl,λ b hb=>hb,.cons (.inst ?_) .nil,.refl _,rfl,m,m1,m2,rfl⟩;refine .cons (.refl _)<|.cons (.refl _)<|.cons (.refl _)<|.cons (.refl _)<|.cons (.refl _)<|.cons (.refl _)<|.cons (.refl _)<|.cons (.dict cf (s4 _ _)) .nil
end
theorem EM{n:Nat}(b:n=l.length)(a:j<l.length):l.reverse[n-1-j]? =ah l[j]:=by
 subst b;refine (mB (bI ‹_›)).trans ?_;refine (ay (N2 a)).trans ?_;congr 1
 congr 1
 exact BO a
theorem EL{n:Nat}(b:n=l.length)(a:j<l.length)(y:α):l.reverse.set (n-1-j) y=(l.set j y).reverse:=by
 subst b;apply dR;intro i;by_cases hi:i<l.length
 ·rw[mB (l:=l.set j y) (by simpa using hi),bX,eo,eo,List.length_reverse];by_cases e:l.length-1-j=i
  ·refine (if_pos e).trans ?_;refine (if_pos (bI ‹_›)).trans ?_;rw[if_pos (MD a e),if_pos (GM a)]
  ·refine (if_neg e).trans ?_;rw[if_neg (MC hi e),mB (GM hi)]
 ·refine (bl (by simp;exact bR.mp ‹_›)).trans ?_;rw[bl (by simp;exact bR.mp ‹_›)]
noncomputable def fK(L:List (aG×List Nat)):Mu:=(L.map λ p=>(p.1,MO.list (p.2.map .nat))).reverse
noncomputable def c2(L:List (aG×List Nat)):List V:=L.map λ p=>.ref p.1
theorem oL(b:j<L.length)(a post:Mu):(a++fK L++post)[a.length+(L.length-1-j)]? =ah (L[j].1,.list (L[j].2.map .nat)):=by unfold fK;rw[bY,bG (b0 _ _),cC,c0 (by simp;exact bI ‹_›)];simp only[(EM (n:=L.length) (l:=L.map λ p=>((p.1,MO.list (p.2.map .nat)):aG×MO)) (j:=j) (by simp) (by simpa using b)),bU]
theorem sU(b:j<L.length)(a post:Mu)(xs:List Nat):(a++fK L++post).set (a.length+(L.length-1-j)) (L[j].1,.list (xs.map .nat))=a++fK (L.set j (L[j].1,xs))++post:=by unfold fK;rw[bY,d2 _ _ (b0 _ _),cC,y0 _ _ (by simp;exact bI ‹_›)];simp only[(EL (n:=L.length) (l:=L.map λ p=>((p.1,MO.list (p.2.map .nat)):aG×MO)) (j:=j) (by simp) (by simpa using b) (L[j].1,.list (xs.map .nat))),fW,bY]
theorem pe(a:j<L.length)(xs:List Nat):c2 (L.set j (L[j].1,xs))=c2 L:=by
 unfold c2;refine fW.trans ?_;apply dR;intro i;refine (eo).trans ?_;split
 ·rename_i e;subst e;refine (if_pos (by simpa using a)).trans ?_;rw[aN,ay a];rfl
 ·rfl
theorem s8(r:Ru):∀(l:List Ru) (i:Nat),gP i (l++[r])=gP i l++bu (r.right.length+1) (i+l.length):=by
 intro l;induction l with
 |nil=>intro i;simp[qZ,i7]
 |cons q l a=>intro i;dsimp only[dn];rw[i7,a,i7,bY,bj,cR,gb i]
theorem BP:∀(l:List Ru) (i j:Nat),(gP i l).length=(gP j l).length:=by
 intro l;induction l with
 |nil=>intro Z Z;exact rfl
 |cons q l a=>intro i j;simp only[qZ,i7,i7,aF,aF,a (i+1) (j+1),bP,bP]
theorem zC(r:Ru):∀(l:List Ru) (a:Nat),hQ a (l++[r])=hQ a l++[a+(gP 0 l).length]:=by
 intro l;induction l with
 |nil=>intro a;exact rfl
 |cons q l b=>intro a;simp only[dn,yu,vG,b,yu,vG,i7,aF,bP,BP l 1 0,dn,gb]
noncomputable def FE(g:Gr)(n s:Nat):List Nat:=(aZ n).filter λ i=>((g.rules.map (·.left)).getD i 0)==s
theorem wh(g:Gr)(n s:Nat):FE g (n+1) s=if (g.rules.map (·.left)).getD n 0=s then FE g n s++[n]else FE g n s:=by
 unfold FE;simp only[cT,ou];by_cases h:(g.rules.map (·.left)).getD n 0=s
 ·rw[if_pos h,lx (by rw[beq_iff_eq];exact h)];rfl
 ·rw[if_neg h,ly (by rw[beq_iff_eq];exact h)];dsimp only[List.filter_nil];rw[cL]
theorem IA(g:Gr)(n s:Nat):(FE g n s).length<=n:=by have:=c8 (λ i=>((g.rules.map (·.left)).getD i 0)==s) (aZ n);simp only[bf]at this;exact this
theorem vy{L:List (aG×List Nat)}{N:Nat}{f f':Nat->List Nat}{j:Nat}(h:L.map (·.2)=(aZ N).map f)(a:j<L.length)(b:∀s,s≠j->f' s=f s):
 (L.set j (L[j].1,f' j)).map (·.2)=(aZ N).map f':=by
 apply dR;intro i;simp only[fW,eo];by_cases e:j=i
 ·subst e;refine (if_pos rfl).trans ?_;refine (if_pos (by simpa using a)).trans ?_;rw[aN,fB (GL a (by have:=congrArg dv h;simpa using this))];rfl
 ·refine (if_neg e).trans ?_;rw[h,aN,aN];cases q:(aZ N)[i]? with
  |none=>rfl
  |some k=>
   have:k=i:=by rw[bh]at q;refine zd q λ Z q=>?_;simpa using q.symm
   subst this;show ah (f k)=ah (f' k);rw[b k (Ne.symm e)]
theorem Br:∀{L:List (aG×List Nat)},(∀p∈L,(p.1,MO.list (p.2.map V.nat))∈J)->Rf J (c2 L) (L.map λ p=>.list (p.2.map .nat)):=by
 intro L;induction L with
 |nil=>intro Z;exact .nil
 |cons p L b=>intro h;exact .cons (.list (h p cf) (Rf.refl _ _)) (b λ q a=>h q (b8 _ a))
theorem ta{p:aG×List Nat}(h:p∈L):(p.1,MO.list (p.2.map V.nat))∈fK L:=by unfold fK;rw[List.mem_reverse];exact aC.mpr ⟨p,h,rfl⟩
theorem gX(L:List (aG×List Nat)):(fK L).length=L.length:=by simp[fK]
theorem qO(L:List (aG×List Nat))(a:aG)(xs:List Nat):fK (L++[(a,xs)])=(a,.list (xs.map .nat))::fK L:=by simp[fK]
theorem iS(p:aG×MO)(post:Mu):(fK L++p::post)[L.length]? =ah p:=by refine (bG (by rw[gX];exact aT _)).trans ?_;rw[gX,eO];rfl
theorem iR(p q:aG×MO)(post:Mu):(fK L++p::post).set L.length q=fK L++q::post:=by refine (d2 _ _ (by rw[gX];exact aT _)).trans ?_;rw[gX,eO];rfl
noncomputable def Gr.S8(g:Gr)(vr vb vo vw:V):List (Str×V):=[("names",.list (g.names.map .str)),("terminal_count",.nat g.tc),("rules",vr),("levels",.dict []),("expect",.none),("start",.nat g.start),
 ("by_left",vb),("offsets",vo),("owners",vw),("item_count",.nat g.owners.length)]
section
variable{f:aG}
inductive Po(G:GC)(name:Str)(Q:Option (Option V)->St->Prop)(v ov:V)(Y:St):Prop
 |mk (i:Nat) (a C d:aG) (fs:List (Str×V)) (m:Mu) (e:ov=.ref a) (h:Y.mu[i]? =ah (a,.inst C d fs)) (s:iJ G.K C name=aj) (z:fs.length<900) (em:Y.mu.set i (a,.inst C d (m7 name v fs))=m) (q:Q ai ⟨Y.vals,m⟩)
inductive M9(a:aG)(Q:V->St->Prop)(v:V)(Y:St):Prop
 |mk (i:Nat) (xs:List V) (m:Mu) (e:Y.mu[i]? =ah (a,.list xs)) (z:xs.length<=2^20) (em:Y.mu.set i (a,.list (xs++[v]))=m) (q:Q .none ⟨Y.vals,m⟩)
inductive QO(O:FC)(Ex:Value->aR->Prop)(e:Expr)(Q:V->St->Prop)(ov:V)(Y:St):Prop
 |mk (a:aG) (To:List V) (j:Nat) (e1:ov=.ref a) (e2:Y.mu[j]? =ah (a,.list To)) (h:XV O Ex (bv e O.env) (M9 a Q) Y)
theorem NN(I:f6 O G d T){o e:Expr}{name:Str}{Q:Option (Option V)->St->Prop}(h:XV O Ex (bv e O.env) (kR O Ex o (Po G name Q)) Y)(f:autoParam (eg e (ah (.Attribute o name pos')) pos.line O.env=pure ao) rf):XF O Ex (gc (.Assign [.Attribute o name pos'] e pos) O.env) Q Y:=
 si I (h.mono λ Z Z h=>X.mono h λ Z Z b=>by obtain ⟨i,a,C,d,fs,m,g,l,j,k,c,q⟩:=b;exact ⟨i,a,C,d,fs,g,l,j,k,(bz c)▸q⟩) f
theorem ge(I:f6 O G d T){o e:Expr}{b pos:gU}{Q:V->St->Prop}
 (h:XV O Ex (bv o O.env) (QO O Ex e Q) Y)
 (u:autoParam (bv (.Call (.Attribute o "append" b) [e] [] pos) O.env=(do
  let ov <-bv o O.env
  iX b.atName
  gN o "append" b pos O.env ov ([e].length+0) (cM pos (bk [e] O.env)) [])) rf)
 (r:autoParam (bk [e] O.env=(ao,bv e O.env)::bk [] O.env) rf)
 (c:autoParam ((cM pos (bk [e] O.env)).any (·.1)=ao) rf)
 (n:autoParam (wP ([e].length+0) (cM pos (bk [e] O.env)) []=aj) rf) (l:autoParam ((b.endLine==pos.line)=aj) rf):
 XV O Ex (bv (.Call (.Attribute o "append" b) [e] [] pos) O.env) Q Y:=
 H9 I (h.mono λ Z Z g=>by obtain ⟨a,f,j,s,w,h⟩:=g;exact ⟨a,f,j,s,w,h.mono λ Z Z k=>by obtain ⟨i,xs,m,t,v,p,q⟩:=k;exact ⟨i,xs,t,v,(bz p)▸q⟩⟩) u r c n l
theorem qc(g:Gr){r:Nat}(a:r<g.rules.length):g.rules[r].left=(g.rules.map (·.left)).getD r 0:=by simp only[aD,aN,ay a];rfl
theorem vv(S:∀x∈(["names","terminal_count","rules","levels","expect","start","by_left","offsets","owners","item_count"]:List Str),iJ G.K CG x=aj)(F:wD G CG CR)(B:fx G "len" (.builtin "len"))
 (Yy:cr G f name qual (cN (mem 9 0)) (cy (mem 9 0)) (bF (mem 9 0)) ["self","names","terminal_count","rules","levels","expect","start"] [])
 (g:Gr) (hz:Small g) (n:∀r∈g.rules,r.left<g.names.length) (x c A:aG) (hm:(A,MO.list (g.Q9 CR))∈J):
 cD G (d+1) (.ref f) [.ref x,.list (g.names.map .str),.nat g.tc,.ref A,.dict [],.none,.nat g.start] ((x,.inst CG c [])::J) (λ v J'=>v=.none/\J'=(x,.inst CG c (g.S8 (.ref A) (.list g.Us) (.list (g.Rb.map .nat)) (.list (g.owners.map .nat))))::J):=by
 refine de Yy _ _ _ rfl λ O I=>?_;have U:(g.names.map V.str).length=g.names.length:=au ..;have Y2:=hz.names;have R:=hz.rules;have M:=hz.owners;refine aB<|si I<|nl I 1 rfl<|nl I 0 rfl ⟨0,x,CG,c,_,rfl,rfl,S _ (by decide+kernel),aP rfl,?_⟩;refine aB<|si I<|nl I 2 rfl<|nl I 0 rfl ⟨0,x,CG,c,_,rfl,rfl,S _ (by decide+kernel),aP rfl,?_⟩;refine aB<|si I<|nl I 3 rfl<|nl I 0 rfl ⟨0,x,CG,c,_,rfl,rfl,S _ (by decide+kernel),aP rfl,?_⟩;refine aB<|si I<|nl I 4 rfl<|nl I 0 rfl ⟨0,x,CG,c,_,rfl,rfl,S _ (by decide+kernel),aP rfl,?_⟩;refine aB<|si I<|nl I 5 rfl<|nl I 0 rfl ⟨0,x,CG,c,_,rfl,rfl,S _ (by decide+kernel),aP rfl,?_⟩;refine aB<|si I<|nl I 6 rfl<|nl I 0 rfl ⟨0,x,CG,c,_,rfl,rfl,S _ (by decide+kernel),aP rfl,?_⟩;let F0:List (Str×V):=[("names",.list (g.names.map .str)),("terminal_count",.nat g.tc),("rules",.ref A),("levels",.dict []),("expect",.none),("start",.nat g.start)]
 refine aB<|NN I<|lc I<|at_ I<|nl I 0 rfl ⟨CG,F0,.list (g.names.map .str),.led (d:=c) cf,F.g _ (by decide+kernel),by kernel_rfl,_,_,_,kW I.ok.hand,?_,
  (λ i t acc J'=>∃o L,t=[ai,o]/\acc=c2 L/\L.map (·.2)=(aZ i).map (λ Z=>[])/\J'=fK L++(x,.inst CG c F0)::J),⟨_,[],rfl,rfl,rfl,rfl⟩,?_,?_,?_⟩
 ·rw[U];exact bc (aH ‹_› (by decide))
 ·intro i t acc J' hi UJ;refine qt UJ λ o L Td Si H Sw=>?_;subst Td;subst Si;subst Sw;have:=congrArg dv H;simp only[au,bf]at this;exact ⟨by unfold c2;rw[au];exact cq ‹_›,λ Z=>trivial⟩
 ·intro O' C i t acc J' D hi UI;refine qt UI λ o L Sv SN H Tj=>?_;subst Sv;subst SN;subst Tj;have I':=C.SE I;refine al I' 1<|gs<|ey I'.ok<|cx ⟨by simp,λ a=>⟨[(a,.list [])],rfl,_,L++[(a,[])],rfl,by simp[c2],by rw[aK,H,cT,aK];rfl,by rw[qO];rfl⟩⟩
 ·intro t acc J' Ua;refine qt Ua λ o L T8 T7 H Uy=>?_;subst T8;subst T7;subst Uy;rw[U]at H;refine .F<|nl I 0 rfl ⟨L.length,x,CG,c,F0,_,rfl,iS _ _,S _ (by decide+kernel),aP rfl,iR _ _ _,?_⟩;refine aB<|NN I<|ey I.ok<|cx ⟨by simp,λ w=>nl I 0 rfl ⟨L.length+1,x,CG,c,_,_,rfl,iS _ _,S _ (by decide+kernel),aP rfl,congrArg ((w,MO.list [])::·) (iR _ _ _),?_⟩⟩;refine aB<|NN I<|ey I.ok<|cx ⟨by simp,λ y=>nl I 0 rfl ⟨L.length+2,x,CG,c,_,_,rfl,iS _ _,S _ (by decide+kernel),aP rfl,congrArg (λ m=>(y,MO.list [])::(w,MO.list [])::m) (iR _ _ _),?_⟩⟩;have Q:(g.Q9 CR).length=g.rules.length:=by unfold Gr.Q9;rw[au,fX]
  let z:List (Str×V):=[("names",.list (g.names.map .str)),("terminal_count",.nat g.tc),("rules",.ref A),("levels",.dict []),("expect",.none),("start",.nat g.start),("by_left",.list (c2 L)),("offsets",.ref w),("owners",.ref y)]
  let T2:List Ru->(List (aG×List Nat))->(Option V)->St:=λ rs j o=>⟨[ah (.ref x),ah (.list (g.names.map .str)),ah (.nat g.tc),ah (.ref A),ah (.dict []),ah .none,ah (.nat g.start),o,ai],(y,.list ((gP 0 rs).map .nat))::(w,.list ((hQ 0 rs).map .nat))::(fK j++(x,.inst CG c z)::J)⟩
  let Z:Nat->St->Prop:=λ i Y=>∃(j:List (aG×List Nat)) (o:Option V),Y=T2 (g.rules.take i) j o/\c2 j=c2 L/\j.map (·.2)=(aZ g.names.length).map (FE g i)
  refine aB<|lm (ExB:=dL) Z (λ Z Z h=>h.elim) (at_ I<|nl I 0 rfl ⟨CG,z,.ref A,.led (d:=c) (.tail _ (.tail _ (ax _ (.head _)))),F.g _ (by decide+kernel),by kernel_rfl,_,_,_,pX I.ok.hand (.tail _ (.tail _ (ax _ (.tail _ hm)))),⟨L,ai,rfl,rfl,?_⟩,?_,λ i Y hi=>?_,?_⟩) λ Z=>rfl
  ·rw[H];exact bE λ s Z=>rfl
  ·intro i Y hi T_;refine fo T_ λ j o W X u=>?_;subst W;exact .tail _ (.tail _ (ax _ (.tail _ hm)))
  ·intro T9;refine fo T9 λ j o T X u=>?_;subst T;rw[Q]at hi;rw[(show (g.Q9 CR).getD i .none=zv CR (g.rules[i],i)from by rw[aD,sT g hi];rfl)];have K:g.rules[i].left<j.length:=by have:=congrArg dv u;simp only[au,bf]at this;rw[this];exact n _ (cG hi)
   have Wg:=hz.right _ (cG hi);have hg:(c2 L)[g.rules[i].left]? =ah (.ref j[g.rules[i].left].1):=by rw[<-X];unfold c2;rw[aN,ay K];rfl
   have E:j[g.rules[i].left].2=FE g i g.rules[i].left:=by have:=congrArg (·[g.rules[i].left]?) u;simp only[aN,ay K]at this;rw[fB (n _ (cG hi))]at this;simpa using this
   have TK:=IA g i g.rules[i].left;have P:(gP 0 (g.rules.take i)).length<=g.owners.length:=by
    have e:=congrArg (λ l=>(gP 0 l).length) (c7 i g.rules).symm;have:∀(a b:List Ru) (k:Nat),(gP k a).length<=(gP k (a++b)).length:=λ a=>by
     induction a with
     |nil=>intro b k;exact bg _
     |cons q a ih=>intro b k;rw[dn,i7,i7,aF,aF];exact jv (ih _ _) _
    unfold Gr.owners;rw[e];exact this _ _ _
   refine al I 7<|aB<|xe I<|ge I<|sb<|at_ I<|nl I 0 rfl ⟨CG,z,.list (c2 L),.led (d:=c) (.tail _ (.tail _ (ax _ (.head _)))),F.g _ (by decide+kernel),by kernel_rfl,?_⟩;refine fa I<|nl I 7 rfl ⟨CR,_,.nat g.rules[i].left,rfl,F.r _ (by decide+kernel),by kernel_rfl,⟨_,.list .frozen⟩,dM .frozen hg (gA (n _ (cG hi)) Y2) ⟨_,j[g.rules[i].left].2.map .nat,2+(j.length-1-g.rules[i].left),rfl,oL K [_,_] _,?_⟩⟩;refine fa I<|nl I 7 rfl ⟨CR,_,.nat i,rfl,F.r _ (by decide+kernel),by kernel_rfl,2+(j.length-1-g.rules[i].left),j[g.rules[i].left].2.map .nat,
    (y,.list ((gP 0 (g.rules.take i)).map .nat))::(w,.list ((hQ 0 (g.rules.take i)).map .nat))::(fK (j.set g.rules[i].left (j[g.rules[i].left].1,j[g.rules[i].left].2++[i]))++(x,.inst CG c z)::J),oL K [_,_] _,by rw[au,E];exact MB TK hi R,?_,?_⟩
   ·have:=sU K [(y,MO.list ((gP 0 (g.rules.take i)).map .nat)),(w,MO.list ((hQ 0 (g.rules.take i)).map .nat))] ((x,.inst CG c z)::J) (j[g.rules[i].left].2++[i]);rw[aK]at this;exact this
   refine aB<|xe I<|H9 I<|at_ I<|nl I 0 rfl ⟨CG,z,.ref w,.led (d:=c) (.tail _ (.tail _ (ax _ (.head _)))),F.g _ (by decide+kernel),by kernel_rfl,w,(hQ 0 (g.rules.take i)).map .nat,1,rfl,rfl,?_⟩;refine cb I 8 B<|a1<|at_ I<|nl I 0 rfl ⟨CG,z,.ref y,.led (d:=c) (.tail _ (.tail _ (ax _ (.head _)))),F.g _ (by decide+kernel),by kernel_rfl,lh (.led 0 rfl) (by rw[au];exact GK P M) ⟨1,(hQ 0 (g.rules.take i)).map .nat,rfl,by rw[au,jH,bb];exact GJ R,?_⟩⟩;refine aB<|xe I<|mb I PySem.F.plainAttrs_list PySem.F.slot_list_extend PySem.F.type_list_extend<|at_ I<|nl I 0 rfl ⟨CG,z,.ref y,.led (d:=c) (.tail _ (.tail _ (ax _ (.head _)))),F.g _ (by decide+kernel),by kernel_rfl,.list (.led 0 rfl),?_⟩;refine a1<|bw<|l1<|fa I<|nl I 7 rfl ⟨CR,_,.nat i,rfl,F.r _ (by decide+kernel),by kernel_rfl,?_⟩;refine bw<|cb I 8 B<|a1<|fa I<|nl I 7 rfl ⟨CR,_,.tup (g.rules[i].right.map .nat),rfl,F.r _ (by decide+kernel),by kernel_rfl,C_ (by rw[au];exact aH ‹_› (by decide))<|xn 1 ?_⟩;rw[au];refine fM<|BW I.ok .frozen (aH ‹_› (by decide))<|.F<|De 0 I.ok rfl .frozen (by rw[au,bP];exact MA P Wg M)<|bm ⟨_,_,congrArg (St.mk _) (DF.mpr ⟨congrArg (Prod.mk y∘MO.list) ?_,DF.mpr ⟨congrArg (Prod.mk w∘MO.list) ?_,rfl⟩⟩),?_,?_⟩
   ·rw[aS hi,s8,aK,AN,bb,jt (bc hi),cO]
   ·rw[aS hi,zC,aK,au,cO];rfl
   ·rw[pe];exact X
   ·have N:=qc g hi;rw[E];have:=vy (f:=FE g i) (f':=FE g (i+1)) u K λ s hs=>by rw[wh,if_neg (by rw[<-N];exact Ne.symm hs)]
    rw[wh,if_pos N.symm]at this;exact this
  ·intro Y UH;refine fo UH λ j o Tn X u=>?_;subst Tn;rw[Q,a0]at*;let F2:List (Str×V):=[("names",.list (g.names.map .str)),("terminal_count",.nat g.tc),("rules",.ref A),("levels",.dict []),("expect",.none),("start",.nat g.start),("by_left",.list (c2 L)),("offsets",.ref w),("owners",.ref y),("item_count",.nat g.owners.length)]
   refine aB<|NN I<|cb I 8 B<|a1<|at_ I<|nl I 0 rfl ⟨CG,z,.ref y,.led (d:=c) (.tail _ (.tail _ (ax _ (.head _)))),F.g _ (by decide+kernel),by kernel_rfl,lh (.led 0 rfl) (by rw[au];show g.owners.length<_;exact aH ‹_› (by decide)) ?_⟩;rw[au];refine nl I 0 rfl ⟨j.length+2,x,CG,c,z,_,rfl,iS _ _,S _ (by decide+kernel),aP rfl,(congrArg (λ l=>((y,MO.list ((gP 0 g.rules).map V.nat))::(w,MO.list ((hQ 0 g.rules).map V.nat))::l)) (iR (L:=j) (x,.inst CG c z) (x,.inst CG c F2) J)),?_⟩;have ZA:g.Us=j.map λ p=>.list (p.2.map .nat):=by rw[(show (j.map λ p=>V.list (p.2.map .nat))=(j.map (·.2)).map λ l=>V.list (l.map .nat)from by rw[bs];rfl),u,bs];rfl
   refine bm ⟨(y,MO.list ((gP 0 g.rules).map V.nat))::(w,MO.list ((hQ 0 g.rules).map V.nat))::fK j,(x,.inst CG c F2)::J,(x,.inst CG c (g.S8 (.ref A) (.list g.Us) (.list (g.Rb.map .nat)) (.list (g.owners.map .nat))))::J,.none,rfl,λ b hb=>hb,.cons (.inst ?_) (dE.refl _ _),.refl _,rfl,rfl⟩;refine .cons (.refl _)<|.cons (.refl _)<|.cons (.refl _)<|.cons (.refl _)<|.cons (.refl _)<|.cons (.refl _)<|.cons (.Vx ?_)<|.cons (.list (.tail _ (.head _)) (Rf.refl _ _))<|.cons (.list (.head _) (Rf.refl _ _))<|.cons (.refl _) .nil;rw[ZA,<-X];exact Br λ p hp=>.tail _ (.tail _ (ta hp))
end
noncomputable def Gr.left(g:Gr)(r:Nat):Nat:=(g.rules.map (·.left)).getD r 0
inductive R6(g:Gr):Nat->Prop
 |rule {r:Nat}:r<g.rules.length->(∀s∈g.right r,R6 g s)->R6 g (g.left r)
structure c_(g:Gr):Prop extends Small g where
 left:∀r<g.rules.length,g.left r<g.names.length/\g.tc<=g.left r
 syms:∀r<g.rules.length,∀s∈g.right r,s<g.names.length
 own:g.owners.length<60
 Vg:g.names.length<60
 Vu:g.tc<=10
 V9:g.tc<=g.names.length
noncomputable def C6(g:Gr)(P:List Nat)(r:Nat):Nat:=(g.right r).countP λ s=>!P.contains s
noncomputable def d3(g:Gr)(n s:Nat):List Nat:=(aZ n).flatMap λ r=>bu ((g.right r).count s) r
structure Sp(g:Gr)(m:Nat)(P:List Nat)(c:Nat->Nat)(fd:List Bool)(lk q:List Nat):Prop where
 fl:fd.length=g.names.length
 fq:∀s<g.names.length,fd.getD s ao=aj↔s∈q
 nd:q.Nodup
 lt:∀s∈q,s<g.names.length
 nul:∀s∈q,R6 g s
 ll:lk.length=g.rules.length
 ck:∀r<g.rules.length,lk.getD r 0+c r=C6 g P r
 z:∀r<m,lk.getD r 0=0->g.left r∈q
theorem hW{x d:α}(hi:i<l.length):(l.set i x).getD j d=if i=j then x else l.getD j d:=by
 refine (aD).trans ?_;rw[eo,aD];by_cases e:i=j
 ·subst e;rw[if_pos rfl,if_pos rfl,if_pos hi];rfl
 ·rw[if_neg e,if_neg e]
theorem Sp.put{m:Nat}{P:List Nat}{c:Nat->Nat}(S:Sp g m P c fd lk q){x:Nat}(f:x<g.names.length)(i:fd.getD x ao=ao)(l:R6 g x):Sp g m P c (fd.set x aj) lk (q++[x]):=by
 refine ⟨by (refine bX.trans ?_);exact S.fl,λ s d=>?_,?_,λ s d=>?_,λ s d=>?_,S.ll,S.ck,λ r j h=>aJ _ (S.z r j h)⟩
 ·rw[hW (by rw[S.fl];exact f),aM,aE];by_cases e:x=s
  ·rw[if_pos e];exact ⟨λ Z=>.inr e.symm,λ Z=>rfl⟩
  ·rw[if_neg e,S.fq s d];exact ⟨.inl,λ h=>h.elim id λ h=>absurd h.symm e⟩
 ·simp only[aV];exact ⟨S.nd,bB.mpr ⟨d7,bK⟩,λ a n b k e=>(λ h=>by rw[(S.fq x f).mpr h]at i;exact nomatch i) ((aE.mp k)▸(e)▸n)⟩
 ·rcases aM.mp d with h|h
  ·exact S.lt s h
  ·rw[aE.mp h];exact f
 ·rcases aM.mp d with h|h
  ·exact S.nul s h
  ·simp only[aE.mp h];exact l
theorem Sp.dec{m:Nat}{P:List Nat}{c b:Nat->Nat}(S:Sp g m P c fd lk q){r:Nat}(a:r<g.rules.length)(d:1<=lk.getD r 0)(f:∀k,b k=if r=k then c k+1 else c k)(hz:lk.getD r 0-1=0->g.left r∈q):Sp g m P b fd (lk.set r (lk.getD r 0-1)) q:=by
 refine ⟨S.fl,S.fq,S.nd,S.lt,S.nul,by (refine bX.trans ?_);exact S.ll,λ k hk=>?_,λ k hk h=>?_⟩
 ·have:=S.ck k hk;rw[hW (by simp only[S.ll];exact a),f k];by_cases e:r=k
  ·subst e;rw[if_pos rfl,if_pos rfl];exact Mz d this
  ·rw[if_neg e,if_neg e];exact this
 ·rw[hW (by simp only[S.ll];exact a)]at h;by_cases e:r=k
  ·subst e;rw[if_pos rfl]at h;exact hz h
  ·rw[if_neg e]at h;exact S.z k hk h
theorem z8{P:List Nat}{r:Nat}(h:C6 g P r=0):∀s∈g.right r,s∈P:=λ s a=>by simpa using (Az.mp h s a)
theorem tw{P:List Nat}{r x:Nat}(c:x∉P):C6 g P r=C6 g (P++[x]) r+(g.right r).count x:=by
 unfold C6;induction g.right r with
 |nil=>rfl
 |cons a l b=>
  rw[lz,lz,b];by_cases e:a=x
  ·subst e;simp[c];exact Mx
  ·simp[e];exact cR _ _ _
theorem jU{n s r:Nat}:(d3 g n s).count r=if r<n then (g.right r).count s else 0:=by
 unfold d3;induction n with
 |zero=>rfl
 |succ n a=>
  simp only[cT,dS,gg,a,db,DS,cL,List.count_replicate];rcases pP r n with h|h|h
  ·rw[if_pos h,if_pos (cA ‹_›:r<n+1),if_neg (by rw[beq_iff_eq];exact fi ‹_›)];dsimp only[jz]
  ·subst h;rw[if_neg (bA _),if_pos (b_ _),if_pos (by rw[beq_iff_eq]),cO]
  ·rw[if_neg (Mw h:¬r<n),if_neg (bR.mpr ‹_›:¬r<n+1),if_neg (by rw[beq_iff_eq];exact ch ‹_›)]
theorem wV{n s r:Nat}(h:r∈d3 g n s):r<n:=by
 have:=List.count_pos_iff.mpr h;simp only[jU]at this;split at this
 ·assumption
 ·exact (Mv this).elim
theorem nI(g:Gr)(n s:Nat):d3 g (n+1) s=d3 g n s++bu ((g.right n).count s) n:=by unfold d3;simp only[cT,dS,db,DS,cL]
theorem Sp.done(e:c_ g)(S:Sp g g.rules.length q (λ Z=>0) fd lk q):∀s<g.names.length,fd.getD s ao=aj↔R6 g s:=λ s d=>by
 refine (S.fq s d).trans ?_;refine ⟨S.nul s,λ h=>?_⟩;induction h with
 |@rule r a _ c=>refine S.z r a ?_;exact Mt (S.ck r a) (Az.mpr λ x b=>by simpa using c x b (e.syms r a x b))
open Classical in
noncomputable def ic(g:Gr):List Bool:=(aZ g.names.length).map λ s=>decide (R6 g s)
open Classical in
theorem Sp.eq(a:c_ g)(S:Sp g g.rules.length q (λ Z=>0) fd lk q):fd=ic g:=by
 apply dR;intro i;unfold ic;simp only[aN];by_cases hi:i<g.names.length
 ·have:=S.done a i hi;rw[aD]at this;rw[fB hi,ay (by simp only[S.fl];exact hi)]at*;skip;refine congrArg ah ?_;rw[fc,decide_eq_true_iff];exact this
 ·refine (bl (by rw[S.fl];exact bR.mp ‹_›)).trans ?_;rw[bl (by rw[bf];exact bR.mp ‹_›)];rfl
theorem wn(p q:aG×MO)(post:Mu):(fK L++p::q::post)[L.length+1]? =ah q:=by refine (bG (by rw[gX];exact b0 _ _)).trans ?_;rw[gX,cC];rfl
theorem wm(p q r:aG×MO)(post:Mu):(fK L++p::q::post).set (L.length+1) r=fK L++p::r::post:=by refine (d2 _ _ (by rw[gX];exact b0 _ _)).trans ?_;rw[gX,cC];rfl
noncomputable abbrev jW(aq:aG)(q:List Nat)(U:List (aG×List Nat))(al:aG)(lk:List Nat)(af:aG)(fd:List Bool)(J:Mu):Mu:=
 (aq,.list (q.map .nat))::(fK U++(al,.list (lk.map .nat))::(af,.list (fd.map .bool))::J)
section
variable{aq al af:aG}{q lk:List Nat}{U:List (aG×List Nat)}{fd:List Bool}{J:Mu}
theorem Bo(a:j<U.length):(jW aq q U al lk af fd J)[1+(U.length-1-j)]? =ah (U[j].1,.list (U[j].2.map .nat)):=oL a [_] _
theorem Eu(a:j<U.length)(xs:List Nat):(jW aq q U al lk af fd J).set (1+(U.length-1-j)) (U[j].1,.list (xs.map .nat))=jW aq q (U.set j (U[j].1,xs)) al lk af fd J:=sU a [_] _ xs
theorem tN:(jW aq q U al lk af fd J)[U.length+1]? =ah (al,.list (lk.map .nat)):=iS _ _
theorem F5(a:List Nat):(jW aq q U al lk af fd J).set (U.length+1) (al,.list (a.map .nat))=jW aq q U al a af fd J:=congrArg (_::·) (iR _ _ _)
theorem vi:(jW aq q U al lk af fd J)[U.length+2]? =ah (af,.list (fd.map .bool)):=wn _ _ _
theorem F6(a:List Bool):(jW aq q U al lk af fd J).set (U.length+2) (af,.list (a.map .bool))=jW aq q U al lk af a J:=congrArg (_::·) (wm _ _ _ _)
theorem F4{p:aG×List Nat}(h:p∈U):(p.1,MO.list (p.2.map .nat))∈jW aq q U al lk af fd J:=.tail _ (aJ _ (ta h))
end
theorem vz{f:Nat->List Nat}(h:L.map (·.2)=(aZ N).map f)(a:j<N):∃c:j<L.length,L[j].2=f j:=by
 have b:L.length=N:=by have:=congrArg dv h;simpa using this
 refine ⟨qY a b,?_⟩;have:=congrArg (·[j]?) h;simp only[aN,ay (show j<L.length from qY a b),fB a]at this;simpa using this
theorem vC{a:List (aG×List Nat)}(h:c2 a=c2 L)(b:j<a.length):(c2 L)[j]? =ah (.ref a[j].1):=by rw[<-h];unfold c2;refine (aN).trans ?_;rw[ay b];rfl
theorem e4(h:i<l.length)(d:α):l.getD i d=l[i]:=by simp only[aD,ay h];rfl
theorem Sp.more{m:Nat}{P:List Nat}{c:Nat->Nat}(S:Sp g m P c fd lk q)(h:lk.getD m 0=0->g.left m∈q):Sp g (m+1) P c fd lk q:=
 ⟨S.fl,S.fq,S.nd,S.lt,S.nul,S.ll,S.ck,λ r b e=>by
  rcases cF.mp b with a|a
  ·exact S.z r a e
  ·subst a;exact h e⟩
theorem Sp.UP{m:Nat}{P:List Nat}{c:Nat->Nat}(S:Sp g m P c fd lk q):q.length<=g.names.length:=by simpa using (aU S.nd λ x a=>bN.mpr (S.lt x a))
theorem Sp.lks{m:Nat}{P:List Nat}{c:Nat->Nat}(S:Sp g m P c fd lk q):∀r<g.rules.length,lk.getD r 0<=(g.right r).length:=λ r a=>by exact Ms (S.ck r a) mE
theorem zA(g:Gr)(n:Nat):(gP 0 (g.rules.take n)).length<=g.owners.length:=by
 have e:=congrArg (λ l=>(gP 0 l).length) (c7 n g.rules).symm;have:∀(a b:List Ru) (k:Nat),(gP k a).length<=(gP k (a++b)).length:=λ a=>by
  induction a with
  |nil=>intro b k;exact bg _
  |cons q a c=>intro b k;simp only[dn,qZ,i7,qZ,i7,aF,aF];exact jv (c _ _) _
 unfold Gr.owners;simp only[e];exact this _ _ _
theorem y_(g:Gr)(s:Nat):∀n,n<=g.rules.length->(d3 g n s).length<=(gP 0 (g.rules.take n)).length:=by
 intro n;induction n with
 |zero=>intro Z;exact bg _
 |succ n a=>intro h;simp only[nI,aF,bP,aS (GI h),s8,aF,bP,(kr g (show n<g.rules.length from GI h))];exact Mr (a (bc ‹_›)) i9
section
variable{f:aG}
theorem p7{a:aG}{v:V}{xs:List V}{j:Nat}{Q:St->Prop}(i:Nat){m:Mu}(ok:O.Ok)(hi:Y.mu[i]? =ah (a,.list xs))(b:j<xs.length)(hz:j<2^62)(e:Y.mu.set i (a,.list (xs.set j v))=m)(h:Q ⟨Y.vals,m⟩):
 wz O Ex (.ref a) (.int j) v Q Y:=HQ i ok hi b hz ((bz e)▸h)
theorem MU(I:f6 O G d T)(j:Nat){y:Str}{Q:Option (Option V)->St->Prop}(h:XV O Ex (bv iter O.env) (mA O elt target ifs scope (v6 j Q)) Y)(f:autoParam (∀n,(T n)[j]? =ah (y,.loc)) rf)(a:autoParam (scope.kind=.function) rf)(e:autoParam (tz (scope.names.map (·.1))=aj) rk)(c:autoParam (tX scope.names=aj) rk)(b:autoParam (∀n,um (T n) scope.names=aj) rk)(g:autoParam ((py.line==pos.line)=aj) rf)(l:autoParam ((scope.names.any λ (n,k)=>n==y&&(k==.local||k==.cell))=ao) rk)(i:autoParam (∀x,eH iter O.env x=pure x) rf):XF O Ex (gc (.Assign [.Name y py] (.ListComp elt [⟨target,iter,ifs,0⟩] scope pos) Tq) O.env) Q Y:=by refine Qy I j h f a e c b ?_ i;show pure (O.env.blockKind==.function&&O.env.kindOf y==ah .local&&py.line==pos.line&&!(scope.names.any λ (n,k)=>n==y&&(k==.local||k==.cell)))=pure aj;simp only[(show O.env.blockKind=.function by unfold Env.blockKind;rw[I.ok.kind];rfl),(I.ok.loc j y (I.at j f)),g,l];rfl
theorem HV(I:f6 O G d T)(F:wD G CG CR){Q:V->St->Prop}(p:Ru×Nat)(v:V)(h:XV O Ex (bv value O.env) (M5 (zv CR p) v Q) Y)(a:autoParam (([("number",V.nat p.2),("left",V.nat p.1.left),("right",V.tup (p.1.right.map .nat))]:List (Str×V)).lookup attr=ah v) rk)(b:autoParam (I_ value attr pos O.env) rf):XV O Ex (bv (.Attribute value attr pos) O.env) Q Y:=fa I (h.mono λ Z Z ⟨e,q⟩=>by
 subst e;refine ⟨CR,_,v,rfl,?_,?_,q⟩
 ·refine F.r _ ?_;have:attr∈["number","left","right"].map Str.ofString:=by
   rw[bq]at a;split at a
   ·rename_i h;rw[beq_iff_eq]at h;simp only[h];exact cf
   ·rw[bq]at a;split at a
    ·rename_i h;simp only[beq_iff_eq]at h;simp only[h];exact .tail _ (.head _)
    ·rw[bq]at a;split at a
     ·rename_i h;simp only[beq_iff_eq]at h;rw[h];exact .tail _ (.tail _ (.head _))
     ·cases a
  exact this
 ·rw[bq]at a ⊢;split at a
  ·rename_i h;exact a
  ·rename_i h;rw[bq]at a ⊢;split at a
   ·exact a
   ·rw[bq]at a ⊢;split at a
    ·exact a
    ·exact nomatch a) b
theorem Bv(F:wD G CG CR)(B:fx G "len" (.builtin "len"))(Bl:fx G "list" (.type "list"))(Yy:cr G f name qual (cN (top 15)) (cy (top 15)) (bF (top 15)) ["grammar","known"] [])
 (g:Gr) (hg:c_ g):cD G (d+1) (.ref f) [g.v CG CR,.list ((bu g.names.length ao).map .bool)] J (λ v J'=>v=.list ((ic g).map .bool)/\J'=J):=by
 refine de Yy _ _ _ rfl λ O I=>?_;have H:=hg.names;have Vi:=hg.rules;have TH:(g.Q9 CR).length=g.rules.length:=by unfold Gr.Q9;rw[au,fX]
 let kn:V:=.list ((bu g.names.length ao).map .bool)
 refine aB<|sl I 2<|cb I 12 Bl<|a1<|nl I 1 rfl<|uC I.ok .frozen (by simp;exact bc (aH ‹_› (by decide)))<|.M λ af=>?_;refine aB<|sl I 3<|ey I.ok<|cx ⟨by simp,λ al=>?_⟩;refine aB<|MU I 5<|nl I 2 rfl ⟨_,_,_,pX I.ok.hand (.tail _ (.head _)),by simp;exact bc (aH ‹_› (by decide)),
  (λ i vals acc J'=>∃o L,vals=[ai,o]/\acc=c2 L/\L.map (·.2)=(aZ i).map (λ Z=>[])/\J'=fK L++(al,.list [])::(af,.list ((bu g.names.length ao).map .bool))::J),⟨_,[],rfl,rfl,rfl,rfl⟩,?_,?_,?_⟩
 ·intro i vals acc J' hi UJ;refine qt UJ λ o L Td Si hL Sw=>?_;subst Td;subst Si;subst Sw;have:=congrArg dv hL;simp only[au,bf]at this;exact ⟨by unfold c2;rw[au];exact cq ‹_›,λ Z=>.tail _ (ax _ (.tail _ (.head _)))⟩
 ·intro O' C i vals acc J' D hi UI;refine qt UI λ o L Sv SN hL Tj=>?_;subst Sv;subst SN;subst Tj;have I':=C.SE I;refine Mine.al I' 1<|gs<|ey I'.ok<|cx ⟨by simp,λ a=>⟨[(a,.list [])],rfl,_,L++[(a,[])],rfl,by simp[c2],by rw[aK,hL,cT,aK];rfl,by rw[qO];rfl⟩⟩
 intro vals acc J' Ua;refine qt Ua λ o U T8 T7 hU Uy=>?_;subst T8;subst T7;subst Uy;rw[au,bP]at hU;refine .F<|aB<|sl I 6<|ey I.ok<|cx ⟨by simp,λ aq=>?_⟩;let T2:List Nat->(List (aG×List Nat))->(Option V)->(Option V)->(Option V)->St:=λ lk U' o4 o7 o8=>⟨[ah (g.v CG CR),ah kn,ah (.ref af),ah (.ref al),o4,ah (.list (c2 U)),ah (.ref aq),o7,o8,ai,ai,ai,ai,ai],jW aq [] U' al lk af (bu g.names.length ao) J⟩
 let Z1:Nat->St->Prop:=λ i Y=>∃(U':List (aG×List Nat)) (o4 o7 o8:Option V),Y=T2 ((g.rules.take i).map (·.right.length)) U' o4 o7 o8/\c2 U'=c2 U/\U'.map (·.2)=(aZ g.names.length).map (d3 g i)
 refine aB<|lm (ExB:=dL) Z1 (λ Z Z h=>h.elim) (ga I F g (.list (g.Q9 CR))<|nl I 0 rfl ⟨rfl,_,_,_,kW I.ok.hand,⟨U,ai,ai,ai,rfl,rfl,hU⟩,λ Z Z Z Z=>trivial,λ i Y hi=>?_,?_⟩) λ Z=>rfl
 ·intro T_;refine x6 T_ λ b o4 o7 o8 UG hR N=>?_;subst UG;rw[TH]at hi;have hx:(g.Q9 CR).getD i .none=zv CR (g.rules[i],i):=by rw[aD,sT g hi];rfl
  rw[hx];have T:=kr g hi;have Wg:=hg.right _ (cG hi);let Te:Nat->(List (aG×List Nat))->(Option V)->St:=λ j U' o4=>⟨[ah (g.v CG CR),ah kn,ah (.ref af),ah (.ref al),o4,ah (.list (c2 U)),ah (.ref aq),ah (zv CR (g.rules[i],i)),ah (.nat j),ai,ai,ai,ai,ai],jW aq [] U' al ((g.rules.take i).map (·.right.length)) af (bu g.names.length ao) J⟩
  let Z2:Nat->St->Prop:=λ j Y=>∃(U':List (aG×List Nat)) (o4:Option V),Y=Te j U' o4/\c2 U'=c2 U/\U'.map (·.2)=(aZ g.names.length).map λ s=>d3 g i s++bu (((g.right i).take j).count s) i
  refine Mine.al I 7<|aB<|sl I 8<|xn 0<|aB<|lm (ExB:=dL) Z2 (λ Z Z h=>h.elim) (HV I F (g.rules[i],i) (.tup (g.rules[i].right.map .nat))<|nl I 7 rfl ⟨rfl,_,_,_,uY I.ok.hand,⟨b,o4,rfl,hR,by rw[N];simp⟩,λ Z Z Z Z=>trivial,λ j Y hj=>?_,?_⟩) λ Z=>rfl
  ·intro T9;refine fo T9 λ c o4 UE hR A=>?_;subst UE;rw[au,T]at hj;rw[fN (by rw[T];exact hj) 0,T];have P:=hg.syms i hi _ (bd hj 0);refine zd (vz A P) λ hl E=>?_;have hlen:c[(g.right i).getD j 0].2.length<=2^20:=by rw[E,aF,bP];have h4:((g.right i).take j).count ((g.right i).getD j 0)<=((g.right i).take j).length:=i9;rw[bb]at h4;rw[T]at Wg;exact Mq (y_ g ((g.right i).getD j 0) i (bc ‹_›)) h4 (zA g i) Wg hg.owners
   refine Mine.al I 4<|aB<|eW<|sL<|tv<|sb<|nl I 2 rfl<|nl I 4 rfl ⟨⟨_,.list (.led (c.length+2) vi)⟩,dM (.led (c.length+2) vi) (dT (by simpa using P) ao) (gA P H)<|jl ?_⟩;rw[e4 (by simpa using P),wL];refine aB<|sl I 8<|bw<|nl I 8 rfl<|xn 1<|fM<|aB<|xe I<|ge I<|sb<|nl I 5 rfl<|nl I 4 rfl ⟨⟨_,.list .frozen⟩,dM .frozen (vC hR hl) (gA P H) ⟨_,_,_,rfl,Bo hl,?_⟩⟩;refine HV I F (g.rules[i],i) (.nat i)<|nl I 7 rfl ⟨rfl,_,_,jW aq [] (c.set ((g.right i).getD j 0) (c[(g.right i).getD j 0].1,c[(g.right i).getD j 0].2++[i])) al ((g.rules.take i).map (·.right.length)) af (bu g.names.length ao) J,Bo hl,by rw[au];exact hlen,?_,bm<|bm ⟨_,_,rfl,?_,?_⟩⟩
   ·have:=Eu (aq:=aq) (q:=[]) (al:=al) (lk:=(g.rules.take i).map (·.right.length)) (af:=af) (fd:=bu g.names.length ao) (J:=J) hl (c[(g.right i).getD j 0].2++[i]);rw[aK]at this;exact this
   ·rw[pe];exact hR
   ·rw[E];have:=vy (f':=λ s=>d3 g i s++bu (((g.right i).take (j+1)).count s) i) A hl λ s P=>by rw[aS hj,gg,mU,<-e4 hj 0,if_neg (by rw[beq_iff_eq];exact Ne.symm P),jz]
    rw[aS hj]at this ⊢;rw[<-e4 hj 0]at this ⊢;rw[gg,mU,if_pos (by rw[beq_iff_eq]),List.replicate_succ',<-bY]at this;exact this
  ·intro Y UH;refine fo UH λ c o4 Tn hR A=>?_;subst Tn;rw[au,T,a0]at A;rw[au,T];refine aB<|xe I<|ge I<|nl I 3 rfl ⟨al,_,c.length+1,rfl,tN,nl I 8 rfl ⟨c.length+1,_,_,tN,by rw[au,au,bb];exact GJ Vi,?_,bm ⟨c,_,_,_,rfl,hR,?_⟩⟩⟩
   ·have:=F5 (aq:=aq) (q:=[]) (al:=al) (U:=c) (lk:=(g.rules.take i).map (·.right.length)) (af:=af) (fd:=bu g.names.length ao) (J:=J) ((g.rules.take (i+1)).map (·.right.length));rw[show (g.rules.take (i+1)).map (·.right.length)=(g.rules.take i).map (·.right.length)++[(g.right i).length] by rw[aS hi,aK,fV,T],aK]at this;rw[show (g.rules.take (i+1)).map (·.right.length)=(g.rules.take i).map (·.right.length)++[(g.right i).length] by rw[aS hi,aK,fV,T]];exact this
   ·rw[A];exact bE λ s Z=>(nI g i s).symm
 intro Y WK;refine x6 WK λ b o4 o7 o8 UD hR N=>?_;subst UD;rw[TH]at N;rw[TH,a0];clear hU;refine ze (show ∃l:List Nat,l=g.rules.map (·.right.length)from ⟨_,rfl⟩) λ M U3=>?_;rw[<-U3];have u:M.length=g.rules.length:=by rw[U3,au]
 have U2:∀r<g.rules.length,M.getD r 0=(g.right r).length:=λ r z=>by rw[U3,e4 (by simpa using z),bU,kr g z]
 have S0:Sp g 0 [] (λ Z=>0) (bu g.names.length ao) M []:=by
  refine ⟨bP,λ s P=>?_,bK,λ s P=>(nomatch P),λ s P=>(nomatch P),u,λ r z=>?_,λ r z=>absurd z (c6 _)⟩
  ·rw[e4 (by simpa using P),wL];exact ⟨λ h=>(nomatch h),λ h=>(nomatch h)⟩
  ·rw[U2 r z];exact (List.countP_eq_length.mpr λ x hx=>by simp).symm
 let Ve:(List Bool)->(List Nat)->(Option V)->St:=λ fd q o7=>⟨[ah (g.v CG CR),ah kn,ah (.ref af),ah (.ref al),o4,ah (.list (c2 U)),ah (.ref aq),o7,o8,ai,ai,ai,ai,ai],jW aq q b al M af fd J⟩
 let Z3:Nat->St->Prop:=λ i Y=>∃(fd:List Bool) (q:List Nat) (o7:Option V),Y=Ve fd q o7/\Sp g i [] (λ Z=>0) fd M q
 refine aB<|lm (ExB:=dL) Z3 (λ Z Z h=>h.elim) (ga I F g (.list (g.Q9 CR))<|nl I 0 rfl ⟨rfl,_,_,_,kW I.ok.hand,⟨_,[],o7,rfl,S0⟩,λ Z Z Z Z=>trivial,λ i Y hi=>?_,?_⟩) λ Z=>rfl
 ·intro WJ;refine mI WJ λ fd q o7 UC S=>?_;subst UC;rw[TH]at hi;rw[(show (g.Q9 CR).getD i .none=zv CR (g.rules[i],i)from by rw[aD,sT g hi];rfl)];refine za (hg.left i hi) λ p VG=>?_;have hle:g.rules[i].left=g.left i:=qc g hi;have X:=S.UP;refine Mine.al I 7<|aB<|eW<|lp<|tq<|sb<|nl I 3 rfl<|HV I F (g.rules[i],i) (.nat i)<|nl I 7 rfl ⟨rfl,⟨_,.list (.led (b.length+1) tN)⟩,dM (.led (b.length+1) tN) (dT (by rw[u];exact hi) 0) (gA hi Vi)<|xn 0<|zK ⟨_,rfl,?_⟩⟩;by_cases h0:M.getD i 0=0
  ·refine iz (by simpa using h0) ?_;refine lp<|sL<|tv<|sb<|nl I 2 rfl<|HV I F (g.rules[i],i) (.nat g.rules[i].left)<|nl I 7 rfl ⟨rfl,⟨_,.list (.led (b.length+2) vi)⟩,dM (.led (b.length+2) vi) (dT (by rw[S.fl,hle];exact p) ao) (gA (by rw[hle];exact p) H)<|jl ?_⟩;rw[hle];cases hf:fd.getD (g.left i) ao with
   |true=>exact bm<|bm ⟨_,_,_,rfl,S.more λ Z=>(S.fq _ p).mp hf⟩
   |false=>
    refine je ?_;refine iz rfl ?_;have hn:R6 g (g.left i):=.rule hi λ s P=>by have:=U2 i hi;rw[h0]at this;rw[rX this.symm]at P;cases P
    refine aB<|ss<|iZ<|nl I 2 rfl<|HV I F (g.rules[i],i) (.nat g.rules[i].left)<|nl I 7 rfl ⟨rfl,p7 (b.length+2) (m:=jW aq q b al M af (fd.set (g.left i) aj) J) I.ok vi (by rw[au,S.fl,hle];exact p) (gA (by rw[hle];exact p) H) ?_ ?_⟩
    ·rw[hle];have h:=@F6 aq al af q M b fd J (fd.set (g.left i) aj);rw[fW]at h;exact h
    ·refine aB<|xe I<|ge I<|nl I 6 rfl ⟨aq,_,0,rfl,rfl,HV I F (g.rules[i],i) (.nat g.rules[i].left)<|nl I 7 rfl ⟨rfl,0,_,jW aq (q++[g.left i]) b al M af (fd.set (g.left i) aj) J,rfl,by rw[au];exact GH X H,by rw[hle];simp,bm<|bm ⟨_,_,_,rfl,(S.put p hf hn).more λ Z=>ax _ (.head _)⟩⟩⟩
  ·refine fS (by simpa using h0) ?_;exact bm<|bm ⟨_,_,_,rfl,S.more λ h=>absurd h h0⟩
 intro Y WI;refine mI WI λ fd q o7 UB S=>?_;subst UB;rw[TH]at S;clear U2 S0 u;let Wa:Nat->(List Bool)->(List Nat)->(List Nat)->(Option V)->(Option V)->St:=λ t fd lk q w y=>⟨[ah (g.v CG CR),ah kn,ah (.ref af),ah (.ref al),o4,ah (.list (c2 U)),ah (.ref aq),o7,o8,ah (.nat t),w,y,ai,ai],jW aq q b al lk af fd J⟩
 let Z4:Nat->St->Prop:=λ n Y=>∃(t:Nat) (fd:List Bool) (lk q:List Nat) (w y:Option V),Y=Wa t fd lk q w y/\n=g.names.length-t/\t<=q.length/\Sp g g.rules.length (q.take t) (λ Z=>0) fd lk q
 refine aB<|sl I 9<|xn 0<|aB<|pU (ExB:=dL) Z4 (λ Z Z h=>h.elim) (λ n Y hZ=>?_) (g.names.length-0) ⟨0,fd,M,q,ai,ai,rfl,rfl,bg _,S⟩;refine Ja hZ λ t fd lk q w y Td Si ht S=>?_;subst Td;subst Si;have X:=S.UP;refine tq<|nl I 9 rfl<|cb I 13 B<|a1<|nl I 6 rfl<|lh (.led 0 rfl) (by rw[au];exact GK X H)<|tY ⟨_,rfl,?_⟩;rw[au];by_cases K:t<q.length
 ·refine iz (by simpa using K) ?_;have P:=S.lt _ (bd K 0);refine zd (vz N P) λ hl E=>?_;have X8:q.getD t 0∉q.take t:=λ h=>by have:=S.nd;rw[<-c7 t q,aV]at this;exact this.2.2 _ h _ (by rw[jf K 0];exact .head _) rfl
  have UX:q.take (t+1)=q.take t++[q.getD t 0]:=by rw[aS K,e4 K]
  have VV:∀x∈q.take (t+1),R6 g x:=λ x hx=>S.nul _ (cE hx);generalize X5:q.getD t 0=s at*;let YK:(List Bool)->(List Nat)->(List Nat)->(Option V)->(Option V)->St:=λ fd lk W w y=>⟨[ah (g.v CG CR),ah kn,ah (.ref af),ah (.ref al),o4,ah (.list (c2 U)),ah (.ref aq),o7,o8,ah (.nat t),w,y,ai,ai],jW aq W b al lk af fd J⟩
  let Z5:Nat->St->Prop:=λ i Y=>∃(fd:List Bool) (lk W:List Nat) (w y:Option V),Y=YK fd lk W w y/\t<W.length/\W.take (t+1)=q.take (t+1)/\Sp g g.rules.length (q.take t) (λ r=>((d3 g g.rules.length s).take i).count r) fd lk W
  refine aB<|lm (ExB:=dL) Z5 (λ Z Z h=>h.elim) (sb<|nl I 5 rfl<|sb<|nl I 6 rfl<|nl I 9 rfl ⟨⟨_,.list (.led 0 rfl)⟩,dM (.led 0 rfl) (dT K 0) (Mp K X H) ⟨⟨_,.list .frozen⟩,dM .frozen (by rw[X5];exact vC hR hl) (by rw[X5];exact gA P H) ⟨_,_,_,pX I.ok.hand (F4 (cG hl)),⟨fd,lk,q,_,_,rfl,K,rfl,by simpa using S⟩,?_,λ i Y hi=>?_,?_⟩⟩⟩) λ Z=>rfl
  ·intro i Y hi WN;obtain ⟨Wu,lk',W,w,y,rfl,_⟩:=WN;exact F4 (cG hl)
  ·intro WM;refine AX WM λ fd lk W w y UA R Xl S=>?_;subst UA;rw[au,E]at hi;rw[fN (by rw[E];exact hi) 0,E];have z:=wV (bd hi 0);have Yp:∀k,((d3 g g.rules.length s).take (i+1)).count k=if (d3 g g.rules.length s).getD i 0=k then ((d3 g g.rules.length s).take i).count k+1 else ((d3 g g.rules.length s).take i).count k:=λ k=>by
    rw[aS hi,gg,mU,<-e4 hi 0];by_cases e:(d3 g g.rules.length s).getD i 0=k
    ·rw[if_pos (by rw[beq_iff_eq];exact e),if_pos e]
    ·rw[if_neg (by rw[beq_iff_eq];exact e),if_neg e];rfl
   generalize (d3 g g.rules.length s).getD i 0=r at*;have h1:=(show ∀k,((d3 g g.rules.length s).take (i+1)).count k<=(d3 g g.rules.length s).count k from λ k=>(ff _ _).count_le _) r;rw[Yp r,if_pos rfl,jU,if_pos z]at h1;have Yr:=tw (g:=g) (r:=r) X8;have Yq:=S.ck r z;have X:=S.UP;refine za (hg.left r z) λ p VG=>?_;have Wo:1<=lk.getD r 0:=Mo Yq h1 Yr;have Zd:=hg.right _ (cG z);rw[kr g z]at Zd;have u:r<lk.length:=by rw[S.ll];exact z
   refine Mine.al I 10<|aB<|ss<|bw<|sb<|nl I 3 rfl<|nl I 10 rfl ⟨⟨_,.list (.led (b.length+1) tN)⟩,dM (.led (b.length+1) tN) (dT u 0) (gA z Vi)<|xn 1<|yz Wo<|nl I 3 rfl<|nl I 10 rfl<|p7 (b.length+1) (m:=jW aq W b al (lk.set r (lk.getD r 0-1)) af fd J) I.ok tN (by rw[au];exact u) (gA z Vi) ?_ ?_⟩
   ·have h:=@F5 aq al af W lk b fd J (lk.set r (lk.getD r 0-1));rw[fW]at h;exact h
   refine aB<|sl I 11<|HV I F (g.rules[r],r) (.nat g.rules[r].left)<|sb<|ga I F g (.list (g.Q9 CR))<|nl I 0 rfl ⟨rfl,nl I 10 rfl ⟨⟨_,.list .frozen⟩,dM .frozen (sT g z) (gA z Vi) ⟨rfl,?_⟩⟩⟩;refine aB<|eW<|lp<|tq<|sb<|nl I 3 rfl<|nl I 10 rfl ⟨⟨_,.list (.led (b.length+1) tN)⟩,dM (.led (b.length+1) tN) (dT (by rw[bX];exact u) 0) (gA z Vi)<|xn 0<|zK ⟨_,rfl,?_⟩⟩;rw[hW u,if_pos rfl,(show g.rules[r].left=g.left r from qc g z)];have U9:∀Wu Q,(Q.take (t+1)=W.take (t+1))->t<Q.length->Sp g g.rules.length (q.take t) (λ k=>((d3 g g.rules.length s).take i).count k) Wu lk Q->(lk.getD r 0-1=0->g.left r∈Q)->t<Q.length/\Q.take (t+1)=q.take (t+1)/\Sp g g.rules.length (q.take t) (λ k=>((d3 g g.rules.length s).take (i+1)).count k) Wu (lk.set r (lk.getD r 0-1)) Q:=λ Wu Q e1 e2 S' hz=>⟨e2,e1.trans Xl,S'.dec z Wo Yp hz⟩
   by_cases h0:lk.getD r 0-1=0
   ·refine iz (by simpa using h0) ?_;refine lp<|sL<|tv<|sb<|nl I 2 rfl<|nl I 11 rfl ⟨⟨_,.list (.led (b.length+2) vi)⟩,dM (.led (b.length+2) vi) (dT (by rw[S.fl];exact p) ao) (gA p H)<|jl ?_⟩;cases hf:fd.getD (g.left r) ao with
    |true=>exact bm<|bm ⟨_,_,_,_,_,rfl,U9 _ _ rfl R S λ Z=>(S.fq _ p).mp hf⟩
    |false=>
     refine je ?_;refine iz rfl ?_;have hn:R6 g (g.left r):=.rule z λ x hx=>by exact VV x (by rw[UX];exact z8 (Mn h1 Yq h0 Yr) x hx)
     refine aB<|ss<|iZ<|nl I 2 rfl<|nl I 11 rfl<|p7 (b.length+2) (m:=jW aq W b al (lk.set r (lk.getD r 0-1)) af (fd.set (g.left r) aj) J) I.ok vi (by rw[au,S.fl];exact p) (gA p H) ?_ ?_
     ·have h:=@F6 aq al af W (lk.set r (lk.getD r 0-1)) b fd J (fd.set (g.left r) aj);rw[fW]at h;exact h
     ·refine aB<|xe I<|ge I<|nl I 6 rfl ⟨aq,_,0,rfl,rfl,nl I 11 rfl ⟨0,_,jW aq (W++[g.left r]) b al (lk.set r (lk.getD r 0-1)) af (fd.set (g.left r) aj) J,rfl,by rw[au];exact GH X H,by simp,bm<|bm ⟨_,_,_,_,_,rfl,U9 _ _ ?_ ?_ (S.put p hf hn) λ Z=>ax _ (.head _)⟩⟩⟩
      ·rw[List.take_append_of_le_length (Mm R)]
      ·rw[aF];exact cA ‹_›
   ·refine fS (by simpa using h0) ?_;exact bm<|bm ⟨_,_,_,_,_,rfl,U9 _ _ rfl R S λ h=>absurd h h0⟩
  ·intro Y WL;refine AX WL λ fd lk W w y Uz R Xl S=>?_;subst Uz;rw[au,E,a0]at S;refine aB<|sl I 9<|bw<|nl I 9 rfl<|xn 1<|fM<|bm ⟨g.names.length-(t+1),yq K X,t+1,fd,lk,W,w,y,rfl,rfl,R,?_⟩;rw[Xl,UX];exact ⟨S.fl,S.fq,S.nd,S.lt,S.nul,S.ll,λ r z=>by have:=S.ck r z;rw[jU,if_pos z]at this;have h2:=tw (g:=g) (r:=r) X8;exact Ml this h2,S.z⟩
 ·refine fS (by simpa using K) ?_;have e:t=q.length:=f9 ‹_› (bR.mp ‹_›);subst e;rw[a0]at S;have he:=S.eq hg;subst he;refine aB<|dB<|nl I 2 rfl ?_;have:=CO (J:=J) (J1:=(aq,.list (q.map .nat))::(fK b++[(al,.list (lk.map .nat)),(af,.list ((ic g).map .bool))])) (post:=λ v J'=>v=.list ((ic g).map .bool)/\J'=J) (a:=af) (xs:=(ic g).map .bool) (.tail _ (ax _ (.tail _ (.head _)))) ⟨rfl,rfl⟩;rw[dn,bY]at this;exact this
end
section
variable{f:aG}
theorem lA(f:α->V)(l:List α)(d:α)(a:O.A.handled=ai):i3 O O.A (.list (l.map f)) l.length (λ i=>f (l.getD i d)) (λ Z=>True) Y:=by have:=(kW (O:=O) (Y:=Y) (A:=O.A) (xs:=l.map f) a);rw[au]at this;exact this.as _ λ i hi=>fN hi d
theorem Jp(f:α->V)(l:List α)(d:α)(a:O.A.handled=ai):i3 O O.A (.tup (l.map f)) l.length (λ i=>f (l.getD i d)) (λ Z=>True) Y:=by have:=(uY (O:=O) (Y:=Y) (A:=O.A) (xs:=l.map f) a);rw[au]at this;exact this.as _ λ i hi=>fN hi d
theorem Hy{a:aG}(f:α->V)(l:List α)(d:α)(c:O.A.handled=ai)(b:(a,MO.list (l.map f))∈Y.mu):i3 O O.A (.ref a) l.length (λ i=>f (l.getD i d)) (λ Y=>(a,MO.list (l.map f))∈Y.mu) Y:=by have:=(pX (O:=O) (Y:=Y) (A:=O.A) (xs:=l.map f) c b);rw[au]at this;exact this.as _ λ i hi=>fN hi d
noncomputable def Gr.lv(g:Gr)(r:Nat):Int:=(g.rules.map (·.lv)).getD r 0
noncomputable def Gr.rF(g:Gr)(r:Nat):List (Str×V):=[("number",.nat r),("left",.nat (g.left r)),("right",.tup ((g.right r).map .nat)),("level_of",.int (g.lv r)),("action",.none),("line",.int 0),("before",.int 0)]
noncomputable def Gr.rV(g:Gr)(CR:aG)(r:Nat):V:=.inst CR (g.rF r)
theorem F_(g:Gr){r:Nat}(a:r<g.rules.length):(g.Q9 CR)[r]? =ah (g.rV CR r):=by refine (sT g a).trans ?_;dsimp only[zv,Gr.rV,Gr.rF,Gr.lv];simp only[kr g a,show g.rules[r].left=g.left r from qc g a,(show (g.rules.map (·.lv)).getD r 0=g.rules[r].lv by rw[e4 (by simpa using a),bU])]
theorem El(g:Gr)(a:O.A.handled=ai):i3 O O.A (.list (g.Q9 CR)) g.rules.length (g.rV CR) (λ Z=>True) Y:=by have:=(kW (O:=O) (Y:=Y) (A:=O.A) (xs:=g.Q9 CR) a);rw[show (g.Q9 CR).length=g.rules.length by unfold Gr.Q9;simp only[au,fX]]at this;exact this.as _ λ i hi=>by (refine (aD).trans ?_;rw[F_ g hi]);rfl
theorem rl(I:f6 O G d T)(F:wD G CG CR)(g:Gr)(r:Nat){Q:V->St->Prop}(h:XV O Ex (bv value O.env) (M5 (g.rV CR r) (.nat (g.left r)) Q) Y)(b:autoParam (bv (.Attribute value "left" pos) O.env=(do
 let o <-bv value O.env
 iX pos.atName
 let r <-kc [o] (AS o "left" aj)
 wQ value o r
 pure r)) rf):XV O Ex (bv (.Attribute value "left" pos) O.env) Q Y:=fa I (h.mono λ Z Z a=>by obtain ⟨e,q⟩:=a;exact ⟨CR,g.rF r,_,e,F.r _ (.tail _ (.head _)),by kernel_rfl,q⟩) b
theorem rr(I:f6 O G d T)(F:wD G CG CR)(g:Gr)(r:Nat){Q:V->St->Prop}(h:XV O Ex (bv value O.env) (M5 (g.rV CR r) (.tup ((g.right r).map .nat)) Q) Y)(b:autoParam (bv (.Attribute value "right" pos) O.env=(do
 let o <-bv value O.env
 iX pos.atName
 let r <-kc [o] (AS o "right" aj)
 wQ value o r
 pure r)) rf):XV O Ex (bv (.Attribute value "right" pos) O.env) Q Y:=fa I (h.mono λ Z Z a=>by obtain ⟨e,q⟩:=a;exact ⟨CR,g.rF r,_,e,F.r _ (.tail _ (.tail _ (.head _))),by kernel_rfl,q⟩) b
theorem lU(f:α->V){l:List α}{k:Nat}(d:α){Q:V->St->Prop}(hk:k<l.length)(hz:k<2^62)(h:Q (f (l.getD k d)) Y):mP O Ex Q (.list (l.map f)) (.nat k) Y:=⟨⟨_,.list .frozen⟩,dM .frozen (dT hk d) hz h⟩
theorem PE(f:α->V){l:List α}{k:Nat}(d:α){Q:V->St->Prop}(hk:k<l.length)(hz:k<2^62)(h:Q (f (l.getD k d)) Y):mP O Ex Q (.tup (l.map f)) (.nat k) Y:=⟨⟨_,.tup⟩,pq (dT hk d) hz h⟩
theorem Cx{a:aG}(f:α->V){l:List α}{k:Nat}(d:α)(i:Nat){Q:V->St->Prop}(hi:Y.mu[i]? =ah (a,.list (l.map f)))(hk:k<l.length)(hz:k<2^62)(h:Q (f (l.getD k d)) Y):mP O Ex Q (.ref a) (.nat k) Y:=⟨⟨_,.list (.led i hi)⟩,dM (.led i hi) (dT hk d) hz h⟩
theorem Cv(g:Gr){k:Nat}{Q:V->St->Prop}(hk:k<g.rules.length)(hz:Small g)(h:Q (g.rV CR k) Y):mP O Ex Q (.list (g.Q9 CR)) (.nat k) Y:=⟨⟨_,.list .frozen⟩,dM .frozen (F_ g hk) (gA hk hz.rules) h⟩
theorem uD{a:aG}{f:α->V}(i:Nat)(hi:Y.mu[i]? =ah (a,.list (l.map f)))(hz:l.length<2^62)(h:Q (.nat l.length) Y):cS O Ex (.builtin "len") [.ref a] Q Y:=lh (.led i hi) (by rw[au];exact hz) (by rw[au];exact h)
theorem mw{f:α->V}(hz:l.length<2^62)(h:Q (.nat l.length) Y):cS O Ex (.builtin "len") [.list (l.map f)] Q Y:=lh .frozen (by rw[au];exact hz) (by rw[au];exact h)
theorem N1{α:Type}{a:aG}{f:α->V}{l:List α}{k:Nat}{v:α}{m:Mu}{Q:St->Prop}(i:Nat)(ok:O.Ok)(hi:Y.mu[i]? =ah (a,.list (l.map f)))(hk:k<l.length)(hz:k<2^62)(e:Y.mu.set i (a,.list ((l.set k v).map f))=m)(h:Q ⟨Y.vals,m⟩):
 wz O Ex (.ref a) (.nat k) (f v) Q Y:=p7 i ok hi (by simp only[au];exact hk) hz ((fW)▸e) h
theorem uF(α:Type){a:aG}{f:α->V}{l:List α}{x:α}{m:Mu}{Q:V->St->Prop}(i:Nat)(hi:Y.mu[i]? =ah (a,.list (l.map f)))(hz:l.length<=2^20)(e:Y.mu.set i (a,.list ((l++[x]).map f))=m)(h:Q .none ⟨Y.vals,m⟩):M9 a Q (f x) Y:=
 ⟨i,_,m,hi,by rw[au];exact hz,by simp only[<-e,aK];rfl,h⟩
end
open Classical in
noncomputable def iy(P:Nat->Prop):Nat->Nat
 |0=>0
 |n+1=>iy P n|||(if P n then 2^n else 0)
theorem E7{P:Nat->Prop}:iy P 0=(0):=rfl
open Classical in
theorem E8{P:Nat->Prop}{n}:iy P (n+1)=(iy P n|||(if P n then 2^n else 0)):=rfl
open Classical in
theorem k8(P:Nat->Prop):∀n t,(iy P n).testBit t=aj↔t<n/\P t:=by
 intro n;induction n with
 |zero=>intro t;rw[E7,eX];exact ⟨λ h=>(nomatch h),λ h=>absurd h.1 (c6 _)⟩
 |succ n d=>
  intro t;rw[E8,e5,fb,d t];have f:(if P n then 2^n else 0).testBit t=aj↔t=n/\P n:=by
   split
   ·rename_i h;rw[ju,decide_eq_true_iff];exact ⟨λ e=>⟨e.symm,h⟩,λ e=>e.1.symm⟩
   ·rename_i h;rw[eX];exact ⟨λ e=>(nomatch e),λ e=>absurd e.2 h⟩
  rw[f];constructor
  ·rintro (⟨a,b⟩|⟨rfl,b⟩)
   ·exact ⟨cA a,b⟩
   ·exact ⟨b_ _,b⟩
  ·intro c;obtain ⟨a,b⟩:=c;rcases cF.mp a with h|rfl
   ·exact .inl ⟨h,b⟩
   ·exact .inr ⟨rfl,b⟩
theorem zM{P:Nat->Prop}{n m:Nat}(h:∀t,m.testBit t=aj↔t<n/\P t):m=iy P n:=nx λ t=>by rw[fc,h,k8]
theorem oR(P:Nat->Prop)(n:Nat):iy P n<2^n:=kL _ λ t a=>by rw[ij];exact λ h=>absurd ((k8 P n t).mp h).1 (bR.mpr ‹_›)
noncomputable def j1(N B:Nat->Prop)(l:List Nat):Prop:=∃a s b,l=a++s::b/\(∀x∈a,N x)/\B s
theorem j1.nil{N B:Nat->Prop}:¬j1 N B []:=λ c=>by refine mI c λ a s b e Z=>?_;exact by cases a<;>cases e
theorem j1.cons{N B:Nat->Prop}{x:Nat}{l:List Nat}:j1 N B (x::l)↔B x\/(N x/\j1 N B l):=by
 constructor
 ·intro d;refine kj d λ a s b e h k=>?_;cases a with
  |nil=>cases e;exact .inl k
  |cons y a=>cases e;exact .inr ⟨h _ (.head _),a,s,b,rfl,λ z hz=>h z (.tail _ hz),k⟩
 ·rintro (h|⟨h,a,s,b,e,q,k⟩)
  ·exact ⟨[],x,l,rfl,λ y c=>(nomatch c),h⟩
  ·exact ⟨x::a,s,b,by rw[e];rfl,λ y c=>by
    rcases aI.mp c with e|c
    ·simp only[e];exact h
    ·exact q y c,k⟩
theorem j1.mono{N B f d:Nat->Prop}{l:List Nat}(j:∀x∈l,N x->f x)(i:∀x∈l,B x->d x):j1 N B l->j1 f d l:=λ c=>by refine kj c λ a s b e h k=>?_;exact
 ⟨a,s,b,e,λ x g=>j x (by rw[e];exact aJ _ g) (h x g),i s (by rw[e];simp) k⟩
inductive xY(g:Gr)(t:Nat):Nat->Prop
 |term:t<g.tc->xY g t t
 |rule {r s:Nat} {a b:List Nat}:r<g.rules.length->g.right r=a++s::b->(∀x∈a,R6 g x)->xY g t s->xY g t (g.left r)
theorem xY.lt{t s:Nat}(h:xY g t s):t<g.tc:=by
 induction h with
 |term h=>exact h
 |rule _ _ _ _ a=>exact a
noncomputable def DA(g:Gr)(t:Nat)(l:List Nat):Prop:=j1 (R6 g) (xY g t) l
theorem pp(a:List Bool)(fs:List Nat)(t:Nat):∀(l:List Nat) (m:Nat),(eB a fs m l).1.testBit t=aj↔m.testBit t=aj\/j1 (λ s=>a.getD s ao=aj) (λ s=>(fs.getD s 0).testBit t=aj) l:=by
 intro l;induction l with
 |nil=>intro m;dsimp only[n2,lW];exact ⟨.inl,λ h=>h.elim id λ h=>absurd h j1.nil⟩
 |cons s l b=>
  intro m;simp only[lW,j1.cons];split
  ·rename_i h;simp only[b,e5,fb];exact ⟨λ q=>q.elim (λ q=>q.elim .inl λ q=>.inr (.inl q)) λ q=>.inr (.inr ⟨h,q⟩),λ q=>q.elim (λ q=>.inl (.inl q)) λ q=>q.elim (λ q=>.inl (.inr q)) λ q=>.inr q.2⟩
  ·rename_i h;rw[e5,fb];exact ⟨λ q=>q.elim .inl λ q=>.inr (.inl q),λ q=>q.elim .inl λ q=>q.elim .inr λ q=>absurd q.1 h⟩
theorem uj(a:List Bool)(fs:List Nat):∀(l:List Nat) (m:Nat),(eB a fs m l).2=aj↔∀s∈l,a.getD s ao=aj:=by
 intro l;induction l with
 |nil=>intro m;exact ⟨λ Z s d=>(nomatch d),λ Z=>rfl⟩
 |cons s l c=>
  intro m;dsimp only[n2,lW];split
  ·rename_i h;simp only[c];exact ⟨λ q x b=>by rcases aI.mp b with e|b;{rw[e];exact h};{exact q x b},λ q x b=>q x (.tail _ b)⟩
  ·rename_i h;exact ⟨λ q=>(nomatch q),λ q=>absurd (q s (.head _)) h⟩
open Classical in
theorem kx{s:Nat}(a:s<g.names.length):(ic g).getD s ao=aj↔R6 g s:=by unfold ic;rw[e4 (by simpa using a),bU,jR,decide_eq_true_iff]
theorem vK(g:Gr):(ic g).length=g.names.length:=by simp[ic]
noncomputable def jx(g:Gr):List Nat:=(aZ g.names.length).map λ s=>iy (λ t=>xY g t s) g.tc
theorem n4(g:Gr):(jx g).length=g.names.length:=by simp[jx]
theorem rB{s t:Nat}(a:s<g.names.length):((jx g).getD s 0).testBit t=aj↔xY g t s:=by unfold jx;rw[e4 (by simpa using a),bU,jR,k8];exact ⟨λ h=>h.2,λ h=>⟨h.lt,h⟩⟩
structure Fo(g:Gr)(fs:List Nat):Prop where
 len:fs.length=g.names.length
 base:∀s<g.tc,(fs.getD s 0).testBit s=aj
 sound:∀s<g.names.length,∀t,(fs.getD s 0).testBit t=aj->xY g t s
theorem Fo.lt{fs:List Nat}(h:Fo g fs){s:Nat}(a:s<g.names.length):fs.getD s 0<2^g.tc:=kL _ λ t b=>by simp only[ij];exact λ q=>absurd (h.sound s a t q).lt (bR.mpr ‹_›)
noncomputable def Ig(g:Gr)(fs:List Nat)(r:Nat):Nat:=(eB (ic g) fs 0 (g.right r)).1
theorem yD(c:c_ g){fs:List Nat}{r t:Nat}(b:r<g.rules.length):(Ig g fs r).testBit t=aj↔j1 (R6 g) (λ s=>(fs.getD s 0).testBit t=aj) (g.right r):=by
 unfold Ig;rw[pp,eX];constructor
 ·rintro (h|h)
  ·cases h
  ·exact h.mono (λ x a q=>(kx (c.syms r b x a)).mp q) λ Z Z q=>q
 ·exact λ h=>.inr (h.mono (λ x a q=>(kx (c.syms r b x a)).mpr q) λ Z Z q=>q)
theorem Fo.put(j:c_ g){fs:List Nat}(h:Fo g fs){r:Nat}(f:r<g.rules.length):Fo g (fs.set (g.left r) (fs.getD (g.left r) 0|||Ig g fs r)):=by
 refine za (j.left r f) λ l k=>?_;have d:g.left r<fs.length:=by simp only[h.len];exact l
 refine ⟨by (refine bX.trans ?_);exact h.len,λ s i=>?_,λ s i t c=>?_⟩
 ·rw[hW d,if_neg (Mi i k)];exact h.base s i
 ·rw[hW d]at c;by_cases e:g.left r=s
  ·rw[if_pos e,e5,fb]at c;rcases c with c|c
   ·exact e▸h.sound _ l t c
   ·refine kj ((yD j f).mp c) λ a x b m n o=>?_;exact e▸.rule f m n (h.sound x (j.syms r f x (by rw[m];simp)) t o)
  ·rw[if_neg e]at c;exact h.sound s i t c
theorem Fo.done(f:c_ g){fs:List Nat}(h:Fo g fs)(m:∀r<g.rules.length,fs.getD (g.left r) 0|||Ig g fs r=fs.getD (g.left r) 0):fs=jx g:=by
 apply dR;intro i;by_cases hi:i<g.names.length
 ·have e:fs[i]? =ah (fs.getD i 0):=by (refine (ay (by rw[h.len];exact hi)).trans ?_;rw[e4 (by rw[h.len];exact hi)])
  have c:(jx g)[i]? =ah ((jx g).getD i 0):=by (refine (ay (by rw[n4];exact hi)).trans ?_;rw[e4 (by rw[n4];exact hi)])
  refine e.trans ?_;rw[c];refine congrArg ah (nx λ t=>?_);rw[fc,rB hi];refine ⟨h.sound i hi t,λ q=>?_⟩;clear e c;induction q with
  |term k=>exact h.base _ k
  |@rule r s a b d j c _ l=>rw[<-m r d,e5,fb];exact .inr ((yD f d).mpr ⟨a,s,b,j,c,(l (f.syms r d s (by rw[j];simp)))⟩)
 ·refine (bl (by rw[h.len];exact bR.mp ‹_›)).trans ?_;rw[bl (by rw[n4];exact bR.mp ‹_›)]
noncomputable def t4(tc:Nat)(fs:List Nat):Nat:=(fs.map λ m=>2^tc-m).sum
theorem Cd:∀{fs:List Nat} {i m:Nat},i<fs.length->fs.getD i 0<m->m<=2^tc->t4 tc (fs.set i m)<t4 tc fs:=by
 intro fs;induction fs with
 |nil=>exact λ h=>nomatch h
 |cons x fs b=>
  intro i m hi h a;cases i with
  |zero=>have h:x<m:=h;show 2^tc-m+(fs.map λ m=>2^tc-m).sum<2^tc-x+(fs.map λ m=>2^tc-m).sum;exact Mh a h
  |succ i=>show 2^tc-x+t4 tc (fs.set i m)<2^tc-x+t4 tc fs;exact Mg (b (by simpa using hi) h a)
theorem GN(h:a|||b≠a):a<a|||b:=j5 Nat.left_le_or (Ne.symm h)
section
variable{f:aG}
theorem m3{n:Nat}(c:O.A.handled=ai)(hz:n<1000000):i3 O O.A (.SO 0 n) n .nat (λ Z=>True) Y:=by skip;exact ((FV (O:=O) (Y:=Y) (A:=O.A) (a:=0) (b:=(n:Int)) c ⟨br _,br _,br _,GE hz⟩)).as _ λ i hi=>by rw[jA]
theorem GS(hi:i<=1000000)(h:Q (.nat (2^i)) Y):iB O Ex (dP .LShift) (VR O.P) (.int 1) (.nat i) Q Y:=
 MG (br _) (Mf hi) (by decide) (by rw[ib];exact_mod_cast h)
structure Cmn(G:GC)(CG CR:aG):Prop where
 F:wD G CG CR
 len:fx G "len" (.builtin "len")
 list:fx G "list" (.type "list")
 range:fx G "range" (.type "range")
 tup:fx G "tuple" (.type "tuple")
 sorted:fx G "sorted" (.builtin "sorted")
 dict:fx G "dict" (.type "dict")
 Rt:Me G CG "symbol_count" "Grammar.symbol_count" (mem 9 1) ["self"] []
 Rx:Me G CG "is_terminal" "Grammar.is_terminal" (mem 9 2) ["self","symbol"] []
 number:Me G CG "number" "Grammar.number" (mem 9 4) ["self","name"] []
 Sz:Me G CG "rules_of" "Grammar.rules_of" (mem 9 5) ["self","symbol"] []
 item:Me G CG "item" "Grammar.item" (mem 9 6) ["self","rule","dot"] []
 Ri:Me G CG "rule_of" "Grammar.rule_of" (mem 9 7) ["self","item"] []
 RK:Me G CG "dot_of" "Grammar.dot_of" (mem 9 8) ["self","item"] []
 after:Me G CG "after" "Grammar.after" (mem 9 9) ["self","item"] []
 spread:Fn G "spread" "spread" (top 15) ["grammar","known"] []
 RZ:Fn G "nullable" "nullable" (top 16) ["grammar"] []
 R4:Fn G "first_of" "first_of" (top 17) ["symbols","nullables","firsts"] []
theorem qJ(C:Cmn G CG CR)(g:Gr)(a:c_ g):cD G (d+3) (.ref C.RZ.f) [g.v CG CR] J (λ v J'=>v=.list ((ic g).map .bool)/\J'=J):=by refine de C.RZ.y _ _ _ rfl λ O I=>?_;refine aB<|dB<|cg I 1 C.spread<|an<|nl I 0 rfl<|a1<|bw<|l1<|iZ<|mc I C.Rt<|nl I 0 rfl ⟨g.RV CR,.frozen,by kernel_rfl,cx<|iu I (lL (d:=d) C.F C.Rt.y C.len g a.toSmall) yp<|BW I.ok .frozen (by have:=a.names;exact bc (aH ‹_› (by decide)))<|.F ?_⟩;have:=Bv (d:=d+1) (J:=[]) C.F C.len C.list C.spread.y g a;rw[AN]at this;exact iu I this (aT _)<|i2 ⟨rfl,rfl⟩
theorem so(C:Cmn G CG CR)(Yy:Fn G "first_masks" "first_masks" (top 18) ["grammar"] [])(g:Gr)(o:c_ g)(X2:g.tc<=g.names.length):cD G (d+4) (.ref Yy.f) [g.v CG CR] J (λ v J'=>v=.list ((jx g).map .nat)/\J'=J):=by
 refine de Yy.y _ _ _ rfl λ O I=>?_;have hz:=o.names;let R:V:=g.v CG CR
 let T:V:=.list ((ic g).map .bool)
 refine aB<|sl I 1<|cg I 7 C.RZ<|a1<|nl I 0 rfl<|iu I (qJ (d:=d) C g o) (aT _)<|aB<|sl I 2<|ey I.ok<|cx ⟨bg _,λ af=>?_⟩;let L:List Nat×Option V->St:=λ a=>⟨[ah R,ah T,ah (.ref af),a.2,ai,ai,ai,ai,ai,ai],(af,.list (a.1.map .nat))::J⟩
 let z:Nat->Nat:=λ s=>if s<g.tc then 2^s else 0
 refine aB<|iH L (λ i a=>a.1=(aZ i).map z)<|cb I 8 C.range<|a1<|mc I C.Rt<|nl I 0 rfl ⟨g.RV CR,.frozen,by kernel_rfl,cx<|iu I (lL (d:=d) C.F C.Rt.y C.len g o.toSmall) BN<|jr ⟨_,_,_,m3 I.ok.hand (aH ‹_› (by decide)),([],ai),rfl,rfl,λ Z Z Z Z=>trivial,λ i a hi u=>?_,λ a u=>?_⟩⟩
 ·have W:a.1.length<=2^20:=by rw[u];simp;exact Md hi hz
  have m:a.1++[z i]=(aZ (i+1)).map z:=by rw[u,cT,aK];rfl
  refine Mine.al I 3<|aB<|xe I<|ge I<|nl I 2 rfl ⟨af,_,0,rfl,rfl,l9<|tv<|mc I C.Rx<|nl I 0 rfl ⟨g.RV CR,.frozen,by kernel_rfl,a1<|nl I 3 rfl<|iu I (mO (d:=d) C.F C.Rx.y g i) BN<|jl ?_⟩⟩;by_cases h:i<g.tc
  ·exact iz (decide_eq_true h)<|bw<|dJ<|nl I 3 rfl<|GS (Mc hi hz)<|uF Nat 0 rfl W rfl<|bm ⟨(a.1++[2^i],ah (.nat i)),rfl,by rw[<-m,show z i=2^i from if_pos h]⟩
  ·exact fS (decide_eq_false h)<|xn 0<|uF Nat 0 rfl W rfl<|bm ⟨(a.1++[0],ah (.nat i)),rfl,by rw[<-m,show z i=0 from if_neg h]⟩
 have S:Fo g a.1:=by
  have D:a.1.length=g.names.length:=by rw[u];simp
  have B:∀s<g.names.length,a.1.getD s 0=z s:=λ s m=>by rw[e4 (qY m D)];simp[u]
  refine ⟨D,λ s m=>?_,λ s m t x=>?_⟩
  ·rw[B s (aH ‹_› ‹_›),show z s=2^s from if_pos m,ju,decide_eq_true_iff]
  ·rw[B s m]at x;by_cases h:s<g.tc
   ·rw[show z s=2^s from if_pos h,ju,decide_eq_true_iff]at x;exact x▸.term h
   ·rw[show z s=0 from if_neg h,eX]at x;cases x
 let A:List Nat×Bool×Option V×Option V->St:=λ b=>⟨[ah R,ah T,ah (.ref af),a.2,ah (.bool b.2.1),b.2.2.1,b.2.2.2,ai,ai,ai],(af,.list (b.1.map .nat))::J⟩
 let X:List Nat->Nat->Prop:=λ fs r=>fs.getD (g.left r) 0|||Ig g fs r=fs.getD (g.left r) 0
 refine aB<|sl I 4<|iZ<|aB<|tE A (λ n b=>n=t4 g.tc b.1+(if b.2.1=aj then 1 else 0)/\Fo g b.1/\(b.2.1=ao->∀r<g.rules.length,X b.1 r)) _ (a.1,aj,ai,ai) rfl ⟨rfl,S,λ h=>(nomatch h)⟩ λ n b y=>?_;clear u S;obtain ⟨fs,q,H,F⟩:=b;obtain ⟨rfl,U,hc⟩:=y;cases q with
 |false=>refine tv<|nl I 4 rfl<|jl<|fS rfl<|aB<|dB<|nl I 2 rfl ?_;exact CO (J1:=[(af,.list (fs.map .nat))]) (.head _) ⟨by rw[show fs=jx g from U.done o (hc rfl)],rfl⟩
 |true=>
  refine tv<|nl I 4 rfl<|jl<|iz rfl ?_;refine aB<|sl I 4<|iZ<|aB<|iH A (λ i b=>Fo g b.1/\t4 g.tc b.1<=t4 g.tc fs/\(b.2.1=aj->t4 g.tc b.1<t4 g.tc fs)/\(b.2.1=ao->b.1=fs/\∀r<i,X fs r))<|ga I C.F g (.list (g.Q9 CR))<|nl I 0 rfl ⟨rfl,_,_,_,El g I.ok.hand,(fs,ao,H,F),rfl,⟨U,aT _,λ h=>(nomatch h),λ Z=>⟨rfl,λ r h=>absurd h (c6 _)⟩⟩,λ Z Z Z Z=>trivial,λ i b hi y=>?_,λ b y=>?_⟩
  ·obtain ⟨c,q,H,F⟩:=b;obtain ⟨f,Q,N,P⟩:=y;have l:=o.left i hi;have M:∀s∈g.right i,s<(ic g).length/\s<c.length/\s<2^62:=λ s m=>by have:=o.syms i hi s m;rw[vK,f.len];exact ⟨this,this,gA this hz⟩
   have j:g.left i<c.length:=by rw[f.len];exact l.1
   have K:(c.getD (g.left i) 0|||Ig g c i)<=2^g.tc:=by have:=(f.put o hi).lt l.1;rw[hW j,if_pos rfl]at this;exact bc this
   refine Mine.al I 5<|aB<|sl I 6<|bw<|sb<|nl I 2 rfl<|rl I C.F g i<|nl I 5 rfl ⟨rfl,Cx V.nat 0 0 rfl j (gA l.1 hz)<|sb<|cg I 9 C.R4<|an<|rr I C.F g i<|nl I 5 rfl ⟨rfl,an<|nl I 1 rfl<|a1<|nl I 2 rfl ?_⟩⟩;refine sp I J (qM (d:=d) C.R4.y (J:=[(af,.list (c.map .nat))]) (g.right i) (ic g) c (.led 0 rfl) M) BN rfl λ v J' Y=>za Y λ p E=>?_;subst p;subst E;refine xn 0 ⟨⟨_,.tup⟩,pq (k:=0) rfl (by decide)<|B6 ?_⟩;refine aB<|eW<|tq<|nl I 6 rfl<|sb<|nl I 2 rfl<|rl I C.F g i<|nl I 5 rfl ⟨rfl,Cx V.nat 0 0 rfl j (gA l.1 hz)<|EZ ⟨_,rfl,?_⟩⟩;by_cases h:(c.getD (g.left i) 0|||Ig g c i)=c.getD (g.left i) 0
   ·refine fS (bne_eq_false_iff_eq.mpr h)<|bm<|bm ⟨(c,q,ah (g.rV CR i),ah (.nat _)),rfl,f,Q,N,λ e=>?_⟩;obtain ⟨p,E⟩:=P e;have p:c=fs:=p;subst p;exact ⟨rfl,λ r hr=>(cF.mp hr).elim (E r) λ e=>e▸h⟩
   ·have w:=Cd (tc:=g.tc) j (GN h) K;refine iz (bne_iff_ne.mpr h)<|aB<|ss<|nl I 6 rfl<|nl I 2 rfl<|rl I C.F g i<|nl I 5 rfl ⟨rfl,N1 0 I.ok rfl j (gA l.1 hz) rfl<|aB<|sl I 4<|iZ<|bm<|bm ⟨(c.set (g.left i) _,aj,ah (g.rV CR i),ah (.nat _)),rfl,f.put o hi,bc (aH w Q),λ Z=>aH w Q,λ e=>(nomatch e)⟩⟩
  ·obtain ⟨c,q,H,F⟩:=b;have l:=y;refine bm ⟨_,?_,(c,q,H,F),rfl,rfl,l.1,λ e=>?_⟩
   ·cases q with
    |false=>rw[(l.2.2.2 rfl).1];exact b_ _
    |true=>exact lD (l.2.2.1 rfl)
   ·obtain ⟨p,E⟩:=l.2.2.2 e;subst p;exact E
end
theorem cK(k v:Nat)(i:Nat):∀l:List (Nat×Nat),(f8 k v l).lookup i=if i=k then ah v else l.lookup i:=by
 intro l;induction l with
 |nil=>
  simp only[rE,bq];by_cases e:i=k
  ·subst e;rw[if_pos rfl,beq_self_eq_true]
  ·rw[if_neg e,beq_eq_false_iff_ne.mpr e]
 |cons p r a=>
  dsimp only[rE,v_];by_cases e:p.1=k
  ·rw[if_pos e];dsimp only[bq];rw[bq];by_cases h:i=k
   ·rw[if_pos h,h,e,beq_self_eq_true]
   ·rw[if_neg h,beq_eq_false_iff_ne.mpr (e▸h)]
  ·rw[if_neg e,bq,bq,(a)];by_cases h:i=p.1
   ·subst h;rw[if_neg e,if_neg e]
   ·rw[beq_eq_false_iff_ne.mpr h]
theorem c5{l:List (Nat×Nat)}{m:Nat}(h:l.lookup i=ah m):(i,m)∈l:=by refine g_ (bM.mp h) λ a b e Z=>?_;rw[e];exact ax _ (.head _)
theorem eL{l:List (Nat×Nat)}(nd:(l.map (·.1)).Nodup){i m:Nat}(h:(i,m)∈l):l.lookup i=ah m:=by refine Eb (dF.mp h) λ j a e=>?_;have:=gY nd a;rw[e4 a,e]at this;exact this
theorem eM{l:List (Nat×Nat)}:(∃m,l.lookup i=ah m)↔i∈l.map (·.1):=by
 constructor
 ·rintro ⟨m,h⟩;exact aC.mpr ⟨_,c5 h,rfl⟩
 ·intro h;cases e:l.lookup i with
  |some m=>exact ⟨m,rfl⟩
  |none=>refine b4 (aC.mp h) λ p b a=>?_;subst a;have:=dG.mp e p b;rw[bne_self_eq_false]at this;exact nomatch this
noncomputable def Gr.rest(g:Gr)(j:Nat):List Nat:=(g.right (g.Q3 j)).drop (g.Q7 j+1)
noncomputable def Gr.calls(g:Gr)(j r:Nat):Prop:=r<g.rules.length/\g.after j=((g.left r:Nat):Int)
inductive lC(g:Gr)(k:List (Nat×Nat)):Nat->Prop
 |base {i:Nat}:i∈k.map (·.1)->lC g k i
 |step {j r:Nat}:lC g k j->g.calls j r->lC g k (g.off r)
inductive jy(g:Gr)(k:List (Nat×Nat))(t:Nat):Nat->Prop
 |base {i m:Nat}:(i,m)∈k->m.testBit t=aj->jy g k t i
 |first {j r:Nat}:lC g k j->g.calls j r->DA g t (g.rest j)->jy g k t (g.off r)
 |pass {j r:Nat}:jy g k t j->g.calls j r->(∀x∈g.rest j,R6 g x)->jy g k t (g.off r)
theorem jy.UU{k:List (Nat×Nat)}{t:Nat}(h:jy g k t i):lC g k i:=by
 induction h with
 |base h _=>exact .base (aC.mpr ⟨_,h,rfl⟩)
 |first h c _=>exact .step h c
 |pass _ c _ a=>exact .step a c
structure gq(g:Gr)(k:List (Nat×Nat)):Prop where
 nd:(k.map (·.1)).Nodup
 it:∀p∈k,p.1<g.owners.length/\p.2<2^g.tc
theorem jy.lt{k:List (Nat×Nat)}(hk:gq g k){t i:Nat}(h:jy g k t i):t<g.tc:=by
 induction h with
 |base h b=>refine eb λ d=>?_;rw[x0 (aH (hk.it _ h).2 (nu (by decide:2>0) d))]at b;exact nomatch b
 |first _ _ h=>refine kj h λ a s b Z Z h=>?_;exact h.lt
 |pass _ _ _ c=>exact c
theorem xl(g:Gr){r:Nat}(e:r<g.rules.length):g.off r<g.owners.length:=by
 have c:∀(l:List Ru) (a b r:Nat),r<l.length->(hQ a l).getD r 0<a+(gP b l).length:=λ l=>by
  induction l with
  |nil=>intro a b r h;cases h
  |cons q l d=>
   intro a b r h;simp only[i7,aF,bP];cases r with
   |zero=>show a<_;exact Mb
   |succ r=>show (hQ (a+(q.right.length+1)) l).getD r 0<_;exact Ma (d (a+(q.right.length+1)) (b+1) r (by simpa using h))
 have:=c g.rules 0 0 r e;simp only[cO]at this;exact this
theorem lC.lt{k:List (Nat×Nat)}(hk:gq g k){i:Nat}(h:lC g k i):i<g.owners.length:=by
 induction h with
 |base h=>refine b4 (aC.mp h) λ p b a=>?_;subst a;exact (hk.it p b).1
 |step _ c _=>exact xl g c.1
structure j0(g:Gr)(k es:List (Nat×Nat)):Prop where
 nd:(es.map (·.1)).Nodup
 keys:∀i,i∈es.map (·.1)↔lC g k i
 val:∀p∈es,p.2=iy (λ t=>jy g k t p.1) g.tc
noncomputable def uQ(g:Gr)(j m:Nat):Nat:=if (eB (ic g) (jx g) 0 (g.rest j)).2=aj then (eB (ic g) (jx g) 0 (g.rest j)).1|||m else (eB (ic g) (jx g) 0 (g.rest j)).1
theorem jn(c:c_ g){r:Nat}:∀s∈g.right r,s<g.names.length:=λ s a=>by
 by_cases b:r<g.rules.length
 ·exact c.syms r b s a
 ·unfold Gr.right at a;rw[aD,bl (by simpa using b)]at a;exact nomatch a
theorem uy(e:c_ g){j m t:Nat}:(uQ g j m).testBit t=aj↔DA g t (g.rest j)\/((∀x∈g.rest j,R6 g x)/\m.testBit t=aj):=by
 have b:∀x∈g.rest j,x<g.names.length:=λ x a=>jn e x (cz a);have d:(eB (ic g) (jx g) 0 (g.rest j)).1.testBit t=aj↔DA g t (g.rest j):=by
  rw[pp,eX];constructor
  ·rintro (h|h)
   ·cases h
   ·exact h.mono (λ x a q=>(kx (b x a)).mp q) λ x a q=>(rB (b x a)).mp q
  ·exact λ h=>.inr (h.mono (λ x a q=>(kx (b x a)).mpr q) λ x a q=>(rB (b x a)).mpr q)
 have c:(eB (ic g) (jx g) 0 (g.rest j)).2=aj↔∀x∈g.rest j,R6 g x:=by rw[uj];exact ⟨λ h x a=>(kx (b x a)).mp (h x a),λ h x a=>(kx (b x a)).mpr (h x a)⟩
 unfold uQ;split
 ·rename_i h;simp only[e5,fb,d];exact ⟨λ q=>q.elim .inl λ q=>.inr ⟨c.mp h,q⟩,λ q=>q.elim .inl λ q=>.inr q.2⟩
 ·rename_i h;refine d.trans ?_;exact ⟨.inl,λ q=>q.elim id λ q=>absurd (c.mpr q.1) h⟩
structure Cw(g:Gr)(k ms:List (Nat×Nat))(w:List Nat):Prop where
 nd:(ms.map (·.1)).Nodup
 UU:∀i m,ms.lookup i=ah m->lC g k i
 Vh:∀i m,ms.lookup i=ah m->∀t,m.testBit t=aj->jy g k t i
 base:∀i m,(i,m)∈k->∃m',ms.lookup i=ah m'/\∀t,m.testBit t=aj->m'.testBit t=aj
 wk:∀j∈w,∃m,ms.lookup j=ah m
noncomputable def told(g:Gr)(ms:List (Nat×Nat))(c r:Nat):Prop:=∃m',ms.lookup (g.off r)=ah m'/\∀t,c.testBit t=aj->m'.testBit t=aj
theorem Cw.put{g:Gr}{k ms:List (Nat×Nat)}{w:List Nat}(C:Cw g k ms w){b c m':Nat}(l:lC g k b)(p:∀t,m'.testBit t=aj->jy g k t b)(n:∀m,ms.lookup b=ah m->∀t,m.testBit t=aj->m'.testBit t=aj):
 Cw g k (f8 b m' ms) (w++[b]):=by
 refine ⟨gf C.nd,λ i m h=>?_,λ i m h=>?_,λ i m h=>?_,λ j o=>?_⟩
 ·rw[cK]at h;by_cases e:i=b
  ·exact e▸l
  ·rw[if_neg e]at h;exact C.UU i m h
 ·rw[cK]at h;by_cases e:i=b
  ·rw[if_pos e]at h;cases h;exact e▸p
  ·rw[if_neg e]at h;exact C.Vh i m h
 ·refine b4 (C.base i m h) λ a f d=>?_;rw[cK];by_cases e:i=b
  ·rw[if_pos e];exact ⟨m',rfl,λ t q=>n a (e▸f) t (d t q)⟩
  ·rw[if_neg e];exact ⟨a,f,d⟩
 ·rw[cK];by_cases e:j=b
  ·rw[if_pos e];exact ⟨_,rfl⟩
  ·rw[if_neg e];rcases aM.mp o with h|h
   ·exact C.wk j h
   ·exact absurd (aE.mp h) e
theorem u9{r:Nat}(i:∀m,ms.lookup b=ah m->∀t,m.testBit t=aj->m'.testBit t=aj)(h:told g ms c r):told g (f8 b m' ms) c r:=by
 refine b4 h λ a f d=>?_;unfold told;rw[cK];by_cases e:g.off r=b
 ·rw[if_pos e];exact ⟨m',rfl,λ t q=>i a (e▸f) t (d t q)⟩
 ·rw[if_neg e];exact ⟨a,f,d⟩
theorem Cw.done(u:c_ g){k ms:List (Nat×Nat)}(hk:gq g k)(C:Cw g k ms [])(n:∀j m,ms.lookup j=ah m->∀r,g.calls j r->told g ms (uQ g j m) r):j0 g k ms:=by
 have s:∀i,lC g k i->∃m,ms.lookup i=ah m:=λ i h=>by
  induction h with
  |base h=>refine b4 (aC.mp h) λ p e o=>?_;subst o;refine b4 (C.base p.1 p.2 e) λ m h Z=>?_;exact ⟨m,h⟩
  |step _ c q=>refine ze q λ m h=>?_;refine b4 (n _ m h _ c) λ m' h' Z=>?_;exact ⟨m',h'⟩
 have w:∀t i,jy g k t i->∃m,ms.lookup i=ah m/\m.testBit t=aj:=λ t i h=>by
  induction h with
  |base h b=>refine b4 (C.base _ _ h) λ m a d=>?_;exact ⟨m,a,d t b⟩
  |first hi c h=>refine ze (s _ hi) λ m a=>?_;refine b4 (n _ m a _ c) λ m' d l=>?_;exact ⟨m',d,l t ((uy u).mpr (.inl h))⟩
  |pass _ c h q=>refine b4 q λ m a b=>?_;refine b4 (n _ m a _ c) λ m' d l=>?_;exact ⟨m',d,l t ((uy u).mpr (.inr ⟨h,b⟩))⟩
 refine ⟨C.nd,λ i=>⟨λ h=>?_,λ h=>eM.mp (s i h)⟩,λ p e=>zM λ t=>?_⟩
 ·refine ze (eM.mpr h) λ m h=>?_;exact C.UU i m h
 ·have f:=eL C.nd e;refine ⟨λ b=>⟨(C.Vh _ _ f t b).lt hk,C.Vh _ _ f t b⟩,λ v=>za v λ Z h=>?_⟩;refine b4 (w t _ h) λ m a d=>?_;simp only[f]at a;cases a;exact d
noncomputable def wU(ms:List (Nat×Nat))(i:Nat):Nat:=match ms.lookup i with|some m=>m+1|none=>0
noncomputable def room(n tc:Nat)(ms:List (Nat×Nat)):Nat:=((aZ n).map λ i=>2^tc+1-wU ms i).sum
theorem HK{f f':Nat->Nat}:∀{n b:Nat},b<n->(∀i,f' i<=f i)->f' b<f b->((aZ n).map f').sum<((aZ n).map f).sum:=λ {n}=>by
 induction n with
 |zero=>intro b h;exact (L_ h).elim
 |succ n a=>
  intro b j d c;simp only[cT,aK,aK,jg,jg];have g:((aZ n).map f').sum<=((aZ n).map f).sum:=by
   clear a j c;induction n with
   |zero=>exact aT _
   |succ n a=>simp only[cT,aK,aK,jg,jg];have:=d n;simp;exact L9 a this
  by_cases e:b=n
  ·subst e;simp;exact L8 g c
  ·simp;exact Nat.add_lt_add_of_lt_of_le (a (b:=b) (yo j e) d c) (d n)
theorem BA{n:Nat}(c:b<n)(h:wU ms b<m'+1)(a:m'<2^tc):room n tc (f8 b m' ms)<room n tc ms:=by
 refine HK c (λ i=>?_) ?_
 ·unfold wU at*;rw[cK];by_cases e:i=b
  ·subst e;rw[if_pos rfl];dsimp only;exact L7 h
  ·rw[if_neg e];exact aT _
 ·unfold wU at*;rw[cK,if_pos rfl];dsimp only;exact L6 a h
noncomputable def ov(l:List (Option V))(n:Nat):Option V:=l.getD n ai
noncomputable def M4(Jj:St->Prop)(Q:Option (Option V)->St->Prop)(f:Option (Option V))(Y:St):Prop:=match f with|none=>Jj Y|some f=>Q (ah f) Y
noncomputable def Cr(O:FC)(Ex:Value->aR->Prop)(t:Expr)(v:V)(Q:St->Prop)(Y:St):Prop:=XA O Ex (d9 t O.env) v Q Y
section
variable{f:aG}
theorem wS{st:Stmt}{a:List Stmt}{Q:Option (Option V)->St->Prop}(Jj:St->Prop)(h:XF O Ex (gc st O.env) (M4 Jj Q) Y)(k:∀Y,Jj Y->XF O Ex (eI a O.env) Q Y):XF O Ex (eI (st::a) O.env) Q Y:=
 aB (X.mono h λ f Y q=>match f,q with
  |none,q=>k Y q
  |some _,q=>q)
theorem Ar(I:f6 O G d T){b c:Expr}{k:Nat}{pos:gU}{v w:V}{Q:St->Prop}(h:XA O Ex (d9 b O.env) v (Cr O Ex c w Q) Y)
 (l:autoParam ((dY [b,c] O.env).map (·.2)=[d9 b O.env,d9 c O.env]) rf) (j:autoParam ((dY [b,c] O.env).length=2) rf) (a:autoParam ((dY [b,c] O.env).findIdx? (·.1)=ai) rf):
 XA O Ex (d9 (.Tuple [b,c] k pos) O.env) (.tup [v,w]) Q Y:=G9 I.ok l j a (jO (λ Kp Jj s u R g=>aY (h Kp Jj s u R g) (λ Z Z i=>by refine b4 i λ Y' R' q=>?_;exact ⟨Y',R',jO (λ Kp Jj s u R g=>aY (q Kp Jj s u R g) (λ Z Z f=>by refine b4 f λ Y' R' q=>?_;exact ⟨Y',R',xQ q⟩) λ Z Z e=>e)⟩) λ Z Z e=>e))
theorem NR(I:f6 O G d T){c b f:Expr}{k:Nat}{pos:gU}{u v w:V}{Q:St->Prop}(h:XA O Ex (d9 c O.env) u (Cr O Ex b v (Cr O Ex f w Q)) Y)
 (n:autoParam ((dY [c,b,f] O.env).map (·.2)=[d9 c O.env,d9 b O.env,d9 f O.env]) rf) (m:autoParam ((dY [c,b,f] O.env).length=3) rf) (a:autoParam ((dY [c,b,f] O.env).findIdx? (·.1)=ai) rf):
 XA O Ex (d9 (.Tuple [c,b,f] k pos) O.env) (.tup [u,v,w]) Q Y:=G9 I.ok n m a (jO (λ Kp Jj s u R g=>aY (h Kp Jj s u R g) (λ Z Z j=>by refine b4 j λ Y' R' q=>?_;exact ⟨Y',R',jO (λ Kp Jj s u R g=>aY (q Kp Jj s u R g) (λ Z Z i=>by refine b4 i λ Y' R' q=>?_;exact ⟨Y',R',jO (λ Kp Jj s u R g=>aY (q Kp Jj s u R g) (λ Z Z l=>by refine b4 l λ Y' R' q=>?_;exact ⟨Y',R',xQ q⟩) λ Z Z e=>e)⟩) λ Z Z e=>e)⟩) λ Z Z e=>e))
theorem xT(I:f6 O G d T){k:Nat}{e:Expr}{Q:Option (Option V)->St->Prop}(h:XV O Ex (bv e O.env) (M0 O Ex (.Tuple elts k pos') Q) Y)(b:autoParam (eg e (ah (.Tuple elts k pos')) pos.line O.env=pure ao) rf)(a:autoParam (swappedStores [.Tuple elts k pos'] e O.env=pure ai) rf):XF O Ex (gc (.Assign [.Tuple elts k pos'] e pos) O.env) Q Y:=y7 h b a
theorem Jx{f:α->V}(a:1<=b)(c:b<=l.length)(hz:l.length<=2^20)(h:Q (.tup ((l.drop b).map f)) Y):l0 O Ex (.tup (l.map f)) (.int b) .none Q Y:=
 HN a (by simp only[au];exact c) (by rw[au];exact hz) ((om)▸h)
theorem Nc{a:aG}{l:List (Nat×Nat)}{m:Nat}(i:Nat){Q:V->St->Prop}(ok:O.Ok)(hi:Y.mu[i]? =ah (a,.dict (dV l)))(nd:(l.map (·.1)).Nodup)(b:l.lookup k=ah m)(h:Q (.nat m) Y):mP O Ex Q (.ref a) (.nat k) Y:=
 ⟨⟨_,.dict (.led i hi)⟩,jp ok (.led i hi) (jq k nd) (by simp only[rI,b];rfl) h⟩
theorem ug{l:List (Nat×Nat)}{m:Nat}(ok:O.Ok)(nd:(l.map (·.1)).Nodup)(a:l.lookup k=ah m)(h:Q (.nat m) Y):mP O Ex Q (.dict (dV l)) (.nat k) Y:=
 ⟨⟨_,.dict .frozen⟩,jp ok .frozen (jq k nd) (by simp only[rI,a];rfl) h⟩
noncomputable def CD(l:List (Nat×Nat))(k:Nat)(z:Int):V:=match l.lookup k with|some m=>.nat m|none=>.int z
theorem Db{a:aG}{l:List (Nat×Nat)}{z:Int}(i:Nat){Q:V->St->Prop}(ok:O.Ok)(hi:Y.mu[i]? =ah (a,.dict (dV l)))(nd:(l.map (·.1)).Nodup)(h:Q (CD l k z) Y):cS O Ex (.builtin "dict.get") [.ref a,.nat k,.int z] Q Y:=
 yK ok (.led i hi) (jq k nd) (by rw[rI];unfold CD at h;cases e:l.lookup k<;>(rw[e]at h;exact h))
theorem xa{a:aG}{l:List (Nat×Nat)}{k v:Nat}{m:Mu}{Q:St->Prop}(i:Nat)(ok:O.Ok)(hi:Y.mu[i]? =ah (a,.dict (dV l)))(nd:(l.map (·.1)).Nodup)(hz:l.length<=2^20)(e:Y.mu.set i (a,.dict (dV (f8 k v l)))=m)(h:Q ⟨Y.vals,m⟩):
 wz O Ex (.ref a) (.nat k) (.nat v) Q Y:=w_ i ok hi (jq k nd) ((bz (show (dV l).length=l.length from au ..))▸hz) (by simp only[C2,e];exact h)
theorem Iw{a:aG}{f:Nat->V}{w:List Nat}{j:Nat}{Q:V->St->Prop}(i:Nat)(ok:O.Ok)(hi:Y.mu[i]? =ah (a,.list ((w++[j]).map f)))(hz:w.length<2^20)(h:Q (f j) ⟨Y.vals,Y.mu.set i (a,.list (w.map f))⟩):
 cS O Ex (.builtin "list.pop") [.ref a] Q Y:=Nn (v:=f j) i ok (by (refine hi.trans ?_;rw[aK]);rfl) (by rw[au];exact aH ‹_› (by decide)) h
end
theorem Df{X r:Nat}:r∈g.by X↔r<g.rules.length/\g.left r=X:=by unfold Gr.by Gr.left;simp only[b3,bN,beq_iff_eq]
theorem EJ(n tc:Nat)(ms:List (Nat×Nat)):room n tc ms<=n*(2^tc+1):=by
 unfold room;induction n with
 |zero=>exact cq (Nat.zero_mul _).symm
 |succ n a=>simp only[cT,aK,jg,x1];exact gx a (aA (cq (jz _)) (o0 _ _))
theorem Cw.keys{k:List (Nat×Nat)}{w:List Nat}(hk:gq g k)(C:Cw g k ms w):ms.length<=g.owners.length:=by
 have:=aU C.nd (l₂:=aZ g.owners.length) λ x a=>by refine ze (eM.mpr a) λ m h=>?_;exact bN.mpr ((C.UU _ _ h).lt hk)
 simpa using this
structure Ct(g:Gr)(k:List (Nat×Nat))(j mj n:Nat)(rs:List Nat)(ms:List (Nat×Nat))(w:List Nat):Prop extends Cw g k ms w where
 fit:2*room g.owners.length g.tc ms+w.length<=n
 W7:∀i m,ms.lookup i=ah m->i∉w->i≠j->∀r,g.calls i r->told g ms (uQ g i m) r
 own:j∉w->ms.lookup j=ah mj
 WR:∀r∈rs,told g ms (uQ g j mj) r
theorem Ct.put(z:c_ g){k ms:List (Nat×Nat)}(hk:gq g k){j n r:Nat}{w:List Nat}(C:Ct g k j mj n rs ms w)(x:lC g k j)(B:∀t,mj.testBit t=aj->jy g k t j)(p:g.calls j r){m':Nat}(u:∀t,m'.testBit t=aj↔(∃m,ms.lookup (g.off r)=ah m/\m.testBit t=aj)\/(uQ g j mj).testBit t=aj)(y:wU ms (g.off r)<m'+1):Ct g k j mj n (rs++[r]) (f8 (g.off r) m' ms) (w++[g.off r]):=by
 have v:∀t,(uQ g j mj).testBit t=aj->jy g k t (g.off r):=λ t o=>by
  rcases (uy z).mp o with h|⟨h,b⟩
  ·exact .first x p h
  ·exact .pass (B t b) p h
 have l:∀t,m'.testBit t=aj->jy g k t (g.off r):=λ t o=>by
  rcases (u t).mp o with ⟨m,a,b⟩|h
  ·exact C.Vh _ _ a t b
  ·exact v t h
 have d:∀m,ms.lookup (g.off r)=ah m->∀t,m.testBit t=aj->m'.testBit t=aj:=λ m a t b=>(u t).mpr (.inl ⟨m,a,b⟩);have s:m'<2^g.tc:=kL _ λ t o=>by simp only[ij];exact λ q=>absurd ((l t q).lt hk) (bR.mpr ‹_›)
 have f:=BA (xl g p.1) y s;refine ⟨(C.toCw.put (lC.step x p) l d (c:=0)),?_,λ i m a b e q c=>?_,λ h=>?_,λ q A=>?_⟩
 ·have:=C.fit;simp only[aF,cJ];exact L5 this f
 ·have hi:i≠g.off r:=λ e=>b (ax _ (by rw[e];exact .head _));rw[cK,if_neg hi]at a;exact u9 d (C.W7 i m a (λ h=>b (aJ _ h)) e q c)
 ·have hi:j≠g.off r:=λ e=>h (ax _ ((e)▸.head _));rw[cK,if_neg hi];exact C.own λ q=>h (aJ _ q)
 ·rcases aM.mp A with h|h
  ·exact u9 d (C.WR q h)
  ·simp only[aE.mp h];exact ⟨m',by rw[cK,if_pos rfl],λ t b=>(u t).mpr (.inr b)⟩
theorem Ct.skip{k:List (Nat×Nat)}{n r m:Nat}{w:List Nat}(C:Ct g k j mj n rs ms w)(c:ms.lookup (g.off r)=ah m)(h:m|||uQ g j mj=m):Ct g k j mj n (rs++[r]) ms w:=
 ⟨C.toCw,C.fit,C.W7,C.own,λ q a=>(aM.mp a).elim (C.WR q) λ h'=>by simp only[aE.mp h'];exact ⟨m,c,λ t b=>by rw[<-h,e5,b,Bool.or_true]⟩⟩
section
variable{f:aG}
theorem Fp(g:Gr){x:Str}(h:(["names","terminal_count","rules","levels","expect","start","by_left","offsets","owners","item_count"]:List Str).contains x=ao):(g.RV CR).lookup x=ai:=by
 simp only[dG];intro p a;have:p.1∈(["names","terminal_count","rules","levels","expect","start","by_left","offsets","owners","item_count"]:List Str):=by exact bp a
 rw[bne_iff_ne];rintro rfl;rw[<-x5]at this;rw[this]at h;exact nomatch h
theorem gm(I:f6 O G d T){x q:Str}{st:Stmt}{pn:List Str}{Rj:List V}(M:Me G CG x q st pn Rj)(g:Gr){o:Expr}{a pos:gU}{args:List Expr}{Q:V->St->Prop}
 (h:XV O Ex (bv o O.env) (Pw O Ex CG M.f x args pos Q) Y)
 (f:autoParam (I7 o x args a pos O.env) rf)
 (b:autoParam (Dy pos args O.env) rf)
 (e:autoParam (Hb pos args O.env) rf) (c:autoParam ((a.endLine==pos.line)=aj) rf):
 XV O Ex (bv (.Call (.Attribute o x a) args [] pos) O.env) Q Y:=mc I M h f b e c
theorem og{f:aG}(h:XL O Ex (c4 (cM pos (bk args O.env))) (ue O Ex (.ref f) (g.v C CR) Q) Y)(a:autoParam ((["names","terminal_count","rules","levels","expect","start","by_left","offsets","owners","item_count"]:List Str).contains x=ao) rk):Pw O Ex C f x args pos Q (g.v C CR) Y:=⟨g.RV CR,.frozen,Fp g a,h⟩
theorem zr(C:Cmn G CG CR)(Yy:Fn G "closure_one" "closure_one" (top 22) ["grammar","kernel","nullables","firsts"] [])(g:Gr)(u:c_ g)(k:List (Nat×Nat))(hk:gq g k):
 cD G (d+2) (.ref Yy.f) [g.v CG CR,e6 k,.list ((ic g).map .bool),.list ((jx g).map .nat)] J (λ v J'=>(∃es,v=.dict (dV es)/\j0 g k es)/\J'=J):=by
 refine de Yy.y _ _ _ rfl λ O I=>?_;have hz:=u.own;have U:k.length<=g.owners.length:=by
  have:=aU hk.nd (l₂:=aZ g.owners.length) λ x hx=>by refine b4 (aC.mp hx) λ p hp Td=>?_;subst Td;exact bN.mpr (hk.it p hp).1
  simpa using this
 let gv:V:=g.v CG CR
 let nv:V:=.list ((ic g).map .bool)
 let fv:V:=.list ((jx g).map .nat)
 have ek:e6 k=.tup ((dV k).map λ p=>V.tup [p.1,p.2]):=by unfold e6 dV;rw[bs];rfl
 refine aB<|sl I 4<|cb I 14 C.dict<|a1<|nl I 1 rfl ?_;rw[ek];refine wf I.ok (by rw[show (dV k).length=k.length from au ..];exact L4 U hz) (px k) (fO hk.nd) λ L=>?_;rw[<-ek];refine aB<|sl I 5<|cb I 15 C.list<|a1<|nl I 4 rfl<|FD I.ok (.led 0 rfl) (by rw[show (dV k).length=k.length from au ..];exact L3 U hz) (px k) (fO hk.nd)<|.M λ H=>?_;rw[lb];let R:List (Nat×Nat)×List Nat×List (Option V)->St:=λ a=>⟨[ah gv,ah (e6 k),ah nv,ah fv,ah (.ref L),ah (.ref H),ov a.2.2 0,ov a.2.2 1,ov a.2.2 2,ov a.2.2 3,ov a.2.2 4,ov a.2.2 5,ov a.2.2 6,ov a.2.2 7,ai,ai,ai],(H,.list (a.2.1.map .nat))::(L,.dict (dV a.1))::J⟩
 let Q:Nat->List (Nat×Nat)×List Nat×List (Option V)->Prop:=λ n a=>n=2*room g.owners.length g.tc a.1+a.2.1.length/\n<=200000/\Cw g k a.1 a.2.1/\∀j m,a.1.lookup j=ah m->j∉a.2.1->∀r,g.calls j r->told g a.1 (uQ g j m) r
 have h0:Q (2*room g.owners.length g.tc k+(k.map (·.1)).length) (k,k.map (·.1),[]):=by refine ⟨rfl,?_,⟨hk.nd,λ i m h=>.base (aC.mpr ⟨_,c5 h,rfl⟩),λ i m h t b=>.base (c5 h) b,λ i m h=>⟨m,eL hk.nd h,λ Z b=>b⟩,λ j K=>eM.mpr K⟩,λ j m h K=>absurd (aC.mpr ⟨_,c5 h,rfl⟩) K⟩;have h2:(2:Nat)^g.tc<=2^10:=nu (by decide) u.Vu;rw[au];exact L2 (EJ g.owners.length g.tc k) U (Nat.mul_le_mul (ci ‹_›) (dc ‹_›)) hz
 refine aB<|tE R Q _ (k,k.map (·.1),[]) rfl h0 λ n a T=>?_;clear h0;obtain ⟨ms,w,o⟩:=a;refine wR T λ Si hn W cl=>?_;subst Si;have hn:2*room g.owners.length g.tc ms+w.length<=200000:=hn;have Xf:w.length<=200000:=aA (bJ _ _) hn;refine tv<|nl I 5 rfl<|HC (.led 0 rfl) (by rw[au];exact aQ Xf (by decide)) ?_;rcases List.eq_nil_or_concat w with rfl|⟨E,j,rfl⟩
 ·refine fS rfl<|aB<|dB<|nl I 4 rfl ?_;exact ⟨[(H,.list []),(L,.dict (dV ms))],J,J,.dict (dV ms),rfl,λ Z h=>h,dE.refl _ _,.dict (.tail _ (.head _)) (s4 _ _),⟨ms,rfl,W.done u hk λ j m h=>cl j m h d7⟩,rfl⟩
 rw[List.concat_eq_append]at*;rw[aF,cJ]at hn Xf;refine ze (W.wk j (ax _ (.head _))) λ mj F=>?_;have N:=W.UU j mj F;have K:=N.lt hk;refine jw (g.item_at K) λ hR hO hD=>?_;have ZH:=g.SA u.toSmall (g.Q3 j);have W':Cw g k ms E:=⟨W.nd,W.UU,W.Vh,W.base,λ i hi=>W.wk i (aJ _ hi)⟩;have D:(∀r,¬g.calls j r)->∀o',I9 (2*room g.owners.length g.tc ms+(E++[j]).length) R Q (R (ms,E,o')):=λ Zj o'=>by
  refine ⟨2*room g.owners.length g.tc ms+E.length,by rw[aF];exact b_ _,(ms,E,o'),rfl,rfl,aA (b0 _ 1) hn,W',λ i m hi B r q=>?_⟩;by_cases e:i=j
  ·exact absurd (e▸q) (Zj r)
  ·exact cl i m hi (λ h=>(aM.mp h).elim B λ h=>e (aE.mp h)) r q
 refine iz (by cases E<;>rfl)<|aB<|sl I 6<|mb I PySem.F.plainAttrs_list PySem.F.slot_list_pop PySem.F.type_list_pop<|nl I 5 rfl ⟨.list (.led 0 rfl),cx<|Iw 0 I.ok rfl (aQ (iC Xf) (by decide)) ?_⟩;refine aB<|sl I 7<|gm I C.after g<|nl I 0 rfl<|og<|a1<|nl I 6 rfl<|iu I (tP (d:=d) C.F C.after.y C.len g j u.toSmall K) kt ?_;refine aB<|eW<|m5<|tq<|nl I 7 rfl<|dJ<|tU ⟨_,rfl,?_⟩;by_cases T:g.after j<0
 ·exact iz (decide_eq_true T)<|iz rfl<|aB<|A5<|D (λ r q=>by have:=q.2;exact (L1 T this).elim) [ah (.nat j),ah (.int (g.after j)),ov o 2,ov o 3,ov o 4,ov o 5,ov o 6,ov o 7]
 refine fS (decide_eq_false T) ?_;have hd:g.Q7 j<(g.right (g.Q3 j)).length:=eb λ h=>T (by unfold Gr.after;rw[if_neg (bR.mpr h)];decide);refine ze (show ∃X:Nat,g.after j=(X:Int)from ⟨(g.after j).toNat,L0 T⟩) λ X M=>?_;have ZE:X<g.names.length:=by unfold Gr.after at M;rw[if_pos hd]at M;exact GD M (jn u _ (bd hd 0))
 rw[M];refine m5<|tv<|gm I C.Rx g<|nl I 0 rfl<|og<|a1<|nl I 7 rfl<|iu I (mO (d:=d) C.F C.Rx.y g X) kt<|jl ?_;by_cases S:X<g.tc
 ·exact iz (decide_eq_true S)<|iz rfl<|aB<|A5<|D (λ r q=>by have h1:=q.2;have h2:=(u.left r q.1).2;exact (LZ S h2 M h1).elim) [ah (.nat j),ah (.nat X),ov o 2,ov o 3,ov o 4,ov o 5,ov o 6,ov o 7]
 refine fS (decide_eq_false S)<|jm<|fS rfl<|bm ?_;clear D;refine aB<|sl I 8<|rr I C.F g (g.Q3 j)<|sb<|ga I C.F g (.list (g.Q9 CR))<|nl I 0 rfl ⟨rfl,gm I C.Ri g<|nl I 0 rfl<|og<|a1<|nl I 6 rfl<|iu I (kq (d:=d) C.F C.Ri.y g j u.toSmall K) kt<|Cv g hR u.toSmall ⟨rfl,?_⟩⟩;have Y8:∀s∈g.rest j,s<(ic g).length/\s<(jx g).length/\s<2^62:=λ s hs=>by have:=jn u s (cz hs);rw[vK,n4];exact ⟨this,this,gA this u.names⟩
 refine aB<|xT I<|cg I 16 C.R4<|an<|l8<|nl I 8 rfl<|oO<|bw<|gm I C.RK g<|nl I 0 rfl<|og<|a1<|nl I 6 rfl<|iu I (nM (d:=d) C.F C.RK.y g j u.toSmall K) kt<|xn 1<|fM<|oP ⟨⟨_,.tup⟩,Jx (bJ 1 _) hd (bc (bC ZH (by decide))) ?_⟩;refine an<|nl I 2 rfl<|a1<|nl I 3 rfl<|iu I (qM (d:=d) C.R4.y (J:=[]) (g.rest j) (ic g) (jx g) .frozen Y8) kt<|Ar I<|Mine.al I 9<|Mine.al I 10 ?_;refine wS (λ Y=>Y=⟨[ah gv,ah (e6 k),ah nv,ah fv,ah (.ref L),ah (.ref H),ah (.nat j),ah (.nat X),ah (.tup ((g.right (g.Q3 j)).map .nat)),ah (.nat (uQ g j mj)),ah (.bool (eB (ic g) (jx g) 0 (g.rest j)).2),ov o 5,ov o 6,ov o 7,ai,ai,ai],(H,.list (E.map .nat))::(L,.dict (dV ms))::J⟩) (eW<|tv<|nl I 10 rfl<|jl ?_) ?_
 ·cases l:(eB (ic g) (jx g) 0 (g.rest j)).2 with
  |true=>exact iz rfl<|aB<|sl I 9<|bw<|nl I 9 rfl<|sb<|nl I 4 rfl<|nl I 6 rfl<|Nc 1 I.ok rfl W.nd F<|B6<|bm (by unfold uQ;rw[if_pos l];rfl)
  |false=>exact fS rfl<|bm (by unfold uQ;rw[if_neg (by rw[l];decide)];rfl)
 rintro Y rfl;let n':=2*room g.owners.length g.tc ms+E.length
 let Te:List (Nat×Nat)×List Nat×List (Option V)->St:=λ b=>⟨[ah gv,ah (e6 k),ah nv,ah fv,ah (.ref L),ah (.ref H),ah (.nat j),ah (.nat X),ah (.tup ((g.right (g.Q3 j)).map .nat)),ah (.nat (uQ g j mj)),ah (.bool (eB (ic g) (jx g) 0 (g.rest j)).2),ov b.2.2 0,ov b.2.2 1,ov b.2.2 2,ai,ai,ai],(H,.list (b.2.1.map .nat))::(L,.dict (dV b.1))::J⟩
 let T1:Nat->List (Nat×Nat)×List Nat×List (Option V)->Prop:=λ i b=>Ct g k j mj n' ((g.by X).take i) b.1 b.2.1
 refine aB<|iH Te T1<|gm I C.Sz g<|nl I 0 rfl<|og<|a1<|nl I 7 rfl<|iu I (w4 (d:=d) C.F C.Sz.y C.list g X u.toSmall ZE) kt ⟨_,_,_,lA V.nat (g.by X) 0 I.ok.hand,(ms,E,[ov o 5,ov o 6,ov o 7]),rfl,(show Ct g k j mj n' [] ms E from ⟨W',aT _,λ i m hi B e r q=>cl i m hi (λ h=>(aM.mp h).elim B λ h=>e (aE.mp h)) r q,λ Z=>F,λ r hr=>(nomatch hr)⟩),λ Z Z Z Z=>trivial,λ i b hi l=>?_,λ b l=>?_⟩
 ·obtain ⟨c,f,UQ⟩:=b;have l:Ct g k j mj n' ((g.by X).take i) c f:=l;have ht:(g.by X).take (i+1)=(g.by X).take i++[(g.by X).getD i 0]:=by rw[aS hi,e4 hi]
  refine za (Df.mp (bd hi 0)) λ hr X9=>?_;generalize (g.by X).getD i 0=r at ht hr X9 ⊢;have q:g.calls j r:=⟨hr,by rw[M,X9]⟩;have Ul:=l.fit;have A:f.length<=2^20:=aA (aA (bJ _ _) Ul) (aA (aA (b0 n' 1) hn) (by decide));have y:c.length<=2^20:=aA (l.keys hk) (aA (bc hz) (by decide));have Yl:=W.Vh j mj F;refine Mine.al I 11<|aB<|sl I 12<|gm I C.item g<|nl I 0 rfl<|og<|an<|nl I 11 rfl<|a1<|xn 0<|iu I (qL (d:=d) C.F C.item.y g r 0 hr u.toSmall) kt ?_;refine aB<|sl I 13<|mb I PySem.F.plainAttrs_dict PySem.F.slot_dict_get PySem.F.type_dict_get<|nl I 4 rfl ⟨.dict (.led 1 rfl),an<|nl I 12 rfl<|a1<|il<|dJ<|kw<|Db (k:=g.off r) (z:= -1) 1 I.ok rfl l.nd ?_⟩;unfold CD;cases hl:c.lookup (g.off r)with
  |none=>have P:=l.put u hk N Yl q (m':=uQ g j mj) (λ t=>⟨.inr,λ h=>h.elim (λ YE=>by refine b4 YE λ m a Z=>?_;exact by rw[hl]at a;cases a) id⟩) (by unfold wU;rw[hl];exact cp _);rw[<-ht]at P;exact aB<|eW<|tq<|nl I 13 rfl<|dJ<|tU ⟨_,rfl,iz rfl<|aB<|ss<|nl I 9 rfl<|nl I 4 rfl<|nl I 12 rfl<|xa (k:=g.off r) 1 I.ok rfl l.nd y rfl<|aB<|xe I<|ge I<|nl I 5 rfl ⟨H,_,0,rfl,rfl,nl I 12 rfl<|uF Nat (x:=g.off r) 0 rfl A rfl<|bm<|bm ⟨(f8 (g.off r) (uQ g j mj) c,f++[g.off r],[_,_,_]),rfl,P⟩⟩⟩
  |some m=>
   refine aB<|eW<|tq<|nl I 13 rfl<|dJ<|tU ⟨_,rfl,fS (decide_eq_false (by show ¬((m:Nat):Int)<0;exact yn))<|aB<|eW<|tq<|bw<|nl I 13 rfl<|nl I 9 rfl<|B6<|nl I 13 rfl<|EZ ⟨_,rfl,?_⟩⟩;by_cases he:(m|||uQ g j mj)=m
   ·have P:=l.skip hl he;rw[<-ht]at P;exact fS (bne_eq_false_iff_eq.mpr he)<|bm<|bm<|bm ⟨(c,f,[_,_,_]),rfl,P⟩
   ·have P:=l.put u hk N Yl q (m':=m|||uQ g j mj) (λ t=>by rw[e5,fb];exact ⟨λ h=>h.imp (λ h=>⟨m,hl,h⟩) id,λ h=>h.imp (λ YD=>by refine b4 YD λ m' a b=>?_;exact by rw[hl]at a;cases a;exact b) id⟩) (by unfold wU;rw[hl];exact lD (GN he))
    rw[<-ht]at P;exact iz (bne_iff_ne.mpr he)<|aB<|ss<|bw<|nl I 13 rfl<|nl I 9 rfl<|B6<|nl I 4 rfl<|nl I 12 rfl<|xa (k:=g.off r) 1 I.ok rfl l.nd y rfl<|aB<|xe I<|ge I<|nl I 5 rfl ⟨H,_,0,rfl,rfl,nl I 12 rfl<|uF Nat (x:=g.off r) 0 rfl A rfl<|bm<|bm<|bm ⟨(f8 (g.off r) (m|||uQ g j mj) c,f++[g.off r],[_,_,_]),rfl,P⟩⟩
 ·obtain ⟨c,f,UQ⟩:=b;have l:Ct g k j mj n' ((g.by X).take (g.by X).length) c f:=l;rw[a0]at l;refine bm ⟨2*room g.owners.length g.tc c+f.length,aQ l.fit (by rw[aF];exact b_ _),(c,f,[_,_,_,_,_,_,_,_]),rfl,rfl,aA l.fit (aA (b0 _ 1) hn),l.toCw,λ i m hi B r q=>?_⟩;by_cases e:i=j
  ·subst e;have:=l.own B;rw[show c.lookup i=ah m from hi]at this;cases this;exact l.WR r (Df.mpr ⟨q.1,by have:=q.2;exact LY this M⟩)
  ·exact l.W7 i m hi B e r q
end
noncomputable def ja{α:Type}(f:α->V)(L:List (aG×List α)):Mu:=L.map λ p=>(p.1,.list (p.2.map f))
noncomputable def gt{α:Type}(L:List (aG×List α))(j:Nat):aG×List α:=L.getD (L.length-1-j) (0,[])
section
variable{f:α->V}{L:List (aG×List α)}
theorem lR(a:j<L.length)(post:Mu):(ja f L++post)[L.length-1-j]? =ah ((gt L j).1,.list ((gt L j).2.map f)):=by have h:L.length-1-j<L.length:=bI ‹_›;dsimp only[ja,gt];refine (c0 (by rw[au];exact h)).trans ?_;refine (aN).trans ?_;rw[ay h,e4 h];rfl
theorem vU(b:j<L.length)(post:Mu)(a:aG)(xs:List α):(ja f L++post).set (L.length-1-j) (a,.list (xs.map f))=ja f (L.set (L.length-1-j) (a,xs))++post:=by unfold ja;refine (y0 _ _ (by rw[au];exact (bI ‹_›))).trans ?_;rw[fW]
theorem k9(p:aG×MO)(post:Mu):(ja f L++p::post)[L.length]? =ah p:=by unfold ja;refine (bG (by rw[au];exact aT _)).trans ?_;rw[au,eO];rfl
theorem vV(p q:aG×MO)(post:Mu):(ja f L++p::post).set L.length q=ja f L++q::post:=by unfold ja;refine (d2 _ _ (by rw[au];exact aT _)).trans ?_;rw[au,eO];rfl
theorem qf(x:aG×List α)(a:j<L.length):gt (x::L) j=gt L j:=by unfold gt;simp only[bj,show L.length+1-1-j=(L.length-1-j)+1 from GB a];rfl
theorem uh(x:aG×List α):gt (x::L) L.length=x:=by unfold gt;simp only[bj,j6,eO];rfl
theorem Cz(a:j<L.length){i:Nat}(hi:i<L.length)(x:aG×List α):gt (L.set (L.length-1-j) x) i=if j=i then x else gt L i:=by
 unfold gt;rw[bX,hW (bI ‹_›)];by_cases e:j=i
 ·rw[if_pos e,if_pos (by exact congrArg _ e)]
 ·rw[if_neg e,if_neg (GA a hi e)]
end
theorem B_(F:Nat->V)(X:Nat):∀P:List (Nat×Nat),ez (P.map λ p=>(V.nat p.1,F p.2)) (.nat X)=(P.lookup X).map F:=by
 intro P;induction P with
 |nil=>exact rfl
 |cons c l d=>
  obtain ⟨a,b⟩:=c;dsimp only[ez]at*;simp only[be,cU,bq,kX];by_cases e:X=a
  ·subst e;simp
  ·simp only[show ((a:Int)==(X:Int))=ao by simp;exact BM e,beq_eq_false_iff_ne.mpr e];exact (d)
theorem tZ(F:Nat->V)(P:List (Nat×Nat)):(P.map λ p=>(V.nat p.1,F p.2)).map (·.1)=(P.map (·.1)).map V.nat:=by simp only[bs,bs];rfl
theorem GU(F:Nat->V)(P:List (Nat×Nat)):∀p∈(P.map λ p=>(V.nat p.1,F p.2)),kk p.1=1:=λ p b=>by refine b4 (aC.mp b) λ q Z a=>?_;subst a;rfl
theorem m9{l:List Nat}(h:l.Nodup):(l.map V.nat).Nodup:=by rw[aO,bS];exact (aO.mp h).imp λ h e=>h (yx.mp e)
theorem B9(F:Nat->V){P:List (Nat×Nat)}(X:Nat)(nd:(P.map (·.1)).Nodup):f5 (.nat X) (P.map λ p=>(V.nat p.1,F p.2)):=
 ⟨by (dsimp only[uc]);decide,λ p a=>GU F P p a,by simp only[tZ];exact m9 nd⟩
theorem jG{l:List Nat}(h:l.Pairwise (·<·)):du (l.map V.nat):=.map h λ h=>Ky.as (Cp (cV.mpr h))
theorem kZ{l:List (Nat×Nat)}(h:l.Pairwise λ a b=>a.1<b.1):du (l.map dp):=.map h λ h=>Ky.as (Cp (cV.mpr h))
theorem pZ(l:List Nat):∀x∈l.map V.nat,Sh 0 x:=λ x b=>by refine b4 (aC.mp b) λ n Z a=>?_;subst a;exact .int _
theorem qI(l:List (Nat×Nat)):∀x∈l.map dp,Sh 2 x:=λ x b=>by refine b4 (aC.mp b) λ n Z a=>?_;subst a;exact .pair _ _
noncomputable def cX(g:Gr)(es:List (Nat×Nat))(X:Nat):List (Nat×Nat):=(es.filter λ p=>g.after p.1==((X:Nat):Int)).map λ p=>(p.1+1,p.2)
noncomputable def wy(g:Gr)(es:List (Nat×Nat))(X:Nat):List (Nat×Nat):=(aZ g.owners.length).filterMap λ i=>if g.after i=((X:Nat):Int)then (es.lookup i).map λ m=>(i+1,m)else ai
noncomputable def pN(g:Gr)(es:List (Nat×Nat)):List Nat:=(aZ g.names.length).filter λ X=>!(cX g es X).isEmpty
noncomputable def RX(g:Gr)(es:List (Nat×Nat)):List (Nat×List (Nat×Nat)):=(pN g es).map λ X=>(X,wy g es X)
noncomputable def NQ(p:Nat×List (Nat×Nat)):V:=.tup [.nat p.1,e6 p.2]
theorem lM(g:Gr)(es:List (Nat×Nat))(p:Nat×Nat)(X:Nat):cX g (es++[p]) X=if g.after p.1=((X:Nat):Int)then cX g es X++[(p.1+1,p.2)]else cX g es X:=by
 unfold cX;simp only[ou,aK];by_cases h:g.after p.1=((X:Nat):Int)
 ·rw[if_pos h,lx (by rw[beq_iff_eq];exact h)];rfl
 ·rw[if_neg h,ly (by rw[beq_iff_eq];exact h)];simp
theorem qk{es:List (Nat×Nat)}{X:Nat}(nd:(es.map (·.1)).Nodup)(j:∀p∈es,p.1<g.owners.length){q:Nat×Nat}:q∈wy g es X↔q∈cX g es X:=by
 unfold wy cX;simp only[d8,aC];constructor
 ·intro e;refine b4 e λ i hi h=>?_;split at h
  ·rename_i ha;refine b4 (bZ.mp h) λ m b a=>?_;exact ⟨(i,m),b3.mpr ⟨c5 b,by simp only[beq_iff_eq];exact ha⟩,a⟩
  ·exact nomatch h
 ·intro d;refine b4 d λ p f c=>?_;subst c;refine za (b3.mp f) λ b a=>?_;simp only[beq_iff_eq]at a;exact ⟨p.1,bN.mpr (j p b),by (refine (if_pos a).trans ?_;rw[eL nd (show (p.1,p.2)∈es from b)]);rfl⟩
theorem oj(g:Gr)(es:List (Nat×Nat))(X:Nat):(wy g es X).Pairwise λ a b=>a.1<b.1:=by
 skip;refine pG _ (λ a b f p c q e=>?_) lH;split at c<;>split at e
 ·refine b4 (bZ.mp c) λ m Z d=>?_;subst d;refine b4 (bZ.mp e) λ n Z h=>?_;subst h;exact lD f
 ·exact nomatch e
 ·cases c
 ·cases c
theorem tQ{es:List (Nat×Nat)}{X:Nat}(nd:(es.map (·.1)).Nodup):(cX g es X).Nodup:=by unfold cX;simp only[aO,bS];refine List.Pairwise.filter _ ?_;simp only[aO,bS]at nd;exact nd.imp λ h e=>h (by have:=congrArg jP e;simpa using this)
theorem wx{es:List (Nat×Nat)}{X:Nat}(nd:(es.map (·.1)).Nodup)(a:∀p∈es,p.1<g.owners.length):(cX g es X).Perm (wy g es X):=
 (dQ (tQ nd) ((oj g es X).imp λ h e=>by rw[e]at h;exact bA _ h)).mpr λ Z=>(qk nd a).symm
theorem xU{es:List (Nat×Nat)}{X:Nat}(nd:(es.map (·.1)).Nodup)(b:∀p∈es,p.1<g.owners.length)(a:ys.Perm ((cX g es X).map dp))(c:du ys):ys=(wy g es X).map dp:=
 du.uniq (k:=2) (a.trans ((wx nd b).map _)) (λ x d=>qI _ x (a.mem_iff.mp d)) c (kZ (oj g es X))
theorem Ds(a:c_ g){i X:Nat}(h:g.after i=((X:Nat):Int)):X<g.names.length:=by
 unfold Gr.after at h;by_cases hd:g.Q7 i<(g.right (g.Q3 i)).length
 ·rw[if_pos hd]at h;exact GD h (jn a _ (bd hd 0))
 ·rw[if_neg hd]at h;exact (Gz h).elim
theorem uH(b:c_ g){es:List (Nat×Nat)}{X:Nat}:X∈pN g es↔cX g es X≠[]:=by
 unfold pN;simp only[b3,bN,pH,List.isEmpty_eq_false_iff];refine ⟨λ h=>h.2,λ h=>⟨?_,h⟩⟩;cases e:cX g es X with
 |nil=>exact absurd e h
 |cons q l=>refine b4 (aC.mp (show q∈cX g es X by rw[e];exact .head _)) λ p a Z=>?_;have:=(b3.mp a).2;rw[beq_iff_eq]at this;exact Ds b this
theorem my(g:Gr)(es:List (Nat×Nat)):(pN g es).Pairwise (·<·):=lH.filter _
theorem xS(c:c_ g){es:List (Nat×Nat)}{l:List Nat}(nd:l.Nodup)(hk:∀X,X∈l↔cX g es X≠[])(a:ys.Perm (l.map V.nat))(b:du ys):ys=(pN g es).map V.nat:=by exact du.uniq (k:=0) (a.trans (((dQ nd ((my g es).imp ch)).mpr λ X=>(hk X).trans (uH c).symm).map _)) (λ x d=>pZ _ x (a.mem_iff.mp d)) b (jG (my g es))
structure Ad(g:Gr)(es:List (Nat×Nat))(i:Nat)(L:List (aG×List (Nat×Nat)))(P:List (Nat×Nat))(kvs:List (V×V)):Prop where
 kv:kvs=P.map λ p=>(V.nat p.1,V.ref (gt L p.2).1)
 ix:∀p∈P,p.2<L.length
 nk:(P.map (·.1)).Nodup
 ni:(P.map (·.2)).Nodup
 row:∀p∈P,(gt L p.2).2=cX g (es.take i) p.1
 key:∀X,X∈P.map (·.1)↔cX g (es.take i) X≠[]
 len:L.length<=i
theorem Ad.skip{es:List (Nat×Nat)}{L:List (aG×List (Nat×Nat))}{P:List (Nat×Nat)}(A:Ad g es i L P kvs)(hi:i<es.length){p:Nat×Nat}(a:es.getD i (0,0)=p)(h:g.after p.1<0):Ad g es (i+1) L P kvs:=by
 subst a;have e:∀X:Nat,cX g (es.take (i+1)) X=cX g (es.take i) X:=λ X=>by rw[aS hi,lM,<-e4 hi (0,0),if_neg (LX h)]
 exact ⟨A.kv,A.ix,A.nk,A.ni,λ p a=>by simp only[e];exact A.row p a,λ X=>by rw[e];exact A.key X,cY A.len⟩
theorem Ad.old{g:Gr}{es:List (Nat×Nat)}{i:Nat}{L:List (aG×List (Nat×Nat))}{P:List (Nat×Nat)}{kvs:List (V×V)}(A:Ad g es i L P kvs)(hi:i<es.length){p:Nat×Nat}(b:es.getD i (0,0)=p){X j:Nat}(h:g.after p.1=((X:Nat):Int))(m:P.lookup X=ah j)(a:aG):
 Ad g es (i+1) (((a,[])::L).set (((a,[])::L).length-1-j) ((gt L j).1,(gt L j).2++[(p.1+1,p.2)])) P kvs:=by
 subst b;have c:=c5 m;have o:=A.ix _ c;have e:∀Yy:Nat,cX g (es.take (i+1)) Yy=if X=Yy then cX g (es.take i) Yy++[((es.getD i (0,0)).1+1,(es.getD i (0,0)).2)]else cX g (es.take i) Yy:=λ Yy=>by
  simp only[aS hi,lM,<-e4 hi (0,0),h];by_cases q:X=Yy
  ·rw[if_pos q,if_pos (by exact congrArg _ q)]
  ·rw[if_neg q,if_neg (HZ q)]
 have k:∀p∈P,gt (((a,[])::L).set (((a,[])::L).length-1-j) ((gt L j).1,(gt L j).2++[((es.getD i (0,0)).1+1,(es.getD i (0,0)).2)])) p.2=if j=p.2 then ((gt L j).1,(gt L j).2++[((es.getD i (0,0)).1+1,(es.getD i (0,0)).2)])else gt L p.2:=λ p b=>by have:=A.ix p b;rw[Cz (by exact cA ‹_›) (by exact cA ‹_›),qf _ this]
 have inj:∀p∈P,(j=p.2↔X=p.1):=λ p b=>by
  constructor
  ·intro e;refine Eb (dF.mp c) λ u f l=>?_;refine Eb (dF.mp b) λ v n d=>?_;have:u=v:=by exact (fg (by simpa using f) A.ni).mp (by simp only[aN,aN,ay f,ay n,l,d];exact congrArg ah e)
   subst this;rw[l]at d;simp only[<-d]
  ·intro e;have:=eL A.nk (show (p.1,p.2)∈P from b);rw[<-e,m]at this;cases this;rfl
 refine ⟨?_,λ p b=>?_,A.nk,A.ni,λ p b=>?_,λ Yy=>?_,?_⟩
 ·refine A.kv.trans ?_;refine bE λ p b=>?_;rw[k p b];split
  ·rename_i e;rw[<-e]
  ·rfl
 ·rw[bX];exact cA (A.ix p b)
 ·simp only[k p b,e];by_cases q:j=p.2
  ·rw[if_pos q,if_pos ((inj p b).mp q),q];show (gt L p.2).2++_=_;rw[A.row p b]
  ·rw[if_neg q,if_neg λ h=>q ((inj p b).mpr h)];exact A.row p b
 ·rw[e];by_cases q:X=Yy
  ·rw[if_pos q,<-q];exact ⟨λ Z h=>by simp at h,λ Z=>aC.mpr ⟨_,c,rfl⟩⟩
  ·rw[if_neg q];exact A.key Yy
 ·rw[bX];exact ea A.len
theorem Ad.new{g:Gr}{es:List (Nat×Nat)}{i:Nat}{L:List (aG×List (Nat×Nat))}{P:List (Nat×Nat)}{kvs:List (V×V)}(A:Ad g es i L P kvs)(hi:i<es.length){p:Nat×Nat}(b:es.getD i (0,0)=p){X:Nat}(h:g.after p.1=((X:Nat):Int))(o:P.lookup X=ai)(a:aG):
 Ad g es (i+1) ((a,[(p.1+1,p.2)])::L) (P++[(X,L.length)]) (kvs++[(.nat X,.ref a)]):=by
 subst b;have j:X∉P.map (·.1):=λ h=>by refine ze (eM.mpr h) λ m h=>?_;rw[o]at h;cases h
 have d:cX g (es.take i) X=[]:=by
  cases q:cX g (es.take i) X with
  |nil=>rfl
  |cons x l=>exact absurd ((A.key X).mpr (by rw[q];simp)) j
 have e:∀Yy:Nat,cX g (es.take (i+1)) Yy=if X=Yy then [((es.getD i (0,0)).1+1,(es.getD i (0,0)).2)]else cX g (es.take i) Yy:=λ Yy=>by
  simp only[aS hi,lM,<-e4 hi (0,0),h];by_cases q:X=Yy
  ·rw[if_pos q,if_pos (by exact congrArg _ q),<-q,d];rfl
  ·rw[if_neg q,if_neg (HZ q)]
 have n:∀p∈P,gt ((a,[((es.getD i (0,0)).1+1,(es.getD i (0,0)).2)])::L) p.2=gt L p.2:=λ p b=>qf _ (A.ix p b);refine ⟨?_,λ p b=>?_,?_,?_,λ p b=>?_,λ Yy=>?_,ea A.len⟩
 ·simp only[A.kv,aK];refine congr (congrArg _ (bE λ p b=>by rw[n p b])) ?_;dsimp only[fV];rw[uh]
 ·skip;rcases aM.mp b with h|h
  ·exact cA (A.ix p h)
  ·rw[aE.mp h];exact b_ _
 ·simp only[aK,aV];exact ⟨A.nk,by simp,λ x k y c e=>j (by rw[fV,aE]at c;simp only[show X=x from (e.trans c).symm];exact k)⟩
 ·simp only[aK,aV];refine ⟨A.ni,by simp,λ x k y c e=>?_⟩;rw[fV,aE]at c;refine b4 (aC.mp k) λ p b r=>?_;exact absurd (A.ix p b) (by rw[r,e,c];exact bA _)
 ·rcases aM.mp b with h|h
  ·have f:X≠p.1:=λ e=>j (by simp only[e];exact bp h);rw[n p h,e,if_neg f];exact A.row p h
  ·rw[aE.mp h,uh,e,if_pos rfl]
 ·simp only[e,aK,aM];by_cases q:X=Yy
  ·rw[if_pos q];exact ⟨λ Z h=>(nomatch h),λ Z=>.inr (q▸.head _)⟩
  ·rw[if_neg q,<-A.key Yy];exact ⟨λ h=>h.elim id λ h=>absurd (by simpa using h) (Ne.symm q),.inl⟩
section
variable{f:aG}
theorem n7(I:f6 O G d T){a:List (Option V)}{l:List (Str×NameKind)}{R:List (Option V)}(h:autoParam (∀n,n6 ((T n).map (·.1)) a l=R) rf):n6 (O.ns.map (·.1)) a l=R:=by refine ze I.ns λ n e=>?_;rw[e];exact h n
theorem A7{es:List (Nat×Nat)}(a:O.A.handled=ai)(nd:(es.map (·.1)).Nodup):i3 O O.A (.dict (dV es)) es.length (λ i=>.nat (es.getD i (0,0)).1) (λ Z=>True) Y:=by have:=A6 (O:=O) (Y:=Y) (A:=O.A) a (px es) (fO nd);rw[show (dV es).length=es.length from au ..]at this;refine this.as _ λ i hi=>?_;rw[lb,fN (d:=0) (by simpa using hi),e4 (by simpa using hi),bU,e4 hi]
theorem Nm{a:aG}{X:Nat}{F:Nat->V}{P:List (Nat×Nat)}(i:Nat){Q:V->St->Prop}(ok:O.Ok)(hi:Y.mu[i]? =ah (a,.dict kvs))(b:kvs=P.map λ p=>(V.nat p.1,F p.2))(nd:(P.map (·.1)).Nodup)(hz:P.length<=2^20)(d:∀j,P.lookup X=ah j->Q (F j) Y)(c:P.lookup X=ai->Q nF ⟨Y.vals,Y.mu.set i (a,.dict (kvs++[(.nat X,nF)]))⟩):cS O Ex (.builtin "dict.setdefault") [.ref a,.nat X,nF] Q Y:=by
 refine uB i ok hi (by simp only[b];exact B9 F X nd) (by rw[b,au];exact hz) ?_;have:=B_ F X P;rw[<-b]at this;rw[this];cases e:P.lookup X with
 |some j=>exact d j e
 |none=>exact c e
theorem xc(C:Cmn G CG CR)(Yy:Fn G "advanced" "advanced" (top 23) ["grammar","items"] [])(g:Gr)(w:c_ g)(es:List (Nat×Nat))(nd:(es.map (·.1)).Nodup)(T:∀p∈es,p.1<g.owners.length):
 cD G (d+2) (.ref Yy.f) [g.v CG CR,.dict (dV es)] J (λ v J'=>v=.list ((RX g es).map NQ)/\J'=J):=by
 refine lX Yy.y _ _ _ rfl λ O I Oo=>?_;have hz:=w.own;have u:es.length<=g.owners.length:=by
  have:=aU nd (l₂:=aZ g.owners.length) λ x Q=>by refine b4 (aC.mp Q) λ p b Tj=>?_;subst Tj;exact bN.mpr (T p b)
  simpa using this
 refine aB<|DH I Oo 2<|hH I.ok λ af=>?_;let st:List (aG×List (Nat×Nat))×List (Nat×Nat)×List (V×V)×List (Option V)->St:=λ a=>⟨[ah (g.v CG CR),ah (.dict (dV es)),ah (.ref af),ov a.2.2.2 0,ov a.2.2.2 1,ov a.2.2.2 2,ai],ja dp a.1++(af,.dict a.2.2.1)::J⟩
 let In:Nat->List (aG×List (Nat×Nat))×List (Nat×Nat)×List (V×V)×List (Option V)->Prop:=λ i a=>Ad g es i a.1 a.2.1 a.2.2.1
 refine aB<|iH st In<|nl I 1 rfl ⟨_,_,_,A7 I.ok.hand nd,([],[],[],[]),rfl,⟨rfl,λ p b=>(nomatch b),bK,bK,λ p b=>(nomatch b),λ X=>⟨λ h=>(nomatch h),λ h=>absurd rfl h⟩,aT _⟩,λ Z Z Z Z=>trivial,λ i a hi ha=>?_,λ a ha=>?_⟩
 ·obtain ⟨L,P,kvs,o⟩:=a;have A:Ad g es i L P kvs:=ha;have n:=T _ (bd hi (0,0));have H:=gY nd hi;refine ze (show ∃p,es.getD i (0,0)=p from ⟨_,rfl⟩) λ p b=>?_;rw[b]at n H ⊢;refine jw (g.item_at n) λ hR hO hD=>?_;have Y:L.length<=i:=A.len;refine Mine.al I 3<|aB<|sl I 4<|gm I C.after g<|nl I 0 rfl<|og<|a1<|nl I 3 rfl<|iu I (tP (d:=d) C.F C.after.y C.len g p.1 w.toSmall n) kt ?_;refine aB<|eW<|tq<|nl I 4 rfl<|dJ<|H5 ⟨_,rfl,?_⟩;by_cases S:0<=g.after p.1
  ·refine ze (show ∃X:Nat,g.after p.1=(X:Int)from ⟨(g.after p.1).toNat,LW S⟩) λ X K=>?_;have B:P.length<=2^20:=by
    have:=aU A.ni (l₂:=aZ L.length) λ x Q=>by refine b4 (aC.mp Q) λ q hq T8=>?_;subst T8;exact bN.mpr (A.ix q hq)
    rw[au,bf]at this;exact aA this (aA Y (Gy hi u hz))
   have l:∀j,P.lookup X=ah j->(gt L j).2.length<=2^20:=λ j t=>by rw[A.row _ (c5 t)];unfold cX;rw[au];exact aA (c8 (λ p=>g.after p.1==((X:Nat):Int)) (es.take i)) (aA (List.length_take_le' ..) (aA u (bc (aH ‹_› (by decide)))))
   have R:g.off (g.Q3 p.1)+(g.Q7 p.1+1)=p.1+1:=by unfold Gr.Q7;exact Gx hO
   refine iz (decide_eq_true S)<|aB<|sl I 5<|gm I C.item g<|nl I 0 rfl<|og<|an<|gm I C.Ri g<|nl I 0 rfl<|og<|a1<|nl I 3 rfl<|iu I (kq (d:=d) C.F C.Ri.y g p.1 w.toSmall n) kt<|a1<|bw<|gm I C.RK g<|nl I 0 rfl<|og<|a1<|nl I 3 rfl<|iu I (nM (d:=d) C.F C.RK.y g p.1 w.toSmall n) kt<|xn 1<|fM<|iu I (qL (d:=d) C.F C.item.y g (g.Q3 p.1) (g.Q7 p.1+1) hR w.toSmall) kt ?_;rw[K,R];refine aB<|xe I<|ge I<|mb I PySem.F.plainAttrs_dict PySem.F.slot_dict_setdefault PySem.F.type_dict_setdefault<|nc I 2 rfl ⟨.dict (.led L.length (k9 _ _)),an<|nl I 4 rfl<|a1<|ey I.ok<|cx ⟨bg _,λ a=>?_⟩⟩;refine Nm (F:=λ j=>.ref (gt L j).1) (L.length+1) I.ok (k9 (f:=dp) (L:=(a,[])::L) (af,.dict kvs) J) A.kv A.nk B (λ j t=>?_) λ t=>?_
   ·have r:=A.ix _ (c5 t);have c:=lR (f:=dp) (L:=(a,[])::L) (j:=j) (cA r) ((af,.dict kvs)::J);rw[qf _ r]at c;exact ⟨_,_,_,rfl,c,t2<|nl I 5 rfl<|sb<|nl I 1 rfl<|nl I 3 rfl<|ug I.ok nd H<|uF (Nat×Nat) (f:=dp) (x:=(p.1+1,p.2)) _ c (l j t) (vU (f:=dp) (L:=(a,[])::L) (j:=j) (cA r) ((af,.dict kvs)::J) (gt L j).1 ((gt L j).2++[(p.1+1,p.2)]))<|bm<|bm ⟨(_,P,kvs,[_,_,_]),rfl,A.old hi b K t a⟩⟩
   ·have Xj:=vV (f:=dp) (L:=L) (af,MO.dict kvs) (af,MO.dict (kvs++[(.nat X,.ref a)])) J;exact ⟨a,[],0,rfl,rfl,t2<|nl I 5 rfl<|sb<|nl I 1 rfl<|nl I 3 rfl<|ug I.ok nd H ⟨0,[],(a,.list [dp (p.1+1,p.2)])::(ja dp L++(af,.dict (kvs++[(V.nat X,V.ref a)]))::J),rfl,bg _,congrArg ((a,MO.list [dp (p.1+1,p.2)])::·) Xj,bm<|bm ⟨((a,[(p.1+1,p.2)])::L,P++[(X,L.length)],_,[_,_,_]),rfl,A.new hi b K t a⟩⟩⟩
  ·exact fS (decide_eq_false S)<|bm<|bm ⟨(L,P,kvs,[_,_,_]),rfl,A.skip hi b (LU S)⟩
 ·obtain ⟨L,P,kvs,o⟩:=a;have A:Ad g es es.length L P kvs:=ha;have l:=A.row;have s:=A.key;rw[a0]at l s;have B:P.length<=es.length:=by
   have:=aU A.ni (l₂:=aZ L.length) λ x Q=>by refine b4 (aC.mp Q) λ q hq T7=>?_;subst T7;exact bN.mpr (A.ix q hq)
   rw[au,bf]at this;exact aA this A.len
  have N:∀p∈kvs,kk p.1=1:=by rw[A.kv];exact GU (λ j=>.ref (gt L j).1) P
  have M:(kvs.map (·.1)).Nodup:=by rw[A.kv,tZ (λ j=>.ref (gt L j).1)];exact m9 A.nk
  refine aB<|dB<|lc I<|cb I 6 C.sorted<|a1<|nc I 2 rfl<|kG I.ok (.led L.length (k9 _ _)) (by rw[A.kv,au];exact LS B u hz) N M λ ys b U=>?_;rw[A.kv,tZ (λ j=>.ref (gt L j).1)]at b;have E:=xS w A.nk s b U;subst E;clear b U;have Y_:(pN g es).length<=2^20:=by have:=c8 (λ X=>!(cX g es X).isEmpty) (aZ g.names.length);rw[bf]at this;exact aA this (aA (bc w.Vg) (by decide))
  refine .F ⟨_,_,_,lA V.nat (pN g es) 0 I.ok.hand,Y_,(λ i e acc m=>∃o,e=[ai,o,ai,ai,ah (.ref af)]/\acc=((pN g es).take i).map (λ X=>NQ (X,wy g es X))/\m=ja dp L++(af,.dict kvs)::J),⟨_,n7 I,rfl,rfl⟩,?_,?_,?_⟩
  ·intro i e acc m hi Ua;obtain ⟨o,rfl,rfl,rfl⟩:=Ua;exact ⟨by rw[au,bb];exact qV,λ Z=>trivial⟩
  ·intro O' C' i e acc m D hi T_;obtain ⟨o,rfl,rfl,rfl⟩:=T_;have y:=C'.SE I;have K:=(uH w).mp (bd hi 0);rw[(show (pN g es).take (i+1)=(pN g es).take i++[(pN g es).getD i 0] by rw[aS hi,e4 hi])];generalize (pN g es).getD i 0=X at K ⊢;refine ze (eM.mpr ((s X).mpr K)) λ j t=>?_;have r:j<L.length:=A.ix _ (c5 t);have hr:(gt L j).2=cX g es X:=l _ (c5 t);have c:=lR (f:=dp) r ((af,MO.dict kvs)::J);have hv:ez kvs (.nat X)=ah (.ref (gt L j).1):=by rw[A.kv,B_ (λ j=>.ref (gt L j).1),t];rfl
   have z:(gt L j).2.length<64:=by rw[hr];unfold cX;rw[au];exact aQ (c8 (λ p=>g.after p.1==((X:Nat):Int)) es) (HY u hz)
   refine Mine.al y 1<|gs<|t2<|nl y 1 rfl<|cb y 2 C.tup<|a1<|cb y 3 C.sorted<|a1<|sb<|nc y 4 rfl<|nl y 1 rfl ⟨⟨_,.dict (.led (L.length+1) (k9 _ _))⟩,jp y.ok (.led (L.length+1) (k9 _ _)) ⟨by rw[uc];decide,λ p b=>(N p b).trans (uc X).symm,M⟩ hv<|kF (k:=2) y.ok (.led (L.length-1-j+1) c) (by rw[au];exact z) (qI _) λ ys b U=>?_⟩;rw[hr]at b;have E:=xU nd T b U;subst E;have W:(wy g es X).length<=2^20:=by rw[<-(wx nd T).length_eq,<-hr];exact bc (bC z (by decide))
   refine .F<|rL .frozen (by rw[au];exact W) ⟨[],rfl,_,rfl,?_,rfl⟩;rw[aK];rfl
  ·intro e acc m T9;obtain ⟨o,rfl,rfl,rfl⟩:=T9;rw[a0];refine .F ⟨ja dp L++[(af,.dict kvs)],J,J,_,?_,λ Z h=>h,dE.refl _ _,.refl _,?_,rfl⟩
   ·rw[bY];rfl
   ·unfold RX;rw[bs];rfl
end
noncomputable abbrev eZ:=List (Nat×Nat)
variable{ks:List (eZ×Int)}
theorem ET:∀(l:List Ru) (a b r d:Nat),r<l.length->d<=((l.map (·.right)).getD r []).length->a<=(hQ a l).getD r 0/\(gP b l)[(hQ a l).getD r 0+d-a]? =ah (b+r):=by
 intro l;induction l with
 |nil=>exact λ Z Z Z Z h=>nomatch h
 |cons q l e=>
  intro a b r d f h;cases r with
  |zero=>have h:d<=q.right.length:=h;refine ⟨aT _,?_⟩;show (bu (q.right.length+1) b++gP (b+1) l)[a+d-a]? =_;rw[cC,c0 (by simp only[bP];exact dc ‹_›),lw,if_pos (dc ‹_›)];rfl
  |succ r=>have c:=e (a+(q.right.length+1)) (b+1) r d (by simpa using f) h;rw[(show (hQ a (q::l)).getD (r+1) 0=(hQ (a+(q.right.length+1)) l).getD r 0 from rfl)];refine ⟨LR c.1,?_⟩;dsimp only[qZ,i7];rw[bG (by rw[bP];exact LQ c.1),bP,show (hQ (a+(q.right.length+1)) l).getD r 0+d-a-(q.right.length+1)=(hQ (a+(q.right.length+1)) l).getD r 0+d-(a+(q.right.length+1))from LP,c.2];exact congrArg ah (cR _ _ _)
theorem Gr.at(g:Gr){r d:Nat}(a:r<g.rules.length)(hd:d<=(g.right r).length):g.off r+d<g.owners.length/\g.Q3 (g.off r+d)=r/\g.Q7 (g.off r+d)=d:=by
 refine za (ET g.rules 0 0 r d a hd) λ Z h=>?_;rw[cO]at h;have e:g.Q3 (g.off r+d)=r:=by unfold Gr.Q3;exact congrArg (·.getD 0) h
 exact ⟨(bh.mp h).1,e,by unfold Gr.Q7;rw[e,cC]⟩
theorem yw(g:Gr){i:Nat}(hi:i<g.owners.length)(hd:g.Q7 i<(g.right (g.Q3 i)).length):i+1<g.owners.length/\g.Q3 (i+1)=g.Q3 i/\g.Q7 (i+1)=g.Q7 i+1:=by
 have a:=g.item_at hi;have e:g.off (g.Q3 i)+(g.Q7 i+1)=i+1:=by exact Gx a.2.1
 have:=g.at a.1 (d:=g.Q7 i+1) hd;rw[e]at this;exact this
open Classical in
noncomputable def iP(g:Gr)(k:eZ):List (Nat×Nat):=(aZ g.owners.length).filterMap λ i=>if lC g k i then ah (i,iy (λ t=>jy g k t i) g.tc)else ai
noncomputable def fk(g:Gr)(k:eZ):List (Nat×eZ):=RX g (iP g k)
theorem gZ{k:eZ}(hk:gq g k):j0 g k (iP g k):=by
 have e:∀p:Nat×Nat,p∈iP g k↔lC g k p.1/\p.2=iy (λ t=>jy g k t p.1) g.tc:=λ p=>by
  unfold iP;refine d8.trans ?_;constructor
  ·rintro ⟨i,hi,h⟩;split at h
   ·rename_i hI;cases h;exact ⟨hI,rfl⟩
   ·cases h
  ·rintro ⟨l,m⟩;exact ⟨p.1,bN.mpr (l.lt hk),by (refine (if_pos l).trans ?_;rw[<-m])⟩
 refine ⟨?_,λ i=>⟨λ h=>?_,λ h=>?_⟩,λ p c=>((e p).mp c).2⟩
 ·unfold iP;simp only[aO,bS];refine pG _ (λ a b j p c q f=>?_) lH;split at c
  ·split at f
   ·cases c;cases f;exact ch j
   ·exact nomatch f
  ·exact nomatch c
 ·refine b4 (aC.mp h) λ p c d=>?_;subst d;exact ((e p).mp c).1
 ·exact aC.mpr ⟨(i,iy (λ t=>jy g k t i) g.tc),(e _).mpr ⟨h,rfl⟩,rfl⟩
theorem j0.mem{k:eZ}{es:List (Nat×Nat)}(C:j0 g k es)(p:Nat×Nat):p∈es↔lC g k p.1/\p.2=iy (λ t=>jy g k t p.1) g.tc:=by refine ⟨λ h=>⟨(C.keys _).mp (bp h),C.val p h⟩,λ c=>za c λ d b=>?_⟩;refine b4 (aC.mp ((C.keys _).mpr d)) λ q a e=>?_;have:=C.val q a;rw[e,<-b]at this;simp only[show p=q from lu e.symm this.symm];exact a
theorem j0.lookup{k:eZ}{es:List (Nat×Nat)}(C:j0 g k es)(a:j0 g k RB)(i:Nat):es.lookup i=RB.lookup i:=by
 cases h:es.lookup i with
 |some m=>exact (eL a.nd ((a.mem _).mpr ((C.mem _).mp (c5 h)))).symm
 |none=>
  cases h':RB.lookup i with
  |none=>rfl
  |some m=>rw[eL C.nd ((C.mem _).mpr ((a.mem _).mp (c5 h')))]at h;exact nomatch h
theorem j0.RX{k:eZ}{es:List (Nat×Nat)}(C:j0 g k es)(c:j0 g k RB):RX g es=RX g RB:=by
 have m:∀X,wy g es X=wy g RB X:=λ X=>by unfold wy;congr 1;funext i;rw[C.lookup c i]
 have j:pN g es=pN g RB:=by
  unfold pN;congr 1;funext X
  congr 1
  have:∀{a b:List (Nat×Nat)},j0 g k a->j0 g k b->cX g a X=[]->cX g b X=[]:=λ {a b} n s h=>by
   cases e:cX g b X with
   |nil=>rfl
   |cons q l=>
    have:q∈cX g b X:=by rw[e];exact .head _
    refine b4 (aC.mp this) λ p r o=>?_;refine za (b3.mp r) λ d f=>?_;have:q∈cX g a X:=aC.mpr ⟨p,b3.mpr ⟨(n.mem p).mpr ((s.mem p).mp d),f⟩,o⟩;rw[h]at this;cases this
  rw[fc,qm,qm];exact ⟨this C c,this c C⟩
 unfold Mine.RX;rw[j];exact bE λ X Z=>by rw[m]
theorem IH{k:eZ}(hk:gq g k){es:List (Nat×Nat)}(C:j0 g k es):RX g es=fk g k:=C.RX (gZ hk)
theorem oZ(n:c_ g){k:eZ}(hk:gq g k){p:Nat×eZ}(b:p∈fk g k):gq g p.2/\p.1<g.names.length:=by
 refine b4 (aC.mp b) λ X j e=>?_;subst e;have C:=gZ hk;have i:∀p∈iP g k,p.1<g.owners.length:=λ p b=>((C.mem p).mp b).1.lt hk;refine ⟨⟨?_,λ q d=>?_⟩,?_⟩
 ·have:=oj g (iP g k) X;simp only[aO,bS];exact this.imp ch
 ·have d:=(qk C.nd i).mp d;refine b4 (aC.mp d) λ p b f=>?_;subst f;refine za (b3.mp b) λ l c=>?_;rw[beq_iff_eq]at c;refine ⟨?_,?_⟩
  ·show p.1+1<_;have a:=i p l;have m:=g.item_at a;have hd:g.Q7 p.1<(g.right (g.Q3 p.1)).length:=eb λ h=>by unfold Gr.after at c;rw[if_neg (bR.mpr h)]at c;exact Gz c
   exact (yw g a hd).1
  ·have:=((C.mem p).mp l).2;show p.2<_;rw[this];exact oR _ _
 ·unfold pN at j;exact bN.mp (b3.mp j).1
noncomputable def jZ(X:Nat)(k:eZ)(ks:List (eZ×Int)):List (eZ×Int)×Nat:=match (ks.map (·.1)).idxOf? k with
 |some n=>(ks,n)
 |none=>(ks++[(k,(X:Int))],ks.length)
noncomputable def me(a:List (eZ×Int)×List (Nat×Nat))(p:Nat×eZ):List (eZ×Int)×List (Nat×Nat):=((jZ p.1 p.2 a.1).1,a.2++[(p.1,(jZ p.1 p.2 a.1).2)])
noncomputable def eE(ks:List (eZ×Int))(l:List (Nat×eZ)):List (eZ×Int)×List (Nat×Nat):=l.foldl me (ks,[])
noncomputable def dX(g:Gr):Nat->List (eZ×Int)
 |0=>[([(0,0)], -1)]
 |n+1=>match (dX g n)[n]? with
  |some p=>(eE (dX g n) (fk g p.1)).1
  |none=>dX g n
theorem FI:dX g 0=([([(0,0)], -1)]):=rfl
theorem Ak{g:Gr}{n}:dX g (n+1)=(match (dX g n)[n]? with
 |some p=>(eE (dX g n) (fk g p.1)).1
 |none=>dX g n):=rfl
noncomputable def E4(g:Gr)(n:Nat):List (Nat×Nat):=match (dX g n)[n]? with
 |some p=>(eE (dX g n) (fk g p.1)).2
 |none=>[]
theorem ww(X:Nat)(k:eZ)(ks:List (eZ×Int)):ks<+:(jZ X k ks).1:=by
 unfold jZ;cases (ks.map (·.1)).idxOf? k with
 |some n=>exact d6 _
 |none=>exact jQ _ _
theorem nN:∀(l:List (Nat×eZ)) (a:List (eZ×Int)×List (Nat×Nat)),a.1<+:(l.foldl me a).1:=by
 intro l;induction l with
 |nil=>intro Z;exact d6 _
 |cons p l b=>intro a;exact (ww p.1 p.2 a.1).trans (b (me a p))
theorem sS{l:List (Nat×eZ)}(i:Nat):(eE ks (l.take i)).1<+:(eE ks l).1:=by
 unfold eE
 conv=>rhs;rw[<-c7 i l,fh]
 exact nN _ _
theorem oK{l:List (Nat×eZ)}(hi:i<l.length)(d:Nat×eZ):eE ks (l.take (i+1))=me (eE ks (l.take i)) (l.getD i d):=by unfold eE;simp only[aS hi,fh,e4 hi];rfl
theorem yN(g:Gr)(n:Nat):dX g n<+:dX g (n+1):=by
 dsimp only[FI,Ak];cases (dX g n)[n]? with
 |none=>exact d6 _
 |some p=>exact nN _ (dX g n,[])
theorem iQ(g:Gr){n m:Nat}(h:n<=m):dX g n<+:dX g m:=by
 induction h with
 |refl=>exact d6 _
 |step _ a=>exact a.trans (yN g _)
theorem FJ(g:Gr)(n:Nat):0<(dX g n).length:=(iQ g (bg n)).length_le
theorem xO(g:Gr){n:Nat}(h:n<(dX g n).length):dX g (n+1)=(eE (dX g n) (fk g ((dX g n).getD n ([],0)).1)).1/\E4 g n=(eE (dX g n) (fk g ((dX g n).getD n ([],0)).1)).2:=by rw[Ak];dsimp only[E4];rw[ay h,e4 h];exact ⟨rfl,rfl⟩
theorem iA{X:Nat}{k:eZ}{n:Nat}(h:(ks.map (·.1)).idxOf? k=ah n):jZ X k ks=(ks,n):=by unfold jZ;rw[h]
theorem fU{X:Nat}{k:eZ}(h:(ks.map (·.1)).idxOf? k=ai):jZ X k ks=(ks++[(k,(X:Int))],ks.length):=by unfold jZ;rw[h]
noncomputable def nr(g:Gr)(ks:List (eZ×Int)):Prop:=(∀p∈ks,gq g p.1)/\(ks.map (·.1)).Nodup
theorem nr.add(h:nr g ks){X:Nat}{k:eZ}(hk:gq g k):nr g (jZ X k ks).1:=by
 cases e:(ks.map (·.1)).idxOf? k with
 |some n=>rw[iA e];exact h
 |none=>
  rw[fU e];refine ⟨λ p b=>?_,?_⟩
  ·rcases aM.mp b with q|q
   ·exact h.1 p q
   ·rw[aE.mp q];exact hk
  ·simp only[aK,aV];refine ⟨h.2,by simp,λ x d y a c=>?_⟩;rw[fV,aE]at a;rw[h_]at e;exact e (by rw[show k=x from (c.trans a).symm];exact d)
theorem nr.run:∀(l:List (Nat×eZ)) (a:List (eZ×Int)×List (Nat×Nat)),nr g a.1->(∀p∈l,gq g p.2)->nr g (l.foldl me a).1:=by
 intro l;induction l with
 |nil=>intro Z h Z;exact h
 |cons p l d=>intro a h b;exact d (me a p) (h.add (b p (.head _))) λ q c=>b q (.tail _ c)
theorem rO(f:c_ g)(d:0<g.owners.length):∀n,nr g (dX g n):=by
 intro n;induction n with
 |zero=>exact ⟨λ p c=>by rw[aE.mp c];exact ⟨by trivial,λ q b=>(bz (aE.mp b))▸⟨d,Nat.two_pow_pos _⟩⟩,by simp[FI]⟩
 |succ n a=>
  have a:=a;dsimp only[FI,Ak];cases e:(dX g n)[n]? with
  |none=>exact a
  |some p=>exact nr.run _ _ a λ q b=>(oZ f (a.1 p (aX e)) b).1
noncomputable def eC(ks:List (eZ×Int)):List (V×V):=ks.zipIdx.map λ p=>(e6 p.1.1,.nat p.2)
theorem nX{a b:eZ}(h:e6 a=e6 b):a=b:=by
 unfold e6 at h;have h:a.map dp=b.map dp:=by simpa using h
 have inj:∀x y:Nat×Nat,dp x=dp y->x=y:=λ x y h=>by unfold dp at h;simp at h;exact lu (Gw h) (Gv h)
 exact oq (λ x y h=>inj x y h) |>.mp h
theorem ud(k:eZ):kk (e6 k)=3:=by
 have:jo 7 (e6 k)=aj:=by unfold e6;rw[GY,b9];intro x b;refine b4 (aC.mp b) λ p Z a=>?_;subst a;rfl
 show (jo 7 (e6 k)).toNat*3=3;rw[this];rfl
theorem q_(ks:List (eZ×Int)):(eC ks).map (·.1)=(ks.map (·.1)).map e6:=by unfold eC;refine bs.trans ?_;rw[bs];apply dR;intro i;simp only[aN,mT,aN];cases ks[i]?<;>rfl
theorem xo(ks:List (eZ×Int))(p:eZ×Int):eC (ks++[p])=eC ks++[(e6 p.1,.nat ks.length)]:=by unfold eC;simp only[AL,aK];simp
theorem ph(h:nr g ks)(k:eZ):f5 (e6 k) (eC ks):=by
 refine ⟨by rw[ud];decide,λ p b=>?_,?_⟩
 ·refine b4 (aC.mp b) λ q Z a=>?_;subst a;show kk (e6 _)=_;simp only[ud,ud]
 ·rw[q_,aO,bS];exact (aO.mp h.2).imp λ h e=>h (nX e)
theorem zF(k:eZ):∀(ks:List (eZ×Int)),ez (eC ks) (e6 k)=((ks.map (·.1)).idxOf? k).map V.nat:=λ ks=>by
 have a:∀(l:List (eZ×Int)) (n:Nat),ez ((l.zipIdx n).map λ p=>(e6 p.1.1,V.nat p.2)) (e6 k)=((l.map (·.1)).idxOf? k).map λ i=>V.nat (i+n):=λ l=>by
  induction l with
  |nil=>intro n;rfl
  |cons q l b=>
   intro n;simp only[DO,be,be,fG];unfold ez at*;dsimp only[cU];by_cases e:q.1=k
   ·rw[show gz (e6 (q,n).1.1) (e6 k)=aj by simp only[f2];exact congrArg e6 e,if_pos (by rw[beq_iff_eq];exact e)];show ah (V.nat n)=ah (V.nat (0+n));rw[cO]
   ·rw[ip (λ h=>e (nX h)),if_neg (by rw[beq_iff_eq];exact e),(b (n+1))];cases (l.map (·.1)).idxOf? k with
    |none=>rfl
    |some i=>show ah (V.nat (i+(n+1)))=ah (V.nat (i+1+n));simp only[gb,fj 1 n]
 exact (a ks 0)
theorem zE{g:Gr}{k:eZ}(h:(ks.map (·.1)).idxOf? k=ai)(X:Int):io (e6 k) (.nat ks.length) (eC ks)=eC (ks++[(k,X)]):=by simp only[xo];refine l_ ?_;rw[dq];intro p a;rw[h_]at h;refine ip λ e=>h ?_;have:p.1∈(eC ks).map (·.1):=bp a;rw[q_]at this;refine b4 (aC.mp this) λ q b c=>?_;rw[<-c]at e;exact nX e▸b
structure SR where
 x:aG
 dx:aG
 am:aG
 R7:eZ
 sym:Int
 items:List (Nat×Nat)
 moves:List (Nat×Nat)
 Q5:List Nat
 Q4:List (Nat×Nat)
noncomputable def SR.f(s:SR)(n:Nat):List (Str×V):=zh n s.R7 s.sym (.dict (dV s.items)) (.ref s.am) (.list (s.Q5.map .nat)) (.dict (dV s.Q4))
noncomputable def gj(CS:aG):List SR->Mu
 |[]=>[]
 |s::L=>(s.am,.dict (dV s.moves))::(s.x,.inst CS s.dx (s.f L.length))::gj CS L
theorem P4:gj CS []=([]):=rfl
theorem Jy{CS:aG}{s L}:gj CS (s::L)=((s.am,.dict (dV s.moves))::(s.x,.inst CS s.dx (s.f L.length))::gj CS L):=rfl
noncomputable def gS(L:List SR)(j:Nat):SR:=L.getD (L.length-1-j) ⟨0,0,0,[],0,[],[],[],[]⟩
theorem iL:∀L:List SR,(gj CS L).length=2*L.length:=by
 intro L;induction L with
 |nil=>exact rfl
 |cons s L a=>simp only[Jy,bj,bj,a,bj];exact cR _ _ _
theorem ye:∀(L:List SR) (p:Nat) (post:Mu) (d:SR),p<L.length->(gj CS L++post)[2*p]? =ah ((L.getD p d).am,.dict (dV (L.getD p d).moves))/\(gj CS L++post)[2*p+1]? =ah ((L.getD p d).x,.inst CS (L.getD p d).dx ((L.getD p d).f (L.length-1-p))):=by
 intro L;induction L with
 |nil=>exact λ Z Z Z h=>nomatch h
 |cons s L a=>
  intro p post d h;cases p with
  |zero=>exact ⟨rfl,rfl⟩
  |succ p=>simp only[(show (s::L).length-1-(p+1)=L.length-1-p by exact Gu)];exact a p post d (by simpa using h)
theorem zn:∀(L:List SR) (p:Nat) (post:Mu) (d:SR) (mv:List (Nat×Nat)),p<L.length->(gj CS L++post).set (2*p) ((L.getD p d).am,.dict (dV mv))=gj CS (L.set p {L.getD p d with moves:=mv})++post:=by
 intro L;induction L with
 |nil=>exact λ Z Z Z Z h=>nomatch h
 |cons s L a=>
  intro p post d mv h;cases p with
  |zero=>rfl
  |succ p=>
   show _::_::(gj CS L++post).set (2*p) _=(s.am,.dict (dV s.moves))::(s.x,.inst CS s.dx (s.f (L.set p _).length))::(gj CS (L.set p {L.getD p d with moves:=mv})++post)
   simp only[bX,<-(a p post d mv (by simpa using h))];rfl
theorem zm:∀(L:List SR) (p:Nat) (post:Mu) (d:SR) (a:List (Nat×Nat)) (b:List Nat) (mk:List (Nat×Nat)),p<L.length->
 (gj CS L++post).set (2*p+1) ((L.getD p d).x,.inst CS (L.getD p d).dx ({L.getD p d with items:=a,Q5:=b,Q4:=mk}.f (L.length-1-p)))=gj CS (L.set p {L.getD p d with items:=a,Q5:=b,Q4:=mk})++post:=by
 intro L;induction L with
 |nil=>exact λ Z Z Z Z Z Z h=>nomatch h
 |cons s L c=>
  intro p post d a b mk h;cases p with
  |zero=>rfl
  |succ p=>
   simp only[(show (s::L).length-1-(p+1)=L.length-1-p by exact Gu)];show _::_::(gj CS L++post).set (2*p+1) _=(s.am,.dict (dV s.moves))::(s.x,.inst CS s.dx (s.f (L.set p _).length))::(gj CS (L.set p {L.getD p d with items:=a,Q5:=b,Q4:=mk})++post)
   simp only[bX,<-(c p post d a b mk (by simpa using h))];rfl
variable{L:List SR}
theorem Ik(a:j<L.length)(post:Mu):(gj CS L++post)[2*(L.length-1-j)]? =ah ((gS L j).am,.dict (dV (gS L j).moves)):=(ye L _ post _ (bI ‹_›)).1
theorem CE(a:j<L.length)(post:Mu):(gj CS L++post)[2*(L.length-1-j)+1]? =ah ((gS L j).x,.inst CS (gS L j).dx ((gS L j).f j)):=by have:=(ye (CS:=CS) L (L.length-1-j) post ⟨0,0,0,[],0,[],[],[],[]⟩ (bI ‹_›)).2;simp only[show L.length-1-(L.length-1-j)=j from BO a]at this;exact this
theorem CI(s:SR):gS (s::L) L.length=s:=by unfold gS;simp only[bj,j6,eO];rfl
theorem qg(s:SR)(a:j<L.length):gS (s::L) j=gS L j:=by unfold gS;simp only[bj,show L.length+1-1-j=(L.length-1-j)+1 from GB a];rfl
theorem CF(a:j<L.length){i:Nat}(hi:i<L.length)(s:SR):gS (L.set (L.length-1-j) s) i=if j=i then s else gS L i:=by
 unfold gS;rw[bX,hW (bI ‹_›)];by_cases e:j=i
 ·rw[if_pos e,if_pos (by exact congrArg _ e)]
 ·rw[if_neg e,if_neg (GA a hi e)]
theorem CH(a:j<L.length):(L.reverse.map (·.x)).getD j 0=(gS L j).x:=by unfold gS;rw[e4 (by simpa using a),bU,List.getElem_reverse,e4 (bI ‹_›)]
structure NJ(G:GC)(x:Str)(C:aG)(qual:Str)(st:Stmt)(pn:List Str)(Rj:List V)(f:aG):Prop where
 g:mH G.K cj x=ah (ah (.ref C))
 k:mW G.K (.ref C)=aj
 made:makesIn G.K C=aj
 i:g9 G.K (.ref C) "__init__"=ah (ah (.ref f))
 t:lJ G.K (.ref f)=ah (.type "function")
 y:cr G f "__init__" qual (cN st) (cy st) (bF st) pn Rj
noncomputable abbrev IQ(G:GC)(x:Str)(C:aG)(qual:Str)(st:Stmt)(pn:List Str)(Rj:List V):Prop:=∃f,NJ G x C qual st pn Rj f
theorem IQ.p{st:Stmt}(F:IQ G x C qual st pn Rj):NJ G x C qual st pn Rj F.choose:=F.choose_spec
section
variable{f:aG}
theorem X.perm{t:Sem α}{R:b7->α->β->Prop}{Q:β->St->Prop}(a:J'.Perm Y.mu)(h:X O Ex t R Q ⟨Y.vals,J'⟩):X O Ex t R Q Y:=λ Kp Jj s r=>h Kp Jj s (r.perm a)
theorem Ql(I:f6 O G d T){f:Value}{vs:List V}{Q:V->St->Prop}{p:aG×MO}{post:V->Mu->Prop}(i:Nat)(hi:Y.mu[i]? =ah p)(h:cD G d' f vs [p] post)(hd:d'<=d)(q:∀v J',post v J'->∃p',J'=[p']/\Q v ⟨Y.vals,Y.mu.set i p'⟩):cS O Ex f vs Q Y:=λ Kp Jj s us R o=>by
 refine za (nL hi) λ r k=>?_;have g:(p::(Y.mu.take i++Y.mu.drop (i+1))).Perm Y.mu:=by
  conv=>rhs;rw[r]
  exact eR.symm
 have w:=sp (Y:=⟨Y.vals,p::(Y.mu.take i++Y.mu.drop (i+1))⟩) (Ex:=Ex) (Q:=λ v Y'=>∃p',Y'=⟨Y.vals,p'::(Y.mu.take i++Y.mu.drop (i+1))⟩/\Q v ⟨Y.vals,Y.mu.set i p'⟩) I (Y.mu.take i++Y.mu.drop (i+1)) h hd rfl λ v J' m=>by refine b4 (q v J' m) λ p' e c=>?_;subst e;exact ⟨p',rfl,c⟩
 refine aY (w Kp Jj s us (R.perm g) o) (λ u s' n=>Pt.on n λ b Y' a l R' t j=>b4 j λ p' e c=>?_) λ Z Z e=>e;subst e;exact ⟨b,_,a,l,R'.perm (J':=Y.mu.set i p') (by simp only[k];exact eR),t,c⟩
theorem ck(I:f6 O G d T)(i:Nat){x:Str}{C:aG}{st:Stmt}(F:IQ G x C qual st pn Rj){Q:V->St->Prop}(h:XL O Ex (c4 (cM pos (bk args O.env))) (rq O Ex (.ref C) Q) Y)(hi:autoParam (∀n,(T n)[i]? =ah (x,.glob)) rf)(hd:autoParam (iO x=aj) rf)(a:autoParam (Dy pos args O.env) rf):XV O Ex (bv (.Call (.Name x np) args [] pos) O.env) Q Y:=
 tG i I.ok (I.at i hi) ((bz I.g)▸F.p.g) hd (by rw[I.g];exact F.p.k) a h
theorem Ji{A:Type}{Q:Option (Option V)->St->Prop}(st:A->St)(g:Nat->A->Prop)(j:∀e s,ExB e s->Nb O Ex e s)(h:XV O Ex (bv iter O.env) (G1 O ExB target body st g Q) Y)(l:autoParam (∀x,eH iter O.env x=pure x) rf):XF O Ex (gc (.For target iter body [] pos) O.env) Q Y:=
 lm (ExB:=ExB) (λ i=>At st (g i)) j (h.mono λ Z Z c=>by obtain ⟨n,xs,c_,W,a,e,k,m,step,fin⟩:=c;exact ⟨n,xs,c_,W,⟨a,e,k⟩,λ i Z hi d=>by obtain ⟨a,e,h⟩:=d;exact e▸m i a hi h,
  λ i Z hi b=>by obtain ⟨a,e,h⟩:=b;exact e▸step i a hi h,λ Z f=>by obtain ⟨a,e,h⟩:=f;exact e▸fin a h⟩) l
theorem Ee{A:Type}{Q:Option (Option V)->St->Prop}(st:A->St)(d:Nat->A->Prop)(g:∀e s,ExB e s->Nb O Ex e s)(n:Nat)(a:A)(e:Y=st a)(h:d n a)(step:∀n a,d n a->XB O ExB (eu test O.env (bv test O.env)) (Pf O ExB body Q (I9 n st d)) (st a)):XF O Ex (gc (.While test body [] pos) O.env) Q Y:=
 pU (ExB:=ExB) (λ n=>At st (d n)) g (λ n Z i=>At.on i λ a e h=>by
  cases e;refine (step n a h).mono λ b c q=>?_;cases b with
  |false=>exact q
  |true=>
   refine X.mono (show XF O ExB (eI body O.env) (oo Q (I9 n st d)) c from q) λ fl f q=>?_
   match fl,q with
   |some (ah r),q=>exact q
   |none,⟨m,l,a,e,h⟩=>exact ⟨m,l,a,e,h⟩
   |some ai,⟨m,l,a,e,h⟩=>exact ⟨m,l,a,e,h⟩) n ⟨a,e,h⟩
theorem MS(h:Q (.bool (decide (b<=a))) Y):iB O Ex (cH .GtE) (VR O.P) (.nat a) (.nat b) Q Y:=H5 (by rwa [show decide ((b:Int)<=(a:Int))=decide (b<=a)by simp])
structure DL(G:GC)(CG CR CS CA:aG):Prop extends Cmn G CG CR where
 A:FR G CS CA
 Vv:∀x∈(["number","kernel","core","symbol","items","moves","reductions","masks"]:List Str),iJ G.K CS x=aj
 WY:∀x∈(["grammar","states"]:List Str),iJ G.K CA x=aj
 Sd:Fn G "first_masks" "first_masks" (top 18) ["grammar"] []
 Se:Fn G "closure_one" "closure_one" (top 22) ["grammar","kernel","nullables","firsts"] []
 SJ:Fn G "advanced" "advanced" (top 23) ["grammar","items"] []
 R5:Fn G "first_kernel" "first_kernel" (top 24) ["grammar"] []
 Sl:Me G CS "set_items" "CanonicalState.set_items" (mem 20 1) ["self","grammar","items"] []
 state:IQ G "CanonicalState" CS "CanonicalState.__init__" (mem 20 0) ["self","number","kernel","symbol"] []
 V4:IQ G "CanonicalAutomaton" CA "CanonicalAutomaton.__init__" (mem 21 0) ["self","grammar","states"] []
theorem pb(B:DL G CG CR CS CA)(n:Nat)(k:eZ)(s:Int)(hk:k.length<2^10):
 cD G (d+2) (.ref CS) [.nat n,e6 k,.int s] [] (λ v J'=>∃x a b,v=.ref x/\J'=[(b,.dict []),(x,.inst CS a (SR.f ⟨x,a,b,k,s,[],[],[],[]⟩ n))]):=
 nW B.state.p.made B.state.p.i B.state.p.t λ x a=>(tO (d:=d) B.Vv B.tup B.state.p.y x a n k s hk).mono (aT _) λ v J' c=>by refine AF c λ e b f=>?_;exact ⟨e,x,a,b,rfl,f⟩
theorem zq(B:DL G CG CR CS CA)(c vs:V):cD G (d+2) (.ref CA) [c,vs] J (λ v J'=>∃x a,v=.ref x/\J'=(x,.inst CA a [("grammar",c),("states",vs)])::J):=
 nW B.V4.p.made B.V4.p.i B.V4.p.t λ x a=>(xb (d:=d) B.WY B.V4.p.y x a c vs).mono (aT _) λ v J' b=>by refine za b λ e f=>?_;exact ⟨e,x,a,rfl,f⟩
end
theorem gW:∀(l:List (Nat×eZ)) (a:List (eZ×Int)×List (Nat×Nat)),(l.foldl me a).2.map (·.1)=a.2.map (·.1)++l.map (·.1):=by
 intro l;induction l with
 |nil=>intro a;simp
 |cons p l b=>intro a;simp only[c3,b];simp[me]
theorem CY{v:Nat}:∀{l:List (Nat×Nat)},k∉l.map (·.1)->f8 k v l=l++[(k,v)]:=by
 intro l;induction l with
 |nil=>intro Z;exact rfl
 |cons p l a=>intro h;rw[be,aI,not_or]at h;dsimp only[rE,v_];rw[if_neg (Ne.symm h.1),a h.2];rfl
structure NG(g:Gr)(j:Nat)(s:SR):Prop where
 items:j0 g s.R7 s.items
 moves:s.moves=E4 g j
 Q5:s.Q5.Perm ((cP g [] s.items).map (·.1))/\s.Q5.Pairwise (·<=·)
 Q4:s.Q4=cP g [] s.items
structure Bd(g:Gr)(n:Nat)(ks:List (eZ×Int))(L:List SR)(xs:List aG)(kvs:List (V×V)):Prop where
 len:L.length=ks.length
 R7:∀j<L.length,((gS L j).R7,(gS L j).sym)=ks.getD j ([],0)
 xs:xs=L.reverse.map (·.x)
 kv:kvs=eC ks
 new:∀j,n<=j->j<L.length->(gS L j).moves=[]/\(gS L j).items=[]/\(gS L j).Q5=[]/\(gS L j).Q4=[]
 done:∀j<n,NG g j (gS L j)
structure cZ(g:Gr)(bx:List fy):Prop where
 len:(dX g bx.length).length=bx.length
 st:∀j,∀s,bx[j]? =ah s->s.number=j/\(s.kernel,s.symbol)=(dX g bx.length).getD j ([],0)/\j0 g s.kernel s.items/\s.moves=E4 g j/\s.Q5.Perm ((cP g [] s.items).map (·.1))/\s.Q5.Pairwise (·<=·)/\s.Q4=cP g [] s.items
noncomputable def yk:List Stmt:=cy (sub (sub (sub (sub (top 25) 5) 2) 1) 1)
section
variable{L:List SR}
theorem k6(p q:aG×MO)(post:Mu):(gj CS L++p::q::post)[2*L.length]? =ah p/\(gj CS L++p::q::post)[2*L.length+1]? =ah q:=by
 constructor
 ·refine (bG (by rw[iL];exact aT _)).trans ?_;rw[iL,eO];rfl
 ·refine (bG (by rw[iL];exact b0 _ _)).trans ?_;rw[iL,cC];rfl
theorem sR(p q r:aG×MO)(post:Mu):(gj CS L++p::q::post).set (2*L.length) r=gj CS L++r::q::post/\(gj CS L++p::q::post).set (2*L.length+1) r=gj CS L++p::r::post:=by
 constructor
 ·refine (d2 _ _ (by rw[iL];exact aT _)).trans ?_;rw[iL,eO];rfl
 ·refine (d2 _ _ (by rw[iL];exact b0 _ _)).trans ?_;rw[iL,cC];rfl
end
theorem Fm{CS:aG}{L:List SR}{j:Nat}(c:j<L.length)(post:Mu)(a:List (Nat×Nat))(b:List Nat)(mk:List (Nat×Nat)):
 (gj CS L++post).set (2*(L.length-1-j)+1) ((gS L j).x,.inst CS (gS L j).dx (SR.f {gS L j with items:=a,Q5:=b,Q4:=mk} j))=gj CS (L.set (L.length-1-j) {gS L j with items:=a,Q5:=b,Q4:=mk})++post:=by
 have:=zm (CS:=CS) L (L.length-1-j) post ⟨0,0,0,[],0,[],[],[],[]⟩ a b mk (bI ‹_›);rw[show L.length-1-(L.length-1-j)=j from BO c]at this;exact this
theorem yE{CS:aG}{L:List SR}{j:Nat}(a:j<L.length)(post:Mu)(mv:List (Nat×Nat)):
 (gj CS L++post).set (2*(L.length-1-j)) ((gS L j).am,.dict (dV mv))=gj CS (L.set (L.length-1-j) {gS L j with moves:=mv})++post:=zn L _ post _ mv (bI ‹_›)
noncomputable def FX(j:Nat)(s:SR):fy:=⟨j,s.R7,s.sym,s.items,s.moves,s.Q5,s.Q4⟩
theorem w1:∀{l:List (aG×fy)},(∀p∈l,∃d c,(p.1,MO.inst CS d (zh p.2.number p.2.kernel p.2.symbol (.dict (dV p.2.items)) (.ref c) (.list (p.2.Q5.map .nat)) (.dict (dV p.2.Q4))))∈J/\(c,MO.dict (dV p.2.moves))∈J)->
 Rf J (l.map λ p=>.ref p.1) (l.map λ p=>fy.v CS p.2):=by
 intro l;induction l with
 |nil=>intro Z;exact .nil
 |cons p l f=>intro h;refine g_ (h p (.head _)) λ d c a b=>?_;refine .cons (.inst a ?_) (f λ q e=>h q (.tail _ e));exact .cons (.refl _)<|.cons (.refl _)<|.cons (.refl _)<|.cons (.refl _)<|.cons (.refl _)<|.cons (.dict b (s4 _ _))<|.cons (.refl _)<|.cons (.refl _) .nil
structure Bf(g:Gr)(t:Nat)(xt:aG)(es:List (Nat×Nat))(Q5:List Nat)(most:Nat)(ks:List (eZ×Int))(mv:List (Nat×Nat))(L:List SR)(xs:List aG)(kvs:List (V×V)):Prop where
 tl:t<L.length
 fit:L.length<=most
 len:L.length=ks.length
 R7:∀j<L.length,((gS L j).R7,(gS L j).sym)=ks.getD j ([],0)
 xs:xs=L.reverse.map (·.x)
 kv:kvs=eC ks
 new:∀j,t<j->j<L.length->(gS L j).moves=[]/\(gS L j).items=[]/\(gS L j).Q5=[]/\(gS L j).Q4=[]
 done:∀j<t,NG g j (gS L j)
 cur:(gS L t).x=xt/\(gS L t).items=es/\(gS L t).Q5=Q5/\(gS L t).Q4=cP g [] es/\(gS L t).moves=mv
theorem sZ{L:List SR}(a:j<L.length){s:SR}(h:s.x=(gS L j).x):(L.set (L.length-1-j) s).reverse.map (·.x)=L.reverse.map (·.x):=by
 simp only[DR,DR,fW];congr 1
 apply dR;intro i;refine (eo).trans ?_;by_cases e:L.length-1-j=i
 ·subst e;refine (if_pos rfl).trans ?_;refine (if_pos (by rw[au];exact bI ‹_›)).trans ?_;rw[aN,ay (bI ‹_›),h];unfold gS;rw[e4 (bI ‹_›)];rfl
 ·exact if_neg e
theorem Bd.start{g:Gr}{t:Nat}{ks:List (eZ×Int)}{L:List SR}{xs:List aG}{kvs:List (V×V)}(D:Bd g t ks L xs kvs)(c:t<L.length){b:Nat}(f:L.length<=b)(es:List (Nat×Nat))(Q5:List Nat):
 Bf g t (gS L t).x es Q5 b ks [] (L.set (L.length-1-t) {gS L t with items:=es,Q5:=Q5,Q4:=cP g [] es}) xs kvs:=by
 have d:∀j<L.length,gS (L.set (L.length-1-t) {gS L t with items:=es,Q5:=Q5,Q4:=cP g [] es}) j=if t=j then {gS L t with items:=es,Q5:=Q5,Q4:=cP g [] es} else gS L j:=λ j a=>CF c a _
 refine ⟨by rw[bX];exact c,by rw[bX];exact f,by (refine bX.trans ?_);exact D.len,λ j a=>?_,?_,D.kv,λ j h a=>?_,λ j a=>?_,?_⟩
 ·rw[bX]at a;rw[d j a,<-D.R7 j a];by_cases e:t=j
  ·rw[if_pos e,e]
  ·rw[if_neg e]
 ·exact D.xs.trans (sZ (s:={gS L t with items:=es,Q5:=Q5,Q4:=cP g [] es}) c rfl).symm
 ·rw[bX]at a;rw[d j a,if_neg (ch ‹_›)];exact D.new j (bc ‹_›) a
 ·rw[d j (bC ‹_› ‹_›),if_neg (fi ‹_›)];exact D.done j a
 ·rw[d t c,if_pos rfl];exact ⟨rfl,rfl,rfl,rfl,(D.new t (aT _) c).1⟩
theorem Bf.move{g:Gr}{t:Nat}{i:aG}{es:List (Nat×Nat)}{Q5:List Nat}{c:Nat}{ks:List (eZ×Int)}{mv:List (Nat×Nat)}{L:List SR}{xs:List aG}{kvs:List (V×V)}(D:Bf g t i es Q5 c ks mv L xs kvs)(a:List (Nat×Nat)):
 Bf g t i es Q5 c ks a (L.set (L.length-1-t) {gS L t with moves:=a}) xs kvs:=by
 have d:=D.tl;have f:∀j<L.length,gS (L.set (L.length-1-t) {gS L t with moves:=a}) j=if t=j then {gS L t with moves:=a} else gS L j:=λ j b=>CF d b _
 refine ⟨by rw[bX];exact d,by rw[bX];exact D.fit,by (refine bX.trans ?_);exact D.len,λ j b=>?_,?_,D.kv,λ j h b=>?_,λ j b=>?_,?_⟩
 ·rw[bX]at b;rw[f j b,<-D.R7 j b];by_cases e:t=j
  ·rw[if_pos e,e]
  ·rw[if_neg e]
 ·exact D.xs.trans (sZ (s:={gS L t with moves:=a}) d rfl).symm
 ·rw[bX]at b;rw[f j b,if_neg (ch ‹_›)];exact D.new j h b
 ·rw[f j (bC ‹_› ‹_›),if_neg (fi ‹_›)];exact D.done j b
 ·rw[f t d,if_pos rfl];exact ⟨D.cur.1,D.cur.2.1,D.cur.2.2.1,D.cur.2.2.2.1,rfl⟩
theorem Bf.grow{g:Gr}{t:Nat}{f:aG}{es:List (Nat×Nat)}{Q5:List Nat}{a:Nat}{ks:List (eZ×Int)}{mv:List (Nat×Nat)}{L:List SR}{xs:List aG}{kvs:List (V×V)}(D:Bf g t f es Q5 a ks mv L xs kvs)(l:L.length<a)(x m i:aG)(k:eZ)(X:Int):
 Bf g t f es Q5 a (ks++[(k,X)]) mv (⟨x,m,i,k,X,[],[],[],[]⟩::L) (xs++[x]) (eC (ks++[(k,X)])):=by
 have d:=D.tl;refine ⟨cA d,l,by simp only[bj,aF,D.len];rfl,λ j c=>?_,by rw[D.xs];simp,rfl,λ j h c=>?_,λ j c=>?_,?_⟩
 ·skip;by_cases e:j=L.length
  ·subst e;rw[CI,D.len,e4 (by simp),uO (aT _)];simp
  ·have b:j<L.length:=yo c e;rw[qg _ b,D.R7 j b,e4 ((D.len)▸b),e4 (by rw[aF,<-D.len];exact cA ‹_›),g3]
 ·skip;by_cases e:j=L.length
  ·subst e;rw[CI];exact ⟨rfl,rfl,rfl,rfl⟩
  ·rw[qg _ (yo c e)];exact D.new j h (yo c e)
 ·rw[qg _ (bC ‹_› ‹_›)];exact D.done j c
 ·rw[qg _ d];exact D.cur
theorem Bf.stop{t:Nat}{i:aG}{es:List (Nat×Nat)}{Q5:List Nat}{b:Nat}{L:List SR}{xs:List aG}(D:Bf g t i es Q5 b (dX g (t+1)) (E4 g t) L xs kvs)(k:j0 g ((dX g t).getD t ([],0)).1 es)(d:t<(dX g t).length)(f:Q5.Perm ((cP g [] es).map (·.1))/\Q5.Pairwise (·<=·)):Bd g (t+1) (dX g (t+1)) L xs kvs:=by
 refine ⟨D.len,D.R7,D.xs,D.kv,λ j h c=>D.new j h c,λ j c=>?_⟩;rcases cF.mp c with h|h
 ·exact D.done j h
 ·subst h;have a:=D.cur;have hk:(gS L j).R7=((dX g j).getD j ([],0)).1:=by refine (show (gS L j).R7=((dX g (j+1)).getD j ([],0)).1 from (congrArg jP (D.R7 j D.tl))).trans ?_;refine ze (yN g j) λ q e=>?_;rw[<-e,e4 d,e4 (by simp only[aF];exact Gs d),g3]
  exact ⟨by simp only[hk,a.2.1];exact k,a.2.2.2.2,(bz a.2.1)▸(bz a.2.2.1)▸f,by simp only[a.2.1,a.2.2.2.1]⟩
theorem jI{x:α}(h:l[i]? =ah x):x∈l:=aX h
section
variable{f:aG}
theorem X.Y0{t:Sem α}{R:b7->α->β->Prop}{Q:β->St->Prop}{m:Mu}(e:Y.mu=m)(h:X O Ex t R Q ⟨Y.vals,m⟩):X O Ex t R Q Y:=by subst e;exact h
theorem ry{a:aG}(f:α->V){l:List α}{k:Nat}{d y:α}(i:Nat){Q:V->St->Prop}(e:l.getD k d=y)(hi:Y.mu[i]? =ah (a,.list (l.map f)))(hk:k<l.length)(hz:k<2^62)(h:Q (f y) Y):mP O Ex Q (.ref a) (.nat k) Y:=Cx f d i hi hk hz (e▸h)
theorem Dc{a:aG}{k:eZ}{v:V}(i:Nat){Q:V->St->Prop}(ok:O.Ok)(hk:nr g ks)(hi:Y.mu[i]? =ah (a,.dict (eC ks)))(e:(((ks.map (·.1)).idxOf? k).map V.nat).getD (.int (-1))=v)(h:Q v Y):cS O Ex (.builtin "dict.get") [.ref a,e6 k,.int (-1)] Q Y:=
 yK ok (.led i hi) (ph hk k) (by rw[zF,e];exact h)
theorem i_{a:aG}{k v:V}{kvs:List (V×V)}{Q:St->Prop}{m:Mu}(i:Nat)(ok:O.Ok)(hi:Y.mu[i]? =ah (a,.dict kvs))(hk:f5 k kvs)(hz:kvs.length<=2^20)(e:Y.mu.set i (a,.dict (io k v kvs))=m)(h:Q ⟨Y.vals,m⟩):
 wz O Ex (.ref a) k v Q Y:=w_ i ok hi hk hz ((bz e)▸h)
theorem rM{a:aG}{f:α->V}{n:Nat}(i:Nat)(e:l.length=n)(hi:Y.mu[i]? =ah (a,.list (l.map f)))(hz:l.length<2^62)(h:Q (.nat n) Y):cS O Ex (.builtin "len") [.ref a] Q Y:=uD i hi hz ((bz e)▸h)
theorem nj(B:DL G CG CR CS CA)(g:Gr)(T:c_ g)(hr:0<g.rules.length)(u:Nat)(h1:1<=u)(h2:u<=2000)(I:f6 O G (d+4) (mJ (bF (top 25)))){E0 E1 E2:Value->aR->Prop}(ZP:∀e s,E1 e s->Nb O E0 e s)(ZO:∀e s,E2 e s->Nb O E1 e s)
 (hR:(∃n,u<(dX g n).length)->∀Q Y,Y.vals[1]? =ah (ah (.nat u))->XF O E2 (eI yk O.env) Q Y):
 XF O E0 (eI (cy (top 25)) O.env) (Av J λ v J'=>(∃bx,v=kJ CG CR CS CA g bx/\cZ g bx/\bx.length<=u)/\J'=J) ⟨[ah (g.v CG CR),ah (.nat u)]++bu 19 ai,J⟩:=by
 have Xm:0<g.owners.length:=aQ (bg _) (xl g hr);have hz:=T.own;let gv:V:=g.v CG CR
 let nv:V:=.list ((ic g).map .bool)
 let fv:V:=.list ((jx g).map .nat)
 refine aB<|sl I 2<|cg I 11 B.RZ<|a1<|nl I 0 rfl<|iu I (qJ (d:=d) B.toCmn g T) LO ?_;refine aB<|sl I 3<|cg I 12 B.Sd<|a1<|nl I 0 rfl<|iu I (so (d:=d) B.toCmn B.Sd g T T.V9) LN ?_;refine aB<|sl I 4<|ey I.ok<|a1<|ck I 13 B.state<|an<|xn 0<|an<|cg I 14 B.R5<|a1<|nl I 0 rfl<|iu I (qN (d:=d) B.R5.y B.F B.item g T.toSmall hr) qX<|a1<|il<|dJ<|kw ?_;refine sp I J (pb (d:=d) B 0 [(0,0)] (-1) (by simp)) qX rfl λ v J' zf=>mI zf λ x dx am e1 e2=>?_;subst e1;subst e2;refine ⟨by rw[dA];simp,λ as=>?_⟩;refine aB<|sl I 5<|x9 I.ok λ w=>at_ I<|sb<|nl I 4 rfl<|xn 0 ⟨⟨_,.list (.led 1 rfl)⟩,dM (.led 1 rfl) (k:=0) rfl (by decide) ⟨CS,SR.f ⟨x,dx,am,[(0,0)], -1,[],[],[],[]⟩ 0,e6 [(0,0)],.led (d:=dx) (.tail _ (.tail _ (.tail _ (.head _)))),B.A.s _ (by decide+kernel),by kernel_rfl,xn 0 ⟨(by rw[ud];decide),0,rfl,?_⟩⟩⟩;refine aB<|sl I 6<|xn 0 ?_;let T2:List SR×List aG×List (V×V)×Nat×List (Option V)->St:=λ a=>⟨[ah gv,ah (.nat u),ah nv,ah fv,ah (.ref as),ah (.ref w),ah (.nat a.2.2.2.1),ov a.2.2.2.2 0,ov a.2.2.2.2 1,ov a.2.2.2.2 2,ov a.2.2.2.2 3,ai,ai,ai,ai,ai,ai,ai,ai,ai,ai],
  gj CS a.1++(w,.dict a.2.2.1)::(as,.list (a.2.1.map .ref))::J⟩
 let Vr:Nat->List SR×List aG×List (V×V)×Nat×List (Option V)->Prop:=λ n a=>n=u-a.2.2.2.1/\a.2.2.2.1<=a.1.length/\a.1.length<=u/\Bd g a.2.2.2.1 (dX g a.2.2.2.1) a.1 a.2.1 a.2.2.1
 let s0:SR:=⟨x,dx,am,[(0,0)], -1,[],[],[],[]⟩
 have h0:Vr (u-0) ([s0],[x],[(e6 [(0,0)],.nat 0)],0,[]):=by
  refine ⟨rfl,bg _,h1,rfl,λ j S=>?_,rfl,rfl,λ j Z S=>?_,λ j S=>absurd S (c6 _)⟩
  ·have:j=0:=by simpa using S
   subst this;rfl
  ·have:j=0:=by simpa using S
   subst this;exact ⟨rfl,rfl,rfl,rfl⟩
 refine X.perm (J':=gj CS [s0]++(w,.dict [(e6 [(0,0)],.nat 0)])::(as,.list ([x].map .ref))::J) (List.Perm.append_right J (List.perm_append_comm (l₁:=[(am,MO.dict []),(x,MO.inst CS dx (s0.f 0))]) (l₂:=[(w,MO.dict [(e6 [(0,0)],V.nat 0)]),(as,MO.list [V.ref x])]))) ?_;refine aB<|Ee (ExB:=E1) T2 Vr ZP _ ([s0],[x],[(e6 [(0,0)],.nat 0)],0,[]) rfl h0 λ n a ha=>?_;clear h0;obtain ⟨L,xs,kvs,t,o⟩:=a;obtain ⟨rfl,Xg,N,D⟩:=ha;have N:L.length<=u:=N;have D:Bd g t (dX g t) L xs kvs:=D;have Vj:xs.length=L.length:=by rw[D.xs];simp
 have H:(gj CS L++(w,MO.dict kvs)::(as,MO.list (xs.map V.ref))::J)[2*L.length+1]? =ah (as,.list (xs.map .ref)):=(k6 _ _ _).2;refine tq<|nl I 6 rfl<|cb I 15 B.len<|a1<|nl I 4 rfl<|uD (2*L.length+1) H (Gq Vj N h2)<|tY ⟨_,rfl,?_⟩;rw[Vj];by_cases E:t<L.length
 ·refine iz (decide_eq_true E) ?_;have Xh:t<(dX g t).length:=by rw[<-D.len];exact E
  have U:(gS L t).R7=((dX g t).getD t ([],0)).1:=congrArg jP (D.R7 t E);have YB:=rO T Xm t;have F:gq g (gS L t).R7:=by rw[U];exact YB.1 _ (bd Xh _)
  obtain ⟨SQ,Vn⟩:=xO g Xh;rw[<-U]at SQ Vn;have X0:xs.getD t 0=(gS L t).x:=by rw[D.xs];exact CH E
  have Wm:=CE (CS:=CS) E ((w,MO.dict kvs)::(as,MO.list (xs.map V.ref))::J);refine aB<|sl I 7<|sb<|nl I 4 rfl<|nl I 6 rfl<|ry V.ref (2*L.length+1) X0 H (show t<xs.length from qY E Vj) (show t<2^62 from LM E N h2) ?_;refine aB<|xe I<|mc I B.Sl<|nl I 7 rfl ⟨(gS L t).f t,.led (jI Wm),by kernel_rfl,an<|nl I 0 rfl<|a1<|cg I 16 B.Se<|an<|nl I 0 rfl<|an<|at_ I<|nl I 7 rfl ⟨CS,(gS L t).f t,e6 (gS L t).R7,.led (jI Wm),B.A.s _ (by decide+kernel),by kernel_rfl,an<|nl I 2 rfl<|a1<|nl I 3 rfl ?_⟩⟩;refine sp I _ (zr (d:=d) B.toCmn B.Se g T (gS L t).R7 F) qX (List.nil_append _).symm λ v J' zf=>za zf λ zg e2=>b4 zg λ es e1 hC=>?_;subst e1;subst e2;have Xx:∀p∈es,p.1<g.owners.length:=λ p hp=>((hC.mem p).mp hp).1.lt F;have U7:es.length<60:=by
   have:=aU hC.nd (l₂:=aZ g.owners.length) λ x hx=>by obtain ⟨p,hp,rfl⟩:=aC.mp hx;exact bN.mpr (Xx p hp)
   rw[au,bf]at this;exact aQ ‹_› ‹_›
  refine Ql I (2*(L.length-1-t)+1) Wm (vn (d:=d) (λ y hy=>B.Vv y (by revert y;decide+kernel)) B.F B.A B.sorted B.Sl.y B.Ri B.after B.len g T.toSmall (gS L t).x (gS L t).dx t (gS L t).R7 (gS L t).sym _ _ _ _ es hC.nd Xx U7) qX λ v J' zf=>Ec zf λ e1 Q5 S5 zg=>za zg λ Ti e2=>⟨_,e2,?_⟩;subst e1;have B0:=D.start E N es Q5;have UY:=Fm (CS:=CS) E ((w,MO.dict kvs)::(as,MO.list (xs.map V.ref))::J) es Q5 (cP g [] es);have SS:=IH F hC;generalize L.set (L.length-1-t) _=K at B0 UY;obtain ⟨k0,Zo⟩:∃k,(gS L t).R7=k:=⟨_,rfl⟩;rw[Zo]at SS SQ Vn F;have X7:=xc (d:=d) (J:=[]) B.toCmn B.SJ g T es hC.nd Xx;rw[SS]at X7;have Zx:j0 g ((dX g t).getD t ([],0)).1 es:=by rw[<-U];exact hC
  generalize (gS L t).x=xt at B0 UY;refine X.Y0 UY ?_;clear Wm H X0 hC;let Te:List SR×List aG×List (V×V)×List (Option V)->St:=λ b=>⟨[ah gv,ah (.nat u),ah nv,ah fv,ah (.ref as),ah (.ref w),ah (.nat t),ah (.ref xt),ov b.2.2.2 0,ov b.2.2.2 1,ov b.2.2.2 2,ai,ai,ai,ai,ai,ai,ai,ai,ai,ai],
   gj CS b.1++(w,.dict b.2.2.1)::(as,.list (b.2.1.map .ref))::J⟩
  let T1:Nat->List SR×List aG×List (V×V)×List (Option V)->Prop:=λ i b=>Bf g t xt es Q5 u (eE (dX g t) ((fk g k0).take i)).1 (eE (dX g t) ((fk g k0).take i)).2 b.1 b.2.1 b.2.2.1
  have Yc:=CE (CS:=CS) B0.tl ((w,MO.dict kvs)::(as,MO.list (xs.map V.ref))::J);have Ye:((gS K t).f t).lookup (Str.ofString "items")=ah (.dict (dV (gS K t).items)):=by kernel_rfl
  rw[B0.cur.1]at Yc;rw[B0.cur.2.1]at Ye;refine aB<|Ji (ExB:=E2) Te T1 ZO<|cg I 17 B.SJ<|an<|nl I 0 rfl<|a1<|at_ I<|nl I 7 rfl ⟨CS,(gS K t).f t,.dict (dV es),.led (jI Yc),B.A.s _ (by decide+kernel),Ye,iu I X7 qX ⟨_,_,_,lA NQ (fk g k0) (0,[]) I.ok.hand,(K,xs,kvs,[ov o 1,ov o 2,ov o 3]),rfl,B0,λ Z Z Z Z=>trivial,λ i b hi A=>?_,λ b A=>?_⟩⟩
  ·obtain ⟨r,c,z,UQ⟩:=b;have A:Bf g t xt es Q5 u (eE (dX g t) ((fk g k0).take i)).1 (eE (dX g t) ((fk g k0).take i)).2 r c z:=A;have UX:eE (dX g t) ((fk g k0).take (i+1))=me (eE (dX g t) ((fk g k0).take i)) ((fk g k0).getD i (0,[])):=oK hi (0,[]);obtain ⟨Wi,hpX⟩:=oZ T F (bd hi (0,[]));have S6:nr g (eE (dX g t) ((fk g k0).take i)).1:=nr.run _ _ YB λ q hq=>(oZ T F (cE hq)).1;have XC:((fk g k0).getD i (0,[])).1∉(eE (dX g t) ((fk g k0).take i)).2.map (·.1):=by
    rw[show (eE (dX g t) ((fk g k0).take i)).2.map (·.1)=((fk g k0).take i).map (·.1)by unfold eE;rw[gW];simp];have VJ:((fk g k0).map (·.1)).Nodup:=by unfold fk RX;rw[bs];rw[show ((pN g (iP g k0)).map ((·.1)∘λ X=>(X,wy g (iP g k0) X)))=pN g (iP g k0)from ed _];exact (my g (iP g k0)).imp ch
    rw[g1];intro h;rw[<-c7 i ((fk g k0).map (·.1)),aV]at VJ;refine VJ.2.2 _ h _ ?_ rfl;rw[jf (by simpa using hi) 0,e4 (by simpa using hi),bU,e4 hi];exact .head _
   have U1:(eE (dX g t) ((fk g k0).take i)).2.length<=2^20:=by
    have hl:=congrArg dv (show (eE (dX g t) ((fk g k0).take i)).2.map (·.1)=((fk g k0).take i).map (·.1)by unfold eE;rw[gW];simp);rw[au,au,bb]at hl;have h3:(fk g k0).length<=g.names.length:=by unfold fk RX pN;rw[au];have:=c8 (λ X=>!(cX g (iP g k0) X).isEmpty) (aZ g.names.length);rw[bf]at this;exact this
    exact aA (cq hl) (aA (Nat.min_le_right _ _) (aA h3 (bc (bC T.Vg (by decide)))))
   have Ui:((eE (dX g t) ((fk g k0).take i)).2.map (·.1)).Nodup:=by rw[show (eE (dX g t) ((fk g k0).take i)).2.map (·.1)=((fk g k0).take i).map (·.1)by unfold eE;rw[gW];simp];unfold fk RX;rw[<-g1,bs];rw[show (((pN g (iP g k0)).take i).map ((·.1)∘λ X=>(X,wy g (iP g k0) X)))=(pN g (iP g k0)).take i from ed _];exact ((my g (iP g k0)).imp ch).sublist (ff _ _)
   have C:=(sS (ks:=dX g t) (l:=fk g k0) (i+1)).length_le;rw[<-SQ]at C;show XA _ _ _ (NQ ((fk g k0).getD i (0,[]))) (qe _ _ _ (oo _ (At Te (λ b=>Bf g t xt es Q5 u (eE (dX g t) ((fk g k0).take (i+1))).1 (eE (dX g t) ((fk g k0).take (i+1))).2 b.1 b.2.1 b.2.2.1)))) _;rw[UX]at C ⊢;generalize (fk g k0).getD i (0,[])=p at Wi XC C ⊢;generalize eE (dX g t) ((fk g k0).take i)=a at A S6 XC U1 Ui C ⊢;obtain ⟨ks,mv⟩:=a;obtain ⟨X,k⟩:=p;have Xr:=A.kv;have Xr:z=eC ks:=Xr;subst Xr;have Ux:c.length=r.length:=by rw[A.xs];simp
   have VE:=A.fit;have Yo:∀m,f8 X m mv=mv++[(X,m)]:=λ m=>CY XC;have Xn:(eC ks).length<=2^20:=by unfold eC;rw[au,fX,<-A.len];exact LL VE h2
   refine Ar I<|Mine.al I 8<|Mine.al I 9 ?_;cases M:(ks.map (·.1)).idxOf? k with
   |some m=>have P:=A.move (mv++[(X,m)]);have VM:=Ik (CS:=CS) A.tl ((w,MO.dict (eC ks))::(as,MO.list (c.map V.ref))::J);have W:=CE (CS:=CS) A.tl ((w,MO.dict (eC ks))::(as,MO.list (c.map V.ref))::J);rw[A.cur.1]at W;rw[A.cur.2.2.2.2]at VM;refine aB<|sl I 10<|mb I PySem.F.plainAttrs_dict PySem.F.slot_dict_get PySem.F.type_dict_get<|nl I 5 rfl ⟨.dict (.led (2*r.length) (k6 _ _ _).1),an<|nl I 9 rfl<|a1<|il<|dJ<|kw<|Dc (v:=.nat m) (2*r.length) I.ok S6 (k6 _ _ _).1 (by rw[M];rfl) ?_⟩;refine aB<|eW<|tq<|nl I 10 rfl<|dJ<|tU ⟨_,rfl,fS (decide_eq_false (by show ¬((m:Nat):Int)<0;exact yn))<|bm ?_⟩;refine aB<|ss<|nl I 10 rfl<|at_ I<|nl I 7 rfl ⟨CS,(gS r t).f t,.ref (gS r t).am,.led (jI W),B.A.s _ (by decide+kernel),by kernel_rfl,nl I 8 rfl<|xa (2*(r.length-1-t)) I.ok VM Ui U1 (by rw[Yo];exact (yE (CS:=CS) A.tl ((w,MO.dict (eC ks))::(as,MO.list (c.map V.ref))::J) (mv++[(X,m)])))<|bm ⟨(_,c,eC ks,[_,_,_]),rfl,?_⟩⟩;show Bf g t xt es Q5 u (me (ks,mv) (X,k)).1 (me (ks,mv) (X,k)).2 _ c (eC ks);unfold me;rw[iA M];exact P
   |none=>
    have Uk:k.length<2^10:=by
     have:=aU Wi.nd (l₂:=aZ g.owners.length) λ x hx=>by obtain ⟨p,hp,rfl⟩:=aC.mp hx;exact bN.mpr (Wi.it p hp).1
     rw[au,bf]at this;exact aQ this (bC hz (by decide))
    have Zi:io (e6 k) (.nat r.length) (eC ks)=eC (ks++[(k,(X:Int))]):=by rw[A.len];exact zE (g:=g) M X
    refine aB<|sl I 10<|mb I PySem.F.plainAttrs_dict PySem.F.slot_dict_get PySem.F.type_dict_get<|nl I 5 rfl ⟨.dict (.led (2*r.length) (k6 _ _ _).1),an<|nl I 9 rfl<|a1<|il<|dJ<|kw<|Dc (v:=.int (-1)) (2*r.length) I.ok S6 (k6 _ _ _).1 (by rw[M];rfl) ?_⟩;refine aB<|eW<|tq<|nl I 10 rfl<|dJ<|tU ⟨_,rfl,iz rfl<|aB<|sl I 10<|cb I 15 B.len<|a1<|nl I 4 rfl<|rM (2*r.length+1) Ux (k6 _ _ _).2 (by rw[Ux];exact LK VE h2) ?_⟩;refine aB<|eW<|tq<|nl I 10 rfl<|nl I 1 rfl<|MS ⟨_,rfl,?_⟩;by_cases R:u<=r.length
    ·refine iz (decide_eq_true R)<|hR ⟨t+1,?_⟩ _ _ rfl;unfold me at C;rw[fU M,aF]at C;exact aH (dc (by rw[A.len]at R;exact R)) C
    have P:=A.grow (eb R);refine fS (decide_eq_false R)<|bm<|aB<|ss<|nl I 10 rfl<|nl I 5 rfl<|nl I 9 rfl<|i_ (m:=gj CS r++(w,MO.dict (eC (ks++[(k,(X:Int))])))::(as,MO.list (c.map V.ref))::J) (2*r.length) I.ok (k6 _ _ _).1 (ph S6 k) Xn (by rw[Zi];exact (sR _ _ _ _).1) ?_;refine aB<|xe I<|ge I<|nl I 4 rfl ⟨as,c.map .ref,2*r.length+1,rfl,(k6 _ _ _).2,ck I 13 B.state<|an<|nl I 10 rfl<|an<|nl I 9 rfl<|a1<|nl I 8 rfl<|sp I _ (pb (d:=d) B r.length k X Uk) qX (List.nil_append _).symm λ v J' zf=>mI zf λ x dx am e1 e2=>?_⟩;subst e1;subst e2;have P:=P x dx am k X;refine uF aG (f:=V.ref) (l:=c) (x:=x) (2*(r.length+1)+1) ((k6 (CS:=CS) (L:=⟨x,dx,am,k,X,[],[],[],[]⟩::r) (w,MO.dict (eC (ks++[(k,(X:Int))]))) (as,MO.list (c.map V.ref)) J).2) (by rw[Ux];exact LJ h2 R) ((sR (CS:=CS) (L:=⟨x,dx,am,k,X,[],[],[],[]⟩::r) (w,MO.dict (eC (ks++[(k,(X:Int))]))) (as,MO.list (c.map V.ref)) (as,MO.list ((c++[x]).map V.ref)) J).2)<|bm ?_;have VM:=Ik (CS:=CS) P.tl ((w,MO.dict (eC (ks++[(k,(X:Int))])))::(as,MO.list ((c++[x]).map V.ref))::J);have W:=CE (CS:=CS) P.tl ((w,MO.dict (eC (ks++[(k,(X:Int))])))::(as,MO.list ((c++[x]).map V.ref))::J);rw[P.cur.1]at W;rw[P.cur.2.2.2.2]at VM;refine aB<|ss<|nl I 10 rfl<|at_ I<|nl I 7 rfl ⟨CS,(gS (⟨x,dx,am,k,X,[],[],[],[]⟩::r) t).f t,.ref (gS (⟨x,dx,am,k,X,[],[],[],[]⟩::r) t).am,.led (jI W),B.A.s _ (by decide+kernel),by kernel_rfl,nl I 8 rfl<|xa (2*((⟨x,dx,am,k,X,[],[],[],[]⟩::r:List SR).length-1-t)) I.ok VM Ui U1 (by rw[Yo];exact (yE (CS:=CS) P.tl ((w,MO.dict (eC (ks++[(k,(X:Int))])))::(as,MO.list ((c++[x]).map V.ref))::J) (mv++[(X,r.length)])))<|bm ⟨(_,c++[x],eC (ks++[(k,(X:Int))]),[_,_,_]),rfl,?_⟩⟩;show Bf g t xt es Q5 u (me (ks,mv) (X,k)).1 (me (ks,mv) (X,k)).2 _ (c++[x]) (eC (ks++[(k,(X:Int))]));unfold me;rw[fU M];rw[<-A.len];exact (P.move (mv++[(X,r.length)]))
  ·obtain ⟨r,c,z,UQ⟩:=b;have A:Bf g t xt es Q5 u (eE (dX g t) ((fk g k0).take (fk g k0).length)).1 (eE (dX g t) ((fk g k0).take (fk g k0).length)).2 r c z:=A;rw[a0,<-SQ,<-Vn]at A;have VA:=A.tl;have Ul:=A.fit;exact aB<|ag I 6 rfl<|xn 1<|E3<|bm ⟨u-(t+1),(show u-(t+1)<u-t from yq VA Ul),(r,c,z,t+1,[_,_,_,_]),rfl,rfl,VA,Ul,A.stop Zx Xh ⟨S5,Ti⟩⟩
 ·have e:t=L.length:=f9 ‹_› (bR.mp ‹_›);refine fS (decide_eq_false E)<|aB<|dB<|ck I 20 B.V4<|an<|nl I 0 rfl<|a1<|nl I 4 rfl<|sp I _ (zq (d:=d) B gv (.ref as)) qX rfl λ v J' zf=>g_ zf λ y dy e1 e2=>?_;subst e1;subst e2;obtain ⟨l,hl⟩:∃l:List (aG×fy),l=(aZ L.length).map λ j=>((gS L j).x,FX j (gS L j)):=⟨_,rfl⟩;have Uj:l.length=L.length:=by rw[hl];simp
  have Zm:xs.map V.ref=l.map λ p=>.ref p.1:=by
   rw[D.xs,hl,bs];apply dR;intro i;rw[aN,aN];by_cases hi:i<L.length
   ·have:=CH hi;rw[e4 (by simpa using hi)]at this;rw[bU]at this;rw[ay (by simpa using hi),aN,fB hi];exact congrArg (λ a=>ah (V.ref a)) this
   ·rw[bl (by simpa using hi),bl (by simpa using hi)];rfl
  have Xv:∀j s,(l.map (·.2))[j]? =ah s->j<L.length/\s=FX j (gS L j):=λ j s h=>by rw[hl,bs,aN]at h;obtain ⟨i,hi,e⟩:=bZ.mp h;rw[bh]at hi;obtain ⟨hi,e'⟩:=hi;rw[bf]at hi;rw[jR]at e';subst e';exact ⟨hi,e.symm⟩
  refine ⟨(y,.inst CA dy [("grammar",gv),("states",.ref as)])::(gj CS L++[(w,.dict kvs),(as,.list (xs.map .ref))]),J,J,kJ CG CR CS CA g (l.map (·.2)),?_,λ Z h=>h,dE.refl _ _,.inst (.head _) (.cons (.refl _) (.cons (.list (.tail _ (ax _ (.tail _ (.head _)))) ?_) .nil)),⟨_,rfl,⟨?_,λ j s hs=>?_⟩,?_⟩,rfl⟩
  ·exact congrArg ((y,MO.inst CA dy [("grammar",gv),("states",V.ref as)])::·) (bY (gj CS L) [(w,MO.dict kvs),(as,MO.list (xs.map V.ref))] J).symm
  ·rw[Zm,bs];refine w1 λ p hp=>?_;rw[hl]at hp;obtain ⟨j,S,rfl⟩:=aC.mp hp;rw[bN]at S;exact ⟨(gS L j).dx,(gS L j).am,.tail _ (jI (CE S _)),.tail _ (jI (Ik S _))⟩
  ·rw[au,Uj,<-e,<-D.len,e]
  ·obtain ⟨S,rfl⟩:=Xv j s hs;have hd:=D.done j (qY S e);rw[au,Uj,<-e];exact ⟨rfl,by rw[<-D.R7 j S];rfl,hd.items,hd.moves,hd.Q5.1,hd.Q5.2,hd.Q4⟩
  ·rw[au,Uj];exact N
end
section
variable{f:aG}
theorem EH(B:DL G CG CR CS CA)(Yy:Fn G "build_canonical" "build_canonical" (top 25) ["grammar","most"] [.nat 2000])(g:Gr)(e:c_ g)(b:0<g.rules.length)(c:∀n,(dX g n).length<=2000):
 cD G (d+5) (.ref Yy.f) [g.v CG CR] J (λ v J'=>(∃bx,v=kJ CG CR CS CA g bx/\cZ g bx/\bx.length<=2000)/\J'=J):=
 de Yy.y _ _ _ rfl λ O I=>nj B g e b 2000 (by decide) (aT _) I (E0:=dL) (E1:=dL) (E2:=dL) (λ Z Z h=>h.elim) (λ Z Z h=>h.elim) λ a=>by refine ze a λ n h=>?_;exact absurd (c n) (o5.mpr h)
end
noncomputable abbrev Pr:=Str×List Str
variable{ps R pairs:List Pr}
noncomputable def pV(p:Pr):V:=.tup [.str p.1,.list (p.2.map .str)]
noncomputable def fQ(l:List Str)(x:Str):List Str:=if l.any (· ==x)=aj then l else l++[x]
noncomputable def ba(pairs:List Pr):List Str:=pairs.foldl (λ l p=>fQ l p.1) []
noncomputable def js(RI:List Str)(acc:List Str)(x:Str):List Str:=if RI.any (· ==x)=aj then acc else fQ acc x
noncomputable def iM:List Str:=["$end","error","$undefined"]
noncomputable def jF(RI:List Str)(pairs:List Pr):List Str:=pairs.foldl (λ acc p=>p.2.foldl (js RI) acc) iM
noncomputable def cc(pairs:List Pr):List Str:=jF (ba pairs) pairs++[Str.ofString "$accept"]++ba pairs
noncomputable def nZ(pairs:List Pr)(x:Str):Nat:=(cc pairs).idxOf x
noncomputable def va(pairs:List Pr):Nat:=(jF (ba pairs) pairs).length
noncomputable def sq(pairs:List Pr)(p:Pr):Ru:=⟨nZ pairs p.1,p.2.map (nZ pairs),td (va pairs) (p.2.map (nZ pairs))⟩
noncomputable def bW(pairs:List Pr):Gr:=⟨cc pairs,va pairs,nZ pairs ((ba pairs).getD 0 ""),⟨va pairs,[nZ pairs ((ba pairs).getD 0 ""),0],0⟩::pairs.map (sq pairs)⟩
structure FM(pairs:List Pr):Prop where
 ne:0<pairs.length
 len:pairs.length<=10
 left:∀p∈pairs,p.1∈(["s","a","b"]:List Str)
 right:∀p∈pairs,p.2.length<=3
noncomputable abbrev Gl(G:GC)(x:Str)(v:V):Prop:=∃u,mH G.K cj x=ah (ah u)/\VR G.w.params (λ b o=>G.K.lookup b=ah o) u v
theorem fH(f:β->α->β)(b:β){l:List α}{i:Nat}(hi:i<l.length)(d:α):(l.take (i+1)).foldl f b=f ((l.take i).foldl f b) (l.getD i d):=by simp only[aS hi,fh,e4 hi];rfl
theorem wv(l:List Str)(x:Str):(fQ l x).length<=l.length+1:=by unfold fQ;split<;>simp
theorem oU(f:List Str->α->List Str)(k:Nat)(a:∀l x,(f l x).length<=l.length+k):∀(xs:List α) (l:List Str),(xs.foldl f l).length<=l.length+k*xs.length:=by
 intro xs;induction xs with
 |nil=>intro l;simp
 |cons x xs b=>intro l;simp only[c3,bj,pO];exact JH (b (f l x)) (a l x)
theorem wu(ls l:List Str)(x:Str):(js ls l x).length<=l.length+1:=by unfold js;split;{exact b0 _ _};{exact wv l x}
theorem mn(pairs:List Pr):(ba pairs).length<=pairs.length:=by unfold ba;simpa using (oU (λ l (p:Pr)=>fQ l p.1) 1 (λ l p=>wv l p.1) pairs [])
section
variable{f:aG}
theorem gl(I:f6 O G d T)(i:Nat){x:Str}{v:V}(F:Gl G x v){Q:V->St->Prop}(h:Q v Y)(hi:autoParam (∀n,(T n)[i]? =ah (x,.glob)) rf)(hd:autoParam (iO x=aj) rf):XV O Ex (bv (.Name x pos) O.env) Q Y:=
 Hr i I.ok (I.at i hi) (by rw[I.g];exact F.choose_spec.1) hd (by unfold FC.P;rw[I.g];exact F.choose_spec.2) h
structure NB(G:GC)(CG CR:aG):Prop extends Cmn G CG CR where
 WX:∀x∈(["number","left","right","level_of","action","line","before"]:List Str),iJ G.K CR x=aj
 setG:∀x∈(["names","terminal_count","rules","levels","expect","start","by_left","offsets","owners","item_count"]:List Str),iJ G.K CG x=aj
 rule:IQ G "Rule" CR "Rule.__init__" (mem 8 0) ["self","number","left","right","level_of","action","line","before"] [.none,.int 0,.int 0]
 TL:IQ G "Grammar" CG "Grammar.__init__" (mem 9 0) ["self","names","terminal_count","rules","levels","expect","start"] []
 RU:Fn G "last_terminal" "last_terminal" (top 12) ["right","terminal_count"] []
 own:Gl G "OWN_TERMINALS" (.tup (iM.map .str))
 V0:Gl G "END" (.nat 0)
theorem qK(B:NB G CG CR)(n:Nat)(r:Ru):cD G (d+2) (.ref CR) [.nat n,.nat r.left,.tup (r.right.map .nat),.int r.lv] [] (λ v J'=>v=zv CR (r,n)/\J'=[]):=by
 have h:cD G (d+2) (.ref CR) [.nat n,.nat r.left,.tup (r.right.map .nat),.int r.lv] [] (λ v J'=>∃x a,v=.ref x/\J'=[(x,.inst CR a [("number",.nat n),("left",.nat r.left),("right",.tup (r.right.map .nat)),("level_of",.int r.lv),("action",.none),("line",.int 0),("before",.int 0)])]):=
  nW B.rule.p.made B.rule.p.i B.rule.p.t λ x a=>(vp (d:=d) B.WX B.rule.p.y x a n r).mono (aT _) λ v J' e=>by refine za e λ c f=>?_;exact ⟨c,x,a,rfl,f⟩
 refine h.frozen λ v J' g=>g_ g λ x a c f=>?_;cases c;subst f;exact ⟨_,[],[],zv CR (r,n),(cL _).symm,λ b i=>(nomatch i),.nil,.inst (.head _) (Jz _ _),rfl,rfl⟩
theorem w5(B:NB G CG CR)(g:Gr)(hz:Small g)(a:∀r∈g.rules,r.left<g.names.length)(b:aG):cD G (d+2) (.ref CG) [.list (g.names.map .str),.nat g.tc,.ref b,.dict [],.none,.nat g.start] [(b,.list (g.Q9 CR))]
 (λ v J'=>∃x c,v=.ref x/\J'=[(x,.inst CG c (g.S8 (.ref b) (.list g.Us) (.list (g.Rb.map .nat)) (.list (g.owners.map .nat)))),(b,.list (g.Q9 CR))]):=
 nW B.TL.p.made B.TL.p.i B.TL.p.t λ x c=>(vv (d:=d) B.setG B.F B.len B.TL.p.y g hz a x c b (.head _)).mono (aT _) λ v J' e=>by refine za e λ f h=>?_;exact ⟨f,x,c,rfl,h⟩
theorem uZ(pairs:List Pr)(a:O.A.handled=ai):i3 O O.A (.list (pairs.map pV)) pairs.length (λ i=>.tup [.str (pairs.getD i ("",[])).1,.list ((pairs.getD i ("",[])).2.map .str)]) (λ Z=>True) Y:=lA pV pairs ("",[]) a
theorem EF(B:NB G CG CR)(Yy:Fn G "plain_grammar" "plain_grammar" (top 13) ["pairs","start"] [.none])(pairs:List Pr)(hp:FM pairs)(hs:Small (bW pairs))(U:∀p∈pairs,p.1∈cc pairs/\∀x∈p.2,x∈cc pairs)(k:0<(ba pairs).length):
 cD G (d+3) (.ref Yy.f) [.list (pairs.map pV)] J (λ v J'=>v=(bW pairs).v CG CR/\J'=J):=by
 refine lX Yy.y _ _ _ rfl λ O I Oo=>?_;have w:=hp.len;let F:V:=.list (pairs.map pV)
 have Q:=mn pairs;refine aB<|sl I 2<|ey I.ok<|cx ⟨bg _,λ al=>?_⟩;let T2:List Str×List (Option V)->St:=λ a=>⟨[ah F,ah .none,ah (.ref al),ov a.2 0,ov a.2 1,ai,ai,ai,ai,ai,ai,ai,ai,ai,ai,ai,ai,ai,ai,ai],(al,.list (a.1.map .str))::J⟩
 let Vr:Nat->List Str×List (Option V)->Prop:=λ i a=>a.1=ba (pairs.take i)
 refine aB<|iH T2 Vr<|nl I 0 rfl ⟨_,_,_,uZ pairs I.ok.hand,([],[]),rfl,rfl,λ Z Z Z Z=>trivial,λ i a hi c=>?_,λ a c=>?_⟩
 ·obtain ⟨ls,o⟩:=a;have c:ls=ba (pairs.take i):=c;have S:ba (pairs.take (i+1))=fQ ls (pairs.getD i ("",[])).1:=by rw[c];exact fH _ _ hi ("",[])
  have hl:ls.length<=2^20:=by have:=mn (pairs.take i);rw[bb]at this;rw[c];exact LG this w
  have T:=hp.left _ (bd hi ("",[]));have Yd:(pairs.getD i ("",[])).1.length=1/\((pairs.getD i ("",[])).1==("error":Str))=ao/\(["","$","'"]:List Str).any (· ==(pairs.getD i ("",[])).1)=ao:=by
   generalize (pairs.getD i ("",[])).1=x at T ⊢;rcases aI.mp T with e|T
   ·subst e;decide+kernel
   ·rcases aI.mp T with e|T
    ·subst e;decide+kernel
    ·rw[aE.mp T];decide+kernel
  generalize pairs.getD i ("",[])=p at S Yd ⊢;refine jw Yd λ h1 h2 h3=>?_;refine Ar I<|Mine.al I 3<|Mine.al I 4 ?_;refine aB<|eW<|m5<|tq<|nl I 3 rfl<|c1<|BY ⟨_,rfl,fS h2<|m5<|tq<|l8<|nl I 3 rfl<|oP<|oO<|dJ ⟨⟨_,.str⟩,Ey h1 ?_⟩⟩;refine pW (an<|c1<|an<|c1<|a1<|c1 ⟨by rw[dA];decide,H2 (xs:=["","$","'"]) ⟨_,rfl,fS h3<|jm<|fS rfl<|bm ?_⟩⟩);refine aB<|eW<|tq<|nl I 3 rfl<|nl I 2 rfl<|nU (.led 0 rfl) ⟨_,rfl,?_⟩;unfold fQ at S;cases hc:ls.any (· ==p.1)with
  |true=>exact fS rfl<|bm<|bm ⟨(ls,[_,_]),rfl,by show ls=_;rw[S,if_pos hc]⟩
  |false=>exact iz rfl<|aB<|xe I<|ge I<|nl I 2 rfl ⟨al,_,0,rfl,rfl,nl I 3 rfl<|uF Str 0 rfl hl rfl<|bm<|bm ⟨(ls++[p.1],[_,_]),rfl,by show ls++[p.1]=_;rw[S,if_neg (by rw[hc];decide)]⟩⟩
 obtain ⟨ls,o⟩:=a;have c:ls=ba (pairs.take pairs.length):=c;rw[a0]at c;refine ze (show ∃l,l=ba pairs from ⟨_,rfl⟩) λ ls' A=>?_;rw[<-A]at c Q k;subst c;have VG:ls.length<=2^20:=Gp Q w;have Yu:ls.any (· ==ls.getD 0 "")=aj:=dI.mpr ⟨_,bd k "",by rw[beq_iff_eq]⟩;refine ze (show ∃b,ls.getD 0 ""=b from ⟨_,rfl⟩) λ n K=>?_;refine aB<|sl I 5<|l9<|m5<|tq<|nl I 1 rfl<|A3<|vJ ⟨_,rfl,fS rfl<|m5<|tq<|nl I 2 rfl<|f1 (cx ⟨bg _,BZ I.ok (.led 0 rfl) .frozen (λ x hx=>by refine b4 (aC.mp hx) λ y Z Td=>?_;subst Td;rfl) (λ x hx=>(nomatch hx)) ⟨_,rfl,fS (ip λ e=>by cases ls with|nil=>cases k|cons a l=>cases e)<|jm<|fS rfl<|sb<|nl I 2 rfl<|xn 0<|ry V.str 0 K rfl k (by decide) ?_⟩⟩)⟩
 rw[K]at Yu;refine aB<|eW<|tq<|nl I 5 rfl<|nl I 2 rfl<|nU (.led 0 rfl) ⟨_,rfl,fS (by rw[Yu];rfl)<|bm ?_⟩;refine aB<|DH I Oo 6<|cb I 12 B.list<|a1<|gl I 13 B.own<|FB I.ok (by simp[iM])<|.M λ g=>?_;let Te:List Str×List (Option V)->St:=λ a=>⟨[ah F,ah .none,ah (.ref al),ov a.2 0,ov a.2 1,ah (.str n),ah (.ref g),ov a.2 2,ai,ai,ai,ai,ai,ai,ai,ai,ai,ai,ai,ai],(g,.list (a.1.map .str))::(al,.list (ls.map .str))::J⟩
 let C:List Str->Pr->List Str:=λ acc p=>p.2.foldl (js ls) acc
 let T1:Nat->List Str×List (Option V)->Prop:=λ i a=>a.1=(pairs.take i).foldl C iM
 have ZF:∀i,((pairs.take i).foldl C iM).length<=3+3*i\/True:=λ Z=>.inr trivial;have Yx:∀(xs:List Pr),(∀p∈xs,p.2.length<=3)->∀l:List Str,(xs.foldl C l).length<=l.length+3*xs.length:=λ xs=>by
  induction xs with
  |nil=>intro _ l;exact aT _
  |cons p xs ih=>intro h l;have h4:(C l p).length<=l.length+1*p.2.length:=(oU (js ls) 1 (wu ls) p.2 l);rw[c3,bj];exact LF (ih (λ q hq=>h q (.tail _ hq)) (C l p)) h4 (h p (.head _))
 have M:∀i,((pairs.take i).foldl C iM).length<=33:=λ i=>by have:=Yx (pairs.take i) (λ p hq=>hp.right p (cE hq)) iM;rw[bb]at this;exact LD this rfl w
 refine aB<|iH Te T1<|nl I 0 rfl ⟨_,_,_,uZ pairs I.ok.hand,(iM,[ov o 0,ov o 1,ai]),rfl,rfl,λ Z Z Z Z=>trivial,λ i a hi c=>?_,λ a c=>?_⟩
 ·obtain ⟨acc,o⟩:=a;have c:acc=(pairs.take i).foldl C iM:=c;have VT:acc.length<=33:=by rw[c];exact M i
  have t:=hp.right _ (bd hi ("",[]));show XA _ _ _ _ (qe _ _ _ (oo _ (At Te (λ a=>a.1=(pairs.take (i+1)).foldl C iM)))) _;rw[(show (pairs.take (i+1)).foldl C iM=C acc (pairs.getD i ("",[]))from by rw[c];exact fH _ _ hi ("",[]))];generalize pairs.getD i ("",[])=p at t ⊢;let Ve:List Str×List (Option V)->St:=λ a=>⟨[ah F,ah .none,ah (.ref al),ah (.str p.1),ah (.list (p.2.map .str)),ah (.str n),ah (.ref g),ov a.2 0,ai,ai,ai,ai,ai,ai,ai,ai,ai,ai,ai,ai],(g,.list (a.1.map .str))::(al,.list (ls.map .str))::J⟩
  let V6:Nat->List Str×List (Option V)->Prop:=λ j a=>a.1=(p.2.take j).foldl (js ls) acc
  refine Ar I<|Mine.al I 3<|Mine.al I 4<|aB<|iH Ve V6<|nl I 4 rfl ⟨_,_,_,lA V.str p.2 "" I.ok.hand,(acc,[ov o 2]),rfl,rfl,λ Z Z Z Z=>trivial,λ j b hj E=>?_,λ b E=>?_⟩
  ·obtain ⟨ac,o3⟩:=b;have E:ac=(p.2.take j).foldl (js ls) acc:=E;have S:(p.2.take (j+1)).foldl (js ls) acc=js ls ac (p.2.getD j ""):=by rw[E];exact fH _ _ hj ""
   have ZD:ac.length<=2^20:=by have:=oU (js ls) 1 (wu ls) (p.2.take j) acc;rw[bb]at this;rw[E];exact LB this VT t
   show XA _ _ _ _ (qe _ _ _ (oo _ (At Ve (λ a=>a.1=(p.2.take (j+1)).foldl (js ls) acc)))) _;rw[S];generalize p.2.getD j ""=x;refine Mine.al I 7<|aB<|eW<|lp<|tq<|nl I 7 rfl<|nl I 2 rfl<|nU (.led 1 rfl) ⟨_,rfl,?_⟩;unfold js;cases h1:ls.any (· ==x)with
   |true=>exact fS rfl<|fS rfl<|bm<|bm ⟨(ac,[_]),rfl,by show ac=_;rw[if_pos rfl]⟩
   |false=>
    refine iz rfl<|lp<|tq<|nl I 7 rfl<|nc I 6 rfl<|nU (.led 0 rfl) ⟨_,rfl,?_⟩;unfold fQ;cases h2:ac.any (· ==x)with
    |true=>exact fS rfl<|fS rfl<|bm<|bm ⟨(ac,[_]),rfl,by show ac=_;rw[if_neg (by decide),if_pos rfl]⟩
    |false=>exact iz rfl<|je<|iz rfl<|aB<|xe I<|ge I<|nc I 6 rfl ⟨g,_,0,rfl,rfl,nl I 7 rfl<|uF Str 0 rfl ZD rfl<|bm<|bm ⟨(ac++[x],[_]),rfl,by show ac++[x]=_;rw[if_neg (by decide),if_neg (by decide)]⟩⟩
  ·obtain ⟨ac,o3⟩:=b;have E:ac=(p.2.take p.2.length).foldl (js ls) acc:=E;rw[a0]at E;exact bm ⟨(ac,[_,_,_]),rfl,E⟩
 obtain ⟨u,o⟩:=a;have c:u=(pairs.take pairs.length).foldl C iM:=c;have Xg:u.length<=33:=by rw[c];exact M _
 rw[a0]at c;have X1:u=jF (ba pairs) pairs:=by rw[c,<-A];rfl
 have en:(u.map V.str++[.str "$accept"])++ls.map V.str=(cc pairs).map V.str:=by unfold cc;rw[X1,aK,aK,A];rfl
 have X2:u.length=va pairs:=by rw[X1];rfl
 refine aB<|sl I 8<|cb I 14 B.len<|a1<|nc I 6 rfl<|rM 0 X2 rfl (aQ ‹_› (by decide)) ?_;have hA:(u.map V.str).length+[V.str "$accept"].length<=2^20:=by rw[au];show u.length+1<=_;exact aQ ‹_› (by decide)
 have hB:(u.map V.str++[V.str "$accept"]).length+(ls.map V.str).length<=2^20:=by rw[aF,au,au];show u.length+1+_<=_;exact LA Xg Q w
 refine aB<|DH I Oo 6<|bw<|bw<|nc I 6 rfl<|l1<|c1<|m8 I.ok (.led 0 rfl) .frozen hA<|.F<|nl I 2 rfl<|m8 I.ok .frozen (.led 1 rfl) hB<|.F ?_;rw[en];clear en ZF Yx M;have L:(cc pairs).length<2^60:=bC hs.names (by decide);have Yt:n∈cc pairs:=by unfold cc;rw[<-K,<-A];exact ax _ (bd k "")
 have Yn:nZ pairs ((ba pairs).getD 0 "")=nZ pairs n:=by rw[<-A,K]
 let XZ:V:=.list ((cc pairs).map .str)
 let H:List (Ru×Nat):=(bW pairs).rules.zipIdx
 have R:H.length=pairs.length+1:=by show (bW pairs).rules.zipIdx.length=_;rw[fX,(show (bW pairs).rules.length=pairs.length+1 by show (_::pairs.map _).length=_;rw[bj,au])]
 have Zc:∀i (hi:i<pairs.length),H.take (i+1+1)=H.take (i+1)++[(sq pairs (pairs.getD i ("",[])),i+1)]:=λ i hi=>by
  rw[aS (Ly hi R)];congr 2
  rw[e4 hi];show ((bW pairs).rules.zipIdx)[i+1]'_=_;rw[List.getElem_zipIdx];refine lu ?_ (by simp);show (pairs.map (sq pairs))[i]'(by simpa using hi)=sq pairs pairs[i];exact bU _
 refine aB<|sl I 9<|ey I.ok<|a1<|ck I 15 B.rule<|an<|xn 0<|an<|nl I 8 rfl<|an<|t2<|mb I PySem.F.plainAttrs_list PySem.F.slot_list_index PySem.F.type_list_index<|nc I 6 rfl ⟨.list .frozen,a1<|nl I 5 rfl<|n8 .frozen Yt L<|gl I 16 B.V0<|a1<|gl I 16 B.V0<|iu I (qK (d:=d) B 0 ⟨va pairs,[nZ pairs n,0],0⟩) s7 ⟨by rw[dA];exact aP rfl,λ N=>?_⟩⟩;let W:List (Ru×Nat)×List (Option V)->St:=λ a=>⟨[ah F,ah .none,ah (.ref al),ov a.2 0,ov a.2 1,ah (.str n),ah XZ,ov a.2 2,ah (.nat (va pairs)),ah (.ref N),ov a.2 3,ai,ai,ai,ai,ai,ai,ai,ai,ai],(N,.list (a.1.map (zv CR)))::(g,.list (u.map .str))::(al,.list (ls.map .str))::J⟩
 let XS:Nat->List (Ru×Nat)×List (Option V)->Prop:=λ i a=>a.1=H.take (i+1)
 refine aB<|iH W XS<|nl I 0 rfl ⟨_,_,_,uZ pairs I.ok.hand,(H.take 1,[ov o 0,ov o 1,ov o 2,ai]),by rw[(show H.take 1=[(⟨va pairs,[nZ pairs n,0],0⟩,0)] by show [(_,0)]=_;rw[Yn])];rfl,rfl,λ Z Z Z Z=>trivial,λ i a hi c=>?_,λ a c=>?_⟩
 ·obtain ⟨rs,o⟩:=a;have c:rs=H.take (i+1):=c;have z:rs.length=i+1:=by rw[c,bb];exact Lx hi R
  refine za (U _ (bd hi ("",[]))) λ Ux Y=>?_;have t:=hp.right _ (bd hi ("",[]));show XA _ _ _ _ (qe _ _ _ (oo _ (At W (λ a=>a.1=H.take (i+1+1))))) _;rw[Zc i hi,<-c];generalize pairs.getD i ("",[])=p at Ux Y t ⊢;refine Ar I<|Mine.al I 3<|Mine.al I 4<|aB<|sl I 10<|cb I 17 B.tup<|a1<|lc I<|nl I 4 rfl ⟨_,_,_,lA V.str p.2 "" I.ok.hand,aA t (by decide),(λ i s acc m=>∃o,s=[ai,o,ah XZ]/\acc=((p.2.take i).map (nZ pairs)).map .nat/\m=(N,.list (rs.map (zv CR)))::(g,.list (u.map .str))::(al,.list (ls.map .str))::J),⟨_,n7 I,rfl,rfl⟩,?_,?_,?_⟩
  ·rintro i s acc m hi ⟨o,rfl,rfl,rfl⟩;exact ⟨by rw[au,au,bb];exact qV,λ Z=>trivial⟩
  ·rintro O' C' i s acc m D hi ⟨o,rfl,rfl,rfl⟩;have I':=C'.SE I;rw[aS hi,<-e4 hi ""];refine Mine.al I' 1<|gs<|mb I' PySem.F.plainAttrs_list PySem.F.slot_list_index PySem.F.type_list_index<|nc I' 2 rfl ⟨.list .frozen,a1<|nl I' 1 rfl<|n8 .frozen (Y _ (bd hi "")) L ⟨[],rfl,_,rfl,?_,rfl⟩⟩;rw[aK,aK];rfl
  ·rintro s acc m ⟨o,rfl,rfl,rfl⟩;rw[a0];refine .F<|rL .frozen (by rw[au,au];exact aA t (by decide)) ?_;refine aB<|xe I<|ge I<|nl I 9 rfl ⟨N,_,0,rfl,rfl,ck I 15 B.rule<|an<|cb I 14 B.len<|a1<|nl I 9 rfl<|rM 0 z rfl (by rw[z];exact Lw hi w)<|an<|mb I PySem.F.plainAttrs_list PySem.F.slot_list_index PySem.F.type_list_index<|nc I 6 rfl ⟨.list .frozen,a1<|nl I 3 rfl<|n8 .frozen Ux L<|an<|nl I 10 rfl<|a1<|cg I 18 B.RU<|an<|nl I 10 rfl<|a1<|nl I 8 rfl<|iu I (pI (d:=d) (J:=[]) B.RU.y (p.2.map (nZ pairs)) (va pairs)) yp<|iu I (qK (d:=d) B (i+1) (sq pairs p)) s7 ?_⟩⟩;exact uF (Ru×Nat) (f:=zv CR) (x:=(sq pairs p,i+1)) 0 rfl (by rw[z];exact Lv hi w) rfl<|bm ⟨(rs++[(sq pairs p,i+1)],[_,_,_,_]),rfl,rfl⟩
 obtain ⟨rs,o⟩:=a;have c:rs=H.take (pairs.length+1):=c;rw[<-R,a0]at c;subst c;have P:∀r∈(bW pairs).rules,r.left<(bW pairs).names.length:=λ r hr=>by
  rcases aI.mp hr with e|hr
  ·subst e;show (jF (ba pairs) pairs).length<(cc pairs).length;unfold cc;rw[aF,aF,cJ];exact b0 _ _
  ·refine b4 (aC.mp hr) λ p Zf Si=>?_;subst Si;exact sE (U p Zf).1
 refine aB<|dB<|ck I 19 B.TL<|an<|nc I 6 rfl<|an<|nl I 8 rfl<|an<|nl I 9 rfl<|an<|qw I.ok<|an<|A3<|a1<|mb I PySem.F.plainAttrs_list PySem.F.slot_list_index PySem.F.type_list_index<|nc I 6 rfl ⟨.list .frozen,a1<|nl I 5 rfl<|n8 .frozen Yt L ?_⟩;have X:=w5 (d:=d) B (bW pairs) hs P N;rw[(show (bW pairs).start=nZ pairs n from Yn)]at X;refine sp I ((g,.list (u.map .str))::(al,.list (ls.map .str))::J) X s7 rfl λ v J' zf=>g_ zf λ x dx e1 e2=>?_;subst e1;subst e2;refine ⟨[(x,.inst CG dx ((bW pairs).S8 (.ref N) (.list (bW pairs).Us) (.list ((bW pairs).Rb.map .nat)) (.list ((bW pairs).owners.map .nat)))),(N,.list ((bW pairs).Q9 CR)),(g,.list (u.map .str)),(al,.list (ls.map .str))],J,J,(bW pairs).v CG CR,rfl,λ Z h=>h,dE.refl _ _,.inst (.head _) ?_,rfl,rfl⟩;exact .cons (.refl _)<|.cons (.refl _)<|.cons (.list (.tail _ (.head _)) (Rf.refl _ _))<|.cons (.refl _)<|.cons (.refl _)<|.cons (.refl _)<|.cons (.refl _)<|.cons (.refl _)<|.cons (.refl _)<|.cons (.refl _) .nil
end
noncomputable def xr(k:Nat×Nat)(v:Nat):List ((Nat×Nat)×Nat)->List ((Nat×Nat)×Nat)
 |[]=>[(k,v)]
 |p::r=>if p.1=k then (p.1,v)::r else p::xr k v r
theorem MT{k:Nat×Nat}{v:Nat}:xr k v []=([(k,v)]):=rfl
theorem GW{k:Nat×Nat}{v:Nat}{p r}:xr k v (p::r)=(if p.1=k then (p.1,v)::r else p::xr k v r):=rfl
theorem s5{x y:Nat×Nat}(h:dp x=dp y):x=y:=by unfold dp at h;simp at h;exact lu (Gw h) (Gv h)
noncomputable def pj(l:List ((Nat×Nat)×Nat)):List (V×V):=l.map λ p=>(dp p.1,.nat p.2)
theorem E5(k:Nat×Nat)(v:Nat):∀l,io (dp k) (.nat v) (pj l)=pj (xr k v l):=by
 intro l;induction l with
 |nil=>exact rfl
 |cons p r a=>
  unfold pj at*;rw[be];dsimp only[sH,nG];rw[GW];by_cases e:p.1=k
  ·rw[if_pos e,if_pos (by simp only[f2];exact congrArg dp e)];rfl
  ·rw[if_neg e,if_neg (by simp only[f2];exact λ h=>e (s5 h)),a];rfl
theorem vQ{k:Nat×Nat}{v:Nat}:∀{l:List ((Nat×Nat)×Nat)},k∉l.map (·.1)->xr k v l=l++[(k,v)]:=by
 intro l;induction l with
 |nil=>intro Z;exact rfl
 |cons p l a=>intro h;simp only[be,aI,not_or]at h;dsimp only[MT,GW];rw[if_neg (Ne.symm h.1),a h.2];rfl
theorem t_(k:Nat×Nat):kk (dp k)=3:=rfl
theorem Cb(l:List ((Nat×Nat)×Nat)):(pj l).map (·.1)=(l.map (·.1)).map dp:=by unfold pj;(refine bs.trans ?_;rw[bs]);rfl
theorem oQ{l:List ((Nat×Nat)×Nat)}(nd:(l.map (·.1)).Nodup):((pj l).map (·.1)).Nodup:=by rw[Cb,aO,bS];exact (aO.mp nd).imp λ h e=>h (s5 e)
theorem zL{l:List ((Nat×Nat)×Nat)}(k:Nat×Nat)(nd:(l.map (·.1)).Nodup):f5 (dp k) (pj l):=
 ⟨by (dsimp only[t_]);decide,λ p b=>by refine b4 (aC.mp b) λ q Z a=>?_;subst a;rfl,oQ nd⟩
theorem dN{x:α}(h:l[j]? =ah x):l.take (j+1)=l.take j++[x]:=by simp only[List.take_add_one,h];rfl
noncomputable def fe(s:fy):List ((Nat×Nat)×Nat):=s.Q5.map λ r=>((s.number,r),(s.Q4.lookup r).getD 0)
structure sA(bx:List fy):Prop where
 len:bx.length<=2000
 num:∀(j:Nat) (s:fy),bx[j]? =ah s->s.number=j
 nd:∀s∈bx,(s.Q4.map (·.1)).Nodup/\s.Q5.Perm (s.Q4.map (·.1))/\s.Q5.length<=60
theorem vP{bx:List fy}(S:sA bx):((bx.flatMap fe).map (·.1)).Nodup:=by
 have d:∀(l:List fy) (n:Nat),(∀j s,l[j]? =ah s->s.number=n+j)->(∀s∈l,s.Q5.Nodup)->((l.flatMap fe).map (·.1)).Nodup/\∀q∈l.flatMap fe,n<=q.1.1:=λ l=>by
  induction l with
  |nil=>intro n _ _;exact ⟨bK,λ q c=>(nomatch c)⟩
  |cons s l z=>
   intro n u hd;refine za (z (n+1) (λ j t h=>by have:=u (j+1) t h;exact Lu this) λ t w=>hd t (.tail _ w)) λ A o=>?_;have g:s.number=n:=u 0 s rfl;rw[db,aK,aV];refine ⟨⟨?_,A,λ a y b x e=>?_⟩,λ q c=>?_⟩
   ·dsimp only[fe];simp only[bs,aO,bS];exact (aO.mp (hd s (.head _))).imp λ h e=>h (congrArg Prod.snd e)
   ·refine b4 (aC.mp y) λ p v f=>?_;subst f;refine b4 (aC.mp x) λ q c k=>?_;subst k;refine b4 (aC.mp v) λ r Z i=>?_;subst i;have:=o q c;simp only[<-e]at this;exact absurd ‹_› (fi ‹_›)
   ·rcases aM.mp c with h|h
    ·refine b4 (aC.mp h) λ r Z m=>?_;subst m;show n<=s.number;exact cq (bz ‹_›)
    ·have:=o q h;exact bc ‹_›
 exact (d bx 0 (λ j s h=>by (refine (S.num j s h).trans ?_);exact Lr) λ s g=>(S.nd s g).2.1.nodup_iff.mpr (S.nd s g).1).1
section
variable{f:aG}
theorem sa(I:f6 O G d T)(A:FR G CS CA)(s:fy){Q:V->St->Prop}(v:V)(h:XV O Ex (bv value O.env) (M5 (s.v CS) v Q) Y)(b:autoParam (s.RV.lookup attr=ah v) rk)(c:autoParam ((["number","kernel","core","symbol","items","moves","reductions","masks"]:List Str).elem attr=aj) rk)(f:autoParam (I_ value attr pos O.env) rf):XV O Ex (bv (.Attribute value attr pos) O.env) Q Y:=fa I (h.mono λ Z Z a=>by obtain ⟨e,q⟩:=a;exact ⟨CS,_,v,e,A.s _ (uS c),b,q⟩) f
theorem Bw{a:aG}{l:List ((Nat×Nat)×Nat)}{k:Nat×Nat}{v:Nat}{m:Mu}{Q:St->Prop}(i:Nat)(ok:O.Ok)(hi:Y.mu[i]? =ah (a,.dict (pj l)))(nd:(l.map (·.1)).Nodup)(hz:l.length<=2^20)(e:Y.mu.set i (a,.dict (pj (xr k v l)))=m)(h:Q ⟨Y.vals,m⟩):
 wz O Ex (.ref a) (dp k) (.nat v) Q Y:=i_ i ok hi (zL k nd) (by unfold pj;rw[au];exact hz) (by rw[E5];exact e) h
theorem w6(A:FR G CS CA)(Yy:Fn G "masks_of" "masks_of" (top 26) ["canonical"] [])(g:Gr)(bx:List fy)(S:sA bx):
 cD G (d+1) (.ref Yy.f) [kJ CG CR CS CA g bx] J (λ v J'=>v=.dict (pj (bx.flatMap fe))/\J'=J):=by
 refine de Yy.y _ _ _ rfl λ O I=>?_;have w:=S.len;have C:=vP S;have L:∀n,((bx.take n).flatMap fe).length<=60*n:=λ n=>by
  have:∀l:List fy,(∀s∈l,s.Q5.length<=60)->(l.flatMap fe).length<=60*l.length:=λ l=>by
   induction l with
   |nil=>intro _;exact aT _
   |cons s l Q=>intro h;rw[db,aF,bj];have N:=Q λ t B=>h t (.tail _ B);unfold fe at N ⊢;rw[au];exact Lq (h s (.head _)) N
  have h:=this (bx.take n) λ s R=>(S.nd s (cE R)).2.2;rw[bb]at h;exact Lp h
 let P:V:=kJ CG CR CS CA g bx
 refine aB<|sl I 1<|hH I.ok λ af=>?_;let q:List ((Nat×Nat)×Nat)×List (Option V)->St:=λ a=>⟨[ah P,ah (.ref af),ov a.2 0,ov a.2 1],(af,.dict (pj a.1))::J⟩
 let H:Nat->List ((Nat×Nat)×Nat)×List (Option V)->Prop:=λ i a=>a.1=(bx.take i).flatMap fe
 refine aB<|iH q H<|fa I<|nl I 0 rfl ⟨CA,mK CG CR CS g bx,.list (bx.map (fy.v CS)),rfl,A.a _ (by decide+kernel),by kernel_rfl,_,_,_,lA (fy.v CS) bx ⟨0,[],0,[],[],[],[]⟩ I.ok.hand,([],[]),rfl,rfl,λ Z Z Z Z=>trivial,λ i a hi e=>?_,λ a e=>?_⟩
 ·obtain ⟨l,o⟩:=a;have e:l=(bx.take i).flatMap fe:=e;have B:(bx.take (i+1)).flatMap fe=l++fe (bx.getD i ⟨0,[],0,[],[],[],[]⟩):=by rw[aS hi,dS,e,e4 hi];simp
  have hS:=S.nd _ (bd hi ⟨0,[],0,[],[],[],[]⟩);have M:=L i;rw[<-e]at M;have f:((l++fe (bx.getD i ⟨0,[],0,[],[],[],[]⟩)).map (·.1)).Nodup:=by
   rw[<-B];refine C.sublist ?_
   conv=>rhs;rw[<-c7 (i+1) bx,dS,aK]
   exact uR _ _
  show XA _ _ _ _ (qe _ _ _ (oo _ (At q (λ a=>a.1=(bx.take (i+1)).flatMap fe)))) _;rw[B];generalize bx.getD i ⟨0,[],0,[],[],[],[]⟩=s at hS f ⊢;refine jw hS λ U D K=>?_;let u:List ((Nat×Nat)×Nat)×List (Option V)->St:=λ a=>⟨[ah P,ah (.ref af),ah (s.v CS),ov a.2 0],(af,.dict (pj a.1))::J⟩
  let F:Nat->List ((Nat×Nat)×Nat)×List (Option V)->Prop:=λ j a=>a.1=l++(fe s).take j
  have y:(fe s).length=s.Q5.length:=au ..;refine Mine.al I 2<|aB<|iH u F<|sa I A s (.list (s.Q5.map .nat))<|nl I 2 rfl ⟨rfl,_,_,_,lA V.nat s.Q5 0 I.ok.hand,(l,[ov o 1]),rfl,(cL _).symm,λ Z Z Z Z=>trivial,λ j b E c=>?_,λ b c=>?_⟩
  ·obtain ⟨l',T⟩:=b;have c:l'=l++(fe s).take j:=c;have z:s.Q5.getD j 0∈s.Q4.map (·.1):=D.mem_iff.mp (bd E 0);refine ze (eM.mpr z) λ m z=>?_;have x:(fe s).take (j+1)=(fe s).take j++[((s.number,s.Q5.getD j 0),m)]:=by refine dN ?_;unfold fe;rw[aN,ay E,<-e4 E 0];show ah ((s.number,s.Q5.getD j 0),_)=_;rw[z];rfl
   have p:(l'.map (·.1)).Nodup/\(s.number,s.Q5.getD j 0)∉l'.map (·.1):=by
    have:((l'++[((s.number,s.Q5.getD j 0),m)]).map (·.1)).Nodup:=by rw[c,bY,<-x];exact f.sublist (g8 _ (pF (ff _ _) _))
    rw[aK,aV]at this;exact ⟨this.1,λ h=>this.2.2 _ h _ (.head _) rfl⟩
   show XA _ _ _ _ (qe _ _ _ (oo _ (At u (λ a=>a.1=l++(fe s).take (j+1))))) _;rw[x,<-bY,<-c];generalize s.Q5.getD j 0=r at z p ⊢;exact Mine.al I 3<|aB<|ss<|sb<|sa I A s (.dict (dV s.Q4))<|nl I 2 rfl ⟨rfl,nl I 3 rfl<|ug I.ok U z<|nl I 1 rfl<|t2<|sa I A s (.nat s.number)<|nl I 2 rfl ⟨rfl,nl I 3 rfl<|Bw (k:=(s.number,r)) 0 I.ok rfl p.1 (show l'.length<=2^20 by rw[c,aF,bb,y];exact Lo M K hi w) (by rw[vQ p.2];rfl)<|bm ⟨(l'++[((s.number,r),m)],[_]),rfl,rfl⟩⟩⟩
  ·obtain ⟨l',T⟩:=b;have c:l'=l++(fe s).take s.Q5.length:=c;rw[<-y,a0]at c;exact bm ⟨(l',[_,_]),rfl,c⟩
 ·obtain ⟨l,o⟩:=a;have e:l=(bx.take bx.length).flatMap fe:=e;rw[a0]at e;subst e;exact aB<|dB<|nl I 1 rfl ⟨[(af,.dict (pj (bx.flatMap fe)))],J,J,_,rfl,λ Z h=>h,dE.refl _ _,.dict (.head _) (s4 _ _),rfl,rfl⟩
end
noncomputable def pi(g:Gr)(s:Nat):Str:=g.names.getD s ""
noncomputable def hJ(g:Gr)(r k:Nat):List Str:=(((g.right r).map (pi g)).take k)++Str.ofString "."::(((g.right r).map (pi g)).drop k)
noncomputable def sO(g:Gr)(r k:Nat):Str:=pi g (g.left r)++Str.ofString " : "++Txt.join (Str.ofString " ") (hJ g r k)
noncomputable def i6(g:Gr)(i m:Nat):Str:=sO g (g.Q3 i) (g.Q7 i)++Str.ofString "  ["++Txt.join (Str.ofString " ") ((dk 0 m).map (pi g))++Str.ofString "]"
structure AJ(g:Gr):Prop where
 nm:∀x∈g.names,x.length<=20
 rt:∀r,(g.right r).length<=3
theorem nV(h:AJ g)(s:Nat):(pi g s).length<=20:=by
 unfold pi;by_cases a:s<g.names.length
 ·exact h.nm _ (bd a "")
 ·rw[aD,bl (bR.mp ‹_›)];exact bg _
theorem tK(n:Nat):∀(l:List Str),(∀x∈l,x.length<=n)->(l.map (·.length)).sum<=n*l.length:=by
 intro l;induction l with
 |nil=>intro Z;exact bg _
 |cons x l a=>intro h;rw[be,List.sum_cons,bj,pO];exact Ln (h x (.head _)) (a λ y b=>h y (.tail _ b))
theorem lT(x:Str):∀(l:List Str),(Txt.join x l).length<=(l.map (·.length)).sum+l.length*x.length:=λ l=>by show (Builtin.Str.glued x l).length<=_;rw[StrLaws.glued_eq_join];exact StrLaws.join_length_le x l
theorem y8(h:AJ g)(r k:Nat):(hJ g r k).length<=4/\∀x∈hJ g r k,x.length<=20:=by
 unfold hJ;constructor
 ·have:=h.rt r;simp only[aF,bj,bb,fF,au];exact Lm this
 ·intro x d;have b:∀y∈(g.right r).map (pi g),y.length<=20:=λ y c=>by refine b4 (aC.mp c) λ s Z a=>?_;subst a;exact nV h s
  rcases aM.mp d with q|q
  ·exact b x (cE q)
  ·rcases aI.mp q with e|q
   ·subst e;decide+kernel
   ·exact b x (cz q)
theorem qx(h:AJ g)(r k:Nat):((hJ g r k).map (·.length)).sum+(hJ g r k).length*(Str.ofString " ").length<=84:=by refine za (y8 h r k) λ a b=>?_;rw[(show (Str.ofString " ").length=1 by decide+kernel)];exact Gn (tK 20 _ b) a
theorem zu:(Str.ofString " : ").length=3/\(Str.ofString "  [").length=3/\(Str.ofString "]").length=1/\(Str.ofString " ").length=1:=by decide+kernel
theorem zl(h:AJ g)(r k:Nat):(sO g r k).length<=107:=by unfold sO;rw[Str.length_append,Str.length_append,zu.1];exact Ll (nV h (g.left r)) (aA (lT (Str.ofString " ") (hJ g r k)) (qx h r k))
section
variable{f:aG}
theorem Ix{α:Type}{a:aG}{f:α->V}{l:List α}{x:α}{j:Nat}{Q:V->St->Prop}(i:Nat)(ok:O.Ok)(hi:Y.mu[i]? =ah (a,.list (l.map f)))(hz:l.length<=2^20)(b:j<=l.length)(h:Q .none ⟨Y.vals,Y.mu.set i (a,.list ((l.take j++x::l.drop j).map f))⟩):
 cS O Ex (.builtin "list.insert") [.ref a,.nat j,f x] Q Y:=Da i ok hi (by rw[au];exact hz) (by rw[au];exact b) (by rw[aK,be,g1,om]at h;exact h)
theorem vl(C:Cmn G CG CR)(Yy:Fn G "show_rule" "show_rule" (top 10) ["grammar","number","dot"] [])(g:Gr)(c:c_ g)(n:AJ g)(r k:Nat)(s:r<g.rules.length)(hk:k<=(g.right r).length):
 cD G (d+1) (.ref Yy.f) [g.v CG CR,.nat r,.nat k] J (λ v J'=>v=.str (sO g r k)/\J'=J):=by
 refine lX Yy.y _ _ _ rfl λ O I y=>?_;have p:=n.rt r;refine aB<|sl I 3<|sb<|ga I C.F g (.list (g.Q9 CR))<|nc I 0 rfl ⟨rfl,nl I 1 rfl<|Cv g s c.toSmall ?_⟩;refine aB<|MU I 4<|rr I C.F g r<|nl I 3 rfl ⟨rfl,_,_,_,Jp V.nat (g.right r) 0 I.ok.hand,aA p (by decide),(λ i a acc m=>∃o,a=[ai,o,ah (g.v CG CR)]/\acc=(((g.right r).take i).map (pi g)).map .str/\m=J),⟨_,n7 I,rfl,rfl⟩,?_,?_,?_⟩
 ·rintro i a acc m hi ⟨o,rfl,rfl,rfl⟩;exact ⟨by rw[au,au,bb];exact qV,λ Z=>trivial⟩
 ·rintro O' C' i a acc m D hi ⟨o,rfl,rfl,rfl⟩;have l:=C'.SE I;have t:=jn c _ (bd hi 0);rw[dN (ay hi),<-e4 hi 0];refine Mine.al l 1<|gs<|sb<|ga l C.F g (.list (g.names.map .str))<|nc l 2 rfl ⟨rfl,nl l 1 rfl<|lU V.str "" t (gA t c.names) ⟨[],rfl,_,rfl,?_,rfl⟩⟩;rw[aK,aK];rfl
 ·rintro a acc m ⟨o,rfl,rfl,rfl⟩;rw[a0];refine .M λ w=>?_;have b:((g.right r).map (pi g)).length=(g.right r).length:=au ..;have e:=qx n r k;have u:=nV n (g.left r);have j:=zu.1;have q:=c.left r s;refine aB<|eW<|tq<|nl I 2 rfl<|dJ<|H5 ⟨_,rfl,iz (decide_eq_true (by show (0:Int)<=(k:Int);exact br _))<|aB<|xe I<|mb I PySem.F.plainAttrs_list PySem.F.slot_list_insert PySem.F.type_list_insert<|nl I 4 rfl ⟨.list (.led 0 rfl),an<|nl I 2 rfl<|a1<|c1<|Ix (f:=V.str) (x:=Str.ofString ".") 0 I.ok rfl (by rw[b];exact aA ‹_› (by decide)) (by rw[b];exact hk)<|bm ?_⟩⟩;refine aB<|dB<|bw<|bw<|sb<|ga I C.F g (.list (g.names.map .str))<|nc I 0 rfl ⟨rfl,rl I C.F g r<|nl I 3 rfl ⟨rfl,lU V.str "" q.1 (gA q.1 c.names)<|c1<|i1 (by rw[j];show (pi g (g.left r)).length+3<=_;exact Gm u)<|mb I PySem.F.plainAttrs_str PySem.F.slot_str_join PySem.F.type_str_join<|c1 ⟨.str,a1<|nl I 4 rfl<|uE (xs:=hJ g r k) (.led 0 rfl) (aA e (by decide))<|i1 ?_ ?_⟩⟩⟩
  ·rw[Str.length_append,j];show (pi g (g.left r)).length+3+_<=_;exact Gk u (aA (lT (Str.ofString " ") (hJ g r k)) e)
  ·exact ⟨[(w,.list ((hJ g r k).map .str))],m,m,_,rfl,λ Z h=>h,dE.refl _ _,.refl _,rfl,rfl⟩
theorem vm(C:Cmn G CG CR)(b:Fn G "show_rule" "show_rule" (top 10) ["grammar","number","dot"] [])(Yy:Fn G "show_item" "show_item" (top 11) ["grammar","item"] [])(g:Gr)(a:c_ g)(e:AJ g)(i:Nat)(hi:i<g.owners.length):
 cD G (d+2) (.ref Yy.f) [g.v CG CR,.nat i] J (λ v J'=>v=.str (sO g (g.Q3 i) (g.Q7 i))/\J'=J):=by
 refine de Yy.y _ _ _ rfl λ O I=>?_;have c:=g.item_at hi;exact aB<|dB<|cg I 2 b<|an<|nl I 0 rfl<|an<|gm I C.Ri g<|nl I 0 rfl<|og<|a1<|nl I 1 rfl<|iu I (kq (d:=d) C.F C.Ri.y g i a.toSmall hi) kt<|a1<|gm I C.RK g<|nl I 0 rfl<|og<|a1<|nl I 1 rfl<|iu I (nM (d:=d) C.F C.RK.y g i a.toSmall hi) kt<|iu I (vl (d:=d) C b g a e _ _ c.1 c.2.2) kt<|i2 ⟨rfl,rfl⟩
theorem oJ(C:Cmn G CG CR)(A:FR G CS CA)(X:Fn G "show_rule" "show_rule" (top 10) ["grammar","number","dot"] [])(P:Fn G "show_item" "show_item" (top 11) ["grammar","item"] [])(Q:Fn G "bits" "bits" (top 4) ["mask"] [])(Yy:Fn G "show_canonical" "show_canonical" (top 27) ["canonical","number"] [])
 (g:Gr) (N:c_ g) (L:AJ g) (bx:List fy) (j:Nat) (hj:j<bx.length) (M:j<2^62) (s:fy) (E:bx[j]? =ah s) (nd:(s.items.map (·.1)).Nodup) (hi:∀p∈s.items,p.1<g.owners.length) (S:∀p∈s.items,(dk 0 p.2).length<=60/\∀t∈dk 0 p.2,t<g.names.length) (T:s.items.length<=60):
 cD G (d+3) (.ref Yy.f) [kJ CG CR CS CA g bx,.nat j] J (λ v J'=>v=.list ((s.items.map λ p=>i6 g p.1 p.2).map .str)/\J'=J):=by
 refine lX Yy.y _ _ _ rfl λ O I Oo=>?_;let W:V:=kJ CG CR CS CA g bx
 refine aB<|DH I Oo 2<|fa I<|nl I 0 rfl ⟨CA,mK CG CR CS g bx,g.v CG CR,rfl,A.a _ (by decide+kernel),by kernel_rfl,?_⟩;refine aB<|sl I 3<|sb<|fa I<|nl I 0 rfl ⟨CA,mK CG CR CS g bx,.list (bx.map (fy.v CS)),rfl,A.a _ (by decide+kernel),by kernel_rfl,nl I 1 rfl ⟨⟨_,.list .frozen⟩,dM .frozen (by rw[aN,E];rfl) M ?_⟩⟩;refine aB<|sl I 4<|ey I.ok<|cx ⟨bg _,λ e=>?_⟩;let st:List Str×List (Option V)->St:=λ a=>⟨[ah W,ah (.nat j),ah (g.v CG CR),ah (s.v CS),ah (.ref e),ov a.2 0,ov a.2 1,ov a.2 2,ai,ai],(e,.list (a.1.map .str))::J⟩
 let Y:Nat->List Str×List (Option V)->Prop:=λ i a=>a.1=(s.items.take i).map λ p=>i6 g p.1 p.2
 refine aB<|iH st Y<|sa I A s (.dict (dV s.items))<|nl I 3 rfl ⟨rfl,_,_,_,A7 I.ok.hand nd,([],[]),rfl,rfl,λ Z Z Z Z=>trivial,λ i a c f=>?_,λ a f=>?_⟩
 ·obtain ⟨l,o⟩:=a;have f:l=(s.items.take i).map λ p=>i6 g p.1 p.2:=f;have F:l.length<=2^20:=by rw[f,au,bb];exact Lk T
  have R:(s.items.take (i+1)).map (λ p=>i6 g p.1 p.2)=l++[i6 g (s.items.getD i (0,0)).1 (s.items.getD i (0,0)).2]:=by rw[dN (ay c),<-e4 c (0,0),aK,<-f];rfl
  have z:=gY nd c;have r:=hi _ (bd c (0,0));refine za (S _ (bd c (0,0))) λ k y=>?_;show XA _ _ _ _ (qe _ _ _ (oo _ (At st (λ a=>a.1=(s.items.take (i+1)).map λ p=>i6 g p.1 p.2)))) _;rw[R];generalize s.items.getD i (0,0)=p at z r k y ⊢;refine Mine.al I 5<|aB<|MU I 6<|cg I 8 Q<|a1<|sb<|sa I A s (.dict (dV s.items))<|nl I 3 rfl ⟨rfl,nl I 5 rfl<|ug I.ok nd z<|iu I (HS (d:=d) Q.y p.2 (aQ k (by decide))) yp ⟨_,_,_,lA V.nat (dk 0 p.2) 0 I.ok.hand,aA k (by decide),(λ i b acc m=>∃o,b=[ai,o,ah (g.v CG CR)]/\acc=(((dk 0 p.2).take i).map (pi g)).map .str/\m=(e,.list (l.map .str))::J),⟨_,n7 I,rfl,rfl⟩,?_,?_,?_⟩⟩
  ·rintro i b acc m hi ⟨o,rfl,rfl,rfl⟩;exact ⟨by rw[au,au,bb];exact qV,λ Z=>trivial⟩
  ·rintro O' C' i b acc m D hi ⟨o,rfl,rfl,rfl⟩;have B:=C'.SE I;have E:=y _ (bd hi 0);rw[dN (ay hi),<-e4 hi 0];refine Mine.al B 1<|gs<|sb<|ga B C.F g (.list (g.names.map .str))<|nc B 2 rfl ⟨rfl,nl B 1 rfl<|lU V.str "" E (gA E N.names) ⟨[],rfl,_,rfl,?_,rfl⟩⟩;rw[aK,aK];rfl
  ·rintro b acc m ⟨o,rfl,rfl,rfl⟩;rw[a0];have w:(((dk 0 p.2).map (pi g)).map (·.length)).sum+((dk 0 p.2).map (pi g)).length*(Str.ofString " ").length<=1260:=by
    have:=tK 20 ((dk 0 p.2).map (pi g)) λ x U=>by refine b4 (aC.mp U) λ s Z H=>?_;subst H;exact nV L s
    rw[au]at this ⊢;rw[zu.2.2.2];exact Lj this k
   have u:=aA (lT (Str.ofString " ") ((dk 0 p.2).map (pi g))) w;have q:=zl L (g.Q3 p.1) (g.Q7 p.1);refine wR zu λ Z n K Z=>?_;refine .F<|aB<|sl I 7<|cg I 9 P<|an<|nc I 2 rfl<|a1<|nl I 5 rfl<|iu I (vm (d:=d) C X P g N L p.1 r) s7 ?_;refine aB<|xe I<|ge I<|nl I 4 rfl ⟨e,_,0,rfl,rfl,bw<|bw<|bw<|nl I 7 rfl<|c1<|i1 (by rw[n];exact Lh q)<|mb I PySem.F.plainAttrs_str PySem.F.slot_str_join PySem.F.type_str_join<|c1 ⟨.str,a1<|nl I 6 rfl<|uE (xs:=(dk 0 p.2).map (pi g)) .frozen (aA w (by decide))<|i1 ?_<|c1<|i1 ?_ ?_⟩⟩
   ·rw[Str.length_append,n];exact Lg q u
   ·rw[Str.length_append,Str.length_append,n,K];exact Lf q u
   ·exact uF Str (x:=i6 g p.1 p.2) 0 rfl F rfl<|bm ⟨(l++[i6 g p.1 p.2],[_,_,_]),rfl,rfl⟩
 ·obtain ⟨l,o⟩:=a;have f:l=(s.items.take s.items.length).map λ p=>i6 g p.1 p.2:=f;rw[a0]at f;subst f;refine aB<|dB<|nl I 4 rfl ?_;generalize s.items.map (λ p=>i6 g p.1 p.2)=l;exact ⟨[(e,.list (l.map .str))],J,J,.list (l.map .str),rfl,λ Z h=>h,dE.refl _ _,.list (.head _) (Rf.refl _ _),rfl,rfl⟩
end
noncomputable abbrev g0:=List (Str×List Str)×List (Str×Bool)
noncomputable def nK(x n:Str)(st:List (Str×List Str)):List (Str×List Str):=st.map λ p=>if p.1=x then (p.1,fQ p.2 n)else p
noncomputable def xG(x:Str)(em:List (Str×Bool)):List (Str×Bool):=em.map λ p=>if p.1=x then (p.1,aj)else p
noncomputable def p6(x:Str)(a:g0)(n:Str):g0:=if n="" then (a.1,xG x a.2)else (nK x n a.1,a.2)
noncomputable def el(a:g0)(p:Pr):g0:=(d_ a.1 a.2 "" [] p.2).foldl (p6 p.1) a
noncomputable def oM(pairs:List Pr)(a:g0):g0:=pairs.foldl el a
noncomputable def f3(pairs:List Pr):Nat->g0
 |0=>((ba pairs).map λ x=>(x,[]),(ba pairs).map λ x=>(x,ao))
 |n+1=>oM pairs (f3 pairs n)
noncomputable def dt(pairs:List Pr):g0:=f3 pairs (pairs.length+1)
noncomputable def vf(st:List (Str×List Str)):List (V×V):=st.map λ p=>(.str p.1,.list (p.2.map .str))
theorem Q_{st:List (Str×List Str)}{em:List (Str×Bool)}:∀(l acc:List Str),x∈d_ st em ahead acc l->x∈acc\/x=ahead\/x∈l\/∃p∈st,x∈p.2:=by
 intro l;induction l with
 |nil=>
  intro acc h;skip;rcases aM.mp h with h|h
  ·exact .inl h
  ·exact .inr (.inl (aE.mp h))
 |cons y l d=>
  intro acc h;simp only[mx]at h;cases e:st.lookup y with
  |none=>
   rw[e]at h;rcases aM.mp h with h|h
   ·exact .inl h
   ·exact .inr (.inr (.inl ((aE.mp h)▸.head _)))
  |some r=>
   rw[e]at h;have c:∀z∈r,∃p∈st,z∈p.2:=λ z hz=>by refine g_ (bM.mp e) λ a b f Z=>?_;exact ⟨(y,r),by rw[f];simp,hz⟩
   dsimp only at h;split at h
   ·rcases d _ h with h|h|h|h
    ·rcases aM.mp h with h|h
     ·exact .inl h
     ·exact .inr (.inr (.inr (c x h)))
    ·exact .inr (.inl h)
    ·exact .inr (.inr (.inl (.tail _ h)))
    ·exact .inr (.inr (.inr h))
   ·rcases aM.mp h with h|h
    ·exact .inl h
    ·exact .inr (.inr (.inr (c x h)))
theorem ty{st:List (Str×List Str)}{em:List (Str×Bool)}{n:Nat}(h:∀p∈st,p.2.length<=n):∀(l acc:List Str),(d_ st em ahead acc l).length<=acc.length+n*l.length+1:=by
 intro l;induction l with
 |nil=>intro acc;simp only[qi,aF,cJ];exact aT _
 |cons y l d=>
  intro acc;simp only[mx,bj,pO];cases e:st.lookup y with
  |none=>dsimp only;rw[aF];exact Le
  |some r=>
   have c:r.length<=n:=by refine g_ (bM.mp e) λ a b f Z=>?_;exact h (y,r) (by rw[f];simp)
   dsimp only;split
   ·have:=d (acc++r);simp only[aF]at this;exact Ld this c
   ·simp only[aF];exact Lc c
structure ie(pairs:List Pr)(a:g0):Prop where
 ks:a.1.map (·.1)=ba pairs
 ke:a.2.map (·.1)=ba pairs
 row:∀p∈a.1,p.2.Nodup/\∀x∈p.2,x∈pairs.flatMap (·.2)
theorem qF(x n:Str)(st:List (Str×List Str)):(nK x n st).map (·.1)=st.map (·.1):=by unfold nK;refine bs.trans ?_;exact bE λ p Z=>by show (if p.1=x then _ else p).1=p.1;split<;>rfl
theorem tm(x:Str)(em:List (Str×Bool)):(xG x em).map (·.1)=em.map (·.1):=by unfold xG;refine bs.trans ?_;exact bE λ p Z=>by show (if p.1=x then _ else p).1=p.1;split<;>rfl
theorem nn{l:List Str}(h:l.Nodup):(fQ l x).Nodup:=by
 unfold fQ;split
 ·exact h
 ·rename_i hx;rw[aV];refine ⟨h,by simp,λ a d b c e=>hx (dI.mpr ⟨a,d,by rw[beq_iff_eq,e,aE.mp c]⟩)⟩
theorem kK{l:List Str}{y:Str}:y∈fQ l x↔y∈l\/y=x:=by
 unfold fQ;split
 ·rename_i hx;refine b4 (dI.mp hx) λ z hz e=>?_;rw[beq_iff_eq]at e;exact ⟨.inl,λ h=>h.elim id λ h=>by rw[h,<-e];exact hz⟩
 ·simp only[aM,aE]
theorem ie.put{a:g0}(h:ie pairs a)(x:Str){n:Str}(i:n=""\/n∈pairs.flatMap (·.2)):ie pairs (p6 x a n):=by
 unfold p6;by_cases e:n=""
 ·rw[if_pos e];exact ⟨h.ks,by rw[tm];exact h.ke,h.row⟩
 ·rw[if_neg e];refine ⟨by rw[qF];exact h.ks,h.ke,λ p d=>?_⟩;refine b4 (aC.mp d) λ q f c=>?_;subst c;have b:=h.row q f;split
  ·exact ⟨nn b.1,λ y g=>(kK.mp g).elim (b.2 y) λ h=>h▸i.resolve_left e⟩
  ·exact ⟨b.1,b.2⟩
theorem ie.names{a:g0}(h:ie pairs a){p:Pr}(b:p∈pairs):∀n∈d_ a.1 a.2 "" [] p.2,n=""\/n∈pairs.flatMap (·.2):=λ n d=>by
 rcases Q_ _ _ d with h'|h'|h'|⟨q,c,h'⟩
 ·cases h'
 ·exact .inl h'
 ·exact .inr (bT.mpr ⟨p,b,h'⟩)
 ·exact .inr ((h.row q c).2 n h')
theorem ie.Vw(x:Str):∀(l:List Str) {a:g0},ie pairs a->(∀n∈l,n=""\/n∈pairs.flatMap (·.2))->ie pairs (l.foldl (p6 x) a):=by
 intro l;induction l with
 |nil=>intro Z h Z;exact h
 |cons n l d=>intro Z h b;exact d (h.put x (b n (.head _))) λ m c=>b m (.tail _ c)
theorem ie.pair{a:g0}(h:ie pairs a){p:Pr}(b:p∈pairs):ie pairs (el a p):=ie.Vw p.1 _ h (h.names b)
theorem ie.round:∀(l:List Pr) {a:g0},ie pairs a->(∀p∈l,p∈pairs)->ie pairs (l.foldl el a):=by
 intro l;induction l with
 |nil=>intro Z h Z;exact h
 |cons p l d=>intro Z h b;exact d (h.pair (b p (.head _))) λ q c=>b q (.tail _ c)
theorem ie.rounds(pairs:List Pr):∀n,ie pairs (f3 pairs n):=by
 intro n;induction n with
 |zero=>exact ⟨by show ((ba pairs).map _).map _=_;refine bs.trans ?_;exact ed _,by show ((ba pairs).map _).map _=_;refine bs.trans ?_;exact ed _,λ p b=>by refine b4 (aC.mp b) λ x Z a=>?_;subst a;exact ⟨bK,λ y c=>(nomatch c)⟩⟩
 |succ n d=>exact ie.round pairs (d) λ Z h=>h
theorem gn:x∈ba pairs↔∃p∈pairs,p.1=x:=by
 have:∀(l:List Pr) (acc:List Str),x∈l.foldl (λ l p=>fQ l p.1) acc↔x∈acc\/∃p∈l,p.1=x:=λ l=>by
  induction l with
  |nil=>intro acc;simp
  |cons q l b=>
   intro acc;simp only[c3,b,kK];constructor
   ·rintro ((h|h)|⟨p,a,e⟩)
    ·exact .inl h
    ·exact .inr ⟨q,.head _,h.symm⟩
    ·exact .inr ⟨p,.tail _ a,e⟩
   ·rintro (h|⟨p,a,e⟩)
    ·exact .inl (.inl h)
    ·rcases aI.mp a with rfl|a
     ·exact .inl (.inr e.symm)
     ·exact .inr ⟨p,a,e⟩
 unfold ba;rw[(this pairs [])];simp
theorem jK(pairs:List Pr):(ba pairs).Nodup:=by
 have:∀(l:List Pr) (acc:List Str),acc.Nodup->(l.foldl (λ l p=>fQ l p.1) acc).Nodup:=λ l=>by
  induction l with
  |nil=>intro acc h;exact h
  |cons q l a=>intro acc h;exact a _ (nn h)
 exact this pairs [] bK
noncomputable def sI(P:List (Str×Nat))(F:Nat->V):List (V×V):=P.map λ p=>(.str p.1,F p.2)
noncomputable def sj(x:Str)(n:Nat):List (Str×Nat)->List (Str×Nat)
 |[]=>[(x,n)]
 |p::r=>if p.1=x then (p.1,n)::r else p::sj x n r
theorem vg{n:Nat}:sj x n []=([(x,n)]):=rfl
theorem vh{x:Str}{n:Nat}{p r}:sj x n (p::r)=(if p.1=x then (p.1,n)::r else p::sj x n r):=rfl
theorem HT(x:Str)(n:Nat)(F:Nat->V):∀P,io (.str x) (F n) (sI P F)=sI (sj x n P) F:=by
 intro P;induction P with
 |nil=>exact rfl
 |cons p r a=>
  have a:=a;unfold sI at*;simp only[be,nG,vg,vh,hP];by_cases e:p.1=x
  ·rw[if_pos e,if_pos (by simp only[beq_iff_eq];exact e)];rfl
  ·rw[if_neg e,if_neg (by simp only[beq_iff_eq];exact e),a];rfl
theorem zi(x:Str)(n:Nat):∀P:List (Str×Nat),(sj x n P).map (·.1)=fQ (P.map (·.1)) x:=by
 intro P;induction P with
 |nil=>exact rfl
 |cons p r a=>
  have a:=a;dsimp only[vg,vh];unfold fQ at*;rw[be,List.any_cons];by_cases e:p.1=x
  ·rw[if_pos e,if_pos (by rw[show (p.1==x)=aj by simp only[beq_iff_eq];exact e];rfl)];rfl
  ·rw[if_neg e,be,a,show (p.1==x)=ao from beq_eq_false_iff_ne.mpr e,Bool.false_or];split<;>rfl
theorem sN{n:Nat}:∀{P:List (Str×Nat)},i∈(sj x n P).map (·.2)->i=n\/i∈P.map (·.2):=by
 intro P;induction P with
 |nil=>intro h;exact .inl (by simpa[vg,vh]using h)
 |cons p r a=>
  intro h;simp only[vh]at h;split at h
  ·rcases aI.mp h with h|h
   ·exact .inl h
   ·exact .inr (.tail _ h)
  ·rcases aI.mp h with h|h
   ·exact .inr (by simp only[h];exact .head _)
   ·exact (a h).imp id λ h=>.tail _ h
theorem wZ{n:Nat}:∀{P:List (Str×Nat)},(P.map (·.2)).Nodup->n∉P.map (·.2)->((sj x n P).map (·.2)).Nodup:=by
 intro P;induction P with
 |nil=>intro Z Z;simp[vg]
 |cons p r b=>
  intro h a;simp only[be,bB]at h;rw[be,aI,not_or]at a;dsimp only[vg,vh];split
  ·exact bB.mpr ⟨a.2,h.2⟩
  ·refine bB.mpr ⟨λ q=>?_,b h.2 a.2⟩;rcases sN q with q|q
   ·exact a.1 q.symm
   ·exact h.1 q
theorem EI(P:List (Str×Nat))(F:Nat->V):(sI P F).map (·.1)=(P.map (·.1)).map V.str:=by unfold sI;simp only[bs,bs];rfl
theorem vx{P:List (Str×Nat)}(F:Nat->V)(x:Str)(nd:(P.map (·.1)).Nodup):f5 (.str x) (sI P F):=
 ⟨by show (2:Nat)≠0;decide,λ p b=>by refine b4 (aC.mp b) λ q Z a=>?_;subst a;rfl,by simp only[EI];exact oG nd⟩
theorem HU(F:Nat->V)(x:Str):∀P:List (Str×Nat),ez (sI P F) (.str x)=(P.lookup x).map F:=by
 intro P;induction P with
 |nil=>exact rfl
 |cons c l d=>
  obtain ⟨a,b⟩:=c;dsimp only[ez,sI]at*;simp only[be,cU,bq,hP];cases e:x==a with
  |true=>rw[show (a==x)=aj by simp only[<-e];exact fm ..];rfl
  |false=>rw[show (a==x)=ao by simp only[<-e];exact fm ..];exact (d)
theorem yg(x:Str)(b:Bool):∀em:List (Str×Bool),(em.map (·.1)).Nodup->x∈em.map (·.1)->io (.str x) (.bool b) (jX em)=jX (em.map λ p=>if p.1=x then (p.1,b)else p):=by
 intro em;induction em with
 |nil=>intro Z h;exact nomatch h
 |cons p r a=>
  intro nd h;simp only[be,bB]at nd;dsimp only[jX];rw[be,be];dsimp only[sH,nG];rw[hP];by_cases e:p.1=x
  ·refine (if_pos (by rw[beq_iff_eq];exact e)).trans ?_;rw[if_pos e];have:r.map (λ p=>if p.1=x then (p.1,b)else p)=r:=by
    conv=>rhs;rw[<-ed r]
    refine bE λ q c=>?_;rw[if_neg λ d=>nd.1 (by rw[e,<-d];exact bp c)];rfl
   simp only[be,this]
  ·refine (if_neg (by rw[beq_iff_eq];exact e)).trans ?_;rw[if_neg e,be];have a:=a nd.2 ((aI.mp h).resolve_left (Ne.symm e));dsimp only[jX]at a;exact congrArg _ a
theorem vk(x:Str)(b:Bool):∀em:List (Str×Bool),x∉em.map (·.1)->io (.str x) (.bool b) (jX em)=jX (em++[(x,b)]):=by
 intro em;induction em with
 |nil=>intro Z;exact rfl
 |cons p r a=>intro h;simp only[be,aI,not_or]at h;have a:=a h.2;dsimp only[jX]at*;rw[be];dsimp only[sH,nG];rw[hP,if_neg (by rw[beq_iff_eq];exact Ne.symm h.1),a];rfl
structure Lz(L:List (aG×List Str))(P:List (Str×Nat))(st:List (Str×List Str))(kvs:List (V×V)):Prop where
 kv:kvs=sI P (λ j=>.ref (gt L j).1)
 ix:∀p∈P,p.2<L.length
 ni:(P.map (·.2)).Nodup
 st:st=P.map λ p=>(p.1,(gt L p.2).2)
theorem Lz.keys{L:List (aG×List Str)}{P:List (Str×Nat)}{st:List (Str×List Str)}(A:Lz L P st kvs):st.map (·.1)=P.map (·.1):=by simp only[A.st,bs];rfl
theorem HM{L:List (aG×List Str)}(post:Mu):∀{P:List (Str×Nat)},(∀p∈P,p.2<L.length)->yV ⟨[],ja V.str L++post⟩ (sI P (λ j=>.ref (gt L j).1)) (P.map λ p=>(p.1,(gt L p.2).2)):=by
 intro P;induction P with
 |nil=>intro Z;exact .nil
 |cons p P b=>intro h;exact .cons (.led _ (lR (h p (.head _)) post)) (b λ q a=>h q (.tail _ a))
theorem Lz.add{L:List (aG×List Str)}{P:List (Str×Nat)}{st:List (Str×List Str)}{kvs:List (V×V)}(A:Lz L P st kvs)(nd:(P.map (·.1)).Nodup){x n:Str}{j:Nat}(o:P.lookup x=ah j)(m:(gt L j).2.any (· ==n)=ao):
 Lz (L.set (L.length-1-j) ((gt L j).1,(gt L j).2++[n])) P (nK x n st) kvs:=by
 have k:(x,j)∈P:=by refine g_ (bM.mp o) λ a b e Z=>?_;rw[e];exact ax _ (.head _)
 have i:∀p∈P,gt (L.set (L.length-1-j) ((gt L j).1,(gt L j).2++[n])) p.2=if j=p.2 then ((gt L j).1,(gt L j).2++[n])else gt L p.2:=λ p c=>Cz (A.ix _ k) (A.ix p c) _;have inj:∀p∈P,(j=p.2↔p.1=x):=λ p c=>by
  refine Eb (dF.mp k) λ u f g=>?_;refine Eb (dF.mp c) λ v l d=>?_;constructor
  ·intro e;have:u=v:=by exact (fg (by simpa using f) A.ni).mp (by simp only[aN,aN,ay f,ay l,g,d];exact congrArg ah e)
   subst this;rw[g]at d;exact congrArg _ (bz d)
  ·intro e;have:u=v:=by exact (fg (by simpa using f) nd).mp (by simp only[aN,aN,ay f,ay l,g,d];exact congrArg ah e.symm)
   subst this;rw[g]at d;rw[<-d]
 refine ⟨?_,λ p c=>by simp only[bX];exact A.ix p c,A.ni,?_⟩
 ·refine A.kv.trans ?_;refine bE λ p c=>?_;show (V.str p.1,V.ref _)=(V.str p.1,V.ref _);rw[i p c];split
  ·rename_i e;rw[<-e]
  ·rfl
 ·rw[A.st];unfold nK;refine bs.trans ?_;refine bE λ p c=>?_;show (if p.1=x then (p.1,fQ (gt L p.2).2 n)else (p.1,(gt L p.2).2))=(p.1,_);rw[i p c];by_cases e:p.1=x
  ·refine (if_pos e).trans ?_;rw[if_pos ((inj p c).mpr e),<-(inj p c).mpr e];unfold fQ;exact congrArg _ (if_neg (by rw[m];decide))
  ·refine (if_neg e).trans ?_;rw[if_neg λ h=>e ((inj p c).mp h)]
theorem Lz.same{L:List (aG×List Str)}{P:List (Str×Nat)}{st:List (Str×List Str)}(A:Lz L P st kvs)(nd:(P.map (·.1)).Nodup){x n:Str}{j:Nat}(d:P.lookup x=ah j)(f:(gt L j).2.any (· ==n)=aj):nK x n st=st:=by
 rw[A.st];skip
 conv=>rhs;rw[<-ed (P.map λ p=>(p.1,(gt L p.2).2))]
 refine bE λ q c=>?_;refine b4 (aC.mp c) λ p b a=>?_;subst a;show (if p.1=x then (p.1,fQ (gt L p.2).2 n)else (p.1,(gt L p.2).2))=(p.1,(gt L p.2).2);by_cases e:p.1=x
 ·have:p.2=j:=by have h:P.lookup p.1=ah p.2:=gG nd b;rw[e,d]at h;cases h;rfl
  refine (if_pos e).trans ?_;rw[this];unfold fQ;exact congrArg _ (if_pos f)
 ·exact if_neg e
theorem Lz.fresh{L:List (aG×List Str)}{P:List (Str×Nat)}{st:List (Str×List Str)}{kvs:List (V×V)}(A:Lz L P st kvs)(d:∀p∈st,p.2=[])(x:Str)(a:aG):
 Lz ((a,[])::L) (sj x L.length P) ((fQ (st.map (·.1)) x).map λ y=>(y,[])) (io (.str x) (.ref a) kvs):=by
 have g:∀p∈P,gt ((a,[])::L) p.2=gt L p.2:=λ p b=>qf _ (A.ix p b);have f:∀i,i∈(sj x L.length P).map (·.2)->i=L.length\/i∈P.map (·.2):=λ i=>sN;have j:∀p∈P,(gt L p.2).2=[]:=λ p b=>d (p.1,(gt L p.2).2) (by rw[A.st];exact aC.mpr ⟨p,b,rfl⟩);refine ⟨?_,λ p b=>?_,wZ A.ni λ h=>?_,?_⟩
 ·rw[A.kv,<-HT];rw[uh];exact congrArg (io _ _) (bE λ p b=>by show (V.str p.1,V.ref (gt L p.2).1)=(V.str p.1,V.ref (gt ((a,[])::L) p.2).1);rw[g p b])
 ·rcases f p.2 (bp b)with h|h
  ·rw[h];exact b_ _
  ·refine b4 (aC.mp h) λ q c e=>?_;rw[<-e];exact cA (A.ix q c)
 ·refine b4 (aC.mp h) λ q c e=>?_;have:=A.ix q c;exact absurd ‹_› (ch ‹_›)
 ·simp only[A.keys,<-zi x L.length P,bs];refine bE λ p b=>?_;show (p.1,[])=(p.1,(gt ((a,[])::L) p.2).2);rcases f p.2 (bp b)with h|h
  ·rw[h,uh]
  ·refine b4 (aC.mp h) λ q c e=>?_;simp only[<-e,g q c,j q c]
theorem HP{L:List (aG×List Str)}(h:∀j<L.length,((gt L j).1,MO.list ((gt L j).2.map V.str))∈J):∀{P:List (Str×Nat)},(∀p∈P,p.2<L.length)->l7 J (sI P (λ j=>.ref (gt L j).1)) (vf (P.map λ p=>(p.1,(gt L p.2).2))):=by
 intro P;induction P with
 |nil=>intro Z;exact .nil
 |cons p P c=>intro a;exact .cons (.list (h p.2 (a p (.head _))) (Rf.refl _ _)) (c λ q b=>a q (.tail _ b))
section
variable{f:aG}
noncomputable abbrev x7(L:List (aG×List Str))(ae:aG)(em:List (Str×Bool))(as:aG)(kvs:List (V×V))(J:Mu):Mu:=ja V.str L++(ae,.dict (jX em))::(as,.dict kvs)::J
theorem Jf{L:List (aG×List Str)}{as:aG}{em:List (Str×Bool)}:(x7 L ae em as kvs J)[L.length+1]? =ah (as,.dict kvs):=by dsimp only[x7,ja];refine (bG (by rw[au];exact b0 _ _)).trans ?_;rw[au,cC];rfl
theorem NZ{L:List (aG×List Str)}{as:aG}{em:List (Str×Bool)}{a:List (V×V)}:(x7 L ae em as kvs J).set (L.length+1) (as,.dict a)=x7 L ae em as a J:=by dsimp only[x7,ja];refine (d2 _ _ (by rw[au];exact b0 _ _)).trans ?_;rw[au,cC];rfl
theorem PX{L:List (aG×List Str)}{as:aG}{em:List (Str×Bool)}:(x7 L ae em as kvs J)[L.length]? =ah (ae,.dict (jX em)):=k9 _ _
theorem Jg{L:List (aG×List Str)}{as:aG}{em a:List (Str×Bool)}:(x7 L ae em as kvs J).set L.length (ae,.dict (jX a))=x7 L ae a as kvs J:=vV _ _ _
theorem Bu(C:Cmn G CG CR)(Yb:Fn G "_law_begin" "_law_begin" (top 32) ["symbols","ahead","starts","empties"] [])(Yy:Fn G "_law_starts" "_law_starts" (top 33) ["pairs"] [])(pairs:List Pr)(hp:FM pairs):
 cD G (d+2) (.ref Yy.f) [.list (pairs.map pV)] J (λ v J'=>v=.tup [.dict (vf (dt pairs).1),.dict (jX (dt pairs).2)]/\J'=J):=by
 refine de Yy.y _ _ _ rfl λ O I=>?_;have R:=hp.len;have Uj:=mn pairs;have U:=jK pairs;let W6:V:=.list (pairs.map pV)
 refine aB<|sl I 1<|hH I.ok λ as=>aB<|sl I 2<|hH I.ok λ ae=>?_;let me:(List (aG×List Str)×List (Str×Nat)×g0×List (V×V))×List (Option V)->St:=λ a=>⟨[ah W6,ah (.ref as),ah (.ref ae),ov a.2 0,ov a.2 1,ov a.2 2,ov a.2 3,ai,ai,ai],x7 a.1.1 ae a.1.2.2.1.2 as a.1.2.2.2 J⟩
 let Vr:Nat->(List (aG×List Str)×List (Str×Nat)×g0×List (V×V))×List (Option V)->Prop:=λ i a=>Lz a.1.1 a.1.2.1 a.1.2.2.1.1 a.1.2.2.2/\a.1.1.length<=i/\a.1.2.2.1.1=(ba (pairs.take i)).map (λ x=>(x,[]))/\a.1.2.2.1.2=(ba (pairs.take i)).map λ x=>(x,ao)
 have Wo:Lz [] [] [] []:=⟨rfl,λ p hp=>(nomatch hp),bK,rfl⟩;refine aB<|iH me Vr<|nl I 0 rfl ⟨_,_,_,uZ pairs I.ok.hand,(([],[],([],[]),[]),[]),rfl,⟨Wo,aT _,rfl,rfl⟩,λ Z Z Z Z=>trivial,λ i a hi c=>?_,λ a c=>?_⟩
 ·obtain ⟨⟨L,P,⟨st,em⟩,kvs⟩,o⟩:=a;refine wR c λ A E z g=>?_;have E:L.length<=i:=E;have z:st=(ba (pairs.take i)).map λ x=>(x,[]):=z;have g:em=(ba (pairs.take i)).map λ x=>(x,ao):=g;have A:Lz L P st kvs:=A;have ht:ba (pairs.take (i+1))=fQ (ba (pairs.take i)) (pairs.getD i ("",[])).1:=fH _ _ hi ("",[]);have S6:st.map (·.1)=ba (pairs.take i):=by rw[z,bs];exact ed _
  have D:em.map (·.1)=ba (pairs.take i):=by rw[g,bs];exact ed _
  have Q:=jK (pairs.take i);have K:(P.map (·.1)).Nodup:=by rw[<-A.keys,S6];exact Q
  have hlen:(ba (pairs.take i)).length<=10:=by have:=mn (pairs.take i);rw[bb]at this;exact Lb this R
  have Uk:kvs.length<=2^20:=by rw[A.kv];unfold sI;rw[au];exact K9 (by rw[<-S6,A.keys,au]) hlen
  have U7:(jX em).length<=2^20:=by unfold jX;rw[au,<-au (f:=(·.1)),D];exact aA ‹_› (by decide)
  show XA _ _ _ _ (qe _ _ _ (oo _ (At me (λ a=>Lz a.1.1 a.1.2.1 a.1.2.2.1.1 a.1.2.2.2/\a.1.1.length<=i+1/\a.1.2.2.1.1=(ba (pairs.take (i+1))).map (λ x=>(x,[]))/\a.1.2.2.1.2=(ba (pairs.take (i+1))).map λ x=>(x,ao))))) _;rw[ht];generalize pairs.getD i ("",[])=p;have Xy:io (.str p.1) (.bool ao) (jX em)=jX ((fQ (ba (pairs.take i)) p.1).map λ x=>(x,ao)):=by
   by_cases h:p.1∈em.map (·.1)
   ·rw[yg p.1 ao em (by rw[D];exact Q) h];have e1:(em.map λ q=>if q.1=p.1 then (q.1,ao)else q)=em:=by
     conv=>rhs;rw[<-ed em]
     refine bE λ q M=>?_;rw[g]at M;refine b4 (aC.mp M) λ y Z Si=>?_;subst Si;split<;>rfl
    have e2:fQ (ba (pairs.take i)) p.1=ba (pairs.take i):=by unfold fQ;rw[D]at h;rw[if_pos (dI.mpr ⟨_,h,by rw[beq_iff_eq]⟩)]
    rw[e1,e2,<-g]
   ·rw[vk p.1 ao em h];have e2:fQ (ba (pairs.take i)) p.1=ba (pairs.take i)++[p.1]:=by unfold fQ;rw[D]at h;rw[if_neg λ q=>h (by refine b4 (dI.mp q) λ y hy e=>?_;rw[beq_iff_eq]at e;exact e▸hy)]
    rw[e2,aK,<-g];rfl
  refine Ar I<|Mine.al I 3<|Mine.al I 4<|aB<|ss<|ey I.ok<|cx ⟨bg _,λ a=>?_⟩;have F:=A.fresh (λ q M=>by rw[z]at M;refine b4 (aC.mp M) λ y Z Sw=>?_;subst Sw;rfl) p.1 a;rw[S6]at F;have H:f5 (.str p.1) kvs:=by rw[A.kv];exact vx _ _ K
  refine nl I 1 rfl<|nl I 3 rfl<|i_ (m:=x7 ((a,[])::L) ae em as (io (.str p.1) (.ref a) kvs) J) (L.length+1+1) I.ok (Jf (L:=(a,[])::L)) H Uk (NZ (L:=(a,[])::L)) ?_;refine aB<|ss<|iZ<|nl I 2 rfl<|nl I 3 rfl<|i_ (m:=x7 ((a,[])::L) ae ((fQ (ba (pairs.take i)) p.1).map λ x=>(x,ao)) as (io (.str p.1) (.ref a) kvs) J) (L.length+1) I.ok (PX (L:=(a,[])::L)) (oH (by rw[D];exact Q) _) U7 (by rw[Xy];exact Jg (L:=(a,[])::L)) ?_;exact bm ⟨(((a,[])::L,_,(_,_),_),[_,_,_,_]),rfl,F,ea E,rfl,rfl⟩
 obtain ⟨⟨L,P,⟨st,em⟩,kvs⟩,o⟩:=a;refine wR c λ A E z g=>?_;have E:L.length<=pairs.length:=E;have z:st=(ba (pairs.take pairs.length)).map λ x=>(x,[]):=z;have g:em=(ba (pairs.take pairs.length)).map λ x=>(x,ao):=g;have A:Lz L P st kvs:=A;rw[a0]at z g;have VC:(st,em)=f3 pairs 0:=by rw[z,g];rfl
 let w:g0->(List (aG×List Str)×List (Str×Nat)×g0×List (V×V))×List (Option V)->Prop:=λ s a=>Lz a.1.1 a.1.2.1 a.1.2.2.1.1 a.1.2.2.2/\a.1.1.length<=10/\a.1.2.2.1=s
 refine aB<|iH me (λ i=>w (f3 pairs i))<|cb I 7 C.range<|a1<|bw<|cb I 8 C.len<|a1<|nl I 0 rfl<|mw (aQ R (by decide))<|xn 1<|fM<|jr ⟨_,_,_,m3 I.ok.hand (K8 R),((L,P,(st,em),kvs),o),rfl,⟨A,aA ‹_› ‹_›,VC⟩,λ Z Z Z Z=>trivial,λ t a ht c=>?_,λ a c=>?_⟩
 ·clear A z g VC E;obtain ⟨⟨L,P,⟨st,em⟩,kvs⟩,o⟩:=a;have S0:=ie.rounds pairs t;show XA _ _ _ _ (qe _ _ _ (oo _ (At me (w (oM pairs (f3 pairs t)))))) _;have c:w (f3 pairs t) ((L,P,(st,em),kvs),o):=c;generalize f3 pairs t=s0 at S0 c ⊢;let F3:(List (aG×List Str)×List (Str×Nat)×g0×List (V×V))×List (Option V)->St:=λ a=>⟨[ah W6,ah (.ref as),ah (.ref ae),ov a.2 0,ov a.2 1,ah (.nat t),ov a.2 2,ai,ai,ai],x7 a.1.1 ae a.1.2.2.1.2 as a.1.2.2.2 J⟩
  refine Mine.al I 5<|aB<|iH F3 (λ i=>w ((pairs.take i).foldl el s0))<|nl I 0 rfl ⟨_,_,_,uZ pairs I.ok.hand,((L,P,(st,em),kvs),[ov o 0,ov o 1,ov o 3]),rfl,c,λ Z Z Z Z=>trivial,λ i a hi c=>?_,λ a c=>?_⟩
  ·obtain ⟨⟨L,P,⟨st,em⟩,kvs⟩,o⟩:=a;have W:ie pairs ((pairs.take i).foldl el s0):=ie.round _ S0 λ p h=>cE h;have T:=bd hi ("",[]);have c:w ((pairs.take i).foldl el s0) ((L,P,(st,em),kvs),o):=c;have X:=hp.right _ T;show XA _ _ _ _ (qe _ _ _ (oo _ (At F3 (w ((pairs.take (i+1)).foldl el s0))))) _;rw[(fH _ _ hi ("",[]))];generalize pairs.getD i ("",[])=p at T X ⊢;generalize (pairs.take i).foldl el s0=s1 at W c ⊢;refine jw c λ A E Sv=>?_;subst Sv;have A:Lz L P st kvs:=A;have Wj:=W.names T;have VF:p.1∈ba pairs:=gn.mpr ⟨p,T,rfl⟩;have Wr:(pairs.flatMap (·.2)).length<=30:=by
    have:∀l:List Pr,(∀q∈l,q.2.length<=3)->(l.flatMap (·.2)).length<=3*l.length:=λ l=>by
     induction l with
     |nil=>intro _;exact aT _
     |cons q l ih=>intro h;rw[db,aF,bj];exact Gj (h q (.head _)) (ih λ r hr=>h r (.tail _ hr))
    have:=this pairs hp.right;exact K7 this R
   have TH:∀q∈st,q.2.length<=30:=λ q M=>aA (aU (W.row q M).1 (W.row q M).2) Wr;have Yv:=yh (d:=d) Yb.y p.2 "" (J:=ja V.str L++[(ae,.dict (jX em)),(as,.dict kvs)]) (vs:=.ref as) (ve:=.ref ae) (kvs:=kvs) st em
    (.led (L.length+1) (by unfold ja;rw[bG (by rw[au];exact b0 _ _),au,cC];rfl))
    (by have:=HM (L:=L) [(ae,.dict (jX em)),(as,.dict kvs)] A.ix;rw[<-A.st,<-A.kv]at this;exact this)
    (.led L.length (k9 _ _)) (by rw[W.ks];exact U) (by rw[show em.map (·.1)=_ from W.ke,W.ks]) (λ q M=>aA (TH q M) (by decide)) (aA X (by decide))
   have TK:(d_ st em "" [] p.2).length<=2^20:=aA (ty TH p.2 []) (by simp only[g7];exact K6 X);have Sk:∀k,ie pairs (((d_ st em "" [] p.2).take k).foldl (p6 p.1) (st,em)):=λ k=>ie.Vw p.1 _ W λ n hn=>Wj n (cE hn);show XA _ _ _ _ (qe _ _ _ (oo _ (At F3 (w ((d_ st em "" [] p.2).foldl (p6 p.1) (st,em)))))) _;generalize d_ st em "" [] p.2=ns at Wj Yv TK Sk ⊢;let stC:(List (aG×List Str)×List (Str×Nat)×g0×List (V×V))×List (Option V)->St:=λ a=>⟨[ah W6,ah (.ref as),ah (.ref ae),ah (.str p.1),ah (.list (p.2.map .str)),ah (.nat t),ov a.2 0,ai,ai,ai],x7 a.1.1 ae a.1.2.2.1.2 as a.1.2.2.2 J⟩
   refine Ar I<|Mine.al I 3<|Mine.al I 4<|aB<|iH stC (λ k=>w ((ns.take k).foldl (p6 p.1) (st,em)))<|cg I 9 Yb<|an<|nl I 4 rfl<|an<|c1<|an<|nl I 1 rfl<|a1<|nl I 2 rfl<|sp I J Yv kt (bY (ja V.str L) [(ae,MO.dict (jX em)),(as,MO.dict kvs)] J).symm λ v J' zf=>za zf λ e1 e2=>?_;subst e1;subst e2;refine ⟨_,_,_,lA V.str ns "" I.ok.hand,((L,P,(st,em),kvs),[ov o 2]),congrArg (St.mk _) (bY (ja V.str L) [(ae,MO.dict (jX em)),(as,MO.dict kvs)] J),⟨A,E,rfl⟩,λ Z Z Z Z=>trivial,λ k a hk c=>?_,λ a c=>?_⟩
   ·obtain ⟨⟨L,P,⟨B,u⟩,kvs⟩,o⟩:=a;have c:w ((ns.take k).foldl (p6 p.1) (st,em)) ((L,P,(B,u),kvs),o):=c;have S:=Sk k;show XA _ _ _ _ (qe _ _ _ (oo _ (At stC (w ((ns.take (k+1)).foldl (p6 p.1) (st,em)))))) _;rw[(fH _ _ hk "")];generalize ns.getD k ""=n;generalize (ns.take k).foldl (p6 p.1) (st,em)=s2 at c S ⊢;refine jw c λ A E SN=>?_;subst SN;have A:Lz L P B kvs:=A;have K:(P.map (·.1)).Nodup:=by rw[<-A.keys,show B.map (·.1)=_ from S.ks];exact U
    have H:f5 (.str p.1) kvs:=by rw[A.kv];exact vx _ _ K
    have D:u.map (·.1)=ba pairs:=S.ke;have U7:(jX u).length<=2^20:=by unfold jX;rw[au,<-au (f:=(·.1)),D];exact Gp Uj R
    have Xy:io (.str p.1) (.bool aj) (jX u)=jX (xG p.1 u):=yg p.1 aj u (by rw[D];exact U) (by rw[D];exact VF);obtain ⟨j,Y⟩:∃j,P.lookup p.1=ah j:=by refine b4 (aC.mp (by rw[<-A.keys,show B.map (·.1)=_ from S.ks];exact VF)) λ q M e=>?_;exact ⟨q.2,gG K (by rw[<-e];exact M)⟩
    have Yk:j<L.length:=A.ix (p.1,j) (by refine g_ (bM.mp Y) λ a b e Z=>?_;rw[e];exact ax _ (.head _));have hv:ez kvs (.str p.1)=ah (.ref (gt L j).1):=by rw[A.kv,HU,Y];rfl
    have N:=lR (f:=V.str) Yk ((ae,MO.dict (jX u))::(as,MO.dict kvs)::J);have Uh:(gt L j).2.length<=2^20:=by
     have:=S.row (p.1,(gt L j).2) (by show _∈B;rw[A.st];refine g_ (bM.mp Y) λ a b e Z=>?_;exact aC.mpr ⟨(p.1,j),by rw[e];exact ax _ (.head _),rfl⟩)
     exact aA (aA (aU this.1 this.2) Wr) (by decide)
    refine Mine.al I 6<|aB<|eW<|tq<|nl I 6 rfl<|c1<|BY ⟨_,rfl,?_⟩;unfold p6;by_cases hn:n=""
    ·rw[if_pos hn];refine iz (by rw[beq_iff_eq];exact hn)<|aB<|ss<|iZ<|nl I 2 rfl<|nl I 3 rfl<|i_ (m:=x7 L ae (xG p.1 u) as kvs J) L.length I.ok PX (oH (by rw[D];exact U) _) U7 (by rw[Xy];exact Jg)<|bm<|bm ⟨((L,P,(B,_),kvs),[_]),rfl,A,E,rfl⟩
    ·rw[if_neg hn];refine fS (beq_eq_false_iff_ne.mpr hn)<|aB<|eW<|tq<|nl I 6 rfl<|sb<|nl I 1 rfl<|nl I 3 rfl ⟨⟨_,.dict (.led (L.length+1) Jf)⟩,jp I.ok (.led (L.length+1) Jf) H hv<|nU (.led _ N) ⟨_,rfl,?_⟩⟩;cases hc:(gt L j).2.any (· ==n)with
     |true=>exact fS rfl<|bm<|bm<|bm ⟨((L,P,(B,u),kvs),[_]),rfl,A,E,by rw[A.same K Y hc]⟩
     |false=>exact iz rfl<|aB<|xe I<|ge I<|sb<|nl I 1 rfl<|nl I 3 rfl ⟨⟨_,.dict (.led (L.length+1) Jf)⟩,jp I.ok (.led (L.length+1) Jf) H hv ⟨_,_,_,rfl,N,nl I 6 rfl<|uF Str (x:=n) _ N Uh (vU Yk _ _ _)<|bm<|bm<|bm ⟨((_,P,(nK p.1 n B,u),kvs),[_]),rfl,(A.add K Y hc),by show (L.set _ _).length<=10;rw[bX];exact E,rfl⟩⟩⟩
   ·obtain ⟨⟨L,P,⟨B,u⟩,kvs⟩,o⟩:=a;have c:w ((ns.take ns.length).foldl (p6 p.1) (st,em)) ((L,P,(B,u),kvs),o):=c;rw[a0]at c;exact bm ⟨((L,P,(B,u),kvs),[_,_,_]),rfl,c⟩
  ·obtain ⟨⟨L,P,⟨st,em⟩,kvs⟩,o⟩:=a;have c:w ((pairs.take pairs.length).foldl el s0) ((L,P,(st,em),kvs),o):=c;rw[a0]at c;exact bm ⟨((L,P,(st,em),kvs),[_,_,_,_]),rfl,c⟩
 ·clear A z g VC E;obtain ⟨⟨L,P,⟨st,em⟩,kvs⟩,o⟩:=a;refine jw c λ A E e=>?_;have A:Lz L P st kvs:=A;have e:(st,em)=dt pairs:=e;refine aB<|dB<|t2<|nl I 1 rfl<|nl I 2 rfl ?_;rw[<-e];refine ⟨ja V.str L++[(ae,MO.dict (jX em)),(as,MO.dict kvs)],J,J,.tup [.dict (vf st),.dict (jX em)],(bY (ja V.str L) [(ae,MO.dict (jX em)),(as,MO.dict kvs)] J).symm,λ Z h=>h,dE.refl _ _,.WQ (.cons (.dict (xs:=kvs) (ax _ (.tail _ (.head _))) ?_) (.cons (.dict (ax _ (.head _)) (s4 _ _)) .nil)),rfl,rfl⟩;rw[A.kv,A.st];exact HP (λ j Y=>jI (lR Y _)) A.ix
end
noncomputable abbrev Tr:=Nat×Nat×Str
variable{Rk:List Tr->eZ->Prop}{So K' Kk K K_:List Tr}
noncomputable def iI(t:Tr):V:=.tup [.nat t.1,.nat t.2.1,.str t.2.2]
theorem pY{a b:Tr}(h:iI a=iI b):a=b:=by unfold iI at h;simp at h;have c:=h;exact lu (Gi c.1) (lu (Gi c.2.1) c.2.2)
theorem nQ{f:α->β}{ys j:List β}(h:ys.Perm j):∀{l:List α},j=l.map f->∃m:List α,m.Perm l/\ys=m.map f:=by
 induction h with
 |nil=>intro l e;exact ⟨l,.refl _,e⟩
 |cons x _ o=>
  intro l e;cases l with
  |nil=>cases e
  |cons a l=>rw[be,List.cons.injEq]at e;refine b4 (o e.2) λ m i c=>?_;exact ⟨a::m,i.cons a,by rw[c,e.1];rfl⟩
 |swap x y l'=>
  intro l e;cases l with
  |nil=>cases e
  |cons a l=>
   cases l with
   |nil=>cases e
   |cons b l=>rw[be,be,List.cons.injEq,List.cons.injEq]at e;exact ⟨b::a::l,.swap ..,by rw[e.1,e.2.1,e.2.2];rfl⟩
 |trans _ _ d g=>intro l e;refine b4 (g e) λ m i c=>?_;refine b4 (d c) λ n k p=>?_;exact ⟨n,k.trans i,p⟩
noncomputable def iK(l:List Tr):List (V×V):=l.map λ t=>(iI t,.bool aj)
theorem MX(t:Tr):kk (iI t)=3:=rfl
theorem w2(l:List Tr):(iK l).map (·.1)=l.map iI:=by unfold iK;rw[bs];rfl
theorem zb{l:List Tr}(h:l.Nodup):(l.map iI).Nodup:=by rw[aO,bS];exact (aO.mp h).imp λ h e=>h (pY e)
theorem lK{l:List Tr}(t:Tr)(h:l.Nodup):f5 (iI t) (iK l):=
 ⟨by rw[MX];decide,λ p b=>by refine b4 (aC.mp b) λ q Z a=>?_;subst a;rfl,by rw[w2];exact zb h⟩
theorem sQ(t:Tr):∀l:List Tr,(ez (iK l) (iI t)).isSome=aj↔t∈l:=by
 intro l;induction l with
 |nil=>exact ⟨λ h=>(nomatch h),λ h=>(nomatch h)⟩
 |cons x l a=>
  unfold ez iK at*;rw[be,cU];by_cases e:x=t
  ·rw[show gz (iI x) (iI t)=aj by rw[f2,e]];exact ⟨λ Z=>by rw[e];exact .head _,λ Z=>rfl⟩
  ·rw[ip λ h=>e (pY h),aI];exact (a).trans ⟨.inr,λ h=>h.resolve_left (Ne.symm e)⟩
theorem sP{t:Tr}:∀{l:List Tr},t∉l->io (iI t) (.bool aj) (iK l)=iK (l++[t]):=by
 intro l;induction l with
 |nil=>intro Z;exact rfl
 |cons x l a=>intro h;rw[aI,not_or]at h;unfold iK at*;rw[be,nG,if_neg (by rw[f2];exact λ e=>h.1 (pY e).symm),(a h.2)];rfl
noncomputable def d5(R:List Pr)(n:Nat):List Str:=(R.getD n ("",[])).2
inductive LC(R:List Pr)(st:List (Str×List Str))(em:List (Str×Bool))(K:List Tr):Tr->Prop
 |base {t:Tr}:t∈K->LC R st em K t
 |step {n k o:Nat} {a look:Str}:LC R st em K (n,k,a)->k<(d5 R n).length->(d5 R n).getD k ""∈st.map (·.1)->look∈d_ st em a [] ((d5 R n).drop (k+1))->1<=o->o<R.length->(R.getD o ("",[])).1=(d5 R n).getD k ""->LC R st em K (o,0,look)
noncomputable def rn(R:List Pr)(st:List (Str×List Str))(em:List (Str×Bool))(l:List Tr)(t:Tr):Prop:=
 t.2.1<(d5 R t.1).length->(d5 R t.1).getD t.2.1 ""∈st.map (·.1)->∀look∈d_ st em t.2.2 [] ((d5 R t.1).drop (t.2.1+1)),∀o,1<=o->o<R.length->(R.getD o ("",[])).1=(d5 R t.1).getD t.2.1 ""->(o,0,look)∈l
theorem LC.closed{st:List (Str×List Str)}{em:List (Str×Bool)}{l:List Tr}(i:∀t∈K,t∈l)(hk:∀t∈l,rn R st em l t){t:Tr}(h:LC R st em K t):t∈l:=by
 induction h with
 |base h=>exact i _ h
 |step _ a b c d e f g=>exact hk _ g a b _ c _ d e f
theorem Es(x:Str):∀st:List (Str×List Str),ez (vf st) (.str x)=(st.lookup x).map λ l=>.list (l.map .str):=by
 intro st;induction st with
 |nil=>exact rfl
 |cons c l d=>
  obtain ⟨a,b⟩:=c;unfold ez vf at*;rw[be,cU,bq,hP];cases e:x==a with
  |true=>rw[show (a==x)=aj by rw[<-e];exact fm ..];rfl
  |false=>rw[show (a==x)=ao by rw[<-e];exact fm ..];exact (d)
theorem FZ(Y:St):∀st:List (Str×List Str),yV Y (vf st) st:=by
 intro st;induction st with
 |nil=>exact .nil
 |cons p st a=>exact .cons .frozen (a)
theorem vd{st:List (Str×List Str)}:(ez (vf st) (.str x)).isSome=aj↔x∈st.map (·.1):=by
 rw[Es];cases e:st.lookup x with
 |some l=>refine g_ (bM.mp e) λ a b c Z=>?_;exact ⟨λ Z=>by rw[c];simp,λ Z=>rfl⟩
 |none=>refine ⟨λ h=>(nomatch h),λ h=>?_⟩;refine b4 (aC.mp h) λ p d c=>?_;have:=dG.mp e p d;rw[c]at this;simp at this
section
variable{f:aG}
theorem Hx{n:Nat}(c:O.A.handled=ai)(hz:n<1000000):i3 O O.A (.SO 1 n) (n-1) (λ i=>.nat (i+1)) (λ Z=>True) Y:=by have:=(FV (O:=O) (Y:=Y) (A:=O.A) (a:=1) (b:=(n:Int)) c ⟨br _,br _,br _,GE hz⟩);rw[show ((n:Int)-1).toNat=n-1 from K5]at this;exact this.as _ λ i hi=>by show V.int _=V.int _;congr 1;exact K2
theorem F9{f:α->V}(ok:O.Ok)(hz:l.length<=2^20)(h:Q (.list ((l.drop b).map f)) Y):l0 O Ex (.list (l.map f)) (.int b) .none Q Y:=Ez ok .frozen (by rw[au];exact hz) (.F (by rw[<-om];exact h))
theorem zV{st:List (Str×List Str)}{em:List (Str×Bool)}{l l':List Tr}(h:∀x∈l,x∈l'){t:Tr}(k:rn R st em l t):rn R st em l' t:=λ a b g c o d e f=>h _ (k a b g c o d e f)
theorem nP{l':List α}(h:l<+:l'){i:Nat}(hi:i<l.length)(d:α):l'.getD i d=l.getD i d:=by obtain ⟨q,rfl⟩:=h;rw[e4 (by rw[aF];exact Gs hi),e4 hi,g3]
structure Uu(R:List Pr)(st:List (Str×List Str))(em:List (Str×Bool))(K l:List Tr):Prop where
 nd:l.Nodup
 mem:∀t,t∈l↔LC R st em K t
theorem vu(C:Cmn G CG CR)(Yb:Fn G "_law_begin" "_law_begin" (top 32) ["symbols","ahead","starts","empties"] [])(Yy:Fn G "_law_close" "_law_close" (top 34) ["kernel","rules","starts","empties"] [])(R:List Pr)(st:List (Str×List Str))(em:List (Str×Bool))(K U:List Tr)
 (hR:R.length<=12) (ZG:∀r∈R,r.2.length<=3) (nd:(st.map (·.1)).Nodup) (Xt:em.map (·.1)=st.map (·.1)) (hb:∀p∈st,p.2.length<=30) (XH:K.Nodup) (Wt:K.length<64) (ZL:∀t∈K,t.1<R.length) (hU:∀t,LC R st em K t->t∈U) (VU:U.length<=100000):
 cD G (d+2) (.ref Yy.f) [.list (K.map iI),.list (R.map pV),.dict (vf st),.dict (jX em)] J (λ v J'=>(∃l,v=.list (l.map iI)/\Uu R st em K l)/\J'=J):=by
 refine de Yy.y _ _ _ rfl λ O I=>?_;have XG:∀t,LC R st em K t->t.1<R.length:=λ t h=>by
  cases h with
  |base h=>exact ZL _ h
  |step _ _ _ _ _ h _=>exact h
 have Ze:∀n,(d5 R n).length<=3:=λ n=>by
  unfold d5;by_cases h:n<R.length
  ·exact ZG _ (bd h _)
  ·rw[aD,bl (bR.mp ‹_›)];exact bg _
 let kv:V:=.list (K.map iI)
 let rv:V:=.list (R.map pV)
 refine aB<|sl I 4<|cb I 15 C.sorted<|a1<|nl I 0 rfl<|kF (k:=3) I.ok .frozen (by rw[au];exact Wt) (λ x Y=>by refine b4 (aC.mp Y) λ t Z Sw=>?_;subst Sw;exact .XX _ _ _) λ ys hp hs=>?_;refine b4 (nQ hp rfl) λ M N Sv=>?_;subst Sv;clear hp hs;have Q:M.Nodup:=N.nodup_iff.mpr XH;refine .M λ al=>aB<|sl I 5<|hH I.ok λ as=>?_;let T2:List Tr×List (Option V)->St:=λ a=>⟨[ah kv,ah rv,ah (.dict (vf st)),ah (.dict (jX em)),ah (.ref al),ah (.ref as),ov a.2 0,ai,ai,ai,ai,ai,ai,ai,ai,ai,ai,ai,ai],(as,.dict (iK a.1))::(al,.list (M.map iI))::J⟩
 refine aB<|iH T2 (λ i a=>a.1=M.take i)<|nl I 4 rfl ⟨_,_,_,Hy iI M (0,0,"") I.ok.hand (.tail _ (.head _)),([],[]),rfl,rfl,λ Z Z Z Z=>.tail _ (.head _),λ i a hi B=>?_,λ a B=>?_⟩
 ·obtain ⟨l,o⟩:=a;have B:l=M.take i:=B;have ht:M.take (i+1)=l++[M.getD i (0,0,"")]:=by rw[dN (ay hi),B,e4 hi]
  have Th:(l++[M.getD i (0,0,"")]).Nodup:=by rw[<-ht];exact Q.sublist (ff _ _)
  have Uj:(iK l).length<=2^20:=by unfold iK;rw[au,B,bb];exact K1 N.length_eq Wt
  show XA _ _ _ _ (qe _ _ _ (oo _ (At T2 (λ a=>a.1=M.take (i+1))))) _;rw[ht];generalize M.getD i (0,0,"")=t at Th ⊢;rw[aV]at Th;exact Mine.al I 6<|aB<|ss<|iZ<|nl I 5 rfl<|nl I 6 rfl<|i_ 0 I.ok rfl (lK t Th.1) Uj (by rw[sP λ h=>Th.2.2 t h t (.head _) rfl];rfl)<|bm ⟨(l++[t],[_]),rfl,rfl⟩
 obtain ⟨l,o⟩:=a;have B:l=M.take M.length:=B;rw[a0]at B;subst B;let Te:(List Tr×Nat)×List (Option V)->St:=λ a=>⟨[ah kv,ah rv,ah (.dict (vf st)),ah (.dict (jX em)),ah (.ref al),ah (.ref as),ov o 0,ah (.nat a.1.2),ov a.2 0,ov a.2 1,ov a.2 2,ov a.2 3,ov a.2 4,ov a.2 5,ov a.2 6,ai,ai,ai,ai],(as,.dict (iK a.1.1))::(al,.list (a.1.1.map iI))::J⟩
 let T1:Nat->(List Tr×Nat)×List (Option V)->Prop:=λ n a=>n=U.length-a.1.2/\a.1.2<=a.1.1.length/\a.1.1.Nodup/\(∀t∈a.1.1,LC R st em K t)/\(∀t∈K,t∈a.1.1)/\∀i,i<a.1.2->rn R st em a.1.1 (a.1.1.getD i (0,0,""))
 have h0:T1 (U.length-0) ((l,0),[]):=⟨rfl,bg _,Q,λ t h=>.base (N.mem_iff.mp h),λ t h=>N.mem_iff.mpr h,λ i h=>absurd h (c6 _)⟩;refine aB<|sl I 7<|xn 0<|aB<|tE Te T1 _ ((l,0),[]) rfl h0 λ n a B=>?_;clear h0 N Q;obtain ⟨⟨l,t⟩,o'⟩:=a;refine PW B λ SN Xg hn E hK D=>?_;subst SN;have hn:l.Nodup:=hn;have E:∀t∈l,LC R st em K t:=E;have hK:∀t∈K,t∈l:=hK;have D:∀i,i<t->rn R st em l (l.getD i (0,0,"")):=D;have Wn:l.length<=U.length:=aU hn λ x Y=>hU x (E x Y);refine tq<|nl I 7 rfl<|cb I 16 C.len<|a1<|nl I 4 rfl<|uD 1 rfl (show l.length<2^62 from K0 Wn VU)<|tY ⟨_,rfl,?_⟩;by_cases u:t<l.length
 ·refine iz (decide_eq_true u) ?_;have S:=XG _ (E _ (bd u (0,0,"")));have Yf:rn R st em l (l.getD t (0,0,""))->∀i,i<t+1->rn R st em l (l.getD i (0,0,"")):=λ h i hi=>(cF.mp hi).elim (D i) λ e=>e▸h;have Vj:=E _ (bd u (0,0,""));refine ze (show ∃x,l.getD t (0,0,"")=x from ⟨_,rfl⟩) λ x Y=>?_;refine aB<|xT I<|sb<|nl I 4 rfl<|nl I 7 rfl<|Cx iI (0,0,"") 1 rfl u (show t<2^62 from KZ u Wn VU) ?_;rw[Y]at S Vj Yf ⊢;obtain ⟨n,k,X⟩:=x;have S:n<R.length:=S;have W:=Ze n;refine NR I<|Mine.al I 8<|Mine.al I 9<|Mine.al I 10<|aB<|sl I 7<|bw<|nl I 7 rfl<|xn 1<|fM ?_;refine aB<|sl I 11<|sb<|sb<|nl I 1 rfl<|nl I 8 rfl<|lU pV ("",[]) S (show n<2^62 from KY S hR)<|xn 1 ⟨⟨_,.tup⟩,pq (k:=1) rfl (by decide) ?_⟩;have P:rn R st em l (n,k,X)->∀o',I9 (U.length-t) Te T1 (Te ((l,t+1),o')):=λ h o'=>⟨U.length-(t+1),yq u Wn,((l,t+1),o'),rfl,rfl,u,hn,E,hK,Yf h⟩;refine aB<|eW<|lp<|tq<|nl I 9 rfl<|cb I 16 C.len<|a1<|nl I 11 rfl<|mw (aQ W (by decide))<|tY ⟨_,rfl,?_⟩;by_cases hk:k<(d5 R n).length;rotate_left
  ·exact fS (decide_eq_false hk)<|fS rfl<|bm<|bm<|P (λ h=>absurd h hk) [_,_,_,_,_,_,_]
  refine iz (decide_eq_true hk)<|lp<|tq<|sb<|nl I 11 rfl<|nl I 9 rfl<|lU V.str "" hk (aH hk (aA W (by decide)))<|nl I 2 rfl<|ML I.ok .frozen ((FZ ⟨[],[]⟩ st).keyed nd _) ⟨_,rfl,?_⟩;by_cases We:(d5 R n).getD k ""∈st.map (·.1);rotate_left
  ·exact fS (by rw[ij];exact λ h=>We (vd.mp h))<|fS rfl<|bm<|bm<|P (λ Z h=>absurd h We) [_,_,_,_,_,_,_]
  refine iz (vd.mpr We)<|je<|iz rfl ?_;clear P;have TK:=ty (em:=em) (ahead:=X) hb ((d5 R n).drop (k+1)) [];have VO:((d5 R n).drop (k+1)).length<=3:=by rw[fF];exact KX W
  have L:=yh (d:=d) (J:=[]) Yb.y ((d5 R n).drop (k+1)) X (vs:=.dict (vf st)) (ve:=.dict (jX em)) st em .frozen (FZ _ st) .frozen nd Xt (λ p hp=>aA (hb p hp) (by decide)) (aA VO (by decide));refine aB<|sl I 12<|cg I 17 Yb<|an<|l8<|nl I 11 rfl<|oO<|bw<|nl I 9 rfl<|xn 1<|fM<|oP ⟨⟨_,.list .frozen⟩,F9 I.ok (aA W (by decide))<|an<|nl I 10 rfl<|an<|nl I 2 rfl<|a1<|nl I 3 rfl<|iu I L kt ?_⟩;have T:∀g∈d_ st em X [] ((d5 R n).drop (k+1)),∀q,1<=q->q<R.length->(R.getD q ("",[])).1=(d5 R n).getD k ""->LC R st em K (q,0,g):=λ g a q b c e=>.step Vj hk We a b c e;have Yg:∀l',(∀g∈d_ st em X [] ((d5 R n).drop (k+1)),∀q,1<=q->q<R.length->(R.getD q ("",[])).1=(d5 R n).getD k ""->(q,0,g)∈l')->rn R st em l' (n,k,X):=λ l' h Z Z g a q b c e=>h g a q b c e;have TK:(d_ st em X [] ((d5 R n).drop (k+1))).length<=1000:=by rw[g7]at TK;exact KW TK VO
  clear L;generalize d_ st em X [] ((d5 R n).drop (k+1))=Rg at T Yg TK ⊢;let Ve:List Tr×List (Option V)->St:=λ a=>⟨[ah kv,ah rv,ah (.dict (vf st)),ah (.dict (jX em)),ah (.ref al),ah (.ref as),ov o 0,ah (.nat (t+1)),ah (.nat n),ah (.nat k),ah (.str X),ah (.list ((d5 R n).map .str)),ah (.list (Rg.map .str)),ov a.2 0,ov a.2 1,ai,ai,ai,ai],(as,.dict (iK a.1))::(al,.list (a.1.map iI))::J⟩
  let P3:List Tr->Prop:=λ l'=>l<+:l'/\l'.Nodup/\∀t∈l',LC R st em K t
  let V6:Nat->List Tr×List (Option V)->Prop:=λ i a=>P3 a.1/\∀g∈Rg,∀q,1<=q->q<i+1->(R.getD q ("",[])).1=(d5 R n).getD k ""->(q,0,g)∈a.1
  refine aB<|iH Ve V6<|cb I 18 C.range<|an<|xn 1<|a1<|cb I 16 C.len<|a1<|nl I 1 rfl<|mw (aQ hR (by decide))<|C9 ⟨_,_,_,Hx I.ok.hand (aQ hR (by decide)),(l,[_,_]),rfl,⟨⟨d6 _,hn,E⟩,λ g Z q a b=>absurd ‹_<_› (bR.mpr ‹_›)⟩,λ Z Z Z Z=>trivial,λ i a hi B=>?_,λ a B=>?_⟩
  ·obtain ⟨l',o3⟩:=a;refine za B λ hp hq=>?_;have hp:P3 l':=hp;have hq:∀g∈Rg,∀q,1<=q->q<i+1->(R.getD q ("",[])).1=(d5 R n).getD k ""->(q,0,g)∈l':=hq;have Xu:i+1<R.length:=KV hi;refine Mine.al I 13<|aB<|eW<|tq<|sb<|sb<|nl I 1 rfl<|nl I 13 rfl<|lU pV ("",[]) Xu (show i+1<2^62 from KU Xu hR)<|xn 0 ⟨⟨_,.tup⟩,pq (k:=0) rfl (by decide)<|sb<|nl I 11 rfl<|nl I 9 rfl<|lU V.str "" hk (aH hk (aA W (by decide)))<|BY ⟨_,rfl,?_⟩⟩;by_cases he:(R.getD (i+1) ("",[])).1=(d5 R n).getD k ""
   ·refine iz (by rw[beq_iff_eq];exact he) ?_;let Wa:List Tr×List (Option V)->St:=λ a=>⟨[ah kv,ah rv,ah (.dict (vf st)),ah (.dict (jX em)),ah (.ref al),ah (.ref as),ov o 0,ah (.nat (t+1)),ah (.nat n),ah (.nat k),ah (.str X),ah (.list ((d5 R n).map .str)),ah (.list (Rg.map .str)),ah (.nat (i+1)),ov a.2 0,ai,ai,ai,ai],(as,.dict (iK a.1))::(al,.list (a.1.map iI))::J⟩
    let XS:Nat->List Tr×List (Option V)->Prop:=λ j a=>P3 a.1/\(∀x∈l',x∈a.1)/\∀g∈Rg.take j,(i+1,0,g)∈a.1
    refine aB<|iH Wa XS<|nl I 12 rfl ⟨_,_,_,lA V.str Rg "" I.ok.hand,(l',[_]),rfl,⟨hp,λ Z h=>h,λ g h=>(nomatch h)⟩,λ Z Z Z Z=>trivial,λ j b hj hb=>?_,λ b hb=>?_⟩
    ·obtain ⟨l2,o4⟩:=b;refine jw hb λ YG s A=>?_;obtain ⟨z,w,H⟩:=YG;have z:l<+:l2:=z;have w:l2.Nodup:=w;have H:∀t∈l2,LC R st em K t:=H;have s:∀x∈l',x∈l2:=s;have A:∀g∈Rg.take j,(i+1,0,g)∈l2:=A;have VG:l2.length<=100000:=aA (aU w λ x Y=>hU x (H x Y)) VU;have VF:=bd hj "";show XA _ _ _ _ (qe _ _ _ (oo _ (At Wa (λ a=>P3 a.1/\(∀x∈l',x∈a.1)/\∀g∈Rg.take (j+1),(i+1,0,g)∈a.1)))) _;rw[dN (ay hj),<-e4 hj ""];generalize Rg.getD j ""=g at VF ⊢;refine Mine.al I 14<|aB<|eW<|tq<|t3<|nl I 13 rfl<|xn 0<|nl I 14 rfl<|nl I 5 rfl<|xm I.ok (.led 0 rfl) (lK (i+1,0,g) w) ⟨_,rfl,?_⟩;by_cases hm:(i+1,0,g)∈l2
     ·refine fS (congrArg (λ b=>!b) ((sQ (i+1,0,g) l2).mpr hm))<|bm<|bm ⟨(l2,[_]),rfl,⟨z,w,H⟩,s,λ y F=>?_⟩;refine b6 (aM.mp F) (λ h=>?_) λ h=>?_
      ·exact A y h
      ·rw[aE.mp h];exact hm
     ·have Xo:(l2++[(i+1,0,g)]).Nodup:=by rw[aV];exact ⟨w,by simp,λ a B b hb e=>hm (by rw[aE]at hb;rw[<-hb,<-e];exact B)⟩
      refine iz (congrArg (λ b=>!b) (ij.mpr λ h=>hm ((sQ (i+1,0,g) l2).mp h)))<|aB<|ss<|iZ<|nl I 5 rfl<|t3<|nl I 13 rfl<|xn 0<|nl I 14 rfl<|i_ (k:=iI (i+1,0,g)) (m:=(as,.dict (iK (l2++[(i+1,0,g)])))::(al,.list (l2.map iI))::J) 0 I.ok rfl (lK (i+1,0,g) w) (by unfold iK;rw[au];exact aA VG (by decide)) (by rw[sP hm];rfl) ?_;refine aB<|xe I<|ge I<|nl I 4 rfl ⟨al,_,1,rfl,rfl,t3<|nl I 13 rfl<|xn 0<|nl I 14 rfl<|uF Tr (f:=iI) (x:=(i+1,0,g)) 1 rfl (aA VG (by decide)) rfl<|bm<|bm ⟨(l2++[(i+1,0,g)],[_]),rfl,⟨z.trans (jQ _ _),Xo,λ y F=>?_⟩,λ y F=>aJ _ (s y F),λ y F=>?_⟩⟩
      ·refine b6 (aM.mp F) (λ h=>?_) λ h=>?_
       ·exact H y h
       ·rw[aE.mp h];exact T g VF (i+1) (bJ _ _) Xu he
      ·refine b6 (aM.mp F) (λ h=>?_) λ h=>?_
       ·exact aJ _ (A y h)
       ·rw[aE.mp h];exact ax _ (.head _)
    ·obtain ⟨l2,o4⟩:=b;refine jw hb λ w s A=>?_;have A:∀g∈Rg.take Rg.length,(i+1,0,g)∈l2:=A;rw[a0]at A;refine bm<|bm ⟨(l2,[_,_]),rfl,w,λ y F q a b c=>?_⟩;refine b6 (cF.mp b) (λ h=>?_) λ h=>?_
     ·exact s _ (hq y F q a h c)
     ·subst h;exact A y F
   ·refine fS (beq_eq_false_iff_ne.mpr he)<|bm<|bm ⟨(l',[_,_]),rfl,hp,λ y F q a b c=>?_⟩;refine b6 (cF.mp b) (λ h=>?_) λ h=>?_
    ·exact hq y F q a h c
    ·subst h;exact absurd c he
  ·obtain ⟨l',o3⟩:=a;refine za B λ YF hq=>?_;obtain ⟨z,w,H⟩:=YF;have z:l<+:l':=z;have s:∀x∈l,x∈l':=λ x Y=>z.subset Y;refine bm<|bm ⟨U.length-(t+1),(show U.length-(t+1)<U.length-t from yq u Wn),((l',t+1),[_,_,_,_,_,_,_]),rfl,rfl,aA u z.length_le,w,H,λ y F=>s y (hK y F),λ i hi=>?_⟩;refine b6 (cF.mp hi) (λ h=>?_) λ h=>?_
   ·show rn R st em l' (l'.getD i (0,0,""));rw[nP z (bC h u)];exact zV s (D i h)
   ·subst h;show rn R st em l' (l'.getD i (0,0,""));rw[(λ l' h=>nP h u _) l' z,Y];exact Yg l' λ g a q b c e=>hq g a q b (KT c) e
 ·refine fS (decide_eq_false u)<|aB<|dB<|nl I 4 rfl ?_;have e:t=l.length:=f9 ‹_› (bR.mp ‹_›);subst e;refine ⟨[(as,.dict (iK l)),(al,.list (l.map iI))],J,J,.list (l.map iI),rfl,λ Z h=>h,dE.refl _ _,.list (.tail _ (.head _)) (Rf.refl _ _),⟨l,rfl,hn,λ x=>⟨E x,λ h=>h.closed hK λ y F=>?_⟩⟩,rfl⟩;refine Eb (dF.mp F) λ i hi e=>?_;have:=D i hi;rw[e4 hi,e]at this;exact this
end
noncomputable def lB(g:Gr)(t:Tr):Nat:=g.off t.1+t.2.1
noncomputable def ix(g:Gr)(x:Str):Nat:=g.names.idxOf x
noncomputable def fu(g:Gr)(ms:List (Nat×Nat))(t:Tr):List (Nat×Nat):=
 if t.2.2="" then f8 (lB g t) ((ms.lookup (lB g t)).getD 0) ms else f8 (lB g t) ((ms.lookup (lB g t)).getD 0|||2^ix g t.2.2) (f8 (lB g t) ((ms.lookup (lB g t)).getD 0) ms)
noncomputable def f4(g:Gr)(l:List Tr):List (Nat×Nat):=l.foldl (fu g) []
structure As(g:Gr)(l:List Tr):Prop where
 rule:∀t∈l,t.1<g.rules.length
 look:∀t∈l,t.2.2=""\/t.2.2∈g.names
 len:l.length<=100000
theorem vW{t:Tr}(h:(ms.map (·.1)).Nodup):((fu g ms t).map (·.1)).Nodup:=by
 unfold fu;split
 ·exact gf h
 ·exact gf (gf h)
theorem z0{l:List (Nat×Nat)}:(f8 k a (f8 k b l)).length<=l.length+1:=by have h:k∈(f8 k b l).map (·.1):=eM.mp ⟨b,by rw[cK,if_pos rfl]⟩;have:=kD k a (f8 k b l);rw[if_pos h]at this;have:=congrArg dv this;simp only[au,au]at this;rw[this];exact jN ..
theorem zO{t:Tr}:(fu g ms t).length<=ms.length+1:=by
 unfold fu;split
 ·exact jN ..
 ·exact z0
theorem vY:∀(l:List Tr) (ms:List (Nat×Nat)),(ms.map (·.1)).Nodup->((l.foldl (fu g) ms).map (·.1)).Nodup/\(l.foldl (fu g) ms).length<=ms.length+l.length:=by
 intro l;induction l with
 |nil=>intro Z h;exact ⟨h,aT _⟩
 |cons t l b=>intro ms h;have a:=b (fu g ms t) (vW h);skip;exact ⟨a.1,by show (l.foldl (fu g) (fu g ms t)).length<=_;exact KS a.2 (zO (g:=g) (ms:=ms) (t:=t))⟩
theorem jJ(g:Gr)(l:List Tr):((f4 g l).map (·.1)).Nodup:=(vY l [] bK).1
theorem B1(h:x∈g.names):g.num x=((ix g x:Nat):Int):=by unfold Gr.num;refine (if_pos (dI.mpr ⟨x,h,by rw[beq_iff_eq]⟩)).trans ?_;rfl
section
variable{f:aG}
theorem Ij(l:List (Nat×Nat))(k:Nat):CD l k 0=.nat ((l.lookup k).getD 0):=by unfold CD;cases l.lookup k<;>rfl
theorem Iz{a:aG}{l:List (Nat×Nat)}(i:Nat){Q:V->St->Prop}(ok:O.Ok)(hi:Y.mu[i]? =ah (a,.dict (dV l)))(nd:(l.map (·.1)).Nodup)(h:Q (.nat ((l.lookup k).getD 0)) Y):cS O Ex (.builtin "dict.get") [.ref a,.nat k,.int 0] Q Y:=
 Db i ok hi nd (by rw[Ij];exact h)
theorem pc(C:Cmn G CG CR)(Yy:Fn G "_law_masks" "_law_masks" (top 35) ["triples","grammar"] [])(g:Gr)(y:c_ g)(l:List Tr)(w:As g l):
 cD G (d+2) (.ref Yy.f) [.list (l.map iI),g.v CG CR] J (λ v J'=>v=.dict (dV (f4 g l))/\J'=J):=by
 refine de Yy.y _ _ _ rfl λ O I=>?_;refine aB<|sl I 2<|hH I.ok λ u=>?_;let st:List (Nat×Nat)×List (Option V)->St:=λ a=>⟨[ah (.list (l.map iI)),ah (g.v CG CR),ah (.ref u),ov a.2 0,ov a.2 1,ov a.2 2,ov a.2 3],(u,.dict (dV a.1))::J⟩
 let B:Nat->List (Nat×Nat)×List (Option V)->Prop:=λ i a=>a.1=(l.take i).foldl (fu g) []
 refine aB<|iH st B<|nl I 0 rfl ⟨_,_,_,lA iI l (0,0,"") I.ok.hand,([],[]),rfl,rfl,λ Z Z Z Z=>trivial,λ i a hi c=>?_,λ a c=>?_⟩
 ·obtain ⟨ms,o⟩:=a;have c:ms=(l.take i).foldl (fu g) []:=c;obtain ⟨s,f⟩:=vY (g:=g) (l.take i) [] bK;rw[<-c]at s f;have q:=w.len;rw[bb,g7]at f;have A:=w.rule _ (bd hi (0,0,""));have z:=w.look _ (bd hi (0,0,""));show XA _ _ _ _ (qe _ _ _ (oo _ (At st (λ a=>a.1=(l.take (i+1)).foldl (fu g) [])))) _;rw[(show (l.take (i+1)).foldl (fu g) []=fu g ms (l.getD i (0,0,""))from by rw[c];exact fH _ _ hi (0,0,""))];generalize l.getD i (0,0,"")=t at A z ⊢;obtain ⟨n,k,x⟩:=t;have m:=gf (k:=g.off n+k) (v:=(ms.lookup (g.off n+k)).getD 0) s;refine NR I<|Mine.al I 3<|Mine.al I 4<|Mine.al I 5<|aB<|sl I 6<|gm I C.item g<|nl I 1 rfl<|og<|an<|nl I 3 rfl<|a1<|nl I 4 rfl<|iu I (qL (d:=d) C.F C.item.y g n k A y.toSmall) kt ?_;refine aB<|ss<|mb I PySem.F.plainAttrs_dict PySem.F.slot_dict_get PySem.F.type_dict_get<|nl I 2 rfl ⟨.dict (.led 0 rfl),an<|nl I 6 rfl<|a1<|dJ<|Iz (k:=g.off n+k) 0 I.ok rfl s<|nl I 2 rfl<|nl I 6 rfl<|xa (k:=g.off n+k) 0 I.ok rfl s (aA f (aA (cO _▸Nat.min_le_right _ _) (aA q (by decide)))) rfl ?_⟩;refine aB<|eW<|tq<|nl I 5 rfl<|c1<|MJ ⟨_,rfl,?_⟩;by_cases p:x=""
  ·have e:fu g ms (n,k,x)=f8 (g.off n+k) ((ms.lookup (g.off n+k)).getD 0) ms:=if_pos p;exact fS (by rw[p];rfl)<|bm<|bm ⟨(_,[_,_,_,_]),rfl,e.symm⟩
  ·have r:=(show x=""\/x∈g.names from z).resolve_left p;have j:=vq (d:=d) (J:=[]) C.F C.number.y g x y.toSmall;rw[B1 r]at j;exact iz (congrArg (λ b=>!b) (beq_eq_false_iff_ne.mpr p))<|aB<|ss<|bw<|sb<|nl I 2 rfl<|nl I 6 rfl<|Nc (k:=g.off n+k) 0 I.ok rfl m (show (f8 (g.off n+k) ((ms.lookup (g.off n+k)).getD 0) ms).lookup (g.off n+k)=ah ((ms.lookup (g.off n+k)).getD 0)from by rw[cK,if_pos rfl])<|bw<|dJ<|gm I C.number g<|nl I 1 rfl<|og<|a1<|nl I 5 rfl<|iu I j kt<|GS (aA (bc (sE r)) (aA (bc y.Vg) (by decide)))<|B6<|nl I 2 rfl<|nl I 6 rfl<|xa (k:=g.off n+k) 0 I.ok rfl m (show (f8 (g.off n+k) ((ms.lookup (g.off n+k)).getD 0) ms).length<=2^20 from aA (jN ..) (by have:l.length<2^20:=aQ q (by decide);exact KR f this)) rfl<|bm<|bm ⟨(_,[_,_,_,_]),rfl,(if_neg p).symm⟩
 ·obtain ⟨ms,o⟩:=a;have c:ms=(l.take l.length).foldl (fu g) []:=c;rw[a0]at c;refine aB<|dB<|nl I 2 rfl ?_;subst c;exact ⟨[(u,.dict (dV (f4 g l)))],J,J,.dict (dV (f4 g l)),rfl,λ Z h=>h,dE.refl _ _,.dict (.head _) (s4 _ _),rfl,rfl⟩
end
noncomputable def i0(tc m:Nat):List Nat:=(aZ tc).filter λ t=>m/2^t%2==1
noncomputable def t7(R:List Pr)(r k:Nat):List Str:=(d5 R r).take k++[Str.ofString "."]++(d5 R r).drop k
noncomputable def ng(R:List Pr)(g:Gr)(i m:Nat):Str:=(R.getD (g.Q3 i) ("",[])).1++Str.ofString " : "++Txt.join (Str.ofString " ") (t7 R (g.Q3 i) (g.Q7 i))++Str.ofString "  ["++Txt.join (Str.ofString " ") ((i0 g.tc m).map (pi g))++Str.ofString "]"
structure Au(R:List Pr):Prop where
 len:R.length<=12
 right:∀r∈R,r.2.length<=3
 left:∀r∈R,r.1.length<=20/\∀x∈r.2,x.length<=20
theorem p9(h:Au R)(n:Nat):(d5 R n).length<=3/\∀x∈d5 R n,x.length<=20:=by
 dsimp only[d5];by_cases a:n<R.length
 ·exact ⟨h.right _ (bd a _),(h.left _ (bd a _)).2⟩
 ·rw[aD,bl (bR.mp ‹_›)];exact ⟨bg _,λ x b=>(nomatch b)⟩
theorem Cj(h:Au R)(r k:Nat):((t7 R r k).map (·.length)).sum+(t7 R r k).length*(Str.ofString " ").length<=84:=by
 refine za (p9 h r) λ d a=>?_;have c:∀x∈t7 R r k,x.length<=20:=λ x b=>by
  unfold t7 at b;rcases aM.mp b with q|q
  ·rcases aM.mp q with q|q
   ·exact a x (cE q)
   ·rw[aE.mp q];decide+kernel
  ·exact a x (cz q)
 exact Gn (tK 20 _ c) (by unfold t7;simp only[aF,bb,fF,cJ];exact KQ d)
section
variable{f:aG}
theorem F8{f:α->V}(ok:O.Ok)(hz:l.length<=2^20)(h:Q (.list ((l.take b).map f)) Y):l0 O Ex (.list (l.map f)) .none (.int b) Q Y:=Ew ok .frozen (by rw[au];exact hz) (.F ((g1)▸h))
theorem zD{f:α->V}{l':List α}(ok:O.Ok)(hz:l.length+l'.length<=2^20)(h:Q (.list ((l++l').map f)) Y):iB O Ex (dP .Add) (VR O.P) (.list (l.map f)) (.list (l'.map f)) Q Y:=
 m8 ok .frozen .frozen (by simp only[au,au];exact hz) (.F (by rw[<-aK];exact h))
theorem MQ{m t:Nat}(h:Q (.nat (m/2^t)) Y):iB O Ex (dP .RShift) (VR O.P) (.nat m) (.nat t) Q Y:=
 BU (br _) (by
  dsimp only[gi];have:Int.fdiv (m:Int) (2^t)=((m/2^t:Nat):Int):=by simp only[(show ((2:Int)^t)=((2^t:Nat):Int)from by push_cast;rfl),rC]
  rw[this];exact h)
theorem vt(C:Cmn G CG CR)(Yy:Fn G "_law_shown" "_law_shown" (top 36) ["masks","rules","grammar"] [])(g:Gr)(z:c_ g)(h3:AJ g)(R:List Pr)(P:Au R)(S:R.length=g.rules.length)(es:List (Nat×Nat))(nd:(es.map (·.1)).Nodup)(hi:∀p∈es,p.1<g.owners.length)(hl:es.length<60):
 cD G (d+2) (.ref Yy.f) [.dict (dV es),.list (R.map pV),g.v CG CR] J (λ v J'=>(∃ys,v=.list ys/\ys.Perm ((es.map λ p=>ng R g p.1 p.2).map .str)/\du ys)/\J'=J):=by
 refine lX Yy.y _ _ _ rfl λ O I Oo=>?_;let gv:V:=g.v CG CR
 let rv:V:=.list (R.map pV)
 refine aB<|sl I 3<|ey I.ok<|cx ⟨bg _,λ E=>?_⟩;let st:List Str×List (Option V)->St:=λ a=>⟨[ah (.dict (dV es)),ah rv,ah gv,ah (.ref E),ov a.2 0,ov a.2 1,ov a.2 2,ov a.2 3,ov a.2 4,ai,ai],(E,.list (a.1.map .str))::J⟩
 let In:Nat->List Str×List (Option V)->Prop:=λ i a=>a.1=(es.take i).map λ p=>ng R g p.1 p.2
 refine aB<|iH st In<|nc I 0 rfl ⟨_,_,_,A7 I.ok.hand nd,([],[]),rfl,rfl,λ Z Z Z Z=>trivial,λ i a q f=>?_,λ a f=>?_⟩
 ·obtain ⟨l,o⟩:=a;have f:l=(es.take i).map λ p=>ng R g p.1 p.2:=f;have y:l.length<=2^20:=by rw[f,au,bb];exact KP hl
  have ht:(es.take (i+1)).map (λ p=>ng R g p.1 p.2)=l++[ng R g (es.getD i (0,0)).1 (es.getD i (0,0)).2]:=by rw[dN (ay q),<-e4 q (0,0),aK,<-f];rfl
  have M:=gY nd q;have n:=hi _ (bd q (0,0));show XA _ _ _ _ (qe _ _ _ (oo _ (At st (λ a=>a.1=(es.take (i+1)).map λ p=>ng R g p.1 p.2)))) _;rw[ht];generalize es.getD i (0,0)=p at M n ⊢;refine jw (g.item_at n) λ Q hq2 hq3=>?_;have B:g.Q3 p.1<R.length:=by rw[S];exact Q
  refine za (p9 P (g.Q3 p.1)) λ r Ti=>?_;have e:=(P.left _ (bd B ("",[]))).1;refine ac I Oo 4<|aB<|xT I<|sb<|nl I 1 rfl<|gm I C.Ri g<|nc I 2 rfl<|og<|a1<|nc I 4 rfl<|iu I (kq (d:=d) C.F C.Ri.y g p.1 z.toSmall n) kt<|lU pV ("",[]) B (aH B (aA P.len (by decide)))<|Ar I<|Mine.al I 5<|Mine.al I 6 ?_;refine aB<|sl I 7<|gm I C.RK g<|nc I 2 rfl<|og<|a1<|nc I 4 rfl<|iu I (nM (d:=d) C.F C.RK.y g p.1 z.toSmall n) kt ?_;refine aB<|MU I 8<|cb I 9 C.range<|a1<|ga I C.F g (.nat g.tc)<|nc I 2 rfl ⟨rfl,jr ⟨_,_,_,m3 I.ok.hand (aQ z.Vu (by decide)),aA z.Vu (by decide),(λ j b acc m=>∃o,b=[ai,o,ah gv,ah (.nat p.1),ah (.dict (dV es))]/\acc=(((aZ j).filter λ t=>p.2/2^t%2==1).map (pi g)).map .str/\m=(E,.list (l.map .str))::J),⟨_,n7 I,rfl,rfl⟩,?_,?_,?_⟩⟩
  ·rintro j b acc m hj ⟨o,rfl,rfl,rfl⟩;refine ⟨?_,λ Z=>trivial⟩;rw[au,au];have:=c8 (λ t=>p.2/2^t%2==1) (aZ j);rw[bf]at this;exact this
  ·rintro O' C' j b acc m D hj ⟨o,rfl,rfl,rfl⟩;have w:=C'.SE I;have K:j<g.names.length:=aH hj z.V9;refine Mine.al w 1<|Hk<|tq<|bw<|bw<|sb<|nc w 4 rfl<|nc w 3 rfl<|ug w.ok nd M<|nl w 1 rfl<|MQ<|xn 2<|B7 (by decide)<|xn 1<|zK ⟨_,rfl,?_⟩;rw[cT,ou];by_cases N:p.2/2^j%2=1
   ·rw[lx (by rw[beq_iff_eq];exact N)];refine iz (by rw[beq_iff_eq];exact N)<|sb<|ga w C.F g (.list (g.names.map .str))<|nc w 2 rfl ⟨rfl,nl w 1 rfl<|lU V.str "" K (gA K z.names) ⟨[],rfl,_,rfl,?_,rfl⟩⟩;rw[aK,aK];rfl
   ·rw[ly (by rw[beq_iff_eq];exact N),List.filter_nil,cL];exact fS (beq_eq_false_iff_ne.mpr N) ⟨[],rfl,_,rfl,rfl,rfl⟩
  ·rintro b acc m ⟨o,rfl,rfl,rfl⟩;have L:(((i0 g.tc p.2).map (pi g)).map (·.length)).sum+((i0 g.tc p.2).map (pi g)).length*(Str.ofString " ").length<=210:=by
    have h1:=tK 20 ((i0 g.tc p.2).map (pi g)) λ x X=>by refine b4 (aC.mp X) λ s Z T=>?_;subst T;exact nV h3 s
    have Y:=c8 (λ t=>p.2/2^t%2==1) (aZ g.tc);rw[au]at h1 ⊢;rw[zu.2.2.2];exact KO h1 (by rw[bf]at Y;exact Y) z.Vu
   have H:=aA (lT (Str.ofString " ") ((i0 g.tc p.2).map (pi g))) L;have F:=Cj P (g.Q3 p.1) (g.Q7 p.1);have u:=aA (lT (Str.ofString " ") (t7 R (g.Q3 p.1) (g.Q7 p.1))) F;refine wR zu λ c A U Z=>?_;refine .F<|aB<|xe I<|ge I<|nl I 3 rfl ⟨E,_,0,rfl,rfl,bw<|bw<|bw<|bw<|bw<|nl I 5 rfl<|c1<|i1 (by rw[c];exact Gm e)<|mb I PySem.F.plainAttrs_str PySem.F.slot_str_join PySem.F.type_str_join<|c1 ⟨.str,a1<|bw<|bw<|l8<|nl I 6 rfl<|oP<|oO<|nl I 7 rfl ⟨⟨_,.list .frozen⟩,F8 I.ok (aA r (by decide))<|l1<|c1<|zD (l':=[Str.ofString "."]) I.ok ?_<|l8<|nl I 6 rfl<|oO<|nl I 7 rfl<|oP ⟨⟨_,.list .frozen⟩,F9 I.ok (aA r (by decide))<|zD I.ok ?_ ?_⟩⟩⟩⟩
   ·rw[bb];show min _ (d5 R (g.Q3 p.1)).length+1<=_;exact KN r
   ·rw[aF,bb,fF];show min _ (d5 R (g.Q3 p.1)).length+1+((d5 R (g.Q3 p.1)).length-_)<=_;exact KM r
   refine uE (xs:=t7 R (g.Q3 p.1) (g.Q7 p.1)) .frozen (aA F (by decide)) ?_;refine i1 ?_ ?_
   ·rw[Str.length_append,c];exact Gk e u
   refine c1<|i1 ?_ ?_
   ·rw[Str.length_append,Str.length_append,c,A];exact KJ e u
   refine mb I PySem.F.plainAttrs_str PySem.F.slot_str_join PySem.F.type_str_join<|c1 ⟨.str,a1<|nl I 8 rfl ?_⟩;refine uE (xs:=(i0 g.tc p.2).map (pi g)) .frozen (aA L (by decide)) ?_;refine i1 ?_ ?_
   ·rw[Str.length_append,Str.length_append,Str.length_append,c,A];exact KI e u H
   refine c1<|i1 ?_ ?_
   ·rw[Str.length_append,Str.length_append,Str.length_append,Str.length_append,c,A,U];exact KH e u H
   exact uF Str (x:=ng R g p.1 p.2) 0 rfl y rfl<|bm ⟨(l++[ng R g p.1 p.2],[_,_,_,_,_]),rfl,rfl⟩
 ·obtain ⟨l,o⟩:=a;have f:l=(es.take es.length).map λ p=>ng R g p.1 p.2:=f;rw[a0]at f;rw[<-f];have y:l.length<64:=by rw[f,au];exact aH ‹_› (by decide)
  clear f;refine aB<|dB<|cb I 10 C.sorted<|a1<|nl I 3 rfl<|kF (k:=1) I.ok (.led 0 rfl) (by rw[au];exact y) (λ x X=>by refine b4 (aC.mp X) λ t Z W=>?_;subst W;exact .str _) λ ys hp hs=>.F ?_;exact ⟨[(E,.list (l.map .str))],J,J,.list ys,rfl,λ Z h=>h,dE.refl _ _,.refl _,⟨ys,rfl,hp,hs⟩,rfl⟩
end
noncomputable def fw(R:List Pr)(g:Gr)(ms acc:List (Nat×Nat))(t:Tr):List (Nat×Nat):=if 0<t.1/\t.2.1=(d5 R t.1).length then f8 t.1 ((ms.lookup (lB g t)).getD 0) acc else acc
noncomputable def wa(R:List Pr)(g:Gr)(ms:List (Nat×Nat))(l:List Tr):List (Nat×Nat):=l.foldl (fw R g ms) []
theorem tp:∀(l:List Tr) (acc:List (Nat×Nat)),(acc.map (·.1)).Nodup->(∀t∈l,t.1<R.length)->(∀x∈acc.map (·.1),x<R.length)->((l.foldl (fw R g ms) acc).map (·.1)).Nodup/\∀x∈(l.foldl (fw R g ms) acc).map (·.1),x<R.length:=by
 intro l;induction l with
 |nil=>intro Z h Z k;exact ⟨h,k⟩
 |cons t l c=>
  intro acc h b k;refine c (fw R g ms acc t) ?_ (λ x a=>b x (.tail _ a)) ?_
  ·dsimp only[fw];split
   ·exact gf h
   ·exact h
  ·unfold fw;split
   ·intro x a;rw[kD]at a;split at a
    ·exact k x a
    ·rcases aM.mp a with q|q
     ·exact k x q
     ·rw[aE.mp q];exact b t (.head _)
   ·exact k
structure IM(g:Gr)(R:List Pr)(s:fy)(K tr:List Tr):Prop where
 items:C0 (dV s.items) (dV (f4 g tr))=aj
 R7:s.kernel.Perm (f4 g K)/\s.kernel.Pairwise λ a b=>a.1<b.1
 Q5:s.Q5.Perm ((wa R g (f4 g tr) tr).map (·.1))/\s.Q5.Pairwise (·<·)
 Q4:C0 (dV s.Q4) (dV (wa R g (f4 g tr) tr))=aj
theorem yI(l:List (Nat×Nat)):∀p∈dV l,kk p.1=1/\lP 8 p.2=aj:=λ p b=>by refine b4 (aC.mp b) λ q Z a=>?_;subst a;exact ⟨rfl,rfl⟩
theorem qa(l:List (Nat×Nat)):∀x∈l.map dp,lP 8 x=aj:=λ x b=>by refine b4 (aC.mp b) λ q Z a=>?_;subst a;rfl
theorem m_(l:List Nat):∀x∈l.map V.nat,lP 8 x=aj:=λ x b=>by refine b4 (aC.mp b) λ q Z a=>?_;subst a;rfl
section
variable{f:aG}
theorem w7(C:Cmn G CG CR)(A:FR G CS CA)(Ym:Fn G "_law_masks" "_law_masks" (top 35) ["triples","grammar"] [])(Yy:Fn G "_law_is_state" "_law_is_state" (top 37) ["state","kernel","triples","rules","grammar"] [])(g:Gr)(hg:c_ g)(R:List Pr)(hR:Au R)(Q:R.length=g.rules.length)(s:fy)(K f:List Tr)(hK:As g K)(hT:As g f)
 (H:IM g R s K f) (Uk:s.kernel.length<60):
 cD G (d+3) (.ref Yy.f) [s.v CS,.list (K.map iI),.list (f.map iI),.list (R.map pV),g.v CG CR] J (λ v J'=>v=.bool aj/\J'=J):=by
 refine lX Yy.y _ _ _ rfl λ O I Oo=>?_;have T:=jJ g f;have E:=jJ g K;have hhl:(f4 g K).length<60:=by rw[<-H.R7.1.length_eq];exact Uk
 refine aB<|sl I 5<|cg I 11 Ym<|an<|nl I 2 rfl<|a1<|nl I 4 rfl<|iu I (pc (d:=d) C Ym g hg f hT) s7 ?_;refine aB<|DH I Oo 6<|cg I 11 Ym<|an<|nl I 1 rfl<|a1<|nl I 4 rfl<|iu I (pc (d:=d) C Ym g hg K hK) s7 ?_;refine aB<|eW<|m5<|tq<|sa I A s (.dict (dV s.items))<|nl I 0 rfl ⟨rfl,nl I 5 rfl<|GO I.ok .frozen .frozen (c:=1) (by decide) (yI _) (yI _) (fO T) ⟨_,rfl,fS (congrArg (λ b=>!b) H.items) ?_⟩⟩;refine m5<|tq<|sa I A s (e6 s.kernel)<|nl I 0 rfl ⟨rfl,cb I 12 C.tup<|a1<|lc I<|cb I 13 C.sorted<|a1<|nc I 6 rfl<|kG I.ok .frozen (by rw[show (dV (f4 g K)).length=(f4 g K).length from au ..];exact aH ‹_› (by decide)) (px _) (fO E) λ ys u Y=>?_⟩;rw[lb]at u;have z:ys=(s.kernel.map (·.1)).map V.nat:=du.uniq (k:=0) (u.trans ((H.R7.1.map (·.1)).symm.map _)) (λ x B=>pZ _ x (u.mem_iff.mp B)) Y (jG (by rw[bS];exact H.R7.2));subst z;clear u Y;refine .F ⟨_,_,_,lA V.nat (s.kernel.map (·.1)) 0 I.ok.hand,by rw[au];exact bc (aH ‹_› (by decide)),(λ i j acc m=>∃o,j=[ai,o,ah (.dict (dV (f4 g K)))]/\acc=(s.kernel.take i).map dp/\m=J),⟨_,n7 I,rfl,rfl⟩,?_,?_,?_⟩
 ·rintro i j acc m hi ⟨o,rfl,rfl,rfl⟩;exact ⟨by rw[au,bb];exact qV,λ Z=>trivial⟩
 ·rintro O' C' i j acc m D hi ⟨o,rfl,rfl,rfl⟩;have S:=C'.SE I;have hi:i<s.kernel.length:=by rw[au]at hi;exact hi
  have U:(f4 g K).lookup (s.kernel.getD i (0,0)).1=ah (s.kernel.getD i (0,0)).2:=eL E (H.R7.1.mem_iff.mp (bd hi (0,0)));rw[(show (s.kernel.map (·.1)).getD i 0=(s.kernel.getD i (0,0)).1 by rw[e4 (by simpa using hi),bU,e4 hi]),dN (ay hi),<-e4 hi (0,0)];generalize s.kernel.getD i (0,0)=p at U ⊢;refine Mine.al S 1<|gs<|t2<|nl S 1 rfl<|sb<|nc S 2 rfl<|nl S 1 rfl<|ug S.ok E U ⟨[],rfl,_,rfl,?_,rfl⟩;rw[aK];rfl
 rintro j acc m ⟨o,rfl,rfl,rfl⟩;rw[au,a0];refine .F<|rL .frozen (by rw[au];exact bc (aH ‹_› (by decide)))<|MI I.ok (qa _) (qa _) ⟨_,rfl,fS (by rw[eK];rfl)<|jm<|fS rfl<|bm ?_⟩;refine aB<|sl I 7<|hH I.ok λ ad=>?_;let ms:=f4 g f
 let st:List (Nat×Nat)×List (Option V)->St:=λ a=>⟨[ah (s.v CS),ah (.list (K.map iI)),ah (.list (f.map iI)),ah (.list (R.map pV)),ah (g.v CG CR),ah (.dict (dV ms)),ah (.dict (dV (f4 g K))),ah (.ref ad),ov a.2 0,ov a.2 1,ov a.2 2,ai,ai,ai,ai],(ad,.dict (dV a.1))::m⟩
 let In:Nat->List (Nat×Nat)×List (Option V)->Prop:=λ i a=>a.1=(f.take i).foldl (fw R g ms) []
 have N:∀t∈f,t.1<R.length:=λ t ht=>by rw[Q];exact hT.rule t ht
 have W:∀i,(((f.take i).foldl (fw R g ms) []).map (·.1)).Nodup/\((f.take i).foldl (fw R g ms) []).length<=12:=λ i=>by refine za (tp (R:=R) (g:=g) (ms:=ms) (f.take i) [] bK (λ t ht=>N t (cE ht)) (λ x B=>(nomatch B))) λ a b=>?_;have:=aU a (l₂:=aZ R.length) λ x B=>bN.mpr (b x B);rw[au,bf]at this;exact ⟨a,aA this hR.len⟩
 refine aB<|iH st In<|nl I 2 rfl ⟨_,_,_,lA iI f (0,0,"") I.ok.hand,([],[]),rfl,rfl,λ Z Z Z Z=>trivial,λ i a hi q=>?_,λ a q=>?_⟩
 ·obtain ⟨acc,o⟩:=a;have q:acc=(f.take i).foldl (fw R g ms) []:=q;refine za (W i) λ M X=>?_;rw[<-q]at M X;have L:=N _ (bd hi (0,0,""));have w:=bd hi (0,0,"");show XA _ _ _ _ (qe _ _ _ (oo _ (At st (λ a=>a.1=(f.take (i+1)).foldl (fw R g ms) [])))) _;rw[(show (f.take (i+1)).foldl (fw R g ms) []=fw R g ms acc (f.getD i (0,0,""))from by rw[q];exact fH _ _ hi (0,0,""))];generalize f.getD i (0,0,"")=t at L w ⊢;obtain ⟨n,k,x⟩:=t;have L:n<R.length:=L;refine NR I<|Mine.al I 8<|Mine.al I 9<|Mine.al I 10<|aB<|eW<|lp<|tq<|nl I 8 rfl<|dJ<|BX ⟨_,rfl,?_⟩;by_cases F:0<n;rotate_left
  ·exact fS (decide_eq_false (by show ¬(0:Int)<(n:Int);exact Gh F))<|fS rfl<|bm<|bm ⟨(acc,[_,_,_]),rfl,(if_neg λ h=>F h.1:fw R g ms acc (n,k,x)=acc).symm⟩
  refine iz (decide_eq_true (by show (0:Int)<(n:Int);exact cV.mpr ‹_›))<|lp<|tq<|nl I 9 rfl<|cb I 14 C.len<|a1<|sb<|sb<|nl I 3 rfl<|nl I 8 rfl<|lU pV ("",[]) L (aH L (aA hR.len (by decide)))<|xn 1 ⟨⟨_,.tup⟩,pq (k:=1) rfl (by decide)<|mw (l:=d5 R n) (aQ ((p9 hR n).1) (by decide))<|zK ⟨_,rfl,?_⟩⟩;by_cases hk:k=(d5 R n).length;rotate_left
  ·exact fS (beq_eq_false_iff_ne.mpr hk)<|fS rfl<|bm<|bm ⟨(acc,[_,_,_]),rfl,(if_neg λ h=>hk h.2:fw R g ms acc (n,k,x)=acc).symm⟩
  obtain ⟨m',P⟩:∃m',ms.lookup (g.off n+k)=ah m':=by
   refine eM.mpr ?_;have key:∀(l:List Tr) (acc:List (Nat×Nat)),((n,k,x)∈l\/g.off n+k∈acc.map (·.1))->g.off n+k∈(l.foldl (fu g) acc).map (·.1):=λ l=>by
    have r:∀(acc:List (Nat×Nat)) (t:Tr),(∀y∈acc.map (·.1),y∈(fu g acc t).map (·.1))/\lB g t∈(fu g acc t).map (·.1):=λ acc t=>by
     have hd:∀(k v:Nat) (l:List (Nat×Nat)),(∀y∈l.map (·.1),y∈(f8 k v l).map (·.1))/\k∈(f8 k v l).map (·.1):=λ k v l=>by
      rw[kD];split
      ·rename_i h;exact ⟨λ Z h=>h,h⟩
      ·exact ⟨λ Z h=>aJ _ h,ax _ (.head _)⟩
     unfold fu;split
     ·exact hd _ _ _
     ·exact ⟨λ y hy=>(hd _ _ _).1 y ((hd _ _ _).1 y hy),(hd _ _ _).2⟩
    induction l with
    |nil=>intro acc h;exact h.elim (λ h=>(nomatch h)) id
    |cons t l ih=>
     intro acc h;refine ih (fu g acc t) ?_;rcases h with h|h
     ·rcases aI.mp h with h|h
      ·rw[<-h];exact .inr (r acc (n,k,x)).2
      ·exact .inl h
     ·exact .inr ((r acc t).1 _ h)
   exact key f [] (.inl w)
  have e:fw R g ms acc (n,k,x)=f8 n m' acc:=by unfold fw;rw[if_pos ⟨F,hk⟩];show f8 n ((ms.lookup (g.off n+k)).getD 0) acc=_;rw[P];rfl
  exact iz (by rw[beq_iff_eq];exact hk)<|je<|iz rfl<|aB<|ss<|sb<|nl I 5 rfl<|gm I C.item g<|nl I 4 rfl<|og<|an<|nl I 8 rfl<|a1<|nl I 9 rfl<|iu I (qL (d:=d) C.F C.item.y g n k (by rw[<-Q];exact L) hg.toSmall) yp<|ug (k:=g.off n+k) I.ok T P<|nl I 7 rfl<|nl I 8 rfl<|xa (k:=n) 0 I.ok rfl M (aA X (by decide)) rfl<|bm<|bm ⟨(_,[_,_,_]),rfl,e.symm⟩
 ·obtain ⟨acc,o⟩:=a;have q:acc=(f.take f.length).foldl (fw R g ms) []:=q;refine za (W f.length) λ M X=>?_;rw[<-q]at M X;rw[a0]at q;have q:acc=wa R g ms f:=q;refine aB<|dB<|Hv<|x_ (sa I A s (.list (s.Q5.map .nat))<|nl I 0 rfl ⟨rfl,cb I 13 C.sorted<|a1<|nl I 7 rfl<|kG I.ok (.led 0 rfl) (by rw[show (dV acc).length=acc.length from au ..];exact aQ ‹_› (by decide)) (px _) (fO M) λ ys u Y=>?_⟩) rfl;rw[lb]at u;have z:ys=s.Q5.map V.nat:=du.uniq (k:=0) (u.trans ((show s.Q5.Perm (acc.map (·.1))from by rw[q];exact H.Q5.1).symm.map _)) (λ x B=>pZ _ x (u.mem_iff.mp B)) Y (jG H.Q5.2);subst z;refine .F<|BZ I.ok .frozen .frozen (m_ _) (m_ _) ?_;rw[eK];refine ⟨aj,rfl,iz rfl<|x_ (sa I A s (.dict (dV s.Q4))<|nl I 0 rfl ⟨rfl,nl I 7 rfl<|MM I.ok .frozen (.led 0 rfl) (c:=1) (by decide) (yI _) (yI _) (fO M) ?_⟩) rfl⟩;rw[(show C0 (dV s.Q4) (dV acc)=aj by rw[q];exact H.Q4)];exact ⟨[(ad,.dict (dV acc))],m,m,.bool aj,rfl,λ Z h=>h,dE.refl _ _,.refl _,rfl,rfl⟩
end
noncomputable def q0:List Str:=["xyz","xzy","yxz","yzx","zxy","zyx"]
noncomputable def nS:List (Str×Str×Str):=[("x","y","z"),("x","z","y"),("y","x","z"),("y","z","x"),("z","x","y"),("z","y","x")]
noncomputable def tb:List Str:=["x","y","z","a","b","z"]
noncomputable def lS:List Str:=["x","y","s","a"]
noncomputable def mq(row:List Nat):Pr:=((["s","a","b"]:List Str).getD (pick row 3 3) "",(aZ (pick row 4 3)).map λ k=>tb.getD (pick row (5+k) 6) "")
noncomputable def h8(t:Str×Str×Str):List Pr:=[("s",[t.2.2,t.2.2]),("s",[t.1,"a",t.1]),("s",[t.2.1,"a",t.2.1]),("s",[t.1,"b",t.2.1]),("s",[t.2.1,"b",t.1]),("a",[t.2.2]),("b",[t.2.2])]
noncomputable def CP(row:List Nat):List Pr:=h8 (nS.getD (pick row 1 6) ("","",""))++if 0<pick row 2 3 then [mq row]else []
noncomputable def mM(row:List Nat)(base:Nat):List Str:=(aZ (pick row base 3)).map λ k=>(["x","y"]:List Str).getD (pick row (base+1+k) 2) ""
noncomputable def qy(row:List Nat)(place:Nat):List Str:=(aZ (1+pick row place 2)).map λ k=>lS.getD (pick row (place+1+k) 4) ""
noncomputable def pA(row:List Nat)(b:Nat×Str):List Pr:=(b.2,mM row b.1)::(aZ (1+pick row (b.1+4) 2)).map λ t=>(b.2,qy row (b.1+5+5*t))
noncomputable def n_:List (Nat×Str):=[(8,"s"),(24,"a")]
noncomputable def gk(row:List Nat):List Pr:=if pick row 0 4<2 then CP row else n_.flatMap (pA row)
theorem d4{row:List Nat}{m:Nat}(a:0<m):pick row i m<m:=Nat.mod_lt _ a
theorem zB:∀i,i<6->((q0.getD i "").cps.toList.map λ c=>V.str ⟨#[c]⟩)=[.str (nS.getD i ("","","")).1,.str (nS.getD i ("","","")).2.1,.str (nS.getD i ("","","")).2.2]
 |0,_=>by kernel_rfl
 |1,_=>by kernel_rfl
 |2,_=>by kernel_rfl
 |3,_=>by kernel_rfl
 |4,_=>by kernel_rfl
 |5,_=>by kernel_rfl
 |n+6,h=>absurd h ((Gg h).elim)
theorem BS:∀i,i<6->(q0.getD i "").cps.size<=2^20
 |0,_=>by decide+kernel
 |1,_=>by decide+kernel
 |2,_=>by decide+kernel
 |3,_=>by decide+kernel
 |4,_=>by decide+kernel
 |5,_=>by decide+kernel
 |n+6,h=>absurd h ((Gg h).elim)
section
variable{f:aG}
theorem PI(I:f6 O G d T){c b f:Expr}{k:Nat}{pos:gU}{u v w:V}{Q:St->Prop}(h:XA O Ex (d9 c O.env) u (Cr O Ex b v (Cr O Ex f w Q)) Y)
 (n:autoParam ((dY [c,b,f] O.env).map (·.2)=[d9 c O.env,d9 b O.env,d9 f O.env]) rf) (m:autoParam ((dY [c,b,f] O.env).length=3) rf) (a:autoParam ((dY [c,b,f] O.env).findIdx? (·.1)=ai) rf):
 XA O Ex (d9 (.Tuple [c,b,f] k pos) O.env) (.list [u,v,w]) Q Y:=II I.ok .frozen n m a (jO (λ Kp Jj s u R g=>aY (h Kp Jj s u R g) (λ Z Z l=>by refine b4 l λ Y' R' q=>?_;exact ⟨Y',R',jO (λ Kp Jj s u R g=>aY (q Kp Jj s u R g) (λ Z Z i=>by refine b4 i λ Y' R' q=>?_;exact ⟨Y',R',jO (λ Kp Jj s u R g=>aY (q Kp Jj s u R g) (λ Z Z j=>by refine b4 j λ Y' R' q=>?_;exact ⟨Y',R',xQ q⟩) λ Z Z e=>e)⟩) λ Z Z e=>e)⟩) λ Z Z e=>e))
theorem Ep{l:List V}(h:l.length<=16):l.length<=eU:=Qk h
theorem l2{a b:Expr}{pos:gU}{Q:V->St->Prop}(h:XV O Ex (bv a O.env) (kR O Ex b (λ v w Y=>Q (.list [v,w]) Y)) Y)(d:autoParam (bk [a,b] O.env=(ao,bv a O.env)::bk [b] O.env) rf)(c:autoParam (bk [b] O.env=(ao,bv b O.env)::bk [] O.env) rf):
 XV O Ex (bv (.List [a,b] pos) O.env) Q Y:=f1 (an (h.mono λ Z Z h=>a1 (X.mono h λ Z Z q=>⟨Ep (aP rfl),q⟩) c) d)
noncomputable def QI(Q:V->St->Prop)(u v w:V)(Y:St):Prop:=Q (.list [u,v,w]) Y
noncomputable def Px(O:FC)(Ex:Value->aR->Prop)(c:Expr)(Q:V->St->Prop)(u v:V)(Y:St):Prop:=XV O Ex (bv c O.env) (QI Q u v) Y
theorem l3{a b c:Expr}(h:XV O Ex (bv a O.env) (kR O Ex b (Px O Ex c Q)) Y)(f:autoParam (bk [a,b,c] O.env=(ao,bv a O.env)::bk [b,c] O.env) rf)(e:autoParam (bk [b,c] O.env=(ao,bv b O.env)::bk [c] O.env) rf)(d:autoParam (bk [c] O.env=(ao,bv c O.env)::bk [] O.env) rf):XV O Ex (bv (.List [a,b,c] pos) O.env) Q Y:=
 f1 (an (h.mono λ Z Z h=>an (X.mono h λ Z Z h=>a1 (X.mono h λ Z Z q=>⟨Ep (aP rfl),q⟩) d) e) f)
theorem pk(I:f6 O G d T)(C:Cmn G CG CR)(b:Fn G "_law_pick" "_law_pick" (top 30) ["row","at","most"] []){row:List Nat}(f:0<row.length)(e:row.length<64)(i m:Nat)(hi:i<1000)(c:0<m)(a:m<3000)(hd:1<=d){Q:V->St->Prop}(h:Q (.nat (pick row i m)) Y):
 rq O Ex (.ref b.f) Q [.list (row.map .nat),.nat i,.nat m] Y:=iu I (Bx (d:=0) (J:=[]) b.y C.len row i m f e hi c a) hd h
theorem FH(i:Nat):(n_.getD i (0,"")).1<=24:=by
 cases i with
 |zero=>decide
 |succ i=>
  cases i with
  |zero=>decide
  |succ i=>exact bg _
theorem EG(C:Cmn G CG CR)(r:Fn G "_law_pick" "_law_pick" (top 30) ["row","at","most"] [])(Go:Gl G "_law_orders" (.tup (q0.map .str)))(Yy:Fn G "_law_pairs" "_law_pairs" (top 31) ["row"] [])(row:List Nat)(B:0<row.length)(A:row.length<64):
 cD G (d+2) (.ref Yy.f) [.list (row.map .nat)] J (λ v J'=>v=.list ((gk row).map pV)/\J'=J):=by
 refine lX Yy.y _ _ _ rfl λ O I Oo=>?_;let P:V:=.list (row.map .nat)
 refine aB<|eW<|tq<|cg I 10 r<|an<|nc I 0 rfl<|an<|xn 0<|a1<|xn 4<|pk I C r B A 0 4 (by decide) (by decide) (by decide) (bJ _ _)<|xn 2<|tY ⟨_,rfl,?_⟩;by_cases W:pick row 0 4<2
 ·have L:gk row=CP row:=if_pos W;rw[L];have H:=d4 (row:=row) (i:=1) (m:=6) (by decide);refine iz (decide_eq_true W)<|aB<|xT I<|cb I 11 C.list<|a1<|sb<|gl I 12 Go<|cg I 10 r<|an<|nc I 0 rfl<|an<|xn 1<|a1<|xn 6<|pk I C r B A 1 6 (by decide) (by decide) (by decide) (bJ _ _)<|PE V.str "" (l:=q0) H (bC H (by decide))<|z9 I.ok (BS _ H)<|.F ?_;rw[zB _ H];generalize N:nS.getD (pick row 1 6) ("","","")=t;obtain ⟨x,y,z⟩:=t;have hf:CP row=h8 (x,y,z)++if 0<pick row 2 3 then [mq row]else []:=by unfold CP;rw[N]
  rw[hf];refine PI I<|Mine.al I 1<|Mine.al I 2<|Mine.al I 3 ?_;refine aB<|sl I 4<|f1 (an<|t2<|c1<|l2<|nl I 3 rfl<|nl I 3 rfl<|an<|t2<|c1<|l3<|nl I 1 rfl<|c1<|nl I 1 rfl<|an<|t2<|c1<|l3<|nl I 2 rfl<|c1<|nl I 2 rfl<|an<|t2<|c1<|l3<|nl I 1 rfl<|c1<|nl I 2 rfl<|a1<|t2<|c1<|l3<|nl I 2 rfl<|c1<|nl I 1 rfl ⟨Ep (aP rfl),?_⟩);refine aB<|sl I 4<|bw<|nl I 4 rfl<|f1 (an<|t2<|c1<|l1<|nl I 3 rfl<|a1<|t2<|c1<|l1<|nl I 3 rfl ⟨Ep (aP rfl),m8 I.ok .frozen .frozen (aP rfl)<|.M λ u=>?_⟩);have E:∀(l:List Pr) (a b c e f:Option V),XF O dL (eI [sub (sub (top 31) 0) 4] O.env) (Ic O dL ((cy (top 31)).drop 1) (Av J λ v J'=>v=.list (l.map pV)/\J'=J)) ⟨[ah P,a,b,c,ah (.ref u),e,f,ai,ai,ai,ai,ai,ai,ai],(u,.list (l.map pV))::J⟩:=λ l a b c e f=>aB<|dB<|nl I 4 rfl<|CO (J1:=[(u,.list (l.map pV))]) (.head _) ⟨rfl,rfl⟩
  refine aB<|eW<|tq<|cg I 10 r<|an<|nc I 0 rfl<|an<|xn 2<|a1<|xn 3<|pk I C r B A 2 3 (by decide) (by decide) (by decide) (bJ _ _)<|dJ<|BX ⟨_,rfl,?_⟩;by_cases Y:0<pick row 2 3
  ·have Q:=d4 (row:=row) (i:=3) (m:=3) (by decide);have K:=d4 (row:=row) (i:=4) (m:=3) (by decide);rw[if_pos Y]at hf ⊢;refine iz (decide_eq_true (by show (0:Int)<((pick row 2 3:Nat):Int);exact cV.mpr ‹_›))<|aB<|sl I 5<|sb<|f1 (an<|c1<|an<|c1<|a1<|c1 ⟨Ep (aP rfl),cg I 10 r<|an<|nc I 0 rfl<|an<|xn 3<|a1<|xn 3<|pk I C r B A 3 3 (by decide) (by decide) (by decide) (bJ _ _)<|lU V.str "" (l:=["s","a","b"]) Q (bC Q (by decide)) ?_⟩);refine aB<|sl I 6<|cg I 10 r<|an<|nc I 0 rfl<|an<|xn 4<|a1<|xn 3<|pk I C r B A 4 3 (by decide) (by decide) (by decide) (bJ _ _) ?_;refine aB<|xe I<|ge I<|nl I 4 rfl ⟨u,_,0,rfl,rfl,t2<|nl I 5 rfl<|lc I<|cb I 13 C.range<|a1<|nl I 6 rfl<|jr ⟨_,_,_,m3 I.ok.hand (bC K (by decide)),aA (bc K) (by decide),(λ j g acc m=>∃o,g=[ai,o,ai,ah P]/\acc=((aZ j).map λ k=>tb.getD (pick row (5+k) 6) "").map .str/\m=(u,.list ((h8 (x,y,z)).map pV))::J),⟨_,n7 I,rfl,rfl⟩,?_,?_,?_⟩⟩
   ·rintro j g acc m hj ⟨o,rfl,rfl,rfl⟩;exact ⟨by rw[au,au,bf];exact aT _,λ Z=>trivial⟩
   ·rintro O' C' j g acc m D hj ⟨o,rfl,rfl,rfl⟩;have s:=C'.SE I;have T:=d4 (row:=row) (i:=5+j) (m:=6) (by decide);refine Mine.al s 1<|gs<|sb<|f1 (an<|c1<|an<|c1<|an<|c1<|an<|c1<|an<|c1<|a1<|c1 ⟨Ep (aP rfl),cg s 2 r<|an<|nc s 3 rfl<|an<|bw<|xn 5<|nl s 1 rfl<|fM<|a1<|xn 6<|pk s C r B A (5+j) 6 (KG hj K) (by decide) (by decide) (bJ _ _)<|lU V.str "" (l:=tb) T (bC T (by decide)) ⟨[],rfl,_,rfl,?_,rfl⟩⟩);rw[cT,aK,aK];rfl
   ·rintro g acc m ⟨o,rfl,rfl,rfl⟩;exact .F<|uF Pr (f:=pV) (l:=h8 (x,y,z)) (x:=mq row) 0 rfl (aP rfl) rfl<|bm<|E _ _ _ _ _ _
  ·rw[if_neg Y,cL];exact fS (decide_eq_false (by show ¬(0:Int)<((pick row 2 3:Nat):Int);exact Gh Y))<|bm<|E (h8 (x,y,z)) _ _ _ _ _
 ·have L:gk row=n_.flatMap (pA row):=if_neg W;rw[L];refine fS (decide_eq_false W)<|bm<|aB<|sl I 4<|ey I.ok<|cx ⟨bg _,λ u=>?_⟩;let st:List Pr×List (Option V)->St:=λ a=>⟨[ah P,ai,ai,ai,ah (.ref u),ov a.2 0,ov a.2 1,ov a.2 2,ov a.2 3,ov a.2 4,ai,ai,ai,ai],(u,.list (a.1.map pV))::J⟩
  let In:Nat->List Pr×List (Option V)->Prop:=λ i a=>a.1=(n_.take i).flatMap (pA row)
  have X:∀b,(pA row b).length<=3:=λ b=>by unfold pA;rw[bj,au,bf];exact My (d4 (row:=row) (i:=b.1+4) (m:=2) (by decide))
  refine aB<|iH st In<|t2<|t2<|xn 8<|c1<|t2<|xn 24<|c1 ⟨_,_,_,Jp (λ b:Nat×Str=>.tup [.nat b.1,.str b.2]) n_ (0,"") I.ok.hand,([],[]),rfl,rfl,λ Z Z Z Z=>trivial,λ i a hi w=>?_,λ a w=>?_⟩
  ·obtain ⟨l,o⟩:=a;have Zr:i<2:=hi;have R:l.length<=6:=by
    rw[(show l=(n_.take i).flatMap (pA row)from w)];have:∀(q:List (Nat×Str)),(q.flatMap (pA row)).length<=3*q.length:=λ q=>by
     induction q with
     |nil=>exact aT _
     |cons b q ih=>rw[db,aF,bj];have:=X b;exact Gj this ih
    have h:=this (n_.take i);rw[bb]at h;exact KE h Zr
   have N:(n_.take (i+1)).flatMap (pA row)=l++pA row (n_.getD i (0,"")):=by rw[dN (ay hi),dS,<-w,e4 hi];simp
   have p:=FH i;show XA _ _ _ _ (qe _ _ _ (oo _ (At st (λ a=>a.1=(n_.take (i+1)).flatMap (pA row))))) _;rw[N];generalize n_.getD i (0,"")=b at p ⊢;obtain ⟨n,F⟩:=b;have p:n<=24:=p;have Q:=d4 (row:=row) (i:=n) (m:=3) (by decide);refine Ar I<|ac I Oo 7<|Mine.al I 5<|aB<|xe I<|ge I<|nl I 4 rfl ⟨u,_,0,rfl,rfl,t2<|nl I 5 rfl<|lc I<|cb I 13 C.range<|a1<|cg I 10 r<|an<|nc I 0 rfl<|an<|nc I 7 rfl<|a1<|xn 3<|pk I C r B A n 3 (aQ ‹_› (by decide)) (by decide) (by decide) (bJ _ _)<|jr ⟨_,_,_,m3 I.ok.hand (bC Q (by decide)),aA (bc Q) (by decide),(λ j g acc m=>∃o,g=[ai,o,ai,ah (.nat n),ah P]/\acc=((aZ j).map λ k=>(["x","y"]:List Str).getD (pick row (n+1+k) 2) "").map .str/\m=(u,.list (l.map pV))::J),⟨_,n7 I,rfl,rfl⟩,?_,?_,?_⟩⟩
   ·rintro j g acc m hj ⟨o,rfl,rfl,rfl⟩;exact ⟨by rw[au,au,bf];exact aT _,λ Z=>trivial⟩
   ·rintro O' C' j g acc m D hj ⟨o,rfl,rfl,rfl⟩;have s:=C'.SE I;have T:=d4 (row:=row) (i:=n+1+j) (m:=2) (by decide);refine Mine.al s 1<|gs<|sb<|l2<|c1<|c1<|cg s 2 r<|an<|nc s 4 rfl<|an<|bw<|bw<|nc s 3 rfl<|xn 1<|fM<|nl s 1 rfl<|fM<|a1<|xn 2<|pk s C r B A (n+1+j) 2 (KD p hj Q) (by decide) (by decide) (bJ _ _)<|lU V.str "" (l:=["x","y"]) T (bC T (by decide)) ⟨[],rfl,_,rfl,?_,rfl⟩;rw[cT,aK,aK];rfl
   rintro g acc m ⟨o',rfl,rfl,rfl⟩;refine .F<|uF Pr (f:=pV) (l:=l) (x:=(F,mM row n)) 0 rfl (aA R (by decide)) rfl ?_;have K:=d4 (row:=row) (i:=n+4) (m:=2) (by decide);let M:Nat->Pr:=λ t=>(F,qy row (n+5+5*t))
   let S:List Pr×List (Option V)->St:=λ a=>⟨[ah P,ai,ai,ai,ah (.ref u),ah (.str F),ov a.2 0,ah (.nat n),ov a.2 1,ov a.2 2,ai,ai,ai,ai],(u,.list (a.1.map pV))::J⟩
   let T1:Nat->List Pr×List (Option V)->Prop:=λ i a=>a.1=l++(F,mM row n)::(aZ i).map M
   refine aB<|iH S T1<|cb I 13 C.range<|a1<|bw<|xn 1<|cg I 10 r<|an<|nc I 0 rfl<|an<|bw<|nc I 7 rfl<|xn 4<|fM<|a1<|xn 2<|pk I C r B A (n+4) 2 (KC p) (by decide) (by decide) (bJ _ _)<|fM<|jr ⟨_,_,_,m3 I.ok.hand (Gf K),(l++[(F,mM row n)],[ov o 1,ov o 3,ov o 4]),rfl,rfl,λ Z Z Z Z=>trivial,λ t a N w=>?_,λ a w=>?_⟩
   ·obtain ⟨l',o2⟩:=a;have w:l'=l++(F,mM row n)::(aZ t).map M:=w;show XA _ _ _ _ (qe _ _ _ (oo _ (At S (λ a=>a.1=l++(F,mM row n)::(aZ (t+1)).map M)))) _;rw[(show l++(F,mM row n)::(aZ (t+1)).map M=l'++[M t] by rw[w,cT,aK,bY];rfl)];have U:t<2:=KA N K;have H:=d4 (row:=row) (i:=n+5+5*t) (m:=2) (by decide);refine Mine.al I 8<|aB<|DH I Oo 9<|bw<|bw<|nc I 7 rfl<|xn 5<|fM<|bw<|xn 5<|nl I 8 rfl<|GT (by decide)<|fM ?_;refine aB<|sl I 6<|bw<|xn 1<|cg I 10 r<|an<|nc I 0 rfl<|an<|nc I 9 rfl<|a1<|xn 2<|pk I C r B A (n+5+5*t) 2 (Kz p U) (by decide) (by decide) (bJ _ _)<|fM ?_;refine aB<|xe I<|ge I<|nl I 4 rfl ⟨u,_,0,rfl,rfl,t2<|nl I 5 rfl<|lc I<|cb I 13 C.range<|a1<|nl I 6 rfl<|jr ⟨_,_,_,m3 I.ok.hand (Gf H),aA (show 1+pick row (n+5+5*t) 2<=3 from Kx H) (by decide),(λ j g acc m=>∃o,g=[ai,o,ai,ah (.nat (n+5+5*t)),ah P]/\acc=((aZ j).map λ k=>lS.getD (pick row (n+5+5*t+1+k) 4) "").map .str/\m=(u,.list (l'.map pV))::J),⟨_,n7 I,rfl,rfl⟩,?_,?_,?_⟩⟩
    ·rintro j g acc m hj ⟨o,rfl,rfl,rfl⟩;exact ⟨by rw[au,au,bf];exact aT _,λ Z=>trivial⟩
    ·rintro O' C' j g acc m D hj ⟨o,rfl,rfl,rfl⟩;have s:=C'.SE I;have h7:=d4 (row:=row) (i:=n+5+5*t+1+j) (m:=4) (by decide);refine Mine.al s 1<|gs<|sb<|f1 (an<|c1<|an<|c1<|an<|c1<|a1<|c1 ⟨Ep (aP rfl),cg s 2 r<|an<|nc s 4 rfl<|an<|bw<|bw<|nc s 3 rfl<|xn 1<|fM<|nl s 1 rfl<|fM<|a1<|xn 4<|pk s C r B A (n+5+5*t+1+j) 4 (Kw p U hj H) (by decide) (by decide) (bJ _ _)<|lU V.str "" (l:=lS) h7 (bC h7 (by decide)) ⟨[],rfl,_,rfl,?_,rfl⟩⟩);rw[cT,aK,aK];rfl
    ·rintro g acc m ⟨o,rfl,rfl,rfl⟩;exact .F<|uF Pr (f:=pV) (l:=l') (x:=M t) 0 rfl (aA (by rw[w,aF,bj,au,bf];exact KB R N K) (by decide)) rfl<|bm ⟨(l'++[M t],[_,_,_]),rfl,rfl⟩
   ·obtain ⟨l',o2⟩:=a;exact bm ⟨(l',[_,_,_,_,_]),rfl,w⟩
  ·obtain ⟨l,o⟩:=a;have w:l=n_.flatMap (pA row):=w;rw[<-w];exact aB<|dB<|nl I 4 rfl<|CO (J1:=[(u,.list (l.map pV))]) (.head _) ⟨rfl,rfl⟩
end
noncomputable def pM(X:Nat)(v:List Tr):List (Nat×List Tr)->List (Nat×List Tr)
 |[]=>[(X,v)]
 |p::r=>if p.1=X then (p.1,v)::r else p::pM X v r
theorem yL{X:Nat}{v:List Tr}:pM X v []=([(X,v)]):=rfl
theorem wi{X:Nat}{v:List Tr}{p r}:pM X v (p::r)=(if p.1=X then (p.1,v)::r else p::pM X v r):=rfl
noncomputable def oF(g:Gr)(R:List Pr)(t:Tr):Nat:=ix g ((d5 R t.1).getD t.2.1 "")
noncomputable def fP(g:Gr)(R:List Pr)(b:List (Nat×List Tr))(t:Tr):List (Nat×List Tr):=
 if t.2.1<(d5 R t.1).length then pM (oF g R t) ((b.lookup (oF g R t)).getD []++[(t.1,t.2.1+1,t.2.2)]) b else b
noncomputable def Do(g:Gr)(R:List Pr)(l:List Tr):List (Nat×List Tr):=l.foldl (fP g R) []
noncomputable def bV(b:List (Nat×List Tr)):List (V×V):=b.map λ p=>(.nat p.1,.list (p.2.map iI))
theorem Ab(X:Nat)(v:List Tr):∀l:List (Nat×List Tr),(pM X v l).map (·.1)=if X∈l.map (·.1)then l.map (·.1)else l.map (·.1)++[X]:=by
 intro l;induction l with
 |nil=>exact rfl
 |cons p r a=>
  have a:=a;dsimp only[yL,wi];by_cases e:p.1=X
  ·rw[if_pos e,if_pos (by simp[e])];rfl
  ·rw[if_neg e,be,a,be];by_cases h:X∈r.map (·.1)
   ·rw[if_pos h,if_pos (b8 _ h)]
   ·rw[if_neg h,if_neg (by simp only[aI,not_or];exact ⟨λ q=>e q.symm,h⟩)];rfl
theorem xN{X:Nat}{v:List Tr}{l:List (Nat×List Tr)}(h:(l.map (·.1)).Nodup):((pM X v l).map (·.1)).Nodup:=by
 rw[Ab];by_cases q:X∈l.map (·.1)
 ·rw[if_pos q];exact h
 ·rw[if_neg q,aV];exact ⟨h,by simp,λ a c b d e=>q (by simp only[aE.mp d]at e;simp only[<-e];exact c)⟩
theorem IE(X:Nat)(v:List Tr):∀l,io (.nat X) (.list (v.map iI)) (bV l)=bV (pM X v l):=by
 intro l;induction l with
 |nil=>exact rfl
 |cons p r a=>
  have a:=a;unfold bV at*;rw[be];dsimp only[sH,nG];rw[wi];by_cases e:p.1=X
  ·rw[if_pos e,if_pos (by rw[f2,e])];rfl
  ·rw[if_neg e,if_neg (by rw[f2];intro h;simp at h;exact Ku h e),a];rfl
theorem xP(X:Nat):∀b:List (Nat×List Tr),ez (bV b) (.nat X)=(b.lookup X).map λ l=>.list (l.map iI):=by
 intro b;induction b with
 |nil=>exact rfl
 |cons a r c=>
  obtain ⟨k,l⟩:=a;have c:=c;dsimp only[ez,bV]at*;simp only[be,cU,bq,kX];by_cases e:X=k
  ·subst e;simp
  ·have f:((k:Int)==(X:Int))=ao:=by simp;exact BM e
   have d:(X==k)=ao:=by simpa using e
   simp only[f,d];exact c
theorem yP(b:List (Nat×List Tr)):(bV b).map (·.1)=(b.map (·.1)).map V.nat:=by unfold bV;(refine bs.trans ?_;rw[bs]);rfl
theorem G7(b:List (Nat×List Tr)):∀p∈bV b,kk p.1=1:=λ p c=>by refine b4 (aC.mp c) λ q Z a=>?_;subst a;rfl
theorem wo{b:List (Nat×List Tr)}(nd:(b.map (·.1)).Nodup):((bV b).map (·.1)).Nodup:=by simp only[yP];exact m9 nd
theorem oa{b:List (Nat×List Tr)}(X:Nat)(nd:(b.map (·.1)).Nodup):f5 (.nat X) (bV b):=⟨λ h=>(nomatch (show (1:Nat)=0 from h)),λ p a=>G7 b p a,wo nd⟩
theorem wq{b:List (Nat×List Tr)}{t:Tr}(h:(b.map (·.1)).Nodup):((fP g R b t).map (·.1)).Nodup:=by
 unfold fP;split
 ·exact xN h
 ·exact h
theorem wt:∀(l:List Tr) (b:List (Nat×List Tr)),(b.map (·.1)).Nodup->((l.foldl (fP g R) b).map (·.1)).Nodup:=by
 intro l;induction l with
 |nil=>intro Z h;exact h
 |cons t l a=>intro b h;exact a _ (wq h)
theorem Dg(X:Nat)(v:List Tr):∀b:List (Nat×List Tr),(pM X v b).length<=b.length+1:=by
 intro b;induction b with
 |nil=>exact aT _
 |cons p r a=>
  have:=a;dsimp only[yL,wi];split
  ·simp
  ·dsimp only[bj];exact dc ‹_›
theorem Aa{X n:Nat}{v:List Tr}(c:v.length<=n):∀{b:List (Nat×List Tr)},(∀p∈b,p.2.length<=n)->∀p∈pM X v b,p.2.length<=n:=by
 intro b;induction b with
 |nil=>intro Z p a;rw[aE.mp a];exact c
 |cons q r d=>
  intro h p a;simp only[wi]at a;split at a
  ·rcases aI.mp a with e|e
   ·rw[e];exact c
   ·exact h p (.tail _ e)
  ·rcases aI.mp a with e|e
   ·rw[e];exact h q (.head _)
   ·exact d (λ x f=>h x (.tail _ f)) p e
theorem Am:∀(l:List Tr) (b:List (Nat×List Tr)) (n:Nat),b.length<=n->(∀p∈b,p.2.length<=n)->(l.foldl (fP g R) b).length<=n+l.length/\∀p∈l.foldl (fP g R) b,p.2.length<=n+l.length:=by
 intro l;induction l with
 |nil=>intro Z Z i h;exact ⟨i,h⟩
 |cons t l j=>
  intro b n i h;have d:(fP g R b t).length<=n+1/\∀p∈fP g R b t,p.2.length<=n+1:=by
   dsimp only[fP];split
   ·refine ⟨aA (Dg ..) (dc ‹_›),Aa ?_ λ p f=>cY (h p f)⟩;simp only[aF,cJ];refine Ax ?_ 1;cases e:b.lookup (oF g R t)with
    |none=>exact bg _
    |some r=>obtain ⟨a,c,k,_⟩:=bM.mp e;exact h (oF g R t,r) (by simp only[k];exact ax _ (.head _))
   ·exact ⟨cY i,λ p f=>cY (h p f)⟩
  obtain ⟨a,c⟩:=j (fP g R b t) (n+1) d.1 d.2;skip;exact ⟨aA (show (l.foldl (fP g R) (fP g R b t)).length<=n+1+l.length from a) Kt,λ p f=>by have:p.2.length<=n+1+l.length:=c p f;exact Ks this⟩
noncomputable def iq(m:List Tr):V:=.tup (m.map iI)
theorem nJ{a b:List Tr}(h:iq a=iq b):a=b:=by
 unfold iq at h;have h:a.map iI=b.map iI:=by simpa using h
 exact (oq λ x y h=>pY h).mp h
theorem t9(m:List Tr):kk (iq m)=3:=by
 have:jo 7 (iq m)=aj:=by unfold iq;rw[GY,b9];intro x b;refine b4 (aC.mp b) λ p Z a=>?_;subst a;rfl
 show (jo 7 (iq m)).toNat*3=3;rw[this];rfl
noncomputable def qS(l:List (List Tr)):List (V×V):=l.zipIdx.map λ p=>(iq p.1,.nat p.2)
theorem vE(l:List (List Tr)):(qS l).map (·.1)=l.map iq:=by unfold qS;refine bs.trans ?_;apply dR;intro i;simp only[aN,mT,aN];cases l[i]?<;>rfl
theorem BF(l:List (List Tr))(m:List Tr):qS (l++[m])=qS l++[(iq m,.nat l.length)]:=by unfold qS;simp only[AL,aK];simp
theorem oN{l:List (List Tr)}(h:l.Nodup)(m:List Tr):f5 (iq m) (qS l):=by
 refine ⟨by rw[t9];decide,λ p b=>?_,?_⟩
 ·refine b4 (aC.mp b) λ q Z a=>?_;subst a;show kk (iq _)=_;rw[t9,t9]
 ·simp only[vE,aO,bS];exact (aO.mp h).imp λ h e=>h (nJ e)
theorem yl(m:List Tr)(l:List (List Tr)):ez (qS l) (iq m)=(l.idxOf? m).map V.nat:=by
 have a:∀(l:List (List Tr)) (n:Nat),ez ((l.zipIdx n).map λ p=>(iq p.1,V.nat p.2)) (iq m)=(l.idxOf? m).map λ i=>V.nat (i+n):=λ l=>by
  induction l with
  |nil=>intro n;rfl
  |cons q l b=>
   intro n;have b:=b (n+1);simp only[DO,be,fG];unfold ez at*;dsimp only[cU];by_cases e:q=m
   ·rw[show gz (iq (q,n).1) (iq m)=aj by simp only[f2];exact congrArg iq e,if_pos (by rw[beq_iff_eq];exact e)];show ah (V.nat n)=ah (V.nat (0+n));rw[cO]
   ·rw[ip (λ h=>e (nJ h)),if_neg (by rw[beq_iff_eq];exact e),b];cases l.idxOf? m with
    |none=>rfl
    |some i=>show ah (V.nat (i+(n+1)))=ah (V.nat (i+1+n));simp only[gb,fj 1 n]
 exact a l 0
theorem ER{l:List (List Tr)}{m:List Tr}(h:l.idxOf? m=ai):io (iq m) (.nat l.length) (qS l)=qS (l++[m]):=by simp only[BF];refine l_ ?_;rw[dq];intro p a;rw[h_]at h;refine ip λ e=>h ?_;have:p.1∈(qS l).map (·.1):=bp a;rw[vE]at this;refine b4 (aC.mp this) λ q b c=>?_;rw[<-c]at e;exact nJ e▸b
theorem Bq(l:List Tr):∀x∈l.map iI,Sh 3 x:=λ x b=>by refine b4 (aC.mp b) λ t Z a=>?_;subst a;exact .XX _ _ _
theorem Bi{a b:List Tr}(h:a.Perm b)(d:du (a.map iI))(c:du (b.map iI)):a=b:=nJ (by unfold iq;exact congrArg _ (du.uniq (k:=3) (h.map _) (Bq a) d c))
theorem xd{l:List (Nat×eZ)}(hi:i<l.length):(eE ks l).2[i]? =ah ((l.getD i (0,[])).1,(jZ (l.getD i (0,[])).1 (l.getD i (0,[])).2 (eE ks (l.take i)).1).2):=by
 have d:∀(l:List (Nat×eZ)) (a:List (eZ×Int)×List (Nat×Nat)),a.2<+:(l.foldl me a).2:=λ l=>by
  induction l with
  |nil=>intro a;exact d6 _
  |cons p l f=>intro a;exact (jQ _ _).trans (f (me a p))
 have hk:=gW (l.take i) (ks,[]);have c:(eE ks (l.take i)).2.length=i:=by have:=congrArg dv hk;simp at this;unfold eE;refine this.trans ?_;exact Kr hi
 have b:(eE ks (l.take (i+1))).2<+:(eE ks l).2:=by
  unfold eE
  conv=>rhs;rw[<-c7 (i+1) l,fh]
  exact d _ _
 refine ze b λ q e=>?_;rw[<-e,oK hi (0,[]),c0 (by show i<(dv (_++[_]));simp only[aF,c];simp)];show ((eE ks (l.take i)).2++[_])[i]? =_;refine (bG (by rw[c];exact aT _)).trans ?_;rw[c,eO];rfl
theorem lY{n:Nat}(h:(dX g n).length<=n):∀m,n<=m->dX g m=dX g n:=λ m a=>by
 induction a with
 |refl=>rfl
 |step a b=>simp only[Ak,b,bl (aA h a)]
theorem cZ.lt{bx:List fy}(A:cZ g bx){n:Nat}(h:n<(dX g n).length):n<bx.length:=by have a:=A.len;refine eb λ b=>?_;simp only[lY (cq a) n b,a]at h;exact absurd ‹_<_› (bR.mpr ‹_›)
theorem cZ.eq{bx:List fy}(A:cZ g bx){n:Nat}(h:n=(dX g n).length):n=bx.length:=by
 have a:=A.len;rcases pQ bx.length n with q|q
 ·simp only[lY (cq a) n (bc q),a]at h;exact h
 ·rw[lY (cq h.symm) _ q,<-h]at a;exact a
theorem mZ(bx:List fy):∀(l:List Nat) (s:Int) (X:Nat),jD bx s (l++[X])=if jD bx s l<0 then -1 else wJ bx (jD bx s l).toNat X:=by
 intro l;induction l with
 |nil=>intro s X;show (if s<0 then -1 else jD bx (wJ bx s.toNat X) [])=_;rfl
 |cons x l a=>
  intro s X;dsimp only[dn];rw[qz,qz];by_cases h:s<0
  ·refine (if_pos h).trans ?_;rw[if_pos h,if_pos (by decide)]
  ·refine (if_neg h).trans ?_;rw[if_neg h,a]
theorem v7[BEq α][LawfulBEq α][BEq β][LawfulBEq β]{a:α}{b:β}:∀{l:List α} {m:List β},l.length=m.length->(∀(j:Nat) (x:α) (y:β),l[j]? =ah x->m[j]? =ah y->(x=a↔y=b))->l.idxOf? a=m.idxOf? b:=by
 intro l;induction l with
 |nil=>
  intro m h Z;cases m with
  |nil=>rfl
  |cons y m=>exact nomatch h
 |cons x l d=>
  intro m h k;cases m with
  |nil=>exact nomatch h
  |cons y m=>
   refine (fG).trans ?_;rw[fG,d (m:=m) (by simpa using h) λ j u v f c=>k (j+1) u v f c];have:=k 0 x y rfl rfl;by_cases e:x=a
   ·refine (if_pos (by rw[beq_iff_eq];exact e)).trans ?_;rw[if_pos (by rw[beq_iff_eq];exact this.mp e)]
   ·refine (if_neg (by rw[beq_iff_eq];exact e)).trans ?_;rw[if_neg (by rw[beq_iff_eq];exact λ h=>e (this.mpr h))]
structure uI(g:Gr)(R:List Pr)(st:List (Str×List Str))(em:List (Str×Bool))(Rk:List Tr->eZ->Prop):Prop where
 r0:Rk [(0,0,"")] [(0,0)]
 nd:∀{K k},Rk K k->K.Nodup/\K.length<64/\As g K/\gq g k
 inj:∀{K k K' k'},Rk K k->Rk K' k'->(K.Perm K'↔k=k')
 U:∀{K k},Rk K k->∃U:List Tr,(∀t,LC R st em K t->t∈U)/\U.length<=100000
 tok:∀{K k l},Rk K k->Uu R st em K l->As g l
 sym:∀n,∀x∈d5 R n,x∈g.names
 Vz:∀{K k l} {s:fy},Rk K k->Uu R st em K l->s.kernel=k->j0 g k s.items->s.Q5.Perm ((cP g [] s.items).map (·.1))->s.Q5.Pairwise (·<=·)->s.Q4=cP g [] s.items->IM g R s K l
 keys:∀{K k l},Rk K k->Uu R st em K l->∀X,X∈(Do g R l).map (·.1)↔X∈(fk g k).map (·.1)
 rows:∀{K k l},Rk K k->Uu R st em K l->∀p∈fk g k,∃r,(Do g R l).lookup p.1=ah r/\Rk r p.2
 err:∀{K k},Rk K k->1∉(fk g k).map (·.1)
structure Wk(bx:List fy)(Rk:List Tr->eZ->Prop)(ks:List (eZ×Int))(KL PL:List (List Tr))(RD:List (List Nat)):Prop where
 kl:KL.length=ks.length
 pl:PL.length=ks.length
 rl:RD.length=ks.length
 rk:∀j<ks.length,Rk (KL.getD j []) (ks.getD j ([],0)).1
 ps:∀j<ks.length,(PL.getD j []).Perm (KL.getD j [])/\du ((PL.getD j []).map iI)
 rd:∀j<ks.length,jD bx 0 (RD.getD j [])=(j:Int)/\(RD.getD j []).length<=j/\(0<j->∃r X,RD.getD j []=r++[X]/\(ks.getD j ([],0)).2=((X:Nat):Int))
theorem vj{x d:α}:(l++[x]).getD j d=if j<l.length then l.getD j d else if j=l.length then x else d:=by
 by_cases h:j<l.length
 ·rw[if_pos h,e4 (by simp only[aF];exact cA ‹_›),e4 h,g3]
 ·rw[if_neg h];by_cases e:j=l.length
  ·subst e;rw[e4 (by simp),uO (aT _)];simp
  ·rw[if_neg e,aD,bl (by simp;exact Kq h e)];rfl
section
variable{st:List (Str×List Str)}{em:List (Str×Bool)}{bx:List fy}{KL PL:List (List Tr)}{RD:List (List Nat)}
theorem Wk.same(H:uI g R st em Rk)(W:Wk bx Rk ks KL PL RD){rows m:List Tr}{k:eZ}(d:Rk rows k)(f:m.Perm rows)(i:du (m.map iI)):PL.idxOf? m=(ks.map (·.1)).idxOf? k:=
 v7 (by simp only[au];exact W.pl) λ j x y l a=>by
  have b:j<ks.length:=by rw[aN]at a;cases e:ks[j]? with|none=>rw[e]at a;cases a|some q=>exact (bh.mp e).1
  have h:x=PL.getD j []:=by simp only[aD,l];rfl
  have n:y=(ks.getD j ([],0)).1:=by rw[aN,ay b]at a;cases a;simp only[e4 b]
  have c:=W.ps j b;have rk:=W.rk j b;rw[h,n];refine ⟨λ e=>(H.inj rk d).mp (c.1.symm.trans (e▸f)),λ e=>Bi (c.1.trans (((H.inj rk d).mpr e).trans f.symm)) c.2 i⟩
theorem Wk.nodup(H:uI g R st em Rk)(W:Wk bx Rk ks KL PL RD)(hk:(ks.map (·.1)).Nodup):PL.Nodup:=by
 simp only[aO,j8];intro i j hi c d e;have b:i<ks.length:=by rw[<-W.pl];exact hi
 have a:j<ks.length:=by rw[<-W.pl];exact c
 have p1:=(W.ps i b).1;have p2:=(W.ps j a).1;rw[e4 hi]at p1;rw[e4 c,<-e]at p2;have:=(H.inj (W.rk i b) (W.rk j a)).mp (p1.symm.trans p2);rw[e4 b,e4 a]at this;have q:=(List.getElem_inj (i:=i) (j:=j) (h₀:=by rw[au];exact b) (h₁:=by simp only[au];exact a) hk).mp (by simp only[bU,bU];exact this);exact absurd ‹_› (ch ‹_›)
theorem Wk.add(W:Wk bx Rk ks KL PL RD){n X:Nat}{rows m:List Tr}{k:eZ}(d:Rk rows k)(b:m.Perm rows)(f:du (m.map iI))(h:n<ks.length)(g:wJ bx n X=(ks.length:Int)):
 Wk bx Rk (ks++[(k,(X:Int))]) (KL++[rows]) (PL++[m]) (RD++[RD.getD n []++[X]]):=by
 refine jw (W.rd n h) λ c i Z=>?_;refine ⟨by simp[W.kl],by simp[W.pl],by simp[W.rl],λ j a=>?_,λ j a=>?_,λ j a=>?_⟩
 all_goals
  simp only[aF,cJ]at a;simp only[vj,W.kl,W.pl,W.rl];by_cases e:j<ks.length
 ·simp only[if_pos e];exact W.rk j e
 ·have:j=ks.length:=BL a e;subst this;simp only[if_neg e,if_true];exact d
 ·simp only[if_pos e];exact W.ps j e
 ·have:j=ks.length:=BL a e;subst this;simp only[if_neg e,if_true];exact ⟨b,f⟩
 ·simp only[if_pos e];exact W.rd j e
 ·have:j=ks.length:=BL a e;subst this;simp only[if_neg e,if_true];refine ⟨?_,by simp only[aF,cJ];exact aQ ‹_› ‹_›,λ Z=>⟨_,_,rfl,rfl⟩⟩;rw[mZ,c,if_neg yn];dsimp only[gi];rw[g]
theorem Wk.init(H:uI g R st em Rk):Wk bx Rk (dX g 0) [[(0,0,"")]] [[(0,0,"")]] [[]]:=by
 refine ⟨rfl,rfl,rfl,λ j a=>?_,λ j a=>?_,λ j a=>?_⟩
 all_goals
  have:j=0:=Ko a;subst this
 ·exact H.r0
 ·refine ⟨.refl _,?_⟩;show List.Pairwise _ [_];exact wF ..
 ·exact ⟨rfl,aT _,λ h=>absurd h (bA _)⟩
end
structure wC(G:GC)(CG CR CS CA:aG):Prop where
 B:DL G CG CR CS CA
 P:NB G CG CR
 int:fx G "int" (.type "int")
 ord:Gl G "_law_orders" (.tup (q0.map .str))
 bits:Fn G "bits" "bits" (top 4) ["mask"] []
 Tf:Fn G "show_rule" "show_rule" (top 10) ["grammar","number","dot"] []
 Tg:Fn G "show_item" "show_item" (top 11) ["grammar","item"] []
 plain:Fn G "plain_grammar" "plain_grammar" (top 13) ["pairs","start"] [.none]
 build:Fn G "build_canonical" "build_canonical" (top 25) ["grammar","most"] [.nat 2000]
 SD:Fn G "masks_of" "masks_of" (top 26) ["canonical"] []
 RG:Fn G "show_canonical" "show_canonical" (top 27) ["canonical","number"] []
 pick:Fn G "_law_pick" "_law_pick" (top 30) ["row","at","most"] []
 pairs:Fn G "_law_pairs" "_law_pairs" (top 31) ["row"] []
 begin:Fn G "_law_begin" "_law_begin" (top 32) ["symbols","ahead","starts","empties"] []
 starts:Fn G "_law_starts" "_law_starts" (top 33) ["pairs"] []
 close:Fn G "_law_close" "_law_close" (top 34) ["kernel","rules","starts","empties"] []
 Q4:Fn G "_law_masks" "_law_masks" (top 35) ["triples","grammar"] []
 shown:Fn G "_law_shown" "_law_shown" (top 36) ["masks","rules","grammar"] []
 R2:Fn G "_law_is_state" "_law_is_state" (top 37) ["state","kernel","triples","rules","grammar"] []
 RO:Fn G "_law_allowed" "_law_allowed" (top 38) ["grammar","most"] []
 R_:Me G CA "state_count" "CanonicalAutomaton.state_count" (mem 21 1) ["self"] []
 goto:Me G CA "goto" "CanonicalAutomaton.goto" (mem 21 2) ["self","state","symbol"] []
 walk:Me G CA "walk" "CanonicalAutomaton.walk" (mem 21 3) ["self","state","symbols"] []
noncomputable def MW:Stmt:=sub (top 39) 12
noncomputable def kV(K:List Tr):V:=.list (K.map iI)
noncomputable def xg(r:List Nat):V:=.list (r.map .nat)
noncomputable def yT(s:fy):List ((Nat×Nat)×Nat):=s.Q4.map λ p=>((s.number,p.1),p.2)
noncomputable def oY(bx:List fy)(n:Nat):List ((Nat×Nat)×Nat):=(bx.take n).flatMap yT
structure Dz(g:Gr)(R:List Pr)(st:List (Str×List Str))(em:List (Str×Bool)):Prop where
 ok:Au R
 len:R.length=g.rules.length
 nd:(st.map (·.1)).Nodup
 ke:em.map (·.1)=st.map (·.1)
 b:∀p∈st,p.2.length<=30
 pos:0<g.owners.length
theorem v3{k:eZ}{l:List Nat}(h:l.Nodup)(m:∀X,X∈l↔X∈(fk g k).map (·.1))(a:ys.Perm (l.map V.nat))(c:du ys):ys=((fk g k).map (·.1)).map V.nat:=by
 have hi:((fk g k).map (·.1)).Pairwise (·<·):=by dsimp only[fk,RX];simp only[bs];show ((pN g (iP g k)).map λ X=>X).Pairwise _;rw[List.map_id'];exact (my g (iP g k))
 have b:l.Perm ((fk g k).map (·.1)):=(dQ h (aO.mpr (hi.imp ch))).mpr m;exact du.uniq (k:=0) (a.trans (b.map _)) (λ x d=>pZ _ x (a.mem_iff.mp d)) c (jG hi)
theorem uG(g:Gr)(k:eZ):((fk g k).map (·.1)).Pairwise (·<·):=by dsimp only[fk,RX];simp only[bs];show ((pN g (iP g k)).map λ X=>X).Pairwise _;rw[List.map_id'];exact (my g (iP g k))
noncomputable def qG:fy:=⟨0,[],0,[],[],[],[]⟩
theorem xB{bx:List fy}{n:Nat}(a:n<bx.length)(X:Nat):wJ bx n X=match (bx.getD n qG).moves.lookup X with|some m=>((m:Nat):Int)|none=> -1:=by
 dsimp only[wJ];rw[show (bx.map (·.moves)).getD n []=(bx.getD n qG).moves by rw[e4 (by simp only[au];exact a),bU,e4 a]]
 all_goals cases y2 X (bx.getD n qG).moves<;>rfl
theorem Dr{s:fy}(nd:(s.Q4.map (·.1)).Nodup)(h:s.Q5.Perm (s.Q4.map (·.1))):(fe s).Perm (yT s):=by skip;refine (h.map _).trans (List.Perm.of_eq ?_);skip;refine bs.trans ?_;refine bE λ p a=>?_;show ((s.number,p.1),(s.Q4.lookup p.1).getD 0)=_;rw[eL nd a];rfl
theorem yS{bx:List fy}(S:sA bx):(bx.flatMap fe).Perm (bx.flatMap yT):=by
 have:∀l:List fy,(∀s∈l,s∈bx)->(l.flatMap fe).Perm (l.flatMap yT):=λ l=>by
  induction l with
  |nil=>intro _;exact .refl _
  |cons s l b=>intro h;have a:=S.nd s (h s (.head _));rw[db];exact (Dr a.1 a.2.1).append (b λ t c=>h t (.tail _ c))
 exact this bx λ Z h=>h
theorem rQ{bx:List fy}(S:sA bx):((bx.flatMap yT).map (·.1)).Nodup:=(((yS S).map (·.1)).nodup_iff).mp (vP S)
theorem IG{bx:List fy}(S:sA bx)(n:Nat):(oY bx n).length<=120000:=by
 have:∀l:List fy,(∀s∈l,s∈bx)->(l.flatMap yT).length<=60*l.length:=λ l=>by
  induction l with
  |nil=>intro _;exact aT _
  |cons s l b=>intro h;have a:=S.nd s (h s (.head _));have e:=a.2.1.length_eq;simp only[au]at e;simp only[db,aF,bj];have d:(yT s).length=s.Q4.length:=au ..;rw[pO,fj];exact gx (b λ t c=>h t (.tail _ c)) (by rw[d,<-e];exact a.2.2)
 have h:=this (bx.take n) λ s a=>cE a;simp only[bb]at h;exact Km h S.len
theorem G8{bx:List fy}{n:Nat}(a:n<bx.length):oY bx (n+1)=oY bx n++yT (bx.getD n qG):=by unfold oY;simp only[dN (ay a),dS,<-e4 a qG];simp
theorem Ap{bx:List fy}(S:sA bx)(n:Nat):((oY bx n).map (·.1)).Nodup:=by
 refine (rQ S).sublist (g8 _ ?_);skip
 conv=>rhs;rw[<-c7 n bx,dS]
 exact uR _ _
theorem gq.le{k:eZ}(h:gq g k):k.length<=g.owners.length:=by
 have:=aU h.nd (l₂:=aZ g.owners.length) λ x c=>by refine b4 (aC.mp c) λ p b a=>?_;subst a;exact bN.mpr (h.it p b).1
 simp only[au,bf]at this;exact this
theorem A1{t:Sem Value}(r:V){Q:V->St->Prop}(h:∀a:V->St->Prop,a r Y->XV O Ex t a Y)(k:Q r Y):XV O Ex t Q Y:=h Q k
section
variable{f:aG}
theorem ES(l:List (List Tr)):(qS l).length=l.length:=by unfold qS;simp only[au,fX]
theorem H1{a:List Expr}{Q:Bool->St->Prop}(h:XB O Ex (eu (.BoolOp .Or a pos) O.env whole) Q Y):kN (Pu O Ex a pos whole Q) aj Y:=by dsimp only[kN,Pu];exact fS rfl h
theorem G2(f:α->V){l:List α}{k:Nat}{d y:α}{Q:V->St->Prop}(e:l.getD k d=y)(hk:k<l.length)(hz:k<2^62)(h:Q (f y) Y):mP O Ex Q (.list (l.map f)) (.nat k) Y:=lU f d hk hz (e▸h)
theorem Iy{a:aG}{b:List (Nat×List Tr)}{X:Nat}(i:Nat){Q:V->St->Prop}(ok:O.Ok)(hi:Y.mu[i]? =ah (a,.dict (bV b)))(nd:(b.map (·.1)).Nodup)(h:Q (.list (((b.lookup X).getD []).map iI)) Y):cS O Ex (.builtin "dict.get") [.ref a,.nat X,.list []] Q Y:=
 yK ok (.led i hi) (oa X nd) (by rw[xP];cases e:b.lookup X<;>(rw[e]at h;exact h))
theorem Ch(L:wC G CG CR CS CA){g:Gr}{R:List Pr}{st:List (Str×List Str)}{em:List (Str×Bool)}{Rk:List Tr->eZ->Prop}{bx:List fy}(hg:c_ g)(H:uI g R st em Rk)(HR:Dz g R st em)(A:cZ g bx)(hz:pD bx)(S:sA bx)
 (I:f6 O G (d+5) (mJ (bF (top 39)))) (Oo:I6 O) (sv rv pv:V) (ro:Option V) (ak ap ar aa:aG) {Q:Option (Option V)->St->Prop}
 (fin:∀KL PL RD old o,Wk bx Rk (dX g bx.length) KL PL RD->Q ai ⟨[ah sv,ah rv,ah pv,ah (.list (R.map pV)),ah (.dict (vf st)),ah (.dict (jX em)),ov o 0,ah (g.v CG CR),ah (kJ CG CR CS CA g bx),ah (.ref ak),ah (.ref ap),ah (.ref ar),ah (.ref aa),ah (.nat bx.length),ov o 1,ov o 2,ov o 3,ov o 4,ov o 5,ov o 6,ov o 7,ov o 8,ov o 9,ai,ai,ai,ai,ai,ai,ai,ai,ai,ai,ai,ai,ai,ai,ai,ai,ai],
  (aa,.dict (pj (oY bx bx.length)))::(ar,.list (RD.map xg))::(ap,.dict (qS PL))::(ak,.list (KL.map kV))::old⟩):
 XF O Ex (gc MW O.env) Q ⟨[ah sv,ah rv,ah pv,ah (.list (R.map pV)),ah (.dict (vf st)),ah (.dict (jX em)),ro,ah (g.v CG CR),ah (kJ CG CR CS CA g bx),ah (.ref ak),ah (.ref ap),ah (.ref ar),ah (.ref aa),ah (.nat 0),ai,ai,ai,ai,ai,ai,ai,ai,ai,ai,ai,ai,ai,ai,ai,ai,ai,ai,ai,ai,ai,ai,ai,ai,ai,ai],
  (aa,.dict (pj (oY bx 0)))::(ar,.list (([[]]:List (List Nat)).map xg))::(ap,.dict (qS [[(0,0,"")]]))::(ak,.list (([[(0,0,"")]]:List (List Tr)).map kV))::J⟩:=by
 let gv:V:=g.v CG CR
 let av:V:=kJ CG CR CS CA g bx
 let Rv:V:=.list (R.map pV)
 let sV:V:=.dict (vf st)
 let eV:V:=.dict (jX em)
 let S0:(Nat×(List (List Tr)×List (List Tr)×List (List Nat))×Mu)×List (Option V)->St:=λ a=>⟨[ah sv,ah rv,ah pv,ah Rv,ah sV,ah eV,ov a.2 0,ah gv,ah av,ah (.ref ak),ah (.ref ap),ah (.ref ar),ah (.ref aa),ah (.nat a.1.1),ov a.2 1,ov a.2 2,ov a.2 3,ov a.2 4,ov a.2 5,ov a.2 6,ov a.2 7,ov a.2 8,ov a.2 9,ai,ai,ai,ai,ai,ai,ai,ai,ai,ai,ai,ai,ai,ai,ai,ai,ai],
  (aa,.dict (pj (oY bx a.1.1)))::(ar,.list (a.1.2.1.2.2.map xg))::(ap,.dict (qS a.1.2.1.2.1))::(ak,.list (a.1.2.1.1.map kV))::a.1.2.2⟩
 let Z0:Nat->(Nat×(List (List Tr)×List (List Tr)×List (List Nat))×Mu)×List (Option V)->Prop:=λ m a=>m=bx.length-a.1.1/\a.1.1<=(dX g a.1.1).length/\Wk bx Rk (dX g a.1.1) a.1.2.1.1 a.1.2.1.2.1 a.1.2.1.2.2
 have Ws:=S.len;have C:Cmn G CG CR:=L.B.toCmn;refine tE S0 Z0 (bx.length-0) ((0,([[(0,0,"")]],[[(0,0,"")]],[[]]),J),[ro]) rfl ⟨rfl,bg _,Wk.init H⟩ λ m a z=>?_;obtain ⟨⟨n,⟨KL,PL,RD⟩,old⟩,o⟩:=a;refine jw z λ Si Xn W=>?_;subst Si;have W:Wk bx Rk (dX g n) KL PL RD:=W;have Uk:=W.kl;have TK:∀n,(dX g n).length<=bx.length:=λ n=>by
  rcases pQ n bx.length with h|h
  ·conv=>rhs;rw[<-A.len]
   exact (iQ g (bc h)).length_le
  ·rw[lY (cq A.len) n h,A.len];exact aT _
 refine tq<|nc I 13 rfl<|cb I 30 C.len<|a1<|nl I 9 rfl<|uD 3 rfl (show KL.length<2^62 from Gq Uk (TK n) Ws)<|tY ⟨_,rfl,?_⟩;by_cases Vl:n<KL.length;rotate_left
 ·have e:n=(dX g n).length:=Kl Xn Uk Vl;have e2:=A.eq e;subst e2;exact fS (decide_eq_false Vl) (fin KL PL RD old o W)
 have hn:n<(dX g n).length:=GL Vl Uk;have F:n<bx.length:=A.lt hn;have Vp:n<2^62:=ym F Ws;refine ze (show ∃s,bx.getD n qG=s from ⟨_,rfl⟩) λ s Vk=>?_;have Xi:bx[n]? =ah s:=by rw[ay F,<-e4 F qG,Vk]
 refine NW (A.st n s Xi) λ a1 a2 a3 a4 a5 a6 a7=>?_;rw[(nP (iQ g (bc F)) hn _)]at a2;have Yi:((dX g n).getD n ([],0)).1=s.kernel:=(congrArg jP a2).symm;have Yh:((dX g n).getD n ([],0)).2=s.symbol:=(congrArg Prod.snd a2).symm;refine ze (show ∃K,KL.getD n []=K from ⟨_,rfl⟩) λ K hK=>?_;have rk:Rk K s.kernel:=by rw[<-hK,<-Yi];exact W.rk n hn
 refine wR (H.nd rk) λ XH Wt YA VI=>?_;refine b4 (H.U rk) λ U hU VU=>?_;refine za (xO g hn) λ U8 Um=>?_;rw[Yi]at U8 Um;refine jw (W.rd n hn) λ Wb Vf XY=>?_;have Yz:n<RD.length:=by rw[W.rl];exact hn
 refine ze (show ∃rd,RD.getD n []=rd from ⟨_,rfl⟩) λ rd Wh=>?_;rw[Wh]at Wb Vf XY;refine iz (decide_eq_true Vl) ?_;refine aB<|eW<|tq<|nc I 13 rfl<|cb I 30 C.len<|Mine.a1<|fa I<|nc I 8 rfl ⟨CA,mK CG CR CS g bx,.list (bx.map (fy.v CS)),rfl,L.B.A.a _ (by decide+kernel),by kernel_rfl,mw (show bx.length<2^62 from aQ ‹_› (by decide))<|MS ⟨_,rfl,fS (decide_eq_false (o5.mpr F))<|bm ?_⟩⟩;refine aB<|DH I Oo 14<|sb<|fa I<|nc I 8 rfl ⟨CA,mK CG CR CS g bx,.list (bx.map (fy.v CS)),rfl,L.B.A.a _ (by decide+kernel),by kernel_rfl,nc I 13 rfl<|G2 (fy.v CS) Vk F Vp ?_⟩;refine aB<|sl I 15<|cg I 31 L.close<|an<|sb<|nl I 9 rfl<|nc I 13 rfl<|ry kV 3 hK rfl Vl Vp<|an<|nl I 3 rfl<|an<|nl I 4 rfl<|Mine.a1<|nl I 5 rfl<|sp I _ (vu (d:=d) (J:=[]) C L.begin L.close R st em K U HR.ok.len HR.ok.right HR.nd HR.ke HR.b XH Wt (λ t ht=>by rw[HR.len];exact YA.rule t ht) hU VU) s6 rfl λ v J' zf=>za zf λ zg e2=>b4 zg λ l e Cl=>?_;subst e;subst e2;have hT:=H.tok rk Cl;refine aB<|eW<|m5<|tq<|sa I L.B.A s (.nat s.number)<|nc I 14 rfl ⟨rfl,nc I 13 rfl<|EZ ⟨_,rfl,fS (by rw[a1];exact bne_self_eq_false n) ?_⟩⟩;refine m5<|sL<|tv<|cg I 32 L.R2<|an<|nc I 14 rfl<|an<|sb<|nl I 9 rfl<|nc I 13 rfl<|ry kV 3 hK rfl Vl Vp<|an<|nl I 15 rfl<|an<|nl I 3 rfl<|Mine.a1<|nl I 7 rfl<|iu I (w7 (d:=d) (J:=[]) C L.B.A L.Q4 L.R2 g hg R HR.ok HR.len s K l YA hT (H.Vz rk Cl rfl a3 a5 a6 a7) (aQ VI.le hg.own)) BK<|jl<|H1<|jm<|fS rfl<|bm ?_;refine aB<|eW<|m5<|tq<|sa I L.B.A s (.int s.symbol)<|nc I 14 rfl ⟨rfl,A1 (.int s.symbol) (λ Q' q=>l9<|tq<|nc I 13 rfl<|xn 0<|BX ⟨_,rfl,?_⟩) ?_⟩
 ·by_cases h0:0<n
  ·refine g_ (XY h0) λ r X e1 e2=>?_;rw[Yh]at e2;refine iz (decide_eq_true (show (0:Int)<(n:Int)from cV.mpr ‹_›))<|sb<|sb<|nl I 11 rfl<|nc I 13 rfl<|ry xg 1 (Wh.trans e1) rfl Yz Vp<|il<|dJ<|kw ⟨⟨_,.list .frozen⟩,xC (xs:=r.map .nat) (r:=.nat X) ?_ ?_ ?_⟩
   ·rw[show r.map V.nat++[V.nat X]=(r++[X]).map .nat by simp];exact .frozen
   ·rw[au];rw[e1,aF]at Vf;exact Kj Vf F Ws
   ·rw[show V.nat X=V.int s.symbol by rw[e2]];exact q
  ·have h0:n=0:=Ki h0;refine fS (decide_eq_false (show ¬(0:Int)<(n:Int)from Kh h0))<|il<|dJ<|kw ?_;rw[show (-1:Int)=s.symbol by rw[<-Yh,h0];rfl];exact q
 refine vI ⟨_,rfl,fS (bne_self_eq_false _) ?_⟩;refine m5<|tq<|mc I L.walk<|nc I 8 rfl ⟨mK CG CR CS g bx,.frozen,by kernel_rfl,an<|dJ<|Mine.a1<|sb<|nl I 11 rfl<|nc I 13 rfl<|ry xg 1 Wh rfl Yz Vp<|iu I (Bt (d:=d) (J:=[]) L.B.A L.walk.y L.goto g bx hz 0 (Kg F) rd) s6<|nc I 13 rfl<|vI ⟨_,rfl,fS (by rw[Wb];exact bne_self_eq_false _)<|jm<|fS rfl<|bm ?_⟩⟩;have Ui:=(S.nd s (aX Xi)).1;have Zk:∀i,oY bx n++(yT s).take i=oY bx n++(s.Q4.take i).map λ p=>((s.number,p.1),p.2):=λ i=>by unfold yT;rw[g1]
 let S1:List ((Nat×Nat)×Nat)×List (Option V)->St:=λ a=>⟨[ah sv,ah rv,ah pv,ah Rv,ah sV,ah eV,ov o 0,ah gv,ah av,ah (.ref ak),ah (.ref ap),ah (.ref ar),ah (.ref aa),ah (.nat n),ah (s.v CS),ah (.list (l.map iI)),ov a.2 0,ov o 4,ov o 5,ov o 6,ov o 7,ov o 8,ov o 9,ai,ai,ai,ai,ai,ai,ai,ai,ai,ai,ai,ai,ai,ai,ai,ai,ai],
  (aa,.dict (pj a.1))::(ar,.list (RD.map xg))::(ap,.dict (qS PL))::(ak,.list (KL.map kV))::old⟩
 refine aB<|iH S1 (λ i a=>a.1=oY bx n++(s.Q4.take i).map λ p=>((n,p.1),p.2))<|sa I L.B.A s (.dict (dV s.Q4))<|nc I 14 rfl ⟨rfl,_,_,_,A7 I.ok.hand Ui,(oY bx n,[_]),rfl,(cL _).symm,λ Z Z Z Z=>trivial,λ i a hi z=>?_,λ a z=>?_⟩
 ·obtain ⟨al,o1⟩:=a;have z:al=oY bx n++(s.Q4.take i).map λ p=>((n,p.1),p.2):=z;have P:=gY Ui hi;have ht:oY bx n++(s.Q4.take (i+1)).map (λ p=>((n,p.1),p.2))=al++[((n,(s.Q4.getD i (0,0)).1),(s.Q4.getD i (0,0)).2)]:=by rw[dN (ay hi),<-e4 hi (0,0),aK,<-bY,<-z];rfl
  have B:oY bx n++s.Q4.map (λ p=>((n,p.1),p.2))=oY bx (n+1):=by rw[G8 F,Vk];unfold yT;rw[a1]
  have Th:((al++[((n,(s.Q4.getD i (0,0)).1),(s.Q4.getD i (0,0)).2)]).map (·.1)).Nodup:=by rw[<-ht];refine (Ap S (n+1)).sublist (g8 _ ?_);rw[<-B];exact pF (g8 _ (ff _ _)) _
  have Uj:al.length<=2^20:=by have h2:=congrArg dv B;have h3:=congrArg dv z;simp only[aF,au,bb]at h2 h3;exact Kf h3 h2 (IG S (n+1))
  show XA _ _ _ _ (qe _ _ _ (oo _ (At S1 (λ a=>a.1=oY bx n++(s.Q4.take (i+1)).map λ p=>((n,p.1),p.2))))) _;rw[ht];clear ht B z;generalize s.Q4.getD i (0,0)=p at P Th ⊢;obtain ⟨q,m⟩:=p;rw[aK,aV]at Th;have hq:(n,q)∉al.map (·.1):=λ h=>Th.2.2 _ h _ (.head _) rfl;exact Mine.al I 16<|aB<|ss<|sb<|sa I L.B.A s (.dict (dV s.Q4))<|nc I 14 rfl ⟨rfl,nl I 16 rfl<|ug I.ok Ui P<|nl I 12 rfl<|t2<|nc I 13 rfl<|nl I 16 rfl<|Bw (k:=(n,q)) 0 I.ok rfl Th.1 Uj (by rw[vQ hq];rfl)<|bm ⟨(al++[((n,q),m)],[_]),rfl,rfl⟩⟩
 obtain ⟨al,o1⟩:=a;have z:al=oY bx n++(s.Q4.take s.Q4.length).map λ p=>((n,p.1),p.2):=z;have VT:al=oY bx (n+1):=by rw[G8 F,Vk,z,a0];unfold yT;rw[a1]
 subst VT;clear z Zk;have hlen:l.length<=100000:=hT.len;have U4:∀i,(((l.take i).foldl (fP g R) []).map (·.1)).Nodup/\((l.take i).foldl (fP g R) []).length<=100000/\∀p∈(l.take i).foldl (fP g R) [],p.2.length<=100000:=λ i=>by refine za (Am (g:=g) (R:=R) (l.take i) [] 0 (aT _) (λ p hp=>(nomatch hp))) λ b1 b2=>?_;rw[bb]at b1 b2;exact ⟨wt _ _ bK,Ge b1 hlen,λ p hp=>by have:=b2 p hp;exact Ge this hlen⟩
 let S2:aG->List (Nat×List Tr)×List (Option V)->St:=λ ab a=>⟨[ah sv,ah rv,ah pv,ah Rv,ah sV,ah eV,ov a.2 0,ah gv,ah av,ah (.ref ak),ah (.ref ap),ah (.ref ar),ah (.ref aa),ah (.nat n),ah (s.v CS),ah (.list (l.map iI)),ov a.2 1,ah (.ref ab),ov a.2 2,ov a.2 3,ov a.2 4,ov o 8,ov o 9,ai,ai,ai,ai,ai,ai,ai,ai,ai,ai,ai,ai,ai,ai,ai,ai,ai],
  (ab,.dict (bV a.1))::(aa,.dict (pj (oY bx (n+1))))::(ar,.list (RD.map xg))::(ap,.dict (qS PL))::(ak,.list (KL.map kV))::old⟩
 refine aB<|sl I 17<|hH I.ok λ ab=>?_;refine aB<|iH (S2 ab) (λ i a=>a.1=(l.take i).foldl (fP g R) [])<|nl I 15 rfl ⟨_,_,_,lA iI l (0,0,"") I.ok.hand,([],[_,_,_,_,_]),rfl,rfl,λ Z Z Z Z=>trivial,λ i a hi z=>?_,λ a z=>?_⟩
 ·obtain ⟨b,o2⟩:=a;have z:b=(l.take i).foldl (fP g R) []:=z;refine jw (U4 i) λ SQ Vn Yw=>?_;rw[<-z]at SQ Vn Yw;have ht:(l.take (i+1)).foldl (fP g R) []=fP g R b (l.getD i (0,0,"")):=by rw[z];exact fH _ _ hi (0,0,"")
  have hr:=hT.rule _ (bd hi (0,0,""));show XA _ _ _ _ (qe _ _ _ (oo _ (At (S2 ab) (λ a=>a.1=(l.take (i+1)).foldl (fP g R) [])))) _;rw[ht];clear ht z;generalize l.getD i (0,0,"")=t at hr ⊢;obtain ⟨q,k,x⟩:=t;have hr:q<R.length:=by rw[HR.len];exact hr
  have X_:=(p9 HR.ok q).1;have XE:=HR.ok.len;refine NR I<|Mine.al I 16<|Mine.al I 18<|Mine.al I 19<|aB<|sl I 6<|sb<|sb<|nl I 3 rfl<|nl I 16 rfl<|lU pV ("",[]) hr (aH hr (aA XE (by decide)))<|xn 1 ⟨⟨_,.tup⟩,pq (k:=1) rfl (by decide) ?_⟩;refine aB<|eW<|tq<|nl I 18 rfl<|cb I 30 C.len<|Mine.a1<|nl I 6 rfl<|mw (l:=d5 R q) (aQ X_ (by decide))<|tY ⟨_,rfl,?_⟩;by_cases hk:k<(d5 R q).length;rotate_left
  ·have e:fP g R b (q,k,x)=b:=if_neg hk;exact fS (decide_eq_false hk)<|bm<|bm ⟨(b,[_,_,_,_,_]),rfl,e.symm⟩
  ·have hX:=H.sym q _ (bd hk "");have VD:=vq (d:=d) (J:=[]) C.F C.number.y g ((d5 R q).getD k "") hg.toSmall;rw[B1 hX]at VD;have e:fP g R b (q,k,x)=pM (ix g ((d5 R q).getD k "")) ((b.lookup (ix g ((d5 R q).getD k ""))).getD []++[(q,k+1,x)]) b:=if_pos hk;have Uh:((b.lookup (ix g ((d5 R q).getD k ""))).getD []).length<=100000:=by
    cases e:b.lookup (ix g ((d5 R q).getD k ""))with
    |none=>exact bg _
    |some r=>refine g_ (bM.mp e) λ u v e' Z=>?_;exact Yw (_,r) (by rw[e'];exact ax _ (.head _))
   refine iz (decide_eq_true hk)<|aB<|sl I 20<|gm I C.number g<|nl I 7 rfl<|og<|Mine.a1<|sb<|nl I 6 rfl<|nl I 18 rfl<|lU V.str "" hk (aH hk (aA X_ (by decide)))<|iu I VD qW ?_;generalize ix g ((d5 R q).getD k "")=X at Uh e ⊢;exact aB<|ss<|bw<|mb I PySem.F.plainAttrs_dict PySem.F.slot_dict_get PySem.F.type_dict_get<|nl I 17 rfl ⟨.dict (.led 0 rfl),an<|nl I 20 rfl<|Mine.a1<|f1 (cx ⟨bg _,Iy (X:=X) 0 I.ok rfl SQ<|l1<|t3<|nl I 16 rfl<|bw<|nl I 18 rfl<|xn 1<|fM<|nl I 19 rfl<|zD (f:=iI) (l':=[(q,k+1,x)]) I.ok (aA (Ax Uh 1) (by decide))<|nl I 17 rfl<|nl I 20 rfl<|i_ 0 I.ok rfl (oa X SQ) (by unfold bV;rw[au];exact aA Vn (by decide)) (by rw[IE];rfl)<|bm<|bm ⟨(_,[_,_,_,_,_]),rfl,e.symm⟩⟩)⟩
 obtain ⟨b,o2⟩:=a;have z:b=(l.take l.length).foldl (fP g R) []:=z;rw[a0]at z;refine jw (U4 l.length) λ SQ Z Z=>?_;rw[a0,<-z]at SQ;have z:b=Do g R l:=z;clear U4;have Xq:s∈bx:=aX Xi;have TJ:=hz.keys s Xq;have SS:=H.keys rk Cl;rw[<-z]at SS;have Wf:=H.rows rk Cl;rw[<-z]at Wf;have Un:∀p∈fk g s.kernel,gq g p.2/\p.1<g.names.length:=λ p hp=>oZ hg VI hp;have VQ:(bV b).length<64:=by
  have:=aU SQ (l₂:=aZ g.names.length) λ x hx=>by refine b4 (aC.mp ((SS x).mp hx)) λ p hp Sw=>?_;subst Sw;exact bN.mpr (Un p hp).2
  rw[au,bf]at this;rw[show (bV b).length=b.length from au ..];exact HY this hg.Vg
 let S3:aG->((List (List Tr)×List (List Tr)×List (List Nat))×List (Nat×Nat))×List (Option V)->St:=λ am a=>⟨[ah sv,ah rv,ah pv,ah Rv,ah sV,ah eV,ov o2 0,ah gv,ah av,ah (.ref ak),ah (.ref ap),ah (.ref ar),ah (.ref aa),ah (.nat n),ah (s.v CS),ah (.list (l.map iI)),ov o2 1,ah (.ref ab),ov o2 2,ov o2 3,ov a.2 0,ah (.ref am),ov a.2 1,ai,ai,ai,ai,ai,ai,ai,ai,ai,ai,ai,ai,ai,ai,ai,ai,ai],
  (am,.list (a.1.2.map dp))::(ab,.dict (bV b))::(aa,.dict (pj (oY bx (n+1))))::(ar,.list (a.1.1.2.2.map xg))::(ap,.dict (qS a.1.1.2.1))::(ak,.list (a.1.1.1.map kV))::old⟩
 let rA:Nat->List (eZ×Int)×List (Nat×Nat):=λ i=>eE (dX g n) ((fk g s.kernel).take i)
 let V6:Nat->((List (List Tr)×List (List Tr)×List (List Nat))×List (Nat×Nat))×List (Option V)->Prop:=λ i a=>Wk bx Rk (rA i).1 a.1.1.1 a.1.1.2.1 a.1.1.2.2/\a.1.2=(rA i).2/\a.1.1.2.2.getD n []=rd
 have TH:∀i,(rA i).1.length<=2000/\n<(rA i).1.length:=λ i=>by have h2:=TK (n+1);rw[U8]at h2;exact ⟨aA ((sS (ks:=dX g n) (l:=fk g s.kernel) i).length_le) (aA h2 Ws),Ke hn ((nN ((fk g s.kernel).take i) (dX g n,[])).length_le)⟩
 have VH:∀i,nr g (rA i).1:=λ i=>nr.run _ _ (rO hg HR.pos n) λ p hp=>(Un p (cE hp)).1;refine aB<|sl I 21<|ey I.ok<|cx ⟨bg _,λ am=>?_⟩;refine aB<|iH (S3 am) V6<|cb I 33 C.sorted<|Mine.a1<|nl I 17 rfl<|kG I.ok (.led 1 rfl) VQ (G7 _) (wo SQ) λ ys hp hs=>.F ?_;rw[yP]at hp;have Y4:=v3 SQ SS hp hs;subst Y4;clear hp hs;refine ⟨_,_,_,lA V.nat ((fk g s.kernel).map (·.1)) 0 I.ok.hand,(((KL,PL,RD),[]),[_,_]),rfl,⟨W,rfl,Wh⟩,λ Z Z Z Z=>trivial,λ i a hi z=>?_,λ a z=>?_⟩
 ·obtain ⟨⟨⟨M,w,E⟩,mv⟩,o3⟩:=a;refine jw z λ W' T4 N=>?_;have W':Wk bx Rk (rA i).1 M w E:=W';have T4:mv=(rA i).2:=T4;have N:E.getD n []=rd:=N;have hi:i<(fk g s.kernel).length:=by rw[au]at hi;exact hi
  have hX:((fk g s.kernel).map (·.1)).getD i 0=((fk g s.kernel).getD i (0,[])).1:=by rw[e4 (by rw[au];exact hi),bU,e4 hi]
  have UX:rA (i+1)=me (rA i) ((fk g s.kernel).getD i (0,[])):=oK hi (0,[]);have Vm:s.moves.lookup ((fk g s.kernel).getD i (0,[])).1=ah (jZ ((fk g s.kernel).getD i (0,[])).1 ((fk g s.kernel).getD i (0,[])).2 (rA i).1).2:=eL TJ (by rw[a4,Um];exact aX (xd hi));refine b4 (Wf _ (bd hi (0,[]))) λ rows P U0=>?_;show XA _ _ _ _ (qe _ _ _ (oo _ (At (S3 am) (λ a=>Wk bx Rk (rA (i+1)).1 a.1.1.1 a.1.1.2.1 a.1.1.2.2/\a.1.2=(rA (i+1)).2/\a.1.1.2.2.getD n []=rd)))) _;rw[hX,UX];have S6:=VH i;refine za (TH i) λ S5 Ti=>?_;have Xp:mv.length=i:=by have h1:=congrArg dv (gW ((fk g s.kernel).take i) (dX g n,[]));simp only[au,aF,bb,g7]at h1;rw[T4,(show (rA i).2.length=((fk g s.kernel).take i |>.foldl me (dX g n,[])).2.length from rfl)];exact Kc h1 hi
  have Zq:i<=2^20:=by
   have h1:((fk g s.kernel).map (·.1)).length<=g.names.length:=by
    have:=aU (aO.mpr ((uG g s.kernel).imp ch)) (l₂:=aZ g.names.length) λ x hx=>by refine b4 (aC.mp hx) λ p hp Sv=>?_;subst Sv;exact bN.mpr (Un p hp).2
    rw[bf]at this;exact this
   rw[au]at h1;exact Gy hi h1 hg.Vg
  clear hX UX Wf;generalize (fk g s.kernel).getD i (0,[])=p at P U0 Vm ⊢;obtain ⟨X,k'⟩:=p;have P:b.lookup X=ah rows:=P;have U0:Rk rows k':=U0;generalize rA i=rs at S6 S5 Ti T4 W' Vm ⊢;obtain ⟨ks,ms⟩:=rs;subst T4;have W':Wk bx Rk ks M w E:=W';have S5:ks.length<=2000:=S5;have Ti:n<ks.length:=Ti;have S6:nr g ks:=S6;have VL:wJ bx n X=(((jZ X k' ks).2:Nat):Int):=by rw[xB F,Vk,(show s.moves.lookup X=ah (jZ X k' ks).2 from Vm)]
  have VV:=W'.nodup H S6.2;refine wR (H.nd U0) λ hRn XD Z Z=>?_;have T:=W'.pl;have UZ:=W'.rl;refine Mine.al I 20<|aB<|sl I 22<|cb I 34 C.tup<|Mine.a1<|cb I 33 C.sorted<|Mine.a1<|sb<|nl I 17 rfl<|nl I 20 rfl ⟨⟨_,.dict (.led 1 rfl)⟩,jp I.ok (.led 1 rfl) (oa X SQ) (by rw[xP,P];rfl)<|kF (k:=3) I.ok .frozen (by rw[au];exact XD) (Bq rows) λ ys hp hs=>.F<|rL .frozen (by rw[hp.length_eq,au];exact bc (aH ‹_› (by decide))) ?_⟩;refine b4 (nQ hp rfl) λ m hm SN=>?_;subst SN;have U6:=W'.same H U0 hm hs;let S4:(List (List Tr)×List (List Tr)×List (List Nat))->St:=λ a=>S3 am ((a,mv),[ah (.nat X),ah (iq m)])
  refine wS (At S4 λ a=>Wk bx Rk (jZ X k' ks).1 a.1 a.2.1 a.2.2/\a.2.1.Nodup/\a.2.1.idxOf? m=ah (jZ X k' ks).2/\a.2.2.getD n []=rd/\a.2.1.length<=2^20) (eW<|tq<|nl I 22 rfl<|nl I 10 rfl<|xm (k:=iq m) I.ok (.led 4 rfl) (oN VV m) ⟨_,rfl,?_⟩) λ Y Xd=>?_
  ·rw[yl];cases e:w.idxOf? m with
   |some j=>
    refine fS rfl<|bm ⟨(M,w,E),rfl,?_,VV,?_,N,(show w.length<=2^20 from BJ T S5)⟩
    ·rw[iA (U6.symm.trans e)];exact W'
    ·rw[iA (U6.symm.trans e)];exact e
   |none=>
    have e1:=U6.symm.trans e;rw[fU e1]at VL;have W2:=W'.add U0 hm hs Ti VL;have Xs:M.length=w.length:=Kb W'.kl T;refine iz rfl<|aB<|ss<|cb I 30 C.len<|Mine.a1<|nl I 9 rfl<|rM 5 Xs rfl (show M.length<2^62 from Ka Xs T S5)<|nl I 10 rfl<|nl I 22 rfl<|i_ (k:=iq m) 4 I.ok rfl (oN VV m) (show (qS w).length<=2^20 by rw[ES];exact BJ T S5) (by rw[ER e]) ?_;refine aB<|xe I<|ge I<|nl I 9 rfl ⟨ak,_,5,rfl,rfl,sb<|nl I 17 rfl<|nl I 20 rfl ⟨⟨_,.dict (.led 1 rfl)⟩,jp I.ok (.led 1 rfl) (oa X SQ) (by rw[xP,P];rfl)<|uF (List Tr) (f:=kV) (x:=rows) 5 rfl (show M.length<=2^20 from J_ Xs T S5) rfl ?_⟩⟩;refine aB<|xe I<|ge I<|nl I 11 rfl ⟨ar,_,3,rfl,rfl,bw<|sb<|nl I 11 rfl<|nc I 13 rfl<|ry xg 3 N rfl (show n<E.length from qY Ti UZ) Vp<|l1<|nl I 20 rfl<|zD (f:=V.nat) (l':=[X]) I.ok (show rd.length+1<=2^20 from J9 Vf Ti S5)<|uF (List Nat) (f:=xg) (x:=rd++[X]) 3 rfl (show E.length<=2^20 from BJ UZ S5) rfl<|bm ⟨(M++[rows],w++[m],E++[rd++[X]]),rfl,?_,?_,?_,?_,?_⟩⟩
    ·rw[fU e1];rw[N]at W2;exact W2
    ·have:=W2.nodup H (by have:=(S6.add (X:=X) (k:=k') (H.nd U0).2.2.2).2;rw[fU e1]at this;exact this);exact this
    ·rw[fU e1];have:(w++[m]).idxOf? m=ah w.length:=by
      have key:∀(l:List (List Tr)),l.idxOf? m=ai->(l++[m]).idxOf? m=ah l.length:=λ l=>by
       induction l with
       |nil=>intro _;show List.idxOf? m [m]=_;rw[fG,if_pos (by rw[beq_iff_eq])];rfl
       |cons y l ih=>
        intro h;rw[fG]at h;rw[dn,fG];by_cases q:(y==m)=aj
        ·rw[if_pos q]at h;cases h
        ·rw[if_neg q]at h ⊢;rw[ih (by simpa using h)];rfl
      exact key _ e
     rw[this,T]
    ·show (E++[rd++[X]]).getD n []=rd;rw[vj,if_pos (qY Ti UZ)];exact N
    ·show (w++[m]).length<=_;rw[aF,cJ];exact J8 T S5
  ·obtain ⟨⟨ZZ,ZY,ZX⟩,rfl,W2,ZJ,hj,Xk,Zg⟩:=Xd;exact aB<|xe I<|ge I<|nl I 21 rfl ⟨am,_,0,rfl,rfl,t2<|nl I 20 rfl<|sb<|nl I 10 rfl<|nl I 22 rfl ⟨⟨_,.dict (.led 4 rfl)⟩,jp (k:=iq m) I.ok (.led 4 rfl) (oN ZJ m) (by rw[yl,hj];rfl)<|uF (Nat×Nat) (f:=dp) (x:=(X,(jZ X k' ks).2)) 0 rfl (show mv.length<=2^20 from J7 Xp Zq) rfl<|bm ⟨(((ZZ,ZY,ZX),mv++[(X,(jZ X k' ks).2)]),[_,_]),rfl,W2,rfl,Xk⟩⟩⟩
 obtain ⟨⟨⟨M,w,E⟩,mv⟩,o3⟩:=a;refine jw z λ W' T4 N=>?_;have B:rA ((fk g s.kernel).map (·.1)).length=eE (dX g n) (fk g s.kernel):=by show eE _ (DP _ _)=_;rw[au,a0]
 have W2:Wk bx Rk (rA ((fk g s.kernel).map (·.1)).length).1 M w E:=W';clear W';have T4:mv=(rA ((fk g s.kernel).map (·.1)).length).2:=T4;rw[B,<-U8]at W2;rw[B,<-Um,<-a4]at T4;subst T4;clear B N TH VH Wf SS Un;have Zs:∀i<s.moves.length,wJ bx n (s.moves.getD i (0,0)).1=(((s.moves.getD i (0,0)).2:Nat):Int):=λ i hi=>by rw[xB F,Vk,gY TJ hi]
 have U1:s.moves.length<=2000:=by
  have h1:((fk g s.kernel).map (·.1)).length<=g.names.length:=by
   have:=aU (aO.mpr ((uG g s.kernel).imp ch)) (l₂:=aZ g.names.length) λ x hx=>by refine b4 (aC.mp hx) λ p hp Tj=>?_;subst Tj;exact bN.mpr (oZ hg VI hp).2
   rw[bf]at this;exact this
  have h3:=congrArg dv (gW (fk g s.kernel) (dX g n,[]));rw[<-show (eE (dX g n) (fk g s.kernel)).2=((fk g s.kernel).foldl me (dX g n,[])).2 from rfl,<-Um,<-a4]at h3;simp only[au,aF,g7]at h3 h1;exact J6 h3 h1 hg.Vg
 let mu:Mu:=(am,.list (s.moves.map dp))::(ab,.dict (bV b))::(aa,.dict (pj (oY bx (n+1))))::(ar,.list (E.map xg))::(ap,.dict (qS w))::(ak,.list (M.map kV))::old
 refine aB<|eW<|tq<|lc I<|sa I L.B.A s (.dict (dV s.moves))<|nc I 14 rfl ⟨rfl,⟨_,_,_,A7 I.ok.hand TJ,aA U1 (by decide),(λ i c acc m=>∃o,c=[ai,o,ah (s.v CS)]/\acc=(s.moves.take i).map dp/\m=mu),⟨_,n7 I,rfl,rfl⟩,?_,?_,?_⟩⟩
 ·intro i c acc m hi UJ;refine ew UJ λ o Td Si Sw=>?_;subst Td;subst Si;subst Sw;exact ⟨by rw[au,bb];exact qV,λ Z=>trivial⟩
 ·intro O' C' i c acc m D hi UI;refine ew UI λ o Sv SN Tj=>?_;subst Sv;subst SN;subst Tj;have I':=C'.SE I;have P:=gY TJ hi;rw[dN (ay hi),<-e4 hi (0,0)];generalize s.moves.getD i (0,0)=p at P ⊢;refine Mine.al I' 1<|gs<|t2<|nl I' 1 rfl<|sb<|sa I' L.B.A s (.dict (dV s.moves))<|nc I' 2 rfl ⟨rfl,nl I' 1 rfl<|ug I'.ok TJ P ⟨[],rfl,_,rfl,?_,rfl⟩⟩;rw[aK];rfl
 intro c acc m Ua;refine ew Ua λ o' T8 T7 Uy=>?_;subst T8;subst T7;subst Uy;rw[a0];refine .F<|nl I 21 rfl<|BV I.ok .frozen (.led 0 rfl) (qa _) (qa _) ⟨_,rfl,fS (by rw[eK];rfl)<|bm ?_⟩;refine aB<|eW<|tq<|lc I<|nl I 21 rfl ⟨_,_,_,Hy dp s.moves (0,0) I.ok.hand (.head _),aA U1 (by decide),(λ i c acc m=>∃o1 o2,c=[ai,o1,o2,ah (.nat n),ah av]/\acc=((s.moves.take i).map (·.2)).map V.nat/\m=mu),⟨_,_,n7 I,rfl,rfl⟩,?_,?_,?_⟩
 ·intro i c acc m hi T_;refine fo T_ λ o1 o2 UG UE Tn=>?_;subst UG;subst UE;subst Tn;exact ⟨by rw[au,au,bb];exact qV,λ Z=>.tail _ (.head _)⟩
 ·intro O' C' i c acc m D hi T9;refine fo T9 λ o1 o2 UD UC UB=>?_;subst UD;subst UC;subst UB;have I':=C'.SE I;have Vm:=Zs i hi;rw[dN (ay hi),<-e4 hi (0,0)];generalize s.moves.getD i (0,0)=p at Vm ⊢;have X3:=w8 (d:=d) (J:=[]) L.B.A L.goto.y g bx hz n p.1 F (CG:=CG) (CR:=CR);rw[Vm]at X3;refine Ar I'<|Mine.al I' 1<|Mine.al I' 2<|gs<|mc I' L.goto<|nc I' 4 rfl ⟨mK CG CR CS g bx,.frozen,by kernel_rfl,an<|nc I' 3 rfl<|Mine.a1<|nl I' 1 rfl<|iu I' X3 qW ⟨[],rfl,_,_,rfl,?_,rfl⟩⟩;rw[aK,aK];rfl
 intro c acc m UH;refine fo UH λ o1 YS UA Uz WH=>?_;subst UA;subst Uz;subst WH;rw[a0];refine .F<|lc I<|nl I 21 rfl ⟨_,_,_,Hy dp s.moves (0,0) I.ok.hand (.head _),aA U1 (by decide),(λ i c acc m=>∃o1 o2,c=[ai,o1,o2]/\acc=((s.moves.take i).map (·.2)).map V.nat/\m=mu),⟨_,_,n7 I,rfl,rfl⟩,?_,?_,?_⟩
 ·intro i c acc m hi WK;refine fo WK λ o1 o2 WG WE WD=>?_;subst WG;subst WE;subst WD;exact ⟨by rw[au,au,bb];exact qV,λ Z=>.tail _ (.head _)⟩
 ·intro O' C' i c acc m D hi WJ;refine fo WJ λ o1 o2 WC WB WA=>?_;subst WC;subst WB;subst WA;have I':=C'.SE I;rw[dN (ay hi),<-e4 hi (0,0)];generalize s.moves.getD i (0,0)=p;refine Ar I'<|Mine.al I' 1<|Mine.al I' 2<|gs<|nl I' 2 rfl ⟨[],rfl,_,_,rfl,?_,rfl⟩;rw[aK,aK];rfl
 intro c acc m WI;refine fo WI λ o1 YS Wz Wy Wx=>?_;subst Wz;subst Wy;subst Wx;rw[a0];refine .F<|BV I.ok .frozen .frozen (m_ _) (m_ _) ⟨_,rfl,fS (by rw[eK];rfl)<|bm ?_⟩;refine X.perm (J':=(aa,.dict (pj (oY bx (n+1))))::(ar,.list (E.map xg))::(ap,.dict (qS w))::(ak,.list (M.map kV))::(am,.list (s.moves.map dp))::(ab,.dict (bV b))::old) (List.perm_append_comm_assoc [(aa,MO.dict (pj (oY bx (n+1)))),(ar,.list (E.map xg)),(ap,.dict (qS w)),(ak,.list (M.map kV))] [(am,.list (s.moves.map dp)),(ab,.dict (bV b))] old) ?_;exact aB<|DH I Oo 13<|bw<|nc I 13 rfl<|xn 1<|fM<|bm ⟨bx.length-(n+1),(show bx.length-(n+1)<bx.length-n from J5 F),((n+1,(M,w,E),_),[_,_,_,_,_,_,_,_,_,_]),rfl,rfl,(aA hn (iQ g (gw n)).length_le),W2⟩
end
theorem na:∀(l acc:List (Nat×Nat)),(acc.map (·.1)).Nodup->(∀x∈acc.map (·.1),x<g.rules.length)->(∀p∈l,p.1<g.owners.length)->((cP g acc l).map (·.1)).Nodup/\∀x∈(cP g acc l).map (·.1),x<g.rules.length:=by
 intro l;induction l with
 |nil=>intro acc h k Z;exact ⟨h,k⟩
 |cons p l d=>
  intro acc h k b;skip;refine d _ ?_ ?_ λ q c=>b q (.tail _ c)
  ·split
   ·exact gf h
   ·exact h
  ·split
   ·intro x a;rw[kD]at a;split at a
    ·exact k x a
    ·rcases aM.mp a with q|q
     ·exact k x q
     ·rw[aE.mp q];exact (g.item_at (b p (.head _))).1
   ·exact k
theorem nO(g:Gr):g.rules.length<=g.owners.length:=by
 have a:∀(l:List Ru) (b:Nat),l.length<=(gP b l).length:=λ l=>by
  induction l with
  |nil=>intro b;exact aT _
  |cons q l c=>intro b;simp only[i7,aF,bP,bj];have:=c (b+1);exact J4 this
 exact a g.rules 0
theorem Ca(g:Gr)(n:Nat):∀p∈E4 g n,p.2<(dX g (n+1)).length:=by
 have c:∀(l:List (Nat×eZ)) (a:List (eZ×Int)×List (Nat×Nat)),(∀p∈a.2,p.2<a.1.length)->∀p∈(l.foldl me a).2,p.2<(l.foldl me a).1.length:=λ l=>by
  induction l with
  |nil=>intro a h;exact h
  |cons q l d=>
   intro a h;refine d (me a q) λ p b=>?_;rcases aM.mp b with e|e
   ·exact aH (h p e) ((ww q.1 q.2 a.1).length_le)
   ·simp only[aE.mp e];show (jZ q.1 q.2 a.1).2<(jZ q.1 q.2 a.1).1.length;cases e:(a.1.map (·.1)).idxOf? q.2 with
    |some j=>simp only[iA e];have:=(List.findIdx?_eq_some_iff_findIdx_eq.mp e).1;simp only[au]at this;exact this
    |none=>rw[fU e];simp
 dsimp only[FI,Ak];dsimp only[E4];cases h:(dX g n)[n]? with
 |none=>intro p b;exact nomatch b
 |some q=>exact c (fk g q.1) (dX g n,[]) λ p b=>(nomatch b)
theorem cZ.ok{bx:List fy}(A:cZ g bx)(e:bx.length<=2000):pD bx:=by
 refine ⟨aQ ‹_› (by decide),λ s b=>?_,λ s b p c=>?_⟩
 ·refine ze (cI.mp b) λ j a=>?_;refine NY (A.st j s a) λ Z Z Z h Z=>?_;rw[h];unfold E4;cases (dX g j)[j]? with
  |none=>exact bK
  |some q=>show ((eE (dX g j) (fk g q.1)).2.map (·.1)).Nodup;unfold eE;simp only[gW];exact aO.mpr ((uG g q.1).imp ch)
 ·refine ze (cI.mp b) λ j a=>?_;have d:=A.st j s a;rw[d.2.2.2.1]at c;refine aH (Ca g j p c) ?_
  conv=>rhs;rw[<-A.len]
  exact (iQ g ((bh.mp a).1)).length_le
theorem cZ.WW(f:c_ g)(l:0<g.owners.length){bx:List fy}(A:cZ g bx)(n:bx.length<=2000):sA bx:=by
 refine ⟨n,λ j s b=>(A.st j s b).1,λ s o=>?_⟩;refine ze (cI.mp o) λ j b=>?_;have a:=A.st j s b;have c:=(bh.mp b).1;have e:gq g s.kernel:=by simp only[show s.kernel=((dX g bx.length).getD j ([],0)).1 from congrArg jP a.2.1];exact (rO f l bx.length).1 _ (bd (by simp only[A.len];exact c) _)
 refine za (na (g:=g) s.items [] bK (λ x d=>(nomatch d)) λ p m=>((a.2.2.1.mem p).mp m).1.lt e) λ i k=>?_;rw[a.2.2.2.2.2.2];refine ⟨i,a.2.2.2.2.1,?_⟩;rw[a.2.2.2.2.1.length_eq];have h:=aU i (l₂:=aZ g.rules.length) λ x d=>bN.mpr (k x d);rw[bf]at h;exact aA h (aA (nO g) (bc f.own))
theorem wj:∀(n i m:Nat),m<2^n->dk i m=(i0 n m).map (·+i):=by
 intro n;induction n with
 |zero=>intro i m h;have:m=0:=J3 h;subst this;rfl
 |succ n c=>
  intro i m h;have e:(i0 (n+1) m).map (·+i)=(if m%2=1 then [i]else [])++(i0 n (m/2)).map (·+(i+1)):=by
   unfold i0;rw[wK,DT];have d:((y1 j4 (aZ n)).filter λ t=>m/2^t%2==1)=((aZ n).filter λ t=>m/2/2^t%2==1).map j4:=by
    refine List.filter_map.trans ?_;congr 1
    refine List.filter_congr λ t Z=>?_;show (m/2^(t+1)%2==1)=_;simp only[Nat.pow_succ,Nat.mul_comm,Nat.div_div_eq_div_mul]
   rw[d];by_cases a:m%2=1
   ·rw[if_pos (by simpa using a),if_pos a,be,bs];show (0+i)::_=i::_;rw[cO];congr 1
    exact bE λ t Z=>by show t+1+i=t+(i+1);exact cR _ _ _
   ·rw[if_neg (by simpa using a),if_neg a,bs];exact bE λ t Z=>by show t+1+i=t+(i+1);exact cR _ _ _
  simp only[e,<-(c (i+1) (m/2) (Nat.div_lt_of_lt_mul (show m<2*2^n by rw[Nat.mul_comm];exact h)))];by_cases b:m=0
  ·subst b;rfl
  ·rw[Dj i b]
theorem G6{n m:Nat}(h:m<2^n):dk 0 m=i0 n m:=by (refine (wj n 0 m h).trans ?_);simp
theorem A9{p:V×V}:∀{kb:List (V×V)},(kb.map (·.1)).Nodup->p∈kb->ez kb p.1=ah p.2:=by
 intro kb;induction kb with
 |nil=>intros;first|contradiction|exact absurd ‹_<_› (c6 _)
 |cons q kb a=>
  intro nd h;rw[be,bB]at nd;unfold ez;rw[cU];rcases aI.mp h with e|h
  ·subst e;rw[eK];rfl
  ·rw[ip λ e=>nd.1 (by rw[e];exact bp h)];exact a nd.2 h
theorem rG(a:ka.Perm kb)(nd:(kb.map (·.1)).Nodup):C0 ka kb=aj:=by unfold C0;rw[cW,beq_iff_eq,b9];refine ⟨a.length_eq,λ p h=>?_⟩;unfold rz;rw[A9 nd (a.mem_iff.mp h)];exact eK _
noncomputable def lq(Tt:List Int):List Nat:=if Tt.take 24=[]then [0]else (Tt.take 24).map λ i=>(i.fmod 999983).toNat
noncomputable def dK(pairs:List Pr):List Pr:=(Str.ofString "$accept",["s",Str.ofString "$end"])::pairs
structure FO(pairs:List Pr)(Rk:List Tr->eZ->Prop):Prop where
 pr:FM pairs
 good:c_ (bW pairs)
 Wq:∀p∈pairs,p.1∈cc pairs/\∀x∈p.2,x∈cc pairs
 Vq:0<(ba pairs).length
 sh:AJ (bW pairs)
 most:∀n,(dX (bW pairs) n).length<=2000
 H:uI (bW pairs) (dK pairs) (dt pairs).1 (dt pairs).2 Rk
 HR:Dz (bW pairs) (dK pairs) (dt pairs).1 (dt pairs).2
 shown:∀i<(bW pairs).owners.length,∀m<2^(bW pairs).tc,i6 (bW pairs) i m=ng (dK pairs) (bW pairs) i m
section
variable{f:aG}
theorem Bp(I:f6 O G d T)(i:Nat){x:Str}{pos' pos b:gU}{K W:Expr}{Q:Option (Option V)->St->Prop}(e g:V)(hk:∀{Y':St} {c:V->St->Prop},c e Y'->XV O Ex (bv K O.env) c Y')(l:∀{Y':St} {c:V->St->Prop},c g Y'->XV O Ex (bv W O.env) c Y')(f:kk e≠0)
 (h:∀a,Q ai (St.set ⟨Y.vals,(a,.dict [(e,g)])::Y.mu⟩ i (.ref a))) (k:autoParam (∀n,(T n)[i]? =ah (x,.loc)) rf) (j:autoParam (eg (.Dict [ah K] [W] b) (ah (.Name x pos')) pos.line O.env=pure ao) rf):
 XF O Ex (gc (.Assign [.Name x pos'] (.Dict [ah K] [W] b) pos) O.env) Q Y:=sl I i (x9 I.ok λ a=>hk (l ⟨f,0,rfl,h a⟩)) k j
theorem Jh{i:Str}(x:Str)(h:Q (.str x) Y)(e:autoParam (i=x) rk):XV O Ex (bv (.Constant (.str i) k pos) O.env) Q Y:=c1 (by rw[e];exact h)
noncomputable def lr:Stmt:=sub (top 39) 8
noncomputable def e0:List (Option Expr)×List Expr×gU×Str:=([],[],JA,"")
noncomputable def eP(e:Expr):List (Option Expr)×List Expr×gU×Str:=
 Expr.casesOn (motive_1:=λ Z=>List (Option Expr)×List Expr×gU×Str) e (λ Z Z Z=>e0) (λ Z Z Z=>e0) (λ Z Z Z Z=>e0) (λ Z Z Z=>e0) (λ Z Z Z Z=>e0) (λ Z Z Z Z=>e0) (λ k v q=>(k,v,q,"")) (λ Z Z Z=>e0) (λ Z Z Z Z=>e0) (λ Z Z Z Z=>e0) (λ Z Z Z Z Z=>e0) (λ Z Z Z Z=>e0) (λ Z Z=>e0) (λ Z Z=>e0) (λ Z Z=>e0) (λ Z Z Z Z=>e0) (λ Z Z Z Z=>e0) (λ Z Z Z Z=>e0) (λ Z Z=>e0) (λ Z Z q=>([],[],q,"")) (λ Z Z Z=>e0) (λ Z Z Z=>e0) (λ Z Z=>e0) (λ x q=>([],[],q,x)) (λ Z Z=>e0) (λ Z Z Z=>e0) (λ Z Z Z Z=>e0)
noncomputable def Is(s:Stmt):Expr:=((eP (nR s).2.2.2.2.1).1.headD ai).getD G4
noncomputable def rJ(s:Stmt):gU×gU×gU×gU×Str:=((eP ((nR s).2.2.2.1.headD G4)).2.2.1,(eP (nR s).2.2.2.2.1).2.2.1,(nR s).2.2.2.2.2,(eP ((eP (nR s).2.2.2.2.1).2.1.headD G4)).2.2.1,(eP ((nR s).2.2.2.1.headD G4)).2.2.2)
inductive PS(O:FC)(st:Stmt)(Q:Option (Option V)->St->Prop)(Y:St):Prop
 |mk (h:XF O dL (gc st O.env) Q Y)
theorem Jm{st:Stmt}{a:List Stmt}{Q:Option (Option V)->St->Prop}(h:PS O st (Ic O dL a Q) Y):XF O dL (eI (st::a) O.env) Q Y:=by obtain ⟨h⟩:=h;exact aB h
theorem xy(I:f6 O G d (mJ (bF (top 39)))){Q:Option (Option V)->St->Prop}(h:∀a,Q ai (St.set ⟨Y.vals,(a,.dict [(iq [(0,0,"")],.nat 0)])::Y.mu⟩ 10 (.ref a))):PS O lr Q Y:=by
 refine ⟨?_⟩;have hk:∀{Y':St} {b:V->St->Prop},b (iq [(0,0,"")]) Y'->XV O dL (bv (Is lr) O.env) b Y':=by intro Y' b q;refine t1 ?_;refine t3 ?_;refine xn 0 ?_;refine xn 0 ?_;refine Jh "" ?_;exact q
 have e:lr=.Assign [.Name (rJ lr).2.2.2.2 (rJ lr).1] (.Dict [ah (Is lr)] [.Constant (.int 0) 0 (rJ lr).2.2.2.1] (rJ lr).2.1) (rJ lr).2.2.1:=by rfl
 have c:∀n,(mJ (bF (top 39)) n)[10]? =ah ((rJ lr).2.2.2.2,.loc):=by intro n;rfl
 rw[e];generalize Is lr=K at hk ⊢;generalize rJ lr=p at c ⊢;exact Bp I 10 _ _ hk (λ q=>xn 0 q) (by rw[t9];decide) h c
theorem CB{bx:List fy}(A:cZ g bx){R:List Pr}{st:List (Str×List Str)}{em:List (Str×Bool)}(H:uI g R st em Rk){n:Nat}(b:n<bx.length)(hk:Rk K ((dX g bx.length).getD n ([],0)).1):wJ bx n 1= -1:=by
 rw[xB b];refine ze (show ∃s,bx.getD n qG=s from ⟨_,rfl⟩) λ s a=>?_;rw[a,(A.st n s (by rw[ay b,<-e4 b qG,a])).2.2.2.1];have c:=H.err hk;by_cases h:n<(dX g n).length
 ·rw[(λ h=>nP (iQ g (bc b)) h _) h]at c;rw[(xO g h).2];cases e:y2 1 (eE (dX g n) (fk g ((dX g n).getD n ([],0)).1)).2 with
  |none=>rfl
  |some m=>exact absurd (aC.mpr ⟨_,c5 e,rfl⟩) (by unfold eE;rw[gW];exact c)
 ·unfold E4;rw[bl (eY h)];rfl
theorem Bm(l:List Str):∀x∈l.map V.str,lP 8 x=aj:=λ x b=>by refine b4 (aC.mp b) λ q Z a=>?_;subst a;rfl
theorem yd(l:List Str):∀x∈l.map V.str,Sh 1 x:=λ x b=>by refine b4 (aC.mp b) λ q Z a=>?_;subst a;exact .str q
noncomputable def yX(g:Gr)(CG CR:aG)(n:Nat)(f:Option (Option V))(Y:St):Prop:=∃most:Nat,f=ai/\Y.vals[7]? =ah (ah (g.v CG CR))/\Y.vals[23]? =ah (ah (.nat n))/\Y.vals[25]? =ah (ah (.nat most))/\(most=n\/most+1=n)
theorem Fd(L:wC G CG CR CS CA){g:Gr}{R:List Pr}{st:List (Str×List Str)}{em:List (Str×Bool)}{Rk:List Tr->eZ->Prop}{bx:List fy}(E:c_ g)(H:uI g R st em Rk)(HR:Dz g R st em)(A:cZ g bx)(hz:pD bx)(S:sA bx)(U:AJ g)
 (o:∀i<g.owners.length,∀m<2^g.tc,i6 g i m=ng R g i m) (B:0<bx.length) (row:List Nat) (S5:0<row.length) (Ti:row.length<64)
 (I:f6 O G (d+5) (mJ (bF (top 39)))) {KL PL:List (List Tr)} {RD:List (List Nat)} (W:Wk bx Rk (dX g bx.length) KL PL RD)
 (sv pv v4 v5:V) (o6 YZ YY YX YW YV YU YR YQ YP:Option V) (ak ap ar aa:aG) (Y:Mu):
 XF O dL (eI ((cy (top 39)).drop 13).dropLast O.env) (yX g CG CR bx.length) ⟨[ah sv,ah (.list (row.map .nat)),ah pv,ah (.list (R.map pV)),ah v4,ah v5,o6,ah (g.v CG CR),ah (kJ CG CR CS CA g bx),ah (.ref ak),ah (.ref ap),ah (.ref ar),ah (.ref aa),ah (.nat bx.length),YZ,YY,YX,YW,YV,YU,YR,YQ,YP,ai,ai,ai,ai,ai,ai,ai,ai,ai,ai,ai,ai,ai,ai,ai,ai,ai],
  (aa,.dict (pj (oY bx bx.length)))::(ar,.list (RD.map xg))::(ap,.dict (qS PL))::(ak,.list (KL.map kV))::Y⟩:=by
 have C:Cmn G CG CR:=L.B.toCmn;have y:=W.kl;rw[A.len]at y;have j:=S.len;refine aB<|sl I 23<|cb I 30 C.len<|Mine.a1<|nl I 9 rfl<|rM 3 y rfl (show KL.length<2^62 from J0 y j) ?_;have P:∀i m,i<1000->0<m->m<3000->_:=λ i m h1 X U=>Bx (G:=G) (d:=d) (J:=[]) L.pick.y C.len row i m S5 Ti h1 X U;refine aB<|sl I 24<|cg I 35 L.pick<|an<|nl I 1 rfl<|an<|xn 7<|Mine.a1<|nl I 23 rfl<|iu I (P 7 bx.length (by decide) B (aQ ‹_› (by decide))) qW ?_;have a:pick row 7 bx.length<bx.length:=d4 B;generalize pick row 7 bx.length=b at a ⊢;have r:b<(dX g bx.length).length:=by rw[A.len];exact a
 refine jw (W.rd b r) λ Wb Vf Z=>?_;have K:wJ bx b 1= -1:=CB A H a (W.rk b r);have hw:jD bx 0 (RD.getD b []++[1,0])= -1:=by rw[show RD.getD b []++[1,0]=(RD.getD b []++[1])++[0] by simp,mZ,(show jD bx 0 (RD.getD b []++[1])= -1 by rw[mZ,Wb,if_neg yn,gi,K]),if_pos (by decide)]
 refine aB<|eW<|m5<|tq<|mc I L.R_<|nc I 8 rfl ⟨mK CG CR CS g bx,.frozen,by kernel_rfl,cx<|iu I (sn (d:=d) (J:=[]) L.B.A L.R_.y C.len g bx hz) qW<|nl I 23 rfl<|EZ ⟨_,rfl,fS (bne_self_eq_false _) ?_⟩⟩;have u:oY bx bx.length=bx.flatMap yT:=by unfold oY;rw[a0]
 refine m5<|tq<|cg I 36 L.SD<|Mine.a1<|nc I 8 rfl<|iu I (w6 (d:=d) (J:=[]) L.B.A L.SD g bx S) qW<|nl I 12 rfl<|GO (c:=3) I.ok .frozen (.led 0 rfl) (by decide) ?_ ?_ ?_ ⟨_,rfl,?_⟩
 ·intro p h;refine b4 (aC.mp h) λ q Z Sw=>?_;subst Sw;exact ⟨t_ _,rfl⟩
 ·intro p h;refine b4 (aC.mp h) λ q Z Sv=>?_;subst Sv;exact ⟨t_ _,rfl⟩
 ·rw[u];exact oQ (rQ S)
 refine fS ?_ ?_
 ·have e:C0 (pj (bx.flatMap fe)) (pj (bx.flatMap yT))=aj:=rG ((yS S).map _) (oQ (rQ S));rw[u,e];rfl
 refine m5<|tq<|mc I L.walk<|nc I 8 rfl ⟨mK CG CR CS g bx,.frozen,by kernel_rfl,an<|dJ<|Mine.a1<|bw<|sb<|nl I 11 rfl<|nl I 24 rfl<|Cx xg [] 1 rfl (by rw[W.rl];exact r) (ym a j)<|l2<|xn 1<|xn 0<|zD (f:=V.nat) (l':=[1,0]) I.ok (show _+2<=2^20 from JZ Vf a j)<|iu I (Bt (d:=d) (J:=[]) L.B.A L.walk.y L.goto g bx hz 0 (cV.mpr ‹_›) (RD.getD b []++[1,0])) s6<|il<|dJ<|kw<|vI ⟨_,rfl,fS (by rw[hw];rfl)<|jm<|fS rfl<|bm ?_⟩⟩;have Q:=w8 (d:=d) (J:=[]) L.B.A L.goto.y g bx hz b 1 a (CG:=CG) (CR:=CR);rw[K]at Q;refine aB<|eW<|tq<|mc I L.goto<|nc I 8 rfl ⟨mK CG CR CS g bx,.frozen,by kernel_rfl,an<|nl I 24 rfl<|Mine.a1<|xn 1<|iu I Q qW<|il<|dJ<|kw<|vI ⟨_,rfl,fS rfl<|bm ?_⟩⟩;refine ze (show ∃s,bx.getD b qG=s from ⟨_,rfl⟩) λ s M=>?_;have N:bx[b]? =ah s:=by rw[ay a,<-e4 a qG,M]
 refine NW (A.st b s N) λ Z a2 F Z Z Z Z=>?_;have VI:gq g s.kernel:=by rw[(show s.kernel=((dX g bx.length).getD b ([],0)).1 from congrArg jP a2)];exact (H.nd (W.rk b r)).2.2.2
 have n:∀p∈s.items,p.1<g.owners.length:=λ p h=>((F.mem p).mp h).1.lt VI;have T:∀p∈s.items,p.2<2^g.tc:=λ p h=>by rw[((F.mem p).mp h).2];exact oR _ _
 have U7:s.items.length<60:=by
  have:=aU F.nd (l₂:=aZ g.owners.length) λ x w=>by refine b4 (aC.mp w) λ p h SN=>?_;subst SN;exact bN.mpr (n p h)
  have X:=E.own;rw[au,bf]at this;exact aQ ‹_› ‹_›
 have z:∀p∈s.items,(dk 0 p.2).length<=60/\∀t∈dk 0 p.2,t<g.names.length:=λ p h=>by
  rw[G6 (T p h)];unfold i0;have h1:=E.Vu;have X:=E.V9;refine ⟨?_,λ t ht=>?_⟩
  ·have:=c8 (λ t=>p.2/2^t%2==1) (aZ g.tc);rw[bf]at this;exact JY this h1
  ·have:=bN.mp (b3.mp ht).1;exact aH ‹_› ‹_›
 have Za:(s.items.map λ p=>i6 g p.1 p.2)=s.items.map λ p=>ng R g p.1 p.2:=bE λ p h=>o p.1 (n p h) p.2 (T p h);refine aB<|eW<|tq<|cb I 33 C.sorted<|Mine.a1<|cg I 37 L.RG<|an<|nc I 8 rfl<|Mine.a1<|nl I 24 rfl<|iu I (oJ (d:=d) (J:=[]) C L.B.A L.Tf L.Tg L.bits L.RG g E U bx b a (ym a j) s N F.nd n z (bc ‹_›)) BK<|kF (k:=1) I.ok .frozen (by rw[au,au];exact aH ‹_› (by decide)) (yd _) λ ys h hs=>.F ?_;refine cg I 38 L.shown<|an<|sa I L.B.A s (.dict (dV s.items))<|sb<|fa I<|nc I 8 rfl ⟨CA,mK CG CR CS g bx,.list (bx.map (fy.v CS)),rfl,L.B.A.a _ (by decide+kernel),by kernel_rfl,nl I 24 rfl<|G2 (fy.v CS) M a (ym a j) ⟨rfl,?_⟩⟩;refine an<|nl I 3 rfl<|Mine.a1<|nl I 7 rfl<|sp I _ (vt (d:=d) (J:=[]) C L.shown g E U R HR.ok HR.len s.items F.nd n U7) s6 rfl λ v J' zf=>za zf λ zg e2=>ew zg λ zs e Zh Xj=>?_;subst e;subst e2;rw[Za]at h;have Y3:ys=zs:=du.uniq (h.trans Zh.symm) (λ x w=>yd _ x (h.mem_iff.mp w)) hs Xj;subst Y3;refine BV I.ok .frozen .frozen (λ x w=>Bm _ x (h.mem_iff.mp w)) (λ x w=>Bm _ x (h.mem_iff.mp w)) ⟨_,rfl,fS (by rw[eK];rfl)<|bm ?_⟩;have D:pick row 6 2<2:=d4 (by decide);refine aB<|sl I 25<|bw<|nl I 23 rfl<|cg I 35 L.pick<|an<|nl I 1 rfl<|an<|xn 6<|Mine.a1<|xn 2<|iu I (P 6 2 (by decide) (by decide) (by decide)) qW<|yz (JX D a) ?_;refine ze (show ∃l,bx.length-pick row 6 2=l from ⟨_,rfl⟩) λ l hm=>?_;rw[hm];exact bm ⟨l,rfl,rfl,rfl,rfl,JW hm D⟩
end
section
variable{f:aG}
inductive PR(O:FC)(l:List Stmt)(Q:Option (Option V)->St->Prop)(Y:St):Prop
 |mk (h:XF O dL (eI l O.env) Q Y)
theorem Fb(L:wC G CG CR CS CA){g:Gr}{R:List Pr}{st:List (Str×List Str)}{em:List (Str×Bool)}{Rk:List Tr->eZ->Prop}{bx:List fy}(r:c_ g)(H:uI g R st em Rk)(s:Dz g R st em)(A:cZ g bx)(hz:pD bx)(S:sA bx)(y:AJ g)
 (b:∀i<g.owners.length,∀m<2^g.tc,i6 g i m=ng R g i m) (row:List Nat) (p:0<row.length) (h:row.length<64)
 (I:f6 O G (d+5) (mJ (bF (top 39)))) (v:I6 O)
 {Q:Option (Option V)->St->Prop} (x:∀f Y,yX g CG CR bx.length f Y->Q f Y) (n k:V) (c:aG) {t:Stmt} (l:∀{Q:Option (Option V)->St->Prop} {Y:St},(∀a,Q ai (St.set ⟨Y.vals,(a,.dict [(iq [(0,0,"")],.nat 0)])::Y.mu⟩ 10 (.ref a)))->PS O t Q Y):
 PR O (t::((cy (top 39)).drop 9).dropLast) Q ⟨[ah n,ah (.list (row.map .nat)),ah k,ah (.list (R.map pV)),ah (.dict (vf st)),ah (.dict (jX em)),ai,ah (g.v CG CR),ah (kJ CG CR CS CA g bx),ah (.ref c),ai,ai,ai,ai,ai,ai,ai,ai,ai,ai,ai,ai,ai,ai,ai,ai,ai,ai,ai,ai,ai,ai,ai,ai,ai,ai,ai,ai,ai,ai],
  [(c,.list (([[(0,0,"")]]:List (List Tr)).map kV))]⟩:=by
 refine ⟨Jm<|l λ w=>?_⟩;refine aB<|sl I 11<|ey I.ok<|Mine.a1<|f1 (cx ⟨bg _,Ep (aP rfl),λ q=>?_⟩);refine aB<|sl I 12<|hH I.ok λ u=>?_;refine aB<|DH I v 13<|xn 0 ?_;refine aB<|Ch L r H s A hz S I v n (.list (row.map .nat)) k ai c w q u λ KL PL RD j o W=>?_;have e:0<bx.length:=by have:=FJ g bx.length;simp only[A.len]at this;exact this
 refine X.mono (Fd L r H s A hz S y b e row p h I W n k _ _ _ _ _ _ _ _ _ _ _ _ c w q u j) x
theorem Cg(L:wC G CG CR CS CA){Rk:List Tr->eZ->Prop}(a:List Int)(hs:a.length<=63)(P:FO (gk (lq a)) Rk)(I:f6 O G (d+5) (mJ (bF (top 39))))(Oo:I6 O):
 XF O dL (eI (cy (top 39)).dropLast O.env) (λ f Y=>∃bx,cZ (bW (gk (lq a))) bx/\bx.length<=2000/\yX (bW (gk (lq a))) CG CR bx.length f Y) ⟨[ah (.list (a.map .int)),ai,ai,ai,ai,ai,ai,ai,ai,ai,ai,ai,ai,ai,ai,ai,ai,ai,ai,ai,ai,ai,ai,ai,ai,ai,ai,ai,ai,ai,ai,ai,ai,ai,ai,ai,ai,ai,ai,ai],[]⟩:=by
 have C:Cmn G CG CR:=L.B.toCmn;let sv:V:=.list (a.map .int)
 refine aB<|MU I 1<|l8<|nl I 0 rfl<|oP<|oO<|xn 24 ⟨⟨_,.list .frozen⟩,F8 (f:=V.int) I.ok (aA hs (by decide)) ?_⟩;refine ⟨_,_,_,lA V.int (a.take 24) 0 I.ok.hand,by rw[bb];exact JV,(λ i b acc m=>∃o,b=[ai,o,ai]/\acc=(((a.take 24).take i).map λ i=>(i.fmod 999983).toNat).map .nat/\m=[]),⟨_,n7 I,rfl,rfl⟩,?_,?_,?_⟩
 ·intro i b acc m hi UJ;refine ew UJ λ o Td Si Sw=>?_;subst Td;subst Si;subst Sw;exact ⟨by rw[au,au,bb];exact qV,λ Z=>trivial⟩
 ·intro O' C' i b acc m D hi UI;refine ew UI λ o Sv SN Tj=>?_;subst Sv;subst SN;subst Tj;have c:=C'.SE I;rw[dN (ay hi),<-e4 hi 0];generalize (a.take 24).getD i 0=z;refine Mine.al c 1<|gs<|bw<|cb c 2 L.int<|Mine.a1<|nl c 1 rfl<|No<|dJ<|GP (by decide) ⟨[],rfl,_,rfl,?_,rfl⟩;rw[aK,aK];rw[((gR (Int.fmod_nonneg_of_pos z (by decide))).symm)];rfl
 intro b acc m Ua;refine ew Ua λ o T8 T7 Uy=>?_;subst T8;subst T7;subst Uy;rw[a0];refine .F ?_;let Z8:List Nat:=(a.take 24).map λ i=>(i.fmod 999983).toNat
 refine wS (λ Y=>Y=⟨[ah sv,ah (.list ((lq a).map .nat)),ai,ai,ai,ai,ai,ai,ai,ai,ai,ai,ai,ai,ai,ai,ai,ai,ai,ai,ai,ai,ai,ai,ai,ai,ai,ai,ai,ai,ai,ai,ai,ai,ai,ai,ai,ai,ai,ai],[]⟩) (eW<|tq<|nl I 1 rfl<|f1 (cx ⟨bg _,BZ I.ok .frozen .frozen (m_ _) (λ x hx=>(nomatch hx)) ⟨_,rfl,?_⟩⟩)) λ Y Xd=>?_
 ·by_cases h:a.take 24=[]
  ·refine iz (by rw[h];exact eK _)<|aB<|sl I 1<|l1<|xn 0<|bm ?_;show _=(⟨_,_⟩:St);unfold lq;rw[if_pos h];rfl
  ·refine fS ?_<|bm ?_
   ·refine ip λ e=>h ?_;injection e with e
    rw[nB,nB]at e;exact e
   ·show _=(⟨_,_⟩:St);unfold lq;rw[if_neg h];rfl
 subst Xd;have j:0<(lq a).length/\(lq a).length<64:=by
  unfold lq;split
  ·exact ⟨by decide,by decide⟩
  ·rename_i h;rw[au];exact ⟨List.length_pos_iff.mpr h,by rw[bb];exact JU⟩
 generalize lq a=row at P j ⊢;refine za j λ j w=>?_;refine aB<|sl I 2<|cg I 26 L.pairs<|Mine.a1<|nl I 1 rfl<|iu I (EG (d:=d) (J:=[]) C L.pick L.ord L.pairs row j w) s6 ?_;let rv:V:=.list (row.map .nat)
 generalize hpr:gk row=pairs at P ⊢;have y:=P.pr.len;refine aB ?_;refine sl I 3 ?_;refine bw ?_;refine l1 ?_;refine t2 ?_;refine Jh (Str.ofString "$accept") ?_;refine l2 ?_;refine Jh "s" ?_;refine Jh (Str.ofString "$end") ?_;refine nl I 2 rfl ?_;refine zD (f:=pV) (l:=([(Str.ofString "$accept",["s",Str.ofString "$end"])]:List Pr)) (l':=pairs) I.ok (show 1+pairs.length<=2^20 from JT y) ?_;refine aB<|xT I<|cg I 27 L.starts<|Mine.a1<|nl I 2 rfl<|iu I (Bu (d:=d) (J:=[]) C L.begin L.starts pairs P.pr) s6<|Ar I<|Mine.al I 4<|Mine.al I 5 ?_;refine aB<|sl I 7<|cg I 28 L.plain<|Mine.a1<|lc I<|nl I 2 rfl ⟨_,_,_,lA pV pairs ("",[]) I.ok.hand,aA y (by decide),(λ i b acc m=>∃X W,b=[ai,X,W,ai]/\acc=(pairs.take i).map pV/\m=[]),⟨_,_,n7 I,rfl,rfl⟩,?_,?_,?_⟩
 ·intro i b acc m hi T_;refine fo T_ λ X W R M T=>?_;subst R;subst M;subst T;exact ⟨by rw[au,bb];exact qV,λ Z=>trivial⟩
 ·intro O' C' i b acc m D hi T9;refine fo T9 λ X W F B E=>?_;subst F;subst B;subst E;have c:=C'.SE I;have h3:=P.pr.right _ (bd hi ("",[]));rw[dN (ay hi),<-e4 hi ("",[])];generalize pairs.getD i ("",[])=p at h3 ⊢;refine Ar c<|Mine.al c 1<|Mine.al c 2<|gs<|t2<|nl c 1 rfl<|cb c 3 C.list<|Mine.a1<|nl c 2 rfl<|uC c.ok .frozen (by rw[au];exact aA ‹_› (by decide))<|.F ⟨[],rfl,_,_,rfl,?_,rfl⟩;rw[aK];rfl
 intro b acc m UH;refine fo UH λ X W u S K=>?_;subst u;subst S;subst K;rw[a0];obtain ⟨N,U,t,n,h3,s,H,HR,k⟩:=P;refine .F<|iu I (EF (d:=d) (J:=[]) L.P L.plain pairs N U.toSmall t n) BK ?_;have VC:0<(bW pairs).rules.length:=cp _;clear t n;generalize bW pairs=g at*;refine aB<|DH I Oo 8<|cg I 29 L.build<|Mine.a1<|nl I 7 rfl<|sp I _ (EH (d:=d) (J:=[]) L.B L.build g U VC s) Gc rfl λ v J' zf=>za zf λ zg e2=>ew zg λ bx e A r=>?_;subst e;subst e2;let gv:V:=g.v CG CR
 let av:V:=kJ CG CR CS CA g bx
 let pv:V:=.list (pairs.map pV)
 refine aB ?_;refine sl I 9 ?_;refine ey I.ok ?_;refine Mine.a1 ?_;refine l1 ?_;refine t3 ?_;refine xn 0 ?_;refine xn 0 ?_;refine Jh "" ?_;refine ⟨Ep (aP rfl),λ ak=>?_⟩;obtain ⟨h⟩:=Fb L U H HR A (A.ok r) (A.WW U HR.pos r) h3 k row j w I Oo (Q:=λ f Y=>∃bx,cZ g bx/\bx.length<=2000/\yX g CG CR bx.length f Y) (λ f Y q=>⟨bx,A,r,q⟩) sv pv ak λ h=>xy I h;assumption
end
noncomputable def gB:List Str:=["x","y","z"]
noncomputable def eN:List Str:=["s","a","b"]
structure dw(ps:List Pr):Prop where
 lf:∀p∈ps,p.1∈eN
 rt:∀p∈ps,∀x∈p.2,x∈gB\/x∈ba ps
 r3:∀p∈ps,p.2.length<=3
 pd:∀x∈ba ps,∃p∈ps,p.1=x/\∀y∈p.2,y∈gB
 ln:ps.length<=8
 l2:2*(ba ps).length<=ps.length+1
 hd:(ba ps)[0]? =ah ("s":Str)
 cn:∀X,((dK ps).flatMap (·.2)).count X<=15
noncomputable def li:Str:=Str.ofString "$accept"
noncomputable def hY:Str:=Str.ofString "$end"
noncomputable def yy:List Str:=iM++gB++[li]++eN
theorem Du{y:Str}:y∈js ls acc x↔y∈acc\/(y=x/\x∉ls):=by
 unfold js;have b:ls.any (· ==x)=aj↔x∈ls:=by refine dI.trans ?_;exact ⟨λ a=>by refine b4 a λ z hz e=>?_;exact (beq_iff_eq.mp e)▸hz,λ h=>⟨x,h,beq_self_eq_true x⟩⟩
 by_cases h:x∈ls
 ·rw[if_pos (b.mpr h)];exact ⟨.inl,λ q=>q.elim id λ q=>absurd h q.2⟩
 ·rw[if_neg λ q=>h (b.mp q),kK];exact ⟨λ q=>q.elim .inl λ q=>.inr ⟨q,h⟩,λ q=>q.elim .inl λ q=>.inr q.1⟩
theorem Aq{y:Str}:∀(l acc:List Str),y∈l.foldl (js ls) acc↔y∈acc\/(y∈l/\y∉ls):=by
 intro l;induction l with
 |nil=>intro acc;simp
 |cons x l a=>
  intro acc;simp only[c3,a,Du,aI];constructor
  ·rintro ((h|⟨rfl,h⟩)|⟨h,k⟩)
   ·exact .inl h
   ·exact .inr ⟨.inl rfl,h⟩
   ·exact .inr ⟨.inr h,k⟩
  ·rintro (h|⟨rfl|h,k⟩)
   ·exact .inl (.inl h)
   ·exact .inl (.inr ⟨rfl,k⟩)
   ·exact .inr ⟨h,k⟩
theorem Dt(ls acc:List Str)(x:Str):acc<+:js ls acc x:=by
 dsimp only[js,fQ];split
 ·exact d6 _
 ·split
  ·exact d6 _
  ·exact jQ _ _
theorem tj(f:List Str->α->List Str)(h:∀acc x,acc<+:f acc x):∀(l:List α) (acc:List Str),acc<+:l.foldl f acc:=by
 intro l;induction l with
 |nil=>intro Z;exact d6 _
 |cons x l a=>intro acc;exact (h acc x).trans (a _)
theorem xR(h:acc.Nodup):(js ls acc x).Nodup:=by
 unfold js;split
 ·exact h
 ·exact nn h
theorem pu(f:List Str->α->List Str)(h:∀acc x,acc.Nodup->(f acc x).Nodup):∀(l:List α) (acc:List Str),acc.Nodup->(l.foldl f acc).Nodup:=by
 intro l;induction l with
 |nil=>intro Z k;exact k
 |cons x l a=>intro acc k;exact a _ (h acc x k)
theorem gV{y:Str}(ps:List Pr):y∈jF ls ps↔y∈iM\/∃p∈ps,y∈p.2/\y∉ls:=by
 have:∀(ps:List Pr) (acc:List Str),y∈ps.foldl (λ acc p=>p.2.foldl (js ls) acc) acc↔y∈acc\/∃p∈ps,y∈p.2/\y∉ls:=λ ps=>by
  induction ps with
  |nil=>intro acc;simp
  |cons q ps b=>
   intro acc;dsimp only[c3];rw[b,Aq];constructor
   ·rintro ((h|h)|⟨p,a,h⟩)
    ·exact .inl h
    ·exact .inr ⟨q,.head _,h⟩
    ·exact .inr ⟨p,.tail _ a,h⟩
   ·rintro (h|⟨p,a,h⟩)
    ·exact .inl (.inl h)
    ·rcases aI.mp a with rfl|a
     ·exact .inl (.inr h)
     ·exact .inr ⟨p,a,h⟩
 exact this ps iM
theorem sK(ls:List Str)(ps:List Pr):iM<+:jF ls ps:=tj (λ acc (p:Pr)=>p.2.foldl (js ls) acc) (λ acc p=>tj _ (Dt ls) p.2 acc) ps iM
theorem u_(ls:List Str)(ps:List Pr):(jF ls ps).Nodup:=pu (λ acc (p:Pr)=>p.2.foldl (js ls) acc) (λ acc p h=>pu _ (λ Z Z h=>xR h) p.2 acc h) ps iM (by decide+kernel)
noncomputable abbrev fJ(ps:List Pr):List Str:=jF (ba ps) ps
theorem dw.RI(F:dw ps):∀x∈ba ps,x∈eN:=λ x c=>by refine b4 (gn.mp c) λ p b a=>?_;subst a;exact F.lf p b
theorem dw.Sy(F:dw ps):∀x∈fJ ps,x∈iM\/x∈gB:=λ x b=>by
 rcases (gV ps).mp b with h|⟨p,a,h,k⟩
 ·exact .inl h
 ·exact .inr ((F.rt p a x h).resolve_right k)
theorem dw.RH(F:dw ps):(cc ps).Nodup:=by
 have g:∀x∈fJ ps,x∉li::eN:=λ x c=>by
  have:∀y∈iM++gB,y∉li::eN:=by decide+kernel
  exact this x ((F.Sy x c).elim (λ h=>aJ _ h) λ h=>ax _ h)
 have f:∀x∈ba ps,x≠li:=λ x c=>by
  have:∀y∈eN,y≠li:=by decide+kernel
  exact this x (F.RI x c)
 show (fJ ps++[li]++ba ps).Nodup;rw[bY,aV];refine ⟨u_ _ _,bB.mpr ⟨λ h=>f _ h rfl,jK ps⟩,λ a d b i e=>g a d ?_⟩;cases e;rcases aI.mp i with e|e
 ·exact aI.mpr (.inl e)
 ·exact aI.mpr (.inr (F.RI a e))
theorem dw.names10(F:dw ps):∀x∈cc ps,x∈yy:=λ x a=>by
 unfold yy;rcases aM.mp (show x∈fJ ps++[li]++ba ps from a)with h|h
 ·rcases aM.mp h with h|h
  ·exact aJ _ (aJ _ ((F.Sy x h).elim (λ h=>aJ _ h) λ h=>ax _ h))
  ·exact aJ _ (ax _ h)
 ·exact ax _ (F.RI x h)
theorem dw.Sm(F:dw ps):(cc ps).length<=10:=aU F.RH (l₂:=yy) F.names10
theorem ft:cc ps=fJ ps++(li::ba ps):=by show fJ ps++[li]++ba ps=_;rw[bY];rfl
theorem Jr:(bW ps).tc=(fJ ps).length:=rfl
theorem iw(h:x∈fJ ps):x∈cc ps:=by rw[ft];exact aJ _ h
theorem fD(h:x∈ba ps):x∈cc ps:=by rw[ft];exact ax _ (.tail _ h)
theorem dw.Ro(F:dw ps){p:Pr}(a:p∈ps){x:Str}(b:x∈p.2):x∈fJ ps\/x∈ba ps:=by
 by_cases h:x∈ba ps
 ·exact .inr h
 ·exact .inl ((gV ps).mpr (.inr ⟨p,a,b,h⟩))
theorem dw.Sa(F:dw ps){p:Pr}(a:p∈ps){x:Str}(b:x∈p.2):x∈cc ps:=(F.Ro a b).elim iw fD
theorem nY(h:x∈cc ps):ix (bW ps) x<(cc ps).length/\(cc ps).getD (ix (bW ps) x) ""=x:=by have a:(cc ps).idxOf x<(cc ps).length:=g2.mpr h;refine ⟨a,?_⟩;show (cc ps).getD ((cc ps).idxOf x) ""=x;rw[e4 a,ot a]
theorem oS{y:Str}(h:x∈cc ps)(k:y∈cc ps)(e:ix (bW ps) x=ix (bW ps) y):x=y:=by refine (bz ((nY h).2)).trans ?_;rw[<-(nY k).2,e]
theorem dw.Uw(F:dw ps){i:Nat}(h:i<(cc ps).length):ix (bW ps) ((cc ps).getD i "")=i:=by show (cc ps).idxOf _=i;rw[e4 h];exact F.RH.idxOf_getElem i h
theorem tg:x∈fJ ps↔ix (bW ps) x<(bW ps).tc:=by
 show _↔(cc ps).idxOf x<(fJ ps).length;rw[ft];constructor
 ·intro h;rw[pE,if_pos h];exact g2.mpr h
 ·intro h;refine Classical.byContradiction λ k=>?_;rw[pE,if_neg k]at h;exact absurd h (bR.mpr (bJ ..))
theorem Jq{t:Nat}(h:t<(bW ps).tc):(cc ps).getD t ""∈fJ ps:=by rw[ft,aD,c0 h];exact bd h ""
theorem Cu:ix (bW ps) hY=0:=by show (cc ps).idxOf hY=0;refine ze (sK (ba ps) ps) λ q a=>?_;rw[ft,show fJ ps=iM++q from a.symm];rfl
theorem dw.Xb(F:dw ps):(bW ps).start=ix (bW ps) "s":=by show nZ ps ((ba ps).getD 0 "")=_;rw[aD,F.hd];rfl
theorem dw.TG(F:dw ps):ix (bW ps) li=(bW ps).tc:=by
 show (cc ps).idxOf li=(fJ ps).length;have a:li∉fJ ps:=λ h=>by have:=F.RH;rw[ft,aV]at this;exact this.2.2 _ h _ (.head _) rfl
 rw[ft,pE,if_neg a,List.idxOf_cons_self,cO]
theorem ec:(bW ps).rules.length=(dK ps).length:=by show (_::ps.map (sq ps)).length=(_::ps).length;simp only[bj,bj,au]
theorem dw.rule(F:dw ps)(n:Nat):(bW ps).right n=(d5 (dK ps) n).map (ix (bW ps))/\(n<(dK ps).length->(bW ps).left n=ix (bW ps) ((dK ps).getD n ("",[])).1):=by
 cases n with
 |zero=>refine ⟨?_,λ Z=>F.TG.symm⟩;show [(bW ps).start,0]=[ix (bW ps) "s",ix (bW ps) hY];rw[F.Xb,Cu]
 |succ n=>
  unfold d5;rw[(show (bW ps).right (n+1)=((ps.map (sq ps)).map (·.right)).getD n [] from rfl),(show (bW ps).left (n+1)=((ps.map (sq ps)).map (·.left)).getD n 0 from rfl),(show (dK ps).getD (n+1) ("",[])=ps.getD n ("",[])from rfl)];by_cases h:n<ps.length
  ·refine ⟨?_,λ Z=>?_⟩
   ·rw[e4 (by rw[au,au];exact h),bU,bU,e4 h];rfl
   ·rw[e4 (by simp only[au,au];exact h),bU,bU,e4 h];rfl
  ·refine ⟨?_,λ k=>absurd (eQ k) h⟩;refine (aD).trans ?_;rw[bl (by rw[au,au];exact bR.mp ‹_›),aD,bl (bR.mp ‹_›)];rfl
theorem dw.SY(F:dw ps)(n:Nat):∀x∈d5 (dK ps) n,x∈fJ ps\/x∈ba ps:=λ x a=>by
 cases n with
 |zero=>
  rcases aI.mp a with h|h
  ·subst h;exact .inr (aX F.hd)
  ·rw[aE.mp h];exact .inl ((gV ps).mpr (.inl (.head _)))
 |succ n=>
  have a:x∈(ps.getD n ("",[])).2:=a;by_cases h:n<ps.length
  ·exact F.Ro (bd h _) a
  ·rw[aD,bl (bR.mp ‹_›)]at a;exact nomatch a
theorem dw.RC(F:dw ps)(n:Nat):∀x∈d5 (dK ps) n,x∈(bW ps).names:=λ x a=>(F.SY n x a).elim iw fD
theorem dw.Uc(F:dw ps)(n:Nat):(d5 (dK ps) n).length<=3:=by
 cases n with
 |zero=>exact gw 2
 |succ n=>
  show (ps.getD n ("",[])).2.length<=3;by_cases h:n<ps.length
  ·exact F.r3 _ (bd h _)
  ·rw[aD,bl (bR.mp ‹_›)];exact bg _
theorem dw.Tu(F:dw ps)(n:Nat):((bW ps).right n).length<=3:=by simp only[(F.rule n).1,au];exact F.Uc n
theorem dw.TF(F:dw ps){n:Nat}(h:n<ps.length):((dK ps).getD (n+1) ("",[])).1∈ba ps:=gn.mpr ⟨ps.getD n ("",[]),bd h _,rfl⟩
theorem BQ:∀(l:List Ru) (b:Nat),(∀r∈l,r.right.length<=3)->(gP b l).length<=4*l.length:=by
 intro l;induction l with
 |nil=>intro Z Z;exact aT _
 |cons r l c=>intro b h;simp only[i7,aF,bP,bj];exact Qq (h r (.head _)) (c (b+1) λ q a=>h q (.tail _ a))
theorem dw.pr(F:dw ps):FM ps:=by have a:=F.ln;exact ⟨Qp ((bh.mp F.hd).1) F.l2,aA ‹_› (by decide),F.lf,F.r3⟩
theorem dw.good(F:dw ps):c_ (bW ps):=by
 have g:=F.Sm;have f:(bW ps).rules.length<=9:=by rw[ec];exact ea F.ln
 have c:∀r∈(bW ps).rules,r.right.length<=3:=λ r f=>by refine Eb (dF.mp f) λ n o e=>?_;have:=F.Tu n;unfold Gr.right at this;rw[e4 (by simp only[au];exact o),bU,e]at this;exact this
 have d:=BQ (bW ps).rules 0 c;have d:(bW ps).owners.length<=36:=aA d (AK 4 f);have b:(bW ps).tc+1<=(cc ps).length:=by simp only[ft,aF,bj,Jr];exact Qo
 have a:∀{n:Nat},n<=36->n<2^10:=λ h=>aQ h (by decide);refine ⟨⟨a (aA g (by decide)),a (aA f (by decide)),a d,λ r h=>a (aA (c r h) (by decide))⟩,λ r h=>?_,λ r h x j=>?_,aQ d (by decide),aQ g (by decide),aA (iC b) g,iC b⟩
 ·simp only[ec]at h;rw[(F.rule r).2 h];cases r with
  |zero=>show ix (bW ps) li<_/\_<=ix (bW ps) li;rw[F.TG];exact ⟨b,aT _⟩
  |succ n=>have l:=F.TF (eQ h);refine ⟨(nY (fD l)).1,eY λ k=>?_⟩;have nd:=F.RH;rw[ft,aV]at nd;exact nd.2.2 _ (tg.mpr k) _ (.tail _ l) rfl
 ·rw[(F.rule r).1]at j;refine b4 (aC.mp j) λ y m i=>?_;subst i;exact (nY (F.RC r y m)).1
theorem dw.Wq(F:dw ps):∀p∈ps,p.1∈cc ps/\∀x∈p.2,x∈cc ps:=λ p a=>⟨fD (gn.mpr ⟨p,a,rfl⟩),λ x b=>F.Sa a b⟩
theorem dw.Vq(F:dw ps):0<(ba ps).length:=(bh.mp F.hd).1
theorem dw.UR(F:dw ps):∀x∈cc ps,x.length<=20:=λ x a=>by
 have:∀y∈yy,y.length<=20:=by decide+kernel
 exact this x (F.names10 x a)
theorem dw.sh(F:dw ps):AJ (bW ps):=⟨F.UR,F.Tu⟩
theorem dw.TA(F:dw ps)(n:Nat):((bW ps).right n).map (pi (bW ps))=d5 (dK ps) n:=by
 simp only[(F.rule n).1,bs]
 conv=>rhs;rw[<-ed (d5 (dK ps) n)]
 exact bE λ x a=>(nY (F.RC n x a)).2
theorem dw.TZ(F:dw ps){n:Nat}(h:n<(dK ps).length):((dK ps).getD n ("",[])).1∈cc ps:=by
 cases n with
 |zero=>rw[ft];exact ax _ (.head _)
 |succ n=>exact fD (F.TF (eQ h))
theorem dw.shown(F:dw ps):∀i<(bW ps).owners.length,∀m<2^(bW ps).tc,i6 (bW ps) i m=ng (dK ps) (bW ps) i m:=λ i hi m b=>by
 have a:(bW ps).Q3 i<(dK ps).length:=by rw[<-ec];exact ((bW ps).item_at hi).1
 have c:pi (bW ps) ((bW ps).left ((bW ps).Q3 i))=((dK ps).getD ((bW ps).Q3 i) ("",[])).1:=by rw[(F.rule _).2 a];exact (nY (F.TZ a)).2
 dsimp only[i6,sO,ng,hJ,t7];simp only[G6 b,c,F.TA,bY];rfl
theorem dw.W3(F:dw ps):Au (dK ps):=by
 refine ⟨ea (aA F.ln (by decide)),λ r a=>?_,λ r a=>?_⟩
 ·rcases aI.mp a with h|h
  ·subst h;exact gw 2
  ·exact F.r3 r h
 ·rcases aI.mp a with h|h
  ·subst h;exact ⟨by decide+kernel,by decide+kernel⟩
  ·exact ⟨F.UR _ (F.Wq r h).1,λ x b=>F.UR x ((F.Wq r h).2 x b)⟩
theorem dw.Vy(F:dw ps):Dz (bW ps) (dK ps) (dt ps).1 (dt ps).2:=by
 have S:=ie.rounds ps (ps.length+1);refine ⟨F.W3,ec.symm,by simp only[show (dt ps).1.map (·.1)=ba ps from S.ks];exact jK ps,S.ke.trans S.ks.symm,λ p b=>?_,?_⟩
 ·refine za (S.row p b) λ nd h=>?_;refine aA (aU nd (l₂:=cc ps) λ x a=>?_) (aA F.Sm (by decide));refine b4 (bT.mp (h x a)) λ q c a=>?_;exact F.Sa c a
 ·exact aH (by exact cp _) (nO (bW ps))
noncomputable def Em(a:g0)(x:Str):Prop:=a.2.lookup x=ah aj
noncomputable def xV(a:g0)(t x:Str):Prop:=∃l,a.1.lookup x=ah l/\t∈l
noncomputable def yZ(a:g0)(t:Str):List Str->Prop
 |[]=>False
 |x::r=>match a.1.lookup x with
  |none=>t=x
  |some l=>t∈l\/(Em a x/\yZ a t r)
theorem QZ{a:g0}:yZ a t []=(False):=rfl
theorem NM{a:g0}{t:Str}{x r}:yZ a t (x::r)=(match a.1.lookup x with
 |none=>t=x
 |some l=>t∈l\/(Em a x/\yZ a t r)):=rfl
noncomputable def xZ(a:g0)(l:List Str):Prop:=∀x∈l,(∃r,a.1.lookup x=ah r)/\Em a x
theorem kI{a:g0}{r:List Str}(h:a.1.lookup x=ai):yZ a t (x::r)↔t=x:=by simp only[NM,h]
theorem iT{a:g0}{r l:List Str}(h:a.1.lookup x=ah l):yZ a t (x::r)↔t∈l\/(Em a x/\yZ a t r):=by simp only[NM,h]
theorem kH{a:g0}:∀(l acc:List Str),t∈d_ a.1 a.2 ahead acc l↔t∈acc\/yZ a t l\/(xZ a l/\t=ahead):=by
 intro l;induction l with
 |nil=>intro acc;simp only[qi,aM,aE];exact ⟨λ h=>h.elim .inl λ h=>.inr (.inr ⟨λ x g=>(nomatch g),h⟩),λ h=>h.elim .inl λ h=>h.elim (λ h=>h.elim) λ h=>.inr h.2⟩
 |cons x l d=>
  intro acc;dsimp only[qi,mx];cases e:a.1.lookup x with
  |none=>show t∈acc++[x]↔_;refine aM.trans ?_;rw[aE,kI e];refine ⟨λ h=>h.elim .inl λ h=>.inr (.inl h),λ h=>h.elim .inl λ h=>h.elim .inr λ h=>?_⟩;refine ze ((h.1 x (.head _)).1) λ r c=>?_;rw[e]at c;exact nomatch c
  |some r=>
   show t∈(if a.2.lookup x=ah aj then _ else acc++r)↔_;rw[iT e];by_cases h:a.2.lookup x=ah aj
   ·rw[if_pos h,d,aM];have f:xZ a (x::l)↔xZ a l:=⟨λ q y b=>q y (.tail _ b),λ q y b=>by
     rcases aI.mp b with rfl|b
     ·exact ⟨⟨r,e⟩,h⟩
     ·exact q y b⟩
    rw[f];constructor
    ·rintro ((q|q)|q|q)
     ·exact .inl q
     ·exact .inr (.inl (.inl q))
     ·exact .inr (.inl (.inr ⟨h,q⟩))
     ·exact .inr (.inr q)
    ·rintro (q|(q|q)|q)
     ·exact .inl (.inl q)
     ·exact .inl (.inr q)
     ·exact .inr (.inl q.2)
     ·exact .inr (.inr q)
   ·rw[if_neg h,aM];constructor
    ·rintro (q|q)
     ·exact .inl q
     ·exact .inr (.inl (.inl q))
    ·rintro (q|(q|q)|q)
     ·exact .inl q
     ·exact .inr q
     ·exact absurd q.1 h
     ·exact absurd (q.1 x (.head _)).2 h
theorem ri(x y:Str)(f:β->β):∀l:List (Str×β),(l.map λ p=>if p.1=x then (p.1,f p.2)else p).lookup y=(l.lookup y).map λ v=>if y=x then f v else v:=by
 intro l;induction l with
 |nil=>exact rfl
 |cons b l a=>
  obtain ⟨k,v⟩:=b;have a:=a;rw[be];dsimp only[bq];by_cases h:k=x
  ·rw[if_pos h];dsimp only[bq];by_cases e:y=k
   ·subst e;rw[beq_self_eq_true];exact (congrArg ah (if_pos h)).symm
   ·rw[beq_eq_false_iff_ne.mpr e];exact a
  ·rw[if_neg h];dsimp only[bq];by_cases e:y=k
   ·subst e;rw[beq_self_eq_true];exact (congrArg ah (if_neg h)).symm
   ·rw[beq_eq_false_iff_ne.mpr e];exact a
theorem Bn(x n y:Str)(st:List (Str×List Str)):(nK x n st).lookup y=(st.lookup y).map λ v=>if y=x then fQ v n else v:=ri x y (λ l=>fQ l n) st
theorem Fv(x y:Str)(em:List (Str×Bool)):(xG x em).lookup y=(em.lookup y).map λ v=>if y=x then aj else v:=ri x y (λ Z=>aj) em
theorem xk{n y:Str}{a:g0}:Em (p6 x a n) y↔Em a y\/(n=""/\y=x/\∃b,a.2.lookup y=ah b):=by
 dsimp only[p6,Em];by_cases h:n=""
 ·rw[if_pos h];show (xG x a.2).lookup y=_↔_;rw[Fv];cases e:a.2.lookup y with
  |none=>exact ⟨λ h=>(nomatch h),λ h=>h.elim (λ h=>(nomatch h)) λ c=>by refine Je c λ Z Z b h=>?_;exact (nomatch h)⟩
  |some b=>
   show ah (if y=x then aj else b)=ah aj↔_;by_cases q:y=x
   ·rw[if_pos q];exact ⟨λ Z=>.inr ⟨h,q,b,rfl⟩,λ Z=>rfl⟩
   ·rw[if_neg q];exact ⟨.inl,λ h=>h.elim id λ h=>absurd h.2.1 q⟩
 ·rw[if_neg h];exact ⟨.inl,λ q=>q.elim id λ q=>absurd q.1 h⟩
theorem xi{n y:Str}{a:g0}:xV (p6 x a n) t y↔xV a t y\/(n≠""/\y=x/\t=n/\∃l,a.1.lookup y=ah l):=by
 dsimp only[p6,xV];by_cases h:n=""
 ·rw[if_pos h];exact ⟨.inl,λ q=>q.elim id λ q=>absurd h q.1⟩
 ·rw[if_neg h];show (∃l,(nK x n a.1).lookup y=ah l/\_)↔_;rw[Bn];cases e:a.1.lookup y with
  |none=>exact ⟨λ f=>by refine b4 f λ l h Z=>?_;exact (nomatch h),λ h=>h.elim (λ b=>by refine b4 b λ l h Z=>?_;exact (nomatch h)) λ c=>by refine Jd c λ Z Z Z l h=>?_;exact (nomatch h)⟩
  |some r=>
   show (∃l,ah (if y=x then fQ r n else r)=ah l/\_)↔_;by_cases q:y=x
   ·rw[if_pos q];constructor
    ·intro i;refine b4 i λ l d g=>?_;cases d;exact (kK.mp g).elim (λ k=>.inl ⟨r,rfl,k⟩) λ k=>.inr ⟨h,q,k,r,rfl⟩
    ·rintro (⟨l,d,g⟩|⟨_,_,k,_⟩)
     ·cases d;exact ⟨_,rfl,kK.mpr (.inl g)⟩
     ·exact ⟨_,rfl,kK.mpr (.inr k)⟩
   ·rw[if_neg q];exact ⟨.inl,λ h=>h.elim id λ h=>absurd h.2.1 q⟩
noncomputable def xX(a b:g0):Prop:=(∀x,Em a x->Em b x)/\(∀t x,xV a t x->xV b t x)/\(a.1.map (·.1)=b.1.map (·.1)/\a.2.map (·.1)=b.2.map (·.1))
theorem xX.refl(a:g0):xX a a:=⟨λ Z h=>h,λ Z Z h=>h,rfl,rfl⟩
theorem xX.trans{a b c:g0}(h:xX a b)(k:xX b c):xX a c:=⟨λ x q=>k.1 x (h.1 x q),λ t x q=>k.2.1 t x (h.2.1 t x q),h.2.2.1.trans k.2.2.1,h.2.2.2.trans k.2.2.2⟩
theorem xj(x n:Str)(a:g0):xX a (p6 x a n):=by
 refine ⟨λ y h=>xk.mpr (.inl h),λ t y h=>xi.mpr (.inl h),?_,?_⟩
 ·unfold p6;split
  ·rfl
  ·exact (qF ..).symm
 ·unfold p6;split
  ·exact (tm ..).symm
  ·rfl
theorem tS(x:Str):∀(l:List Str) (a:g0),xX a (l.foldl (p6 x) a):=by
 intro l;induction l with
 |nil=>intro a;exact .refl a
 |cons n l b=>intro a;exact (xj x n a).trans (b _)
theorem tT(a:g0)(p:Pr):xX a (el a p):=tS p.1 _ a
theorem qU:∀(l:List Pr) (a:g0),xX a (l.foldl el a):=by
 intro l;induction l with
 |nil=>intro a;exact .refl a
 |cons p l b=>intro a;exact (tT a p).trans (b _)
theorem rp{l:List (Str×β)}:(∃v,l.lookup x=ah v)↔x∈l.map (·.1):=by
 constructor
 ·intro d;refine ze d λ v h=>?_;refine g_ (bM.mp h) λ a b e Z=>?_;rw[e];simp
 ·intro h;cases e:l.lookup x with
  |some v=>exact ⟨v,rfl⟩
  |none=>refine b4 (aC.mp h) λ p f c=>?_;subst c;have:=dG.mp e p f;rw[bne_self_eq_false]at this;exact nomatch this
noncomputable def uJ(ls:List Str)(a:g0):Prop:=a.1.map (·.1)=ls/\a.2.map (·.1)=ls
theorem uJ.mono{a b:g0}(h:uJ ls a)(k:xX a b):uJ ls b:=⟨k.2.2.1.symm.trans h.1,k.2.2.2.symm.trans h.2⟩
theorem uJ.st{a:g0}(h:uJ ls a){x:Str}:(∃l,a.1.lookup x=ah l)↔x∈ls:=by (refine rp.trans ?_;rw[h.1])
theorem uJ.em{a:g0}(h:uJ ls a){x:Str}:(∃l,a.2.lookup x=ah l)↔x∈ls:=by (refine rp.trans ?_;rw[h.2])
theorem uJ.no{a:g0}(h:uJ ls a){x:Str}(q:x∉ls):a.1.lookup x=ai:=by
 cases e:a.1.lookup x with
 |none=>rfl
 |some l=>exact absurd (h.st.mp ⟨l,e⟩) q
theorem EQ(c:x∈ls):∀(l:List Str) {a:g0},uJ ls a->("":Str)∈l->Em (l.foldl (p6 x) a) x:=by
 intro l;induction l with
 |nil=>intros;first|contradiction|exact absurd ‹_<_› (c6 _)
 |cons n l b=>
  intro a hk h;rcases aI.mp h with e|h
  ·exact (tS x l _).1 x (xk.mpr (.inr ⟨e.symm,rfl,hk.em.mpr c⟩))
  ·exact b (hk.mono (xj x n a)) h
theorem EP(d:x∈ls)(c:t≠""):∀(l:List Str) {a:g0},uJ ls a->t∈l->xV (l.foldl (p6 x) a) t x:=by
 intro l;induction l with
 |nil=>intros;first|contradiction|exact absurd ‹_<_› (c6 _)
 |cons n l b=>
  intro a hk h;rcases aI.mp h with e|h
  ·exact (tS x l _).2.1 t x (xi.mpr (.inr ⟨e▸c,rfl,e,hk.st.mpr d⟩))
  ·exact b (hk.mono (xj x n a)) h
theorem zz(N:Str->Prop)(B:Str->Str->Prop):∀(l:List Str) {a:g0},(∀y,Em a y->N y)->(∀t y,xV a t y->B t y)->(("":Str)∈l->N x)->(∀t∈l,t≠""->B t x)->(∀y,Em (l.foldl (p6 x) a) y->N y)/\∀t y,xV (l.foldl (p6 x) a) t y->B t y:=by
 intro l;induction l with
 |nil=>intro a d b Z Z;exact ⟨d,b⟩
 |cons n l m=>intro a d b i j;exact m (λ y h=>(xk.mp h).elim (d y) λ f=>by refine jw f λ e g Z=>?_;exact g▸i (e▸.head _)) (λ t y h=>(xi.mp h).elim (b t y) λ c=>by refine wR c λ e g k Z=>?_;exact g▸k▸j n (.head _) e) (λ h=>i (.tail _ h)) λ t h=>j t (.tail _ h)
theorem Dp{a b:g0}(h:xX a b)(ka:uJ ls a){t:Str}:∀{l:List Str},yZ a t l->yZ b t l:=by
 intro l;induction l with
 |nil=>intros;first|contradiction|exact absurd ‹_<_› (c6 _)
 |cons x l j=>
  intro q;have kb:=ka.mono h;cases e:a.1.lookup x with
  |none=>rw[kI e]at q;rw[kI (kb.no (λ i=>by refine ze (ka.st.mpr i) λ v f=>?_;rw[e]at f;exact nomatch f))];exact q
  |some r=>
   rw[iT e]at q;refine ze (kb.st.mpr (ka.st.mp ⟨r,e⟩)) λ m d=>?_;rw[iT d];rcases q with q|⟨q1,k⟩
   ·refine b4 (h.2.1 t x ⟨r,e,q⟩) λ l' c g=>?_;rw[d]at c;cases c;exact .inl g
   ·exact .inr ⟨h.1 x q1,j k⟩
theorem Ao{a b:g0}(h:xX a b)(ka:uJ ls a){l:List Str}(q:xZ a l):xZ b l:=λ x c=>⟨(ka.mono h).st.mpr (ka.st.mp (q x c).1),h.1 x (q x c).2⟩
noncomputable def I8(ps:List Pr)(t:Str)(a:g0):Prop:=∀p∈ps,(xZ a p.2->Em a p.1)/\(yZ a t p.2->xV a t p.1)
theorem zw(c:∀p∈ps,p.1∈ls){t:Str}(g:t≠""):∀(l:List Pr) {a:g0},(∀p∈l,p∈ps)->uJ ls a->∀p∈l,(xZ a p.2->Em (l.foldl el a) p.1)/\(yZ a t p.2->xV (l.foldl el a) t p.1):=by
 intro l;induction l with
 |nil=>intros;first|contradiction|exact absurd ‹_<_› (c6 _)
 |cons q l f=>
  intro a d hk p b;rcases aI.mp b with rfl|b
  ·have L:=qU l (el a p);have e:=c p (d p (.head _));refine ⟨λ h=>L.1 _ (EQ e _ hk ((kH _ _).mpr (.inr (.inr ⟨h,rfl⟩)))),λ h=>L.2.1 _ _ (EP e g _ hk ((kH _ _).mpr (.inr (.inl h))))⟩
  ·have L:=tT a q;have:=f (λ p b=>d p (.tail _ b)) (hk.mono L) p b;exact ⟨λ h=>this.1 (Ao L hk h),λ h=>this.2 (Dp L hk h)⟩
noncomputable def NP(a:g0)(x:Str):Bool:=a.2.lookup x==ah aj
noncomputable def F3(a:g0)(t x:Str):Bool:=(a.1.lookup x).any λ l=>l.contains t
theorem mr{a:g0}:NP a x=aj↔Em a x:=by dsimp only[NP,Em];exact beq_iff_eq
theorem md{a:g0}:F3 a t x=aj↔xV a t x:=by
 dsimp only[F3,xV];cases e:a.1.lookup x with
 |none=>exact ⟨λ h=>(nomatch h),λ c=>by refine b4 c λ l h Z=>?_;exact (nomatch h)⟩
 |some l=>show l.contains t=aj↔_;refine x5.trans ?_;exact ⟨λ h=>⟨l,rfl,h⟩,λ b=>by refine b4 b λ Z h k=>?_;exact by cases h;exact k⟩
noncomputable def Fy(ls:List Str)(t:Str)(a:g0):Nat:=ls.countP (NP a)+ls.countP (F3 a t)
theorem wc{P Q:α->Bool}:∀{l:List α},(∀x∈l,P x=aj->Q x=aj)->l.countP Q<=l.countP P->∀x∈l,Q x=aj->P x=aj:=by
 intro l;induction l with
 |nil=>intros;first|contradiction|exact absurd ‹_<_› (c6 _)
 |cons y l c=>
  intro h k x a b;simp only[lz,lz]at k;rcases aI.mp a with rfl|a
  ·cases e:P x with
   |true=>rfl
   |false=>rw[e,b,if_neg df]at k;exact absurd (aH (dc (mD λ z hz=>h z (.tail _ hz))) k) (bA _)
  ·refine c (λ z hz=>h z (.tail _ hz)) ?_ x a b;cases e:P y with
   |true=>rw[e,(h y (.head _)) e]at k;exact Nat.le_of_add_le_add_right k
   |false=>rw[e]at k;exact aA (b0 _ _) k
theorem I8.Tx(b:∀p∈ps,p.1∈ls){t:Str}(f:t≠""){a:g0}(hk:uJ ls a)(h:Fy ls t (oM ps a)<=Fy ls t a):I8 ps t a:=by have L:xX a (oM ps a):=qU ps a;unfold Fy at h;intro p c;have e:=b p c;have d:=zw b f ps (λ Z h=>h) hk p c;refine ⟨λ q=>mr.mp (wc (Q:=NP (oM ps a)) (λ x Z h=>mr.mpr (L.1 x (mr.mp h))) (O7 h (mD λ x Z h=>md.mpr (L.2.1 t x (md.mp h)))) p.1 e (mr.mpr (d.1 q))),λ q=>md.mp (wc (Q:=F3 (oM ps a) t) (λ x Z h=>md.mpr (L.2.1 t x (md.mp h))) (O6 h (mD λ x Z h=>mr.mpr (L.1 x (mr.mp h)))) p.1 e (md.mpr (d.2 q)))⟩
theorem tf(ps:List Pr):∀n,uJ (ba ps) (f3 ps n):=λ n=>⟨(ie.rounds ps n).ks,(ie.rounds ps n).ke⟩
theorem sX(ps:List Pr){n m:Nat}(h:n<=m):xX (f3 ps n) (f3 ps m):=by
 induction h with
 |refl=>exact .refl _
 |step _ a=>exact a.trans (qU ps _)
theorem iE(e:t≠""){N:Nat}(f:2*(ba ps).length<=N):∃n,n<=N/\I8 ps t (f3 ps n):=by
 refine Classical.byContradiction λ g=>?_;have a:∀n,n<=N+1->n<=Fy (ba ps) t (f3 ps n):=λ n=>by
  induction n with
  |zero=>intro _;exact bg _
  |succ n d=>intro b;refine eb λ h=>g ⟨n,Nat.le_of_succ_le_succ b,I8.Tx (λ p c=>gn.mpr ⟨p,c,rfl⟩) e (tf ps n) (aA h (d (iC b)))⟩
 exact (O5 f (a (N+1) (aT _)) (gx mE mE)).elim
theorem dw.Ri(F:dw ps){p:Pr}(d:p∈ps):∃n,n+1<(bW ps).rules.length/\(dK ps).getD (n+1) ("",[])=p/\(bW ps).left (n+1)=ix (bW ps) p.1/\(bW ps).right (n+1)=p.2.map (ix (bW ps)):=by
 refine Eb (dF.mp d) λ n c e=>?_;have a:(dK ps).getD (n+1) ("",[])=p:=(e4 c _).trans e;have b:n+1<(dK ps).length:=lD c;refine ⟨n,by simp only[ec];exact b,a,?_,?_⟩
 ·refine ((F.rule _).2 b).trans ?_;rw[a]
 ·refine ((F.rule _).1).trans ?_;rw[show d5 (dK ps) (n+1)=p.2 from congrArg Prod.snd a]
theorem wB{n:Nat}(h:n+1<(dK ps).length):(dK ps).getD (n+1) ("",[])∈ps:=bd (eQ h) _
theorem dw.RS(F:dw ps){x:Str}(h:x∈fJ ps):x∉ba ps:=λ k=>by have nd:=F.RH;rw[ft,aV]at nd;exact nd.2.2 _ h _ (.tail _ k) rfl
theorem dw.R9(F:dw ps){x:Str}(h:x∈fJ ps):x≠"":=λ e=>by
 have:("":Str)∉iM++gB:=by decide+kernel
 exact this (e▸(F.Sy x h).elim (λ h=>aJ _ h) λ h=>ax _ h)
noncomputable def Sym(ps:List Pr)(x:Str):Prop:=x∈fJ ps\/x∈ba ps
theorem Sym.mem(h:Sym ps x):x∈cc ps:=h.elim iw fD
structure rS(ps:List Pr)(a:g0):Prop where
 k:uJ (ba ps) a
 n:∀y,Em a y->R6 (bW ps) (ix (bW ps) y)
 b:∀t y,xV a t y->t∈fJ ps/\xY (bW ps) (ix (bW ps) t) (ix (bW ps) y)
theorem rS.Vq{a:g0}(S:rS ps a){t:Str}:∀{l:List Str},(∀x∈l,Sym ps x)->yZ a t l->t∈fJ ps/\DA (bW ps) (ix (bW ps) t) (l.map (ix (bW ps))):=by
 intro l;induction l with
 |nil=>exact λ Z q=>q.elim
 |cons x l g=>
  intro h q;have f:=h x (.head _);cases e:a.1.lookup x with
  |none=>
   rw[kI e]at q;subst q;have b:=f.resolve_right λ k=>by refine ze (S.k.st.mpr k) λ v c=>?_;rw[e]at c;exact nomatch c
   exact ⟨b,j1.cons.mpr (.inl (.term (tg.mp b)))⟩
  |some r=>
   rw[iT e]at q;rcases q with q|⟨q1,i⟩
   ·have:=S.b t x ⟨r,e,q⟩;exact ⟨this.1,j1.cons.mpr (.inl this.2)⟩
   ·have:=g (λ y d=>h y (.tail _ d)) i;exact ⟨this.1,j1.cons.mpr (.inr ⟨S.n x q1,this.2⟩)⟩
theorem rS.pair(F:dw ps){a:g0}(S:rS ps a){p:Pr}(i:p∈ps):rS ps (el a p):=by
 refine kS (F.Ri i) λ n l Z j k=>?_;have f:∀x∈p.2,Sym ps x:=λ x q=>F.Ro i q;have d:=zz (x:=p.1) (λ y=>R6 (bW ps) (ix (bW ps) y)) (λ t y=>t∈fJ ps/\xY (bW ps) (ix (bW ps) t) (ix (bW ps) y)) (d_ a.1 a.2 "" [] p.2) S.n S.b (λ h=>?_) λ t h o=>?_
 ·exact ⟨S.k.mono (tT a p),d.1,d.2⟩
 ·rcases (kH p.2 []).mp h with h|h|h
  ·cases h
  ·exact absurd rfl (F.R9 (S.Vq f h).1)
  ·have:=R6.rule l (by rw[k];intro s f;refine b4 (aC.mp f) λ y m g=>?_;subst g;exact S.n y (h.1 y m).2);simp only[j]at this;exact this
 ·rcases (kH p.2 []).mp h with h|h|h
  ·cases h
  ·refine AZ (S.Vq f h) λ r c s b e q1 u=>?_;have:=xY.rule l (k.trans e) q1 u;simp only[j]at this;exact ⟨r,this⟩
  ·exact absurd h.2 o
theorem rS.round(F:dw ps):∀(l:List Pr) {a:g0},rS ps a->(∀p∈l,p∈ps)->rS ps (l.foldl el a):=by
 intro l;induction l with
 |nil=>intro Z S Z;exact S
 |cons p l c=>intro Z S h;exact c (S.pair F (h p (.head _))) λ q b=>h q (.tail _ b)
theorem dw.snd(F:dw ps):∀n,rS ps (f3 ps n):=by
 intro n;induction n with
 |zero=>
  have d:∀{β:Type} (v:β) (y:Str) (w:β),((ba ps).map λ x=>(x,v)).lookup y=ah w->w=v:=λ v y w h=>by refine g_ (bM.mp h) λ a b e Z=>?_;refine b4 (aC.mp (show (y,w)∈(ba ps).map λ x=>(x,v)from by rw[e];simp)) λ x Z e=>?_;cases e;rfl
  exact ⟨tf ps 0,λ y h=>(nomatch d ao y aj h),λ t y c=>by refine b4 c λ l h k=>?_;exact by rw[d [] y l h]at k;exact nomatch k⟩
 |succ n f=>exact rS.round F ps f λ Z h=>h
theorem dw.fin(F:dw ps):rS ps (dt ps):=F.snd _
theorem dw.Su(F:dw ps){a:g0}(hk:uJ (ba ps) a){t:Str}(C:I8 ps t a){n:Nat}(h:R6 (bW ps) n):∀x,Sym ps x->ix (bW ps) x=n->x∈ba ps/\Em a x:=by
 induction h with
 |@rule r c k g=>
  intro x j e;simp only[ec]at c;cases r with
  |zero=>have i:(0:Nat)∈(bW ps).right 0:=.tail _ (.head _);exact absurd (g 0 i hY (.inl ((gV ps).mpr (.inl (.head _)))) Cu).1 (F.RS ((gV ps).mpr (.inl (.head _))))
  |succ m=>simp only[(F.rule (m+1)).2 c]at e;have b:=wB c;have d:=gn.mpr ⟨_,b,rfl⟩;have e:=oS j.mem (fD d) e;subst e;refine ⟨d,(C _ b).1 λ y f=>?_⟩;have:=g (ix (bW ps) y) (by rw[(F.rule (m+1)).1];exact bp f) y (F.Ro b f) rfl;exact ⟨hk.st.mpr this.1,this.2⟩
theorem dw.Tb(F:dw ps){a:g0}(hk:uJ (ba ps) a){t:Str}(E:t∈fJ ps)(C:I8 ps t a){u n:Nat}(J:ix (bW ps) t=u)(h:xY (bW ps) u n):∀x,Sym ps x->ix (bW ps) x=n->(x∈ba ps->xV a t x)/\(x∈fJ ps->t=x):=by
 induction h with
 |term _=>intro x f e;have e:=oS f.mem (iw E) (e.trans J.symm);subst e;exact ⟨λ k=>absurd k (F.RS E),λ Z=>rfl⟩
 |@rule r s c b p g H _ K=>
  intro x f e;rw[ec]at p;cases r with
  |zero=>simp only[(F.rule 0).2 p]at e;have e:ix (bW ps) x=ix (bW ps) li:=e;have e:=oS f.mem ((bz ft)▸ax _ (.head _)) e;subst e;exact absurd f (by exact λ h=>(show li∉iM++gB++eN by decide+kernel) (h.elim (λ h=>aJ _ ((F.Sy _ h).elim (λ h=>aJ _ h) λ h=>ax _ h)) λ h=>ax _ (F.RI _ h)))
  |succ m=>
   simp only[(F.rule (m+1)).2 p]at e;have o:=wB p;have D:=gn.mpr ⟨_,o,rfl⟩;have e:=oS f.mem (fD D) e;subst e;refine ⟨λ Z=>(C _ o).2 ?_,λ k=>absurd D (F.RS k)⟩;rw[(F.rule (m+1)).1]at g;have d:∀y∈d5 (dK ps) (m+1),Sym ps y:=λ y i=>F.Ro o i;show yZ a t (d5 (dK ps) (m+1));generalize d5 (dK ps) (m+1)=l at g d;clear o D f;induction l generalizing c with
   |nil=>cases c<;>cases g
   |cons y l A=>
    have i:=d y (.head _);cases c with
    |nil=>
     injection g with e1 e2
     have:=K y i e1;cases e:a.1.lookup y with
     |none=>exact (kI e).mpr (this.2 (i.resolve_right λ k=>by refine ze (hk.st.mpr k) λ v q=>?_;rw[e]at q;exact nomatch q))
     |some v=>refine b4 (this.1 (hk.st.mp ⟨v,e⟩)) λ L G I=>?_;rw[e]at G;cases G;exact (iT e).mpr (.inl I)
    |cons z c=>
     injection g with e1 e2
     have j:=F.Su hk C (H z (.head _)) y i e1;refine ze (hk.st.mpr j.1) λ v q=>?_;exact (iT q).mpr (.inr ⟨j.2,A (λ w B=>H w (.tail _ B)) e2 λ w B=>d w (.tail _ B)⟩)
theorem dw.TQ(F:dw ps){x:Str}(a:Sym ps x):Em (dt ps) x↔R6 (bW ps) (ix (bW ps) x):=by refine ⟨F.fin.n x,λ h=>?_⟩;refine b4 (iE (ps:=ps) (t:=hY) (by decide+kernel) F.l2) λ n b C=>?_;exact (sX ps b).1 x (F.Su (tf ps n) C h x a rfl).2
theorem dw.UN(F:dw ps){x t:Str}(b:x∈ba ps)(a:t∈fJ ps):xV (dt ps) t x↔xY (bW ps) (ix (bW ps) t) (ix (bW ps) x):=by refine ⟨λ h=>(F.fin.b t x h).2,λ h=>?_⟩;refine b4 (iE (ps:=ps) (F.R9 a) F.l2) λ n c C=>?_;exact (sX ps c).2.1 t x ((F.Tb (tf ps n) a C rfl h x (.inr b) rfl).1 b)
theorem dw.R1(F:dw ps){x:Str}(a:Sym ps x)(h:R6 (bW ps) (ix (bW ps) x)):x∈ba ps:=by refine b4 (iE (ps:=ps) (t:=hY) (by decide+kernel) F.l2) λ n b C=>?_;exact (F.Su (tf ps n) C h x a rfl).1
theorem dw.Q_(F:dw ps){a ahead:Str}{l:List Str}(c:∀x∈l,Sym ps x):a∈d_ (dt ps).1 (dt ps).2 ahead [] l↔(a∈fJ ps/\DA (bW ps) (ix (bW ps) a) (l.map (ix (bW ps))))\/((∀n∈l.map (ix (bW ps)),R6 (bW ps) n)/\a=ahead):=by
 rw[kH];have hk:=F.fin.k;constructor
 ·rintro (h|h|h)
  ·exact nomatch h
  ·exact .inl (F.fin.Vq c h)
  ·exact .inr ⟨λ n j=>by refine b4 (aC.mp j) λ y b g=>?_;subst g;exact F.fin.n y (h.1 y b).2,h.2⟩
 ·rintro (⟨ht,h⟩|⟨h,e⟩)
  ·refine .inr (.inl ?_);induction l with
   |nil=>exact absurd h j1.nil
   |cons y l p=>
    have b:=c y (.head _);skip;rcases j1.cons.mp h with h|⟨d,f⟩
    ·by_cases k:y∈ba ps
     ·refine b4 ((F.UN k ht).mpr h) λ v d f=>?_;exact (iT d).mpr (.inl f)
     ·refine b4 (iE (ps:=ps) (F.R9 ht) F.l2) λ n j C=>?_;exact (kI (hk.no k)).mpr ((F.Tb (tf ps n) ht C rfl h y b rfl).2 (b.resolve_right k))
    ·refine ze (hk.st.mpr (F.R1 b d)) λ v o=>?_;exact (iT o).mpr (.inr ⟨(F.TQ b).mpr d,p (λ w m=>c w (.tail _ m)) f⟩)
  ·refine .inr (.inr ⟨λ x i=>?_,e⟩);have:=h _ (bp i);exact ⟨hk.st.mpr (F.R1 (c x i) this),(F.TQ (c x i)).mpr this⟩
theorem dw.SV(F:dw ps)(ahead:Str):∀{l:List Str},(∀x∈l,Sym ps x)->∃c,c∈d_ (dt ps).1 (dt ps).2 ahead [] l:=by
 intro l;induction l with
 |nil=>exact λ Z=>⟨ahead,.head _⟩
 |cons y l C=>
  intro h;have v:=h y (.head _);by_cases k:y∈ba ps
  ·refine ew (F.pd y k) λ p o e B=>?_;refine kS (F.Ri o) λ n d Z j q=>?_;simp only[e]at j;cases i:p.2 with
   |nil=>
    have g:R6 (bW ps) (ix (bW ps) y):=j▸R6.rule d (by rw[q,i];intro s A;exact nomatch A);refine ze (C λ x f=>h x (.tail _ f)) λ c u=>?_;refine ⟨c,(F.Q_ h).mpr ?_⟩;rcases (F.Q_ λ x f=>h x (.tail _ f)).mp u with ⟨a,b⟩|⟨a,b⟩
    ·exact .inl ⟨a,j1.cons.mpr (.inr ⟨g,b⟩)⟩
    ·refine .inr ⟨λ n d=>?_,b⟩;rcases aI.mp d with e|d
     ·exact e▸g
     ·exact a n d
   |cons z r=>
    have m:z∈gB:=B z ((bz i)▸.head _);have hz:z∈fJ ps:=(F.Ro o ((bz i)▸.head _)).resolve_right λ k=>by
     have:∀w∈gB,w∉eN:=by decide+kernel
     exact this z m (F.RI z k)
    refine ⟨z,(F.Q_ h).mpr (.inl ⟨hz,j1.cons.mpr (.inl ?_)⟩)⟩;have:=xY.rule (t:=ix (bW ps) z) (a:=[]) (s:=ix (bW ps) z) (b:=r.map (ix (bW ps))) d (by (refine q.trans ?_;rw[i]);rfl) (λ x f=>(nomatch f)) (.term (tg.mp hz));simp only[j]at this;exact this
  ·have hz:=v.resolve_right k;exact ⟨y,(F.Q_ h).mpr (.inl ⟨hz,j1.cons.mpr (.inl (.term (tg.mp hz)))⟩)⟩
noncomputable def AH:List Str:=hY::gB
noncomputable abbrev bx(ps:List Pr):List (Str×List Str):=(dt ps).1
noncomputable abbrev DJ(ps:List Pr):List (Str×Bool):=(dt ps).2
structure Ry(ps:List Pr)(t:Tr):Prop where
 r:t.1<(dK ps).length
 d:t.2.1<=(d5 (dK ps) t.1).length
 z:t.1=0->t.2.2=""
 l:0<t.1->t.2.2∈fJ ps/\t.2.2∈AH
structure uL(ps:List Pr)(l:List Tr)(es:List (Nat×Nat)):Prop where
 nd:(es.map (·.1)).Nodup
 it:∀i,i∈es.map (·.1)↔i<(bW ps).owners.length/\∃x,((bW ps).Q3 i,(bW ps).Q7 i,x)∈l
 lt:∀p∈es,p.2<2^(bW ps).tc
 bit:∀p∈es,∀x∈fJ ps,p.2.testBit (ix (bW ps) x)=aj↔((bW ps).Q3 p.1,(bW ps).Q7 p.1,x)∈l
theorem uL.ok{l:List Tr}{es:List (Nat×Nat)}(I:uL ps l es):gq (bW ps) es:=⟨I.nd,λ p a=>⟨((I.it p.1).mp (bp a)).1,I.lt p a⟩⟩
theorem mQ{t:Tr}(G:Ry ps t)(F:dw ps):lB (bW ps) t<(bW ps).owners.length/\(bW ps).Q3 (lB (bW ps) t)=t.1/\(bW ps).Q7 (lB (bW ps) t)=t.2.1:=
 (bW ps).at (by simp only[ec];exact G.r) (by rw[(F.rule _).1,au];exact G.d)
theorem gp(h:i<(bW ps).owners.length)(x:Str):lB (bW ps) ((bW ps).Q3 i,(bW ps).Q7 i,x)=i:=by have a:=(bW ps).item_at h;show (bW ps).off ((bW ps).Q3 i)+(i-(bW ps).off ((bW ps).Q3 i))=i;exact O4 a.2.1
theorem dw.sym(F:dw ps)(n:Nat):∀x∈d5 (dK ps) n,Sym ps x:=F.SY n
theorem tR{t:Tr}(G:Ry ps t)(F:dw ps):(bW ps).rest (lB (bW ps) t)=((d5 (dK ps) t.1).drop (t.2.1+1)).map (ix (bW ps)):=by have a:=mQ G F;unfold Gr.rest;simp only[a.2.1,a.2.2,(F.rule _).1,om]
theorem lZ{t:Tr}(G:Ry ps t)(F:dw ps):(bW ps).after (lB (bW ps) t)=if t.2.1<(d5 (dK ps) t.1).length then ((oF (bW ps) (dK ps) t:Nat):Int)else -1:=by
 have a:=mQ G F;unfold Gr.after;rw[a.2.1,a.2.2,(F.rule _).1,au];by_cases h:t.2.1<(d5 (dK ps) t.1).length
 ·rw[if_pos h,if_pos h,e4 (by simp only[au];exact h),bU];unfold oF;simp only[e4 h]
 ·refine (if_neg h).trans ?_;rw[if_neg h]
theorem Dq(F:dw ps){n m:Nat}{a ahead:Str}(h:a∈d_ (bx ps) (DJ ps) ahead [] ((d5 (dK ps) n).drop m)):a∈fJ ps/\a∈AH\/a=ahead:=by
 rcases (F.Q_ (λ x j=>F.sym n x (cz j))).mp h with ⟨c,_⟩|⟨_,d⟩
 ·rcases Q_ _ _ h with b|b|b|⟨p,i,b⟩
  ·cases b
  ·exact .inr b
  ·refine .inl ⟨c,?_⟩;have b:=cz b;cases n with
   |zero=>
    have b:a∈(["s",hY]:List Str):=b;rcases aI.mp b with e|e
    ·exact absurd c (by rw[e];exact λ h=>F.RS h (aX F.hd))
    ·rw[aE.mp e];exact .head _
   |succ n=>
    by_cases k:n<ps.length
    ·exact .tail _ ((F.rt _ (bd k ("",[])) a b).resolve_right (F.RS c))
    ·have b:a∈(ps.getD n ("",[])).2:=b;rw[aD,bl (bR.mp ‹_›)]at b;exact nomatch b
  ·refine .inl ⟨c,?_⟩;obtain ⟨q,f,g⟩:=bT.mp (((ie.rounds ps (ps.length+1)).row p i).2 a b);exact .tail _ ((F.rt q f a g).resolve_right (F.RS c))
 ·exact .inr d
theorem qh{t:Tr}(G:Ry ps t)(F:dw ps){r:Nat}:(bW ps).calls (lB (bW ps) t) r↔t.2.1<(d5 (dK ps) t.1).length/\1<=r/\r<(dK ps).length/\((dK ps).getD r ("",[])).1=(d5 (dK ps) t.1).getD t.2.1 "":=by
 dsimp only[Gr.calls];rw[ec,lZ G F];constructor
 ·intro c;refine za c λ a h=>?_;by_cases hd:t.2.1<(d5 (dK ps) t.1).length
  ·rw[if_pos hd,(F.rule r).2 a]at h;have d:=F.sym t.1 _ (bd hd "");have e:=oS (F.TZ a) d.mem (nC.inj h).symm;refine ⟨hd,cw λ e0=>?_,a,e⟩;subst e0;have:Sym ps li:=(show li=_ from e)▸d;have f:li∉iM++gB++eN:=by decide+kernel
   exact f (this.elim (λ h=>aJ _ ((F.Sy _ h).elim (λ h=>aJ _ h) λ h=>ax _ h)) λ h=>ax _ (F.RI _ h))
  ·rw[if_neg hd]at h;exact nomatch h
 ·intro b;refine wR b λ hd Z a e=>?_;refine ⟨a,?_⟩;refine (if_pos hd).trans ?_;rw[(F.rule r).2 a,e];rfl
theorem rj{r:Nat}(a:1<=r)(b:r<(dK ps).length):((dK ps).getD r ("",[])).1∈ba ps:=by
 cases r with
 |zero=>cases a
 |succ r=>exact gn.mpr ⟨_,wB b,rfl⟩
theorem km:(bx ps).map (·.1)=ba ps:=(ie.rounds ps _).ks
theorem dw.Uv(F:dw ps){d:Nat}(hd:d<(d5 (dK ps) 0).length)(a:(d5 (dK ps) 0).getD d ""∈(bx ps).map (·.1))(h:∀m∈((d5 (dK ps) 0).drop (d+1)).map (ix (bW ps)),R6 (bW ps) m):False:=by
 have e:hY∈fJ ps:=(gV ps).mpr (.inl (.head _));cases d with
 |zero=>exact F.RS e (F.R1 (.inl e) (h (ix (bW ps) hY) (.head _)))
 |succ d=>
  cases d with
  |zero=>rw[km]at a;exact F.RS e a
  |succ d=>exact absurd hd (bR.mpr (bJ 2 d))
theorem k_(F:dw ps){k:eZ}(D:∀t∈K,Ry ps t)(I:uL ps K k){t:Tr}(h:LC (dK ps) (bx ps) (DJ ps) K t):Ry ps t/\lC (bW ps) k (lB (bW ps) t)/\(0<t.1->jy (bW ps) k (ix (bW ps) t.2.2) (lB (bW ps) t)):=by
 induction h with
 |@base t v=>have G:=D t v;refine jw (mQ G F) λ j l B=>?_;have hi:lB (bW ps) t∈k.map (·.1):=(I.it _).mpr ⟨j,t.2.2,by rw[l,B];exact v⟩;refine ⟨G,.base hi,λ g=>?_⟩;refine b4 (aC.mp hi) λ p z e=>?_;simp only[<-e];exact .base z ((I.bit p z t.2.2 (G.l g).1).mpr (by simp only[e,l,B];exact v))
 |@step n d o a b N hd M f s u J L=>
  refine jw L λ G A C=>?_;have y:=(qh G F (r:=o)).mpr ⟨hd,s,u,J⟩;have hz:lB (bW ps) (o,0,b)=(bW ps).off o:=rfl;have E:∀x∈(d5 (dK ps) n).drop (d+1),Sym ps x:=λ x H=>F.sym n x (cz H);have c:=tR G F;have w:(∀m∈((d5 (dK ps) n).drop (d+1)).map (ix (bW ps)),R6 (bW ps) m)->n≠0:=λ h e=>by subst e;exact F.Uv hd M h
  have i:b∈fJ ps/\b∈AH/\jy (bW ps) k (ix (bW ps) b) ((bW ps).off o):=by
   rcases (F.Q_ E).mp f with ⟨j,l⟩|⟨j,l⟩
   ·refine ⟨j,?_,.first A y (by simp only[c];exact l)⟩;rcases Dq F f with q|q
    ·exact q.2
    ·by_cases g:n=0
     ·have:=G.z g;exact absurd (q.trans this) (F.R9 j)
     ·exact q▸(G.l (cw g)).2
   ·have g:=cw (w j);rw[l];exact ⟨(G.l g).1,(G.l g).2,.pass (C g) y ((bz c)▸j)⟩
  exact ⟨⟨u,bg _,λ e=>absurd s (by rw[show o=0 from e];decide),λ Z=>⟨i.1,i.2.1⟩⟩,hz▸.step A y,λ Z=>hz▸i.2.2⟩
theorem v0(F:dw ps){k:eZ}(q:∀t∈K,Ry ps t)(I:uL ps K k){i:Nat}(h:lC (bW ps) k i):∃x,LC (dK ps) (bx ps) (DJ ps) K ((bW ps).Q3 i,(bW ps).Q7 i,x):=by
 induction h with
 |base hi=>obtain ⟨_,x,e⟩:=(I.it _).mp hi;exact ⟨x,.base e⟩
 |@step j r o l p=>obtain ⟨a,g⟩:=p;have G:=(k_ F q I g).1;rw[<-gp (o.lt I.ok) a]at l;have b:=(qh G F).mp l;obtain ⟨c,n⟩:=F.SV a (λ x e=>F.sym _ x (cz e));obtain ⟨_,f,m⟩:=(bW ps).at (r:=r) (d:=0) (by simp only[ec];exact b.2.2.1) (bg _);simp only[jz]at f m;simp only[f,m];exact ⟨c,.step g b.1 (by simp only[km,<-b.2.2.2];exact rj b.2.1 b.2.2.1) n b.2.1 b.2.2.1 b.2.2.2⟩
theorem Fa(F:dw ps){k:eZ}(q:∀t∈K,Ry ps t)(I:uL ps K k){x:Str}(f:x∈fJ ps){i:Nat}(h:jy (bW ps) k (ix (bW ps) x) i):LC (dK ps) (bx ps) (DJ ps) K ((bW ps).Q3 i,(bW ps).Q7 i,x):=by
 induction h with
 |base A w=>exact .base ((I.bit _ A x f).mp w)
 |@first j r p n v=>refine ze (v0 F q I p) λ a u=>?_;have G:=(k_ F q I u).1;have c:=p.lt I.ok;have b:=tR G F;simp only[gp c a]at b;rw[<-gp c a]at n;refine wR ((qh G F).mp n) λ hd m e l=>?_;refine jw ((bW ps).at (r:=r) (d:=0) (by simp only[ec];exact e) (bg _)) λ Z g o=>?_;simp only[jz]at g o;simp only[g,o];exact .step u hd (by simp only[km,<-l];exact rj m e) ((F.Q_ (λ x f=>F.sym _ x (cz f))).mpr (.inl ⟨f,b▸v⟩)) m e l
 |@pass j r p n z s=>have G:=(k_ F q I s).1;have c:=p.UU.lt I.ok;have b:=tR G F;rw[gp c x]at b;rw[<-gp c x]at n;refine wR ((qh G F).mp n) λ hd m e l=>?_;have y:∀x∈(d5 (dK ps) ((bW ps).Q3 j)).drop ((bW ps).Q7 j+1),Sym ps x:=λ x f=>F.sym _ x (cz f);refine jw ((bW ps).at (r:=r) (d:=0) (by simp only[ec];exact e) (bg _)) λ Z g o=>?_;simp only[jz]at g o;rw[g,o];exact .step s hd ((bz km)▸(l)▸rj m e) ((F.Q_ y).mpr (.inr ⟨b▸z,rfl⟩)) m e l
theorem kz(F:dw ps){l:List Tr}{k:eZ}{es:List (Nat×Nat)}(b:∀t∈K,Ry ps t)(I:uL ps K k)(C:Uu (dK ps) (bx ps) (DJ ps) K l)(E:j0 (bW ps) k es):(∀t∈l,Ry ps t)/\uL ps l es:=by
 refine ⟨(λ t f=>(k_ F b I ((C.mem t).mp f)).1),E.nd,λ i=>?_,λ p c=>by rw[E.val p c];exact oR _ _,λ p c x a=>?_⟩
 ·rw[E.keys];constructor
  ·intro h;refine ze (v0 F b I h) λ x a=>?_;exact ⟨h.lt I.ok,x,(C.mem _).mpr a⟩
  ·intro d;obtain ⟨hi,x,a⟩:=d;have:=(k_ F b I ((C.mem _).mp a)).2.1;simp only[gp hi x]at this;exact this
 ·have hi:p.1<(bW ps).owners.length:=((E.keys _).mp (bp c)).lt I.ok;rw[E.val p c,k8];constructor
  ·exact λ h=>(C.mem _).mpr (Fa F b I a h.2)
  ·intro h;have Q:=k_ F b I ((C.mem _).mp h);have g:0<(bW ps).Q3 p.1:=cw λ e=>F.R9 a (Q.1.z e);have:=Q.2.2 g;simp only[gp hi x]at this;exact ⟨tg.mp a,this⟩
theorem pg{a b:List (Nat×Nat)}(d:(a.map (·.1)).Nodup)(f:(b.map (·.1)).Nodup)(h:∀i,a.lookup i=b.lookup i):a.Perm b:=by
 have nd:∀{l:List (Nat×Nat)},(l.map (·.1)).Nodup->l.Nodup:=λ {l} h=>by rw[aO,bS]at h;exact aO.mpr (h.imp λ h e=>h (congrArg _ e))
 refine (dQ (nd d) (nd f)).mpr λ p=>⟨λ c=>?_,λ c=>?_⟩
 ·exact c5 (i:=p.1) (by rw[<-h];exact eL d c)
 ·exact c5 (i:=p.1) (by rw[h];exact eL f c)
theorem vX(g:Gr)(ms:List (Nat×Nat))(t:Tr)(i:Nat):(fu g ms t).lookup i=if i=lB g t then ah ((ms.lookup (lB g t)).getD 0|||if t.2.2="" then 0 else 2^ix g t.2.2)else ms.lookup i:=by
 unfold fu;by_cases h:t.2.2=""
 ·rw[if_pos h,cK,if_pos h,Nat.or_zero]
 ·rw[if_neg h,cK,cK,if_neg h];by_cases e:i=lB g t
  ·refine (if_pos e).trans ?_;rw[if_pos e]
  ·refine (if_neg e).trans ?_;refine (if_neg e).trans ?_;rw[if_neg e]
theorem zP(g:Gr)(i:Nat):∀(l:List Tr) (ms:List (Nat×Nat)),(∃m,(l.foldl (fu g) ms).lookup i=ah m)↔(∃m,ms.lookup i=ah m)\/∃t∈l,lB g t=i:=by
 intro l;induction l with
 |nil=>intro ms;exact ⟨.inl,λ h=>h.elim id λ b=>by refine b4 b λ Z h Z=>?_;exact (nomatch h)⟩
 |cons t l c=>
  intro ms;simp only[c3,c,vX];by_cases e:i=lB g t
  ·rw[if_pos e];exact ⟨λ Z=>.inr ⟨t,.head _,e.symm⟩,λ Z=>.inl ⟨_,rfl⟩⟩
  ·rw[if_neg e];exact ⟨λ h=>h.elim .inl λ a=>b4 a λ u h k=>.inr ⟨u,.tail _ h,k⟩,λ h=>h.elim .inl λ a=>b4 a λ u h k=>by
    rcases aI.mp h with rfl|h
    ·exact absurd k.symm e
    ·exact .inr ⟨u,h,k⟩⟩
theorem zQ(g:Gr)(i b:Nat):∀(l:List Tr) (ms:List (Nat×Nat)),(((l.foldl (fu g) ms).lookup i).getD 0).testBit b=aj↔((ms.lookup i).getD 0).testBit b=aj\/∃t∈l,lB g t=i/\t.2.2≠""/\ix g t.2.2=b:=by
 intro l;induction l with
 |nil=>intro ms;exact ⟨.inl,λ h=>h.elim id λ a=>by refine b4 a λ Z h Z=>?_;exact (nomatch h)⟩
 |cons t l d=>
  intro ms;dsimp only[c3];rw[d,vX];have c:(∃u∈t::l,lB g u=i/\u.2.2≠""/\ix g u.2.2=b)↔(lB g t=i/\t.2.2≠""/\ix g t.2.2=b)\/∃u∈l,lB g u=i/\u.2.2≠""/\ix g u.2.2=b:=by simp only[aI,exists_eq_or_imp]
  simp only[c,<-or_assoc];refine or_congr ?_ Iff.rfl;by_cases e:i=lB g t
  ·subst e;rw[if_pos rfl];show (((ms.lookup (lB g t)).getD 0)|||_).testBit b=aj↔_;rw[e5,fb];refine or_congr Iff.rfl ?_;by_cases h:t.2.2=""
   ·rw[if_pos h,eX];exact ⟨λ h=>(nomatch h),λ q=>absurd h q.2.1⟩
   ·rw[if_neg h,ju,decide_eq_true_eq];exact ⟨λ q=>⟨rfl,h,q⟩,λ q=>q.2.2⟩
  ·rw[if_neg e];exact ⟨.inl,λ h=>h.elim id λ h=>absurd h.1.symm e⟩
theorem ru(F:dw ps){l:List Tr}{es:List (Nat×Nat)}(p:∀t∈l,Ry ps t)(I:uL ps l es)(i:Nat):es.lookup i=(f4 (bW ps) l).lookup i:=by
 have hk:(∃m,es.lookup i=ah m)↔∃m,(f4 (bW ps) l).lookup i=ah m:=by
  refine eM.trans ?_;rw[I.it];unfold f4;simp only[zP];constructor
  ·intro q;refine AF q λ hi x g=>?_;exact .inr ⟨_,g,gp hi x⟩
  ·rintro (⟨m,h⟩|⟨t,c,e⟩)
   ·cases h
   ·refine jw (mQ (p t c) F) λ j d f=>?_;rw[e]at j d f;exact ⟨j,t.2.2,(bz d)▸(bz f)▸c⟩
 cases e:es.lookup i with
 |none=>
  cases n:(f4 (bW ps) l).lookup i with
  |none=>rfl
  |some m=>refine ze (hk.mpr ⟨m,n⟩) λ m' h=>?_;rw[e]at h;cases h
 |some m=>
  refine ze (hk.mp ⟨m,e⟩) λ m' n=>?_;simp only[n];have r:=c5 e;have hi:=((I.it i).mp (bp r)).1;refine congrArg ah (nx λ b=>?_);have d:=zQ (bW ps) i b l [];rw[show l.foldl (fu (bW ps)) []=f4 (bW ps) l from rfl,n]at d;rw[fc,(show m'.testBit b=aj↔∃t∈l,lB (bW ps) t=i/\t.2.2≠""/\ix (bW ps) t.2.2=b from d.trans ⟨λ h=>h.elim (λ h=>by rw[show ((([]:List (Nat×Nat)).lookup i).getD 0)=0 from rfl,eX]at h;exact nomatch h) id,.inr⟩)];by_cases k:b<(bW ps).tc
  ·have g:=Jq k;have a:=F.Uw (i:=b) (aH k F.good.V9);have j:=I.bit _ r _ g;rw[a]at j;refine j.trans ?_;constructor
   ·exact λ h=>⟨_,h,gp hi _,F.R9 g,a⟩
   ·intro o;refine kS o λ t c q1 v u=>?_;have G:=p t c;refine jw (mQ G F) λ Z f w=>?_;rw[q1]at f w;have y:0<t.1:=cw λ e=>v (G.z e);show ((bW ps).Q3 i,(bW ps).Q7 i,_)∈l;simp only[f,w,<-(oS (iw (G.l y).1) (iw g) (u.trans a.symm))];exact c
  ·constructor
   ·intro h;rw[x0 (aH (I.lt _ r) (nu (by decide) (eY k)))]at h;exact nomatch h
   ·intro s;refine kS s λ t c q1 v u=>?_;have G:=p t c;exact absurd (u▸tg.mp (G.l (cw λ e=>v (G.z e))).1) k
theorem n0(F:dw ps){l:List Tr}{es:List (Nat×Nat)}(a:∀t∈l,Ry ps t)(I:uL ps l es):es.Perm (f4 (bW ps) l):=pg I.nd (jJ _ _) (ru F a I)
noncomputable def jM(g:Gr)(r:Nat):Nat:=g.off r+(g.right r).length
theorem Fw(g:Gr){i r:Nat}(hi:i<g.owners.length)(d:r<g.rules.length):i=jM g r↔r=g.Q3 i/\g.after i<0:=by
 have a:=g.at d (aT (g.right r).length);constructor
 ·intro b;subst b;dsimp only[jM,Gr.after];rw[a.2.1,a.2.2,if_neg (bA _)];exact ⟨rfl,by decide⟩
 ·intro c;obtain ⟨e,h⟩:=c;subst e;have a:=g.item_at hi;unfold Gr.after at h;by_cases q:g.Q7 i<(g.right (g.Q3 i)).length
  ·rw[if_pos q]at h;exact (O3 h).elim
  ·skip;exact O2 a.2.1 rfl a.2.2 q
theorem xu{r:Nat}(f:r<g.rules.length)(h:0<r):∀(l acc:List (Nat×Nat)),(l.map (·.1)).Nodup->(∀p∈l,p.1<g.owners.length)->(cP g acc l).lookup r=((l.lookup (jM g r)).or (acc.lookup r)):=by
 intro l;induction l with
 |nil=>intro acc Z Z;exact rfl
 |cons p l n=>
  intro acc nd a;simp only[be,bB]at nd;dsimp only[vT,rg];rw[n _ nd.2 λ q j=>a q (.tail _ j),bq];have b:=Fw g (a p (.head _)) f;by_cases e:p.1=jM g r
  ·refine za (b.mp e) λ c d=>?_;have i:l.lookup (jM g r)=ai:=by
    cases q:l.lookup (jM g r)with
    |none=>rfl
    |some m=>exact absurd (aC.mpr ⟨_,c5 q,e.symm⟩) nd.1
   rw[i,<-e,beq_self_eq_true,if_pos ⟨c▸h,d⟩,cK,if_pos c];rfl
  ·simp only[beq_eq_false_iff_ne.mpr (Ne.symm e)];show (l.lookup (jM g r)).or _=(l.lookup (jM g r)).or _;congr 1
   by_cases q:0<g.Q3 p.1/\g.after p.1<0
   ·rw[if_pos q,cK,if_neg λ k=>e (b.mpr ⟨k,q.2⟩)]
   ·exact congrArg _ (if_neg q)
theorem t5{r:Nat}(h:¬(0<r/\r<g.rules.length)):∀(l acc:List (Nat×Nat)),(∀p∈l,p.1<g.owners.length)->(cP g acc l).lookup r=acc.lookup r:=by
 intro l;induction l with
 |nil=>intro acc Z;exact rfl
 |cons p l c=>
  intro acc a;simp only[rg,c _ λ q b=>a q (.tail _ b)];by_cases q:0<g.Q3 p.1/\g.after p.1<0
  ·rw[if_pos q,cK,if_neg λ k:r=g.Q3 p.1=>h ⟨k▸q.1,k▸(g.item_at (a p (.head _))).1⟩]
  ·exact congrArg _ (if_neg q)
theorem Fx(F:dw ps){l:List Tr}{es:List (Nat×Nat)}(I:uL ps l es)(k:∀t∈l,Ry ps t){r:Nat}:∀(l' acc:List (Nat×Nat)) (d:List Tr),(∀t∈d,t∈l)->((d.foldl (fw (dK ps) (bW ps) (f4 (bW ps) l)) acc).lookup r)=if ∃t∈d,0<t.1/\t.2.1=(d5 (dK ps) t.1).length/\t.1=r then es.lookup (jM (bW ps) r)else acc.lookup r:=by
 intro l' acc d;induction d generalizing l' acc with
 |nil=>intro Z;rfl
 |cons t d p=>
  intro h;simp only[c3,p l' _ λ u c=>h u (.tail _ c)];unfold fw;have G:=k t (h t (.head _));by_cases f:∃u∈d,0<u.1/\u.2.1=(d5 (dK ps) u.1).length/\u.1=r
  ·rw[if_pos f,if_pos (by refine b4 f λ u a b=>?_;exact ⟨u,.tail _ a,b⟩)]
  ·refine (if_neg f).trans ?_;by_cases q:0<t.1/\t.2.1=(d5 (dK ps) t.1).length
   ·rw[if_pos q,cK];by_cases e:r=t.1
    ·subst e;have o:lB (bW ps) t=jM (bW ps) t.1:=by unfold lB jM;rw[(F.rule _).1,au,q.2]
     have g:=mQ G F;have:lB (bW ps) t∈es.map (·.1):=(I.it _).mpr ⟨g.1,t.2.2,(bz g.2.1)▸(bz g.2.2)▸h t (.head _)⟩;refine ze (eM.mpr this) λ m n=>?_;refine (if_pos rfl).trans ?_;rw[if_pos ⟨t,.head _,q.1,q.2,rfl⟩,<-ru F k I,n,<-o,n];rfl
    ·refine (if_neg e).trans ?_;rw[if_neg];intro i;obtain ⟨u,c,b⟩:=i;rcases aI.mp c with rfl|c
     ·exact e b.2.2.symm
     ·exact f ⟨u,c,b⟩
   ·rw[if_neg q,if_neg];intro j;obtain ⟨u,c,b⟩:=j;rcases aI.mp c with rfl|c
    ·exact q ⟨b.1,b.2.1⟩
    ·exact f ⟨u,c,b⟩
theorem z4(F:dw ps){l:List Tr}{es:List (Nat×Nat)}(I:uL ps l es)(d:∀t∈l,Ry ps t):(cP (bW ps) [] es).Perm (wa (dK ps) (bW ps) (f4 (bW ps) l) l):=by
 have b:∀p∈es,p.1<(bW ps).owners.length:=λ p k=>(I.ok.it p k).1;refine pg (na (g:=bW ps) es [] bK (λ x c=>(nomatch c)) b).1 (tp (R:=dK ps) (g:=bW ps) (ms:=f4 (bW ps) l) l [] bK (λ t i=>(d t i).r) (λ x c=>(nomatch c))).1 λ r=>?_;dsimp only[wa];rw[Fx F I d [] [] l λ Z h=>h];by_cases h:0<r/\r<(bW ps).rules.length
 ·refine (xu h.2 h.1 es [] I.nd b).trans ?_;rw[show (([]:List (Nat×Nat)).lookup r)=ai from rfl,Option.or_none];split
  ·rfl
  ·rename_i hc;cases e:es.lookup (jM (bW ps) r)with
   |none=>rfl
   |some m=>refine AF ((I.it _).mp (bp (f:=(·.1)) (c5 e))) λ hi x c=>?_;refine jw ((bW ps).at h.2 (aT ((bW ps).right r).length)) λ Z o n=>?_;simp only[(show (bW ps).Q3 (jM (bW ps) r)=r from o),(show (bW ps).Q7 (jM (bW ps) r)=((bW ps).right r).length from n),(F.rule r).1,au]at c;exact absurd ⟨_,c,h.1,rfl,rfl⟩ hc
 ·refine (t5 h es [] b).trans ?_;rw[if_neg];intro j;refine kS j λ t i a Z e=>?_;exact h ⟨e▸a,by simp only[ec];exact e▸(d t i).r⟩
theorem R2(F:dw ps){l:List Tr}{k:eZ}(f:∀t∈K,Ry ps t)(I:uL ps K k)(c:k.Pairwise λ a b=>a.1<b.1)(C:Uu (dK ps) (bx ps) (DJ ps) K l){s:fy}(hk:s.kernel=k)(E:j0 (bW ps) k s.items)(i:s.Q5.Perm ((cP (bW ps) [] s.items).map (·.1)))(m:s.Q5.Pairwise (·<=·))(n:s.Q4=cP (bW ps) [] s.items):IM (bW ps) (dK ps) s K l:=by
 refine za (kz F f I C E) λ d Jj=>?_;have hd:=z4 F Jj d;have e:=na (g:=bW ps) s.items [] bK (λ x o=>(nomatch o)) (λ p j=>(Jj.ok.it p j).1);refine ⟨rG ((n0 F d Jj).map _) (fO (jJ _ _)),⟨hk▸n0 F f I,hk▸c⟩,⟨i.trans (hd.map _),?_⟩,?_⟩
 ·exact (m.and (aO.mp ((i.nodup_iff).mpr e.1))).imp λ h=>j5 h.1 h.2
 ·rw[n];exact rG (hd.map _) (fO ((hd.map (·.1)).nodup_iff.mp e.1))
theorem Qz{l:List (Nat×β)}{x:Nat}:(∃v,l.lookup x=ah v)↔x∈l.map (·.1):=by
 constructor
 ·intro d;refine ze d λ v h=>?_;refine g_ (bM.mp h) λ a b e Z=>?_;rw[e];simp
 ·intro h;cases e:l.lookup x with
  |some v=>exact ⟨v,rfl⟩
  |none=>refine b4 (aC.mp h) λ p f c=>?_;subst c;have:=dG.mp e p f;rw[bne_self_eq_false]at this;exact nomatch this
theorem yM(X Yy:Nat)(v:List Tr):∀b:List (Nat×List Tr),(pM X v b).lookup Yy=if Yy=X then ah v else b.lookup Yy:=by
 intro b;induction b with
 |nil=>
  simp only[yL,bq];by_cases e:Yy=X
  ·subst e;rw[if_pos rfl,beq_self_eq_true]
  ·rw[if_neg e,beq_eq_false_iff_ne.mpr e]
 |cons a r c=>
  obtain ⟨k,w⟩:=a;dsimp only[yL,wi];by_cases e:k=X
  ·rw[if_pos e,bq];dsimp only[bq];by_cases h:Yy=X
   ·rw[if_pos h,h,e,beq_self_eq_true]
   ·rw[if_neg h,beq_eq_false_iff_ne.mpr (e▸h)]
  ·rw[if_neg e,bq];dsimp only[bq];rw[(c)];by_cases h:Yy=k
   ·subst h;rw[beq_self_eq_true];show ah w=if Yy=X then ah v else ah w;rw[if_neg e]
   ·rw[beq_eq_false_iff_ne.mpr h]
noncomputable def EB(t:Tr):Tr:=(t.1,t.2.1+1,t.2.2)
noncomputable def PC(g:Gr)(R:List Pr)(X:Nat)(t:Tr):Bool:=decide (t.2.1<(d5 R t.1).length/\oF g R t=X)
noncomputable def ext(g:Gr)(R:List Pr)(l:List Tr)(X:Nat):List Tr:=(l.filter (PC g R X)).map EB
theorem ID(g:Gr)(R:List Pr)(X:Nat):∀(l:List Tr) (b:List (Nat×List Tr)),(l.foldl (fP g R) b).lookup X=if ext g R l X=[]then b.lookup X else ah ((b.lookup X).getD []++ext g R l X):=by
 intro l;induction l with
 |nil=>intro b;exact rfl
 |cons t l c=>
  intro b;simp only[c3,c];unfold fP ext;rw[DT];by_cases h:PC g R X t=aj
  ·refine za (of_decide_eq_true h) λ a d=>?_;rw[if_pos h,if_pos a,d,yM,if_pos rfl,be,if_neg (List.cons_ne_nil (EB t) ((l.filter (PC g R X)).map EB))];split
   ·rename_i q;simp only[q];rfl
   ·show ah (((b.lookup X).getD []++[EB t])++_)=_;simp only[bY];rfl
  ·rw[if_neg h];by_cases a:t.2.1<(d5 R t.1).length
   ·rw[if_pos a,yM,if_neg λ e:X=oF g R t=>h (decide_eq_true ⟨a,e.symm⟩)]
   ·rw[if_neg a]
theorem yO(g:Gr)(R:List Pr)(X:Nat)(l:List Tr):(Do g R l).lookup X=if ext g R l X=[]then ai else ah (ext g R l X):=by unfold Do;simp only[ID];rfl
theorem jc{l:List Tr}{X:Nat}{q:Tr}:q∈ext (bW ps) (dK ps) l X↔∃t∈l,t.2.1<(d5 (dK ps) t.1).length/\oF (bW ps) (dK ps) t=X/\q=EB t:=by
 unfold ext;refine aC.trans ?_;constructor
 ·intro b;refine b4 b λ t f a=>?_;subst a;refine za (b3.mp f) λ i h=>?_;refine za (of_decide_eq_true h) λ g d=>?_;exact ⟨t,i,g,d,rfl⟩
 ·intro c;refine kS c λ t f g d e=>?_;subst e;exact ⟨t,b3.mpr ⟨f,decide_eq_true ⟨g,d⟩⟩,rfl⟩
theorem qj(F:dw ps){l:List Tr}{es:List (Nat×Nat)}(d:∀t∈l,Ry ps t)(I:uL ps l es)(X:Nat):(∃p∈es,(bW ps).after p.1=((X:Nat):Int))↔ext (bW ps) (dK ps) l X≠[]:=by
 constructor
 ·intro c;refine b4 c λ p a h=>?_;refine AF ((I.it p.1).mp (bp a)) λ hi x g=>?_;have:=lZ (d _ g) F;simp only[gp hi x,h]at this;by_cases q:(bW ps).Q7 p.1<(d5 (dK ps) ((bW ps).Q3 p.1)).length
  ·rw[if_pos q]at this;exact AM (jc.mpr ⟨_,g,q,(nC.inj this).symm,rfl⟩)
  ·rw[if_neg q]at this;exact nomatch this
 ·intro h;refine ze (gD _ h) λ q j=>?_;refine kS (jc.mp j) λ t f k i Z=>?_;have G:=d t f;have b:=mQ G F;refine b4 (aC.mp ((I.it (lB (bW ps) t)).mpr ⟨b.1,t.2.2,by rw[b.2.1,b.2.2];exact f⟩)) λ p a e=>?_;have:=lZ G F;rw[if_pos k,i]at this;exact ⟨p,a,by rw[e];exact this⟩
theorem oi(F:dw ps){k:eZ}(X:Nat):X∈(fk (bW ps) k).map (·.1)↔∃p∈iP (bW ps) k,(bW ps).after p.1=((X:Nat):Int):=by
 have e:(fk (bW ps) k).map (·.1)=pN (bW ps) (iP (bW ps) k):=by dsimp only[fk,RX];refine bs.trans ?_;exact ed _
 rw[e,uH F.good];unfold cX;rw[Ne,nB];constructor
 ·intro h;refine ze (gD _ h) λ p a=>?_;have c:=b3.mp a;exact ⟨p,c.1,beq_iff_eq.mp c.2⟩
 ·intro b;refine b4 b λ p a h=>?_;exact AM (b3.mpr ⟨a,beq_iff_eq.mpr h⟩)
theorem Fk(F:dw ps){l:List Tr}{es:List (Nat×Nat)}(B:∀t∈l,Ry ps t)(I:uL ps l es)(X:Nat):uL ps (ext (bW ps) (dK ps) l X) (wy (bW ps) es X):=by
 have j:∀p∈es,p.1<(bW ps).owners.length:=λ p a=>(I.ok.it p a).1;have m:∀q,q∈wy (bW ps) es X↔∃p∈es,(bW ps).after p.1=((X:Nat):Int)/\(p.1+1,p.2)=q:=λ q=>by
  rw[qk I.nd j];unfold cX;refine aC.trans ?_;constructor
  ·intro r;refine b4 r λ p a e=>?_;refine za (b3.mp a) λ z n=>?_;exact ⟨p,z,beq_iff_eq.mp n,e⟩
  ·intro y;refine ew y λ p a h e=>?_;exact ⟨p,b3.mpr ⟨a,beq_iff_eq.mpr h⟩,e⟩
 have f:∀p∈es,(bW ps).after p.1=((X:Nat):Int)->p.1+1<(bW ps).owners.length/\∀x,((bW ps).Q3 (p.1+1),(bW ps).Q7 (p.1+1),x)∈ext (bW ps) (dK ps) l X↔((bW ps).Q3 p.1,(bW ps).Q7 p.1,x)∈l:=λ p a h=>by
  have hi:=j p a;have hd:(bW ps).Q7 p.1<((bW ps).right ((bW ps).Q3 p.1)).length:=eb λ q=>by unfold Gr.after at h;rw[if_neg (bR.mpr q)]at h;exact nomatch h
  have b:=yw (bW ps) hi hd;refine ⟨b.1,λ x=>?_⟩;rw[b.2.1,b.2.2];constructor
  ·intro q;refine kS (jc.mp q) λ t k Z Z e=>?_;simp only[(show (bW ps).Q3 p.1=t.1 from congrArg jP e),Nat.succ.inj (congrArg (λ u=>u.2.1) e),(show x=t.2.2 from congrArg (λ u=>u.2.2) e)];exact k
  ·intro q;have c:=lZ (B _ q) F;simp only[gp hi x,h]at c;have hd:(bW ps).Q7 p.1<(d5 (dK ps) ((bW ps).Q3 p.1)).length:=by rw[(F.rule _).1,au]at hd;exact hd
   rw[if_pos hd]at c;exact jc.mpr ⟨_,q,hd,(nC.inj c).symm,rfl⟩
 refine ⟨?_,λ i=>?_,λ q g=>?_,λ q g x d=>?_⟩
 ·simp only[aO,bS];exact (oj (bW ps) es X).imp ch
 ·constructor
  ·intro h;refine b4 (aC.mp h) λ q g o=>?_;subst o;refine ew ((m q).mp g) λ p a c w=>?_;subst w;have b:=f p a c;refine AF ((I.it p.1).mp (bp a)) λ Z x d=>?_;exact ⟨b.1,x,(b.2 x).mpr d⟩
  ·intro s;refine AF s λ hi x d=>?_;refine kS (jc.mp d) λ t k z n e=>?_;have G:=B t k;have b:=mQ G F;refine b4 (aC.mp ((I.it (lB (bW ps) t)).mpr ⟨b.1,t.2.2,(bz b.2.1)▸(bz b.2.2)▸k⟩)) λ p a ep=>?_;have c:=lZ G F;rw[if_pos z,n]at c;refine aC.mpr ⟨(p.1+1,p.2),(m _).mpr ⟨p,a,by rw[ep];exact c,rfl⟩,?_⟩;show p.1+1=i;rw[<-gp hi x,e,ep];rfl
 ·refine ew ((m q).mp g) λ p a Z v=>?_;subst v;exact I.lt p a
 ·refine ew ((m q).mp g) λ p a c A=>?_;subst A;exact (I.bit p a x d).trans ((f p a c).2 x).symm
structure wA(ps:List Pr)(K:List Tr)(k:eZ):Prop where
 kn:K.Nodup
 tr:∀t∈K,Ry ps t
 im:uL ps K k
 inc:k.Pairwise λ a b=>a.1<b.1
 sh:K=([(0,0,"")]:List Tr)\/∃X,∀t∈K,∃d,t.2.1=d+1/\(d5 (dK ps) t.1)[d]? =ah X
theorem qD:Ry ps (0,0,""):=⟨cp _,bg _,λ Z=>rfl,λ h=>absurd h (bA _)⟩
theorem yi(F:dw ps):wA ps [(0,0,"")] [(0,0)]:=by
 have f:=mQ (ps:=ps) qD F;refine ⟨bB.mpr ⟨λ h=>(nomatch h),bK⟩,λ t d=>by simp only[aE.mp d];exact qD,⟨bB.mpr ⟨λ h=>(nomatch h),bK⟩,λ i=>?_,λ p a=>(bz (aE.mp a))▸Nat.two_pow_pos _,λ p a x c=>?_⟩,wF ..,.inl rfl⟩
 ·constructor
  ·intro h;rw[aE.mp h];exact ⟨f.1,"",.head _⟩
  ·intro b;refine AF b λ hi x c=>?_;have e:=aE.mp c;have:=gp hi x;rw[e]at this;rw[<-this];exact .head _
 ·rw[aE.mp a];constructor
  ·intro h;rw[eX]at h;exact nomatch h
  ·intro h;exact absurd (congrArg (λ u=>u.2.2) (aE.mp h)) (F.R9 c)
theorem Fj{l l':List Tr}{es:List (Nat×Nat)}(I:uL ps l es)(h:∀t,t∈l↔t∈l'):uL ps l' es:=
 ⟨I.nd,λ i=>(I.it i).trans ⟨λ d=>by refine AF d λ a x b=>?_;exact ⟨a,x,(h _).mp b⟩,λ c=>by refine AF c λ a x b=>?_;exact ⟨a,x,(h _).mpr b⟩⟩,I.lt,λ p e x f=>(I.bit p e x f).trans (h _)⟩
theorem BB(F:dw ps){k k':eZ}(h:wA ps K k)(h':wA ps K' k'):K.Perm K'↔k=k':=by
 constructor
 ·intro p;have d:=(n0 F h'.tr (Fj h.im λ t=>p.mem_iff)).trans (n0 F h'.tr h'.im).symm;exact nX (by unfold e6;exact congrArg _ (du.uniq (k:=2) (d.map dp) (qI k) (kZ h.inc) (kZ h'.inc)))
 ·intro c;subst c;have b:∀{K K':List Tr},wA ps K k->wA ps K' k->∀t∈K,t∈K':=λ {K K'} h h' t i=>by
   have G:=h.tr t i;refine jw (mQ G F) λ a1 f g=>?_;have hi:lB (bW ps) t∈k.map (·.1):=(h.im.it _).mpr ⟨a1,t.2.2,(bz f)▸(bz g)▸i⟩;by_cases j:t.1=0
   ·refine AF ((h'.im.it _).mp hi) λ Z x a=>?_;rw[f,g]at a;have l:=(h'.tr _ a).z j;have m:=G.z j;have l:x="":=l;rw[(show t=(t.1,t.2.1,x)from by simp only[l,<-m])];exact a
   ·refine b4 (aC.mp hi) λ p d e=>?_;have a:=(G.l (cw j)).1;have:=(h'.im.bit p d t.2.2 a).mp ((h.im.bit p d t.2.2 a).mpr (by rw[e,f,g];exact i));rw[e,f,g]at this;exact this
  exact (dQ h.kn h'.kn).mpr λ t=>⟨b h h' t,b h' h t⟩
theorem EA{a b:Tr}(h:EB a=EB b):a=b:=by have c:(EB a).1=(EB b).1:=congrArg jP h;exact lu c (lu (Nat.succ.inj (congrArg (λ u=>u.2.1) h)) (congrArg (λ u=>u.2.2) h))
theorem BC(F:dw ps){l:List Tr}{es:List (Nat×Nat)}(nd:l.Nodup)(f:∀t∈l,Ry ps t)(I:uL ps l es)(X:Nat):wA ps (ext (bW ps) (dK ps) l X) (wy (bW ps) es X):=by
 refine ⟨?_,λ q d=>?_,Fk F f I X,oj _ _ _,.inr ⟨(cc ps).getD X "",λ q d=>?_⟩⟩
 ·unfold ext;simp only[aO,bS];exact (aO.mp (nd.sublist List.filter_sublist)).imp λ h e=>h (EA e)
 ·refine kS (jc.mp d) λ t g a Z b=>?_;subst b;have G:=f t g;exact ⟨G.r,a,G.z,G.l⟩
 ·refine kS (jc.mp d) λ t g a i c=>?_;subst c;refine ⟨t.2.1,rfl,?_⟩;show (d5 (dK ps) t.1)[t.2.1]? =_;rw[<-i];unfold oF;show _=ah ((cc ps).getD _ "");rw[(nY (F.RC t.1 _ (bd a ""))).2,e4 a];exact ay a
noncomputable def Rg(n:Nat):List Str:=if n=0 then [""]else AH
theorem zR(n:Nat):(Rg n).length<=4:=by
 unfold Rg;split
 ·decide
 ·exact aT 4
noncomputable def wX(X:Str)(n d:Nat):List Str->List Tr
 |[]=>[]
 |x::l=>(if x=X then (Rg n).map λ a=>(n,d+1,a)else [])++wX X n (d+1) l
theorem Qh{X:Str}{n:Nat}:wX X n d []=([]):=rfl
theorem PZ{X:Str}{n d:Nat}{x l}:wX X n d (x::l)=((if x=X then (Rg n).map λ a=>(n,d+1,a)else [])++wX X n (d+1) l):=rfl
theorem HA(X:Str)(n:Nat):∀(l:List Str) (d:Nat),(wX X n d l).length<=4*l.count X:=by
 intro l;induction l with
 |nil=>intro Z;exact aT _
 |cons x l a=>
  intro d;have a:=a (d+1);simp only[PZ,aF,List.count_cons];by_cases h:x=X
  ·rw[if_pos h,au,if_pos (beq_iff_eq.mpr h),fj];exact gx a (zR n)
  ·rw[if_neg h,if_neg λ q=>h (beq_iff_eq.mp q)];dsimp only[g7];rw[cO];exact a
theorem Hz{X a:Str}{n:Nat}(b:a∈Rg n):∀{l:List Str} {d j:Nat},l[j]? =ah X->(n,d+j+1,a)∈wX X n d l:=by
 intro l;induction l with
 |nil=>exact λ h=>nomatch h
 |cons x l c=>
  intro d j h;cases j with
  |zero=>dsimp only[Qh,PZ];rw[if_pos (Option.some.inj h)];exact aJ _ (aC.mpr ⟨a,b,rfl⟩)
  |succ j=>rw[show d+(j+1)+1=d+1+j+1 by rw[gb d 1 j,fj 1 j]];exact ax _ (c h)
noncomputable def uX(X:Str):Nat->List Pr->List Tr
 |_,[]=>[]
 |n,p::R=>wX X n 0 p.2++uX X (n+1) R
theorem Q1{X:Str}{w0}:uX X w0 []=([]):=rfl
theorem Qj{X:Str}{n p R}:uX X n (p::R)=(wX X n 0 p.2++uX X (n+1) R):=rfl
theorem HE(X:Str):∀(R:List Pr) (n:Nat),(uX X n R).length<=4*(R.flatMap (·.2)).count X:=by
 intro R;induction R with
 |nil=>intro Z;exact bg _
 |cons p R a=>intro n;simp only[Qj,aF,db,gg,Nat.mul_add];exact gx (HA X n p.2 0) (a (n+1))
theorem HD{X a:Str}:∀{R:List Pr} {n m j:Nat} {p:Pr},a∈Rg (n+m)->R[m]? =ah p->p.2[j]? =ah X->(n+m,j+1,a)∈uX X n R:=by
 intro R;induction R with
 |nil=>exact λ Z h=>nomatch h
 |cons q R f=>
  intro n m j p b h c;cases m with
  |zero=>have e:=Option.some.inj h;subst e;have:=Hz (d:=0) b c;rw[cO]at this;exact aJ _ this
  |succ m=>rw[(show n+(m+1)=n+1+m by simp only[gb n 1 m,fj 1 m])]at b ⊢;exact ax _ (f b h c)
theorem Ry.Rg{t:Tr}(G:Ry ps t):t.2.2∈Rg t.1:=by
 unfold Mine.Rg;by_cases h:t.1=0
 ·rw[if_pos h,G.z h];exact .head _
 ·rw[if_neg h];exact (G.l (cw h)).2
theorem wA.len(F:dw ps){k:eZ}(h:wA ps K k):K.length<64:=by
 rcases h.sh with e|⟨X,f⟩
 ·rw[e];exact aH Nat.one_lt_two (by decide)
 ·have c:=aU h.kn (l₂:=uX X 0 (dK ps)) λ t b=>by refine b4 (f t b) λ d e hd=>?_;have G:=h.tr t b;have:=HD (X:=X) (a:=t.2.2) (R:=dK ps) (n:=0) (m:=t.1) (j:=d) (p:=(dK ps).getD t.1 ("",[])) (by rw[cO];exact G.Rg) (by rw[e4 G.r];exact ay G.r) hd;simp only[cO,<-e]at this;exact this
  exact aQ (aA c (aA (HE X _ 0) (AK 4 (F.cn X)))) (by decide)
noncomputable def uA:List Tr:=(aZ 9).flatMap λ r=>(aZ 4).flatMap λ d=>(("":Str)::AH).map λ x=>(r,d,x)
theorem Bg:uA.length<=100000:=by decide+kernel
theorem Ry.Wd(F:dw ps){t:Tr}(G:Ry ps t):t∈uA:=by
 refine bT.mpr ⟨t.1,bN.mpr (aH G.r (ea F.ln)),bT.mpr ⟨t.2.1,bN.mpr (dc (aA G.d (F.Uc _))),aC.mpr ⟨t.2.2,?_,rfl⟩⟩⟩;by_cases h:t.1=0
 ·rw[G.z h];exact .head _
 ·exact .tail _ (G.l (cw h)).2
theorem Ry.ok(F:dw ps){l:List Tr}(nd:l.Nodup)(b:∀t∈l,Ry ps t):As (bW ps) l:=by
 refine ⟨λ t a=>by simp only[ec];exact (b t a).r,λ t a=>?_,aA (aU nd λ t a=>(b t a).Wd F) Bg⟩;by_cases h:t.1=0
 ·exact .inl ((b t a).z h)
 ·exact .inr (iw ((b t a).l (cw h)).1)
theorem dw.err(F:dw ps){k:eZ}{l:List Tr}(h:wA ps K k)(C:Uu (dK ps) (bx ps) (DJ ps) K l):1∉(fk (bW ps) k).map (·.1):=λ g=>by
 refine za (kz F h.tr h.im C (gZ h.im.ok)) λ j Jj=>?_;rw[oi F,qj F j Jj]at g;refine ze (gD _ g) λ q p=>?_;refine kS (jc.mp p) λ t o a b Z=>?_;have c:=bd a "";have i:=(nY (F.sym t.1 _ c).mem).2;dsimp only[oF]at b;rw[b]at i;refine ze (sK (ba ps) ps) λ u r=>?_;have s:(cc ps).getD 1 ""="error":=by rw[ft,show fJ ps=iM++u from r.symm];rfl
 simp only[<-i,s]at c;have d:("error":Str)∉("s":Str)::hY::(gB++eN):=by decide+kernel
 refine d ?_;cases f:t.1 with
 |zero=>
  rw[f]at c;rcases aI.mp c with e|e
  ·simp only[e];exact .head _
  ·simp only[aE.mp e];exact .tail _ (.head _)
 |succ n=>rw[f]at c;have m:=(j t o).r;rw[f]at m;exact .tail _ (.tail _ (aM.mpr ((F.rt _ (wB m) _ c).elim .inl λ h=>.inr (F.RI _ h))))
theorem C8(R:List Pr)(st:List (Str×List Str))(em:List (Str×Bool))(K U:List Tr)(h:∀t,LC R st em K t->t∈U):∃l,Uu R st em K l:=by
 classical
 have:∀U:List Tr,∃l:List Tr,l.Nodup/\∀t,t∈l↔t∈U/\LC R st em K t:=λ U=>by
  induction U with
  |nil=>exact ⟨[],bK,λ t=>⟨λ h=>(nomatch h),λ h=>(nomatch h.1)⟩⟩
  |cons u U f=>
   refine b4 f λ l nd a=>?_;by_cases b:u∉l/\LC R st em K u
   ·refine ⟨u::l,bB.mpr ⟨b.1,nd⟩,λ t=>?_⟩;refine aI.trans ?_;rw[a,aI];constructor
    ·rintro (rfl|h)
     ·exact ⟨.inl rfl,b.2⟩
     ·exact ⟨.inr h.1,h.2⟩
    ·rintro ⟨e|h,k⟩
     ·exact .inl e
     ·exact .inr ⟨h,k⟩
   ·refine ⟨l,nd,λ t=>?_⟩;rw[a,aI];refine ⟨λ h=>⟨.inr h.1,h.2⟩,λ d=>za d λ e k=>?_⟩;rcases e with rfl|e
    ·exact Classical.byContradiction λ c=>b ⟨λ q=>c ((a t).mp q),k⟩
    ·exact ⟨e,k⟩
 refine b4 (this U) λ l nd a=>?_;exact ⟨l,nd,λ t=>(a t).trans ⟨λ q=>q.2,λ q=>⟨h t q,q⟩⟩⟩
theorem dw.W_(F:dw ps):uI (bW ps) (dK ps) (dt ps).1 (dt ps).2 (wA ps) where
 r0:=yi F
 nd h:=⟨h.kn,h.len F,Ry.ok F h.kn h.tr,h.im.ok⟩
 inj h k:=BB F h k
 U h:=⟨uA,λ t i=>(k_ F h.tr h.im i).1.Wd F,Bg⟩
 tok h C:=Ry.ok F C.nd (kz F h.tr h.im C (gZ h.im.ok)).1
 sym n x hx:=F.RC n x hx
 Vz h C e E a b c:=R2 F h.tr h.im h.inc C e E a b c
 keys h C X:=by
  refine za (kz F h.tr h.im C (gZ h.im.ok)) λ d Jj=>?_;rw[oi F,qj F d Jj,<-Qz,yO];split
  ·rename_i e;exact ⟨λ g=>by refine ze g λ v h=>?_;exact (nomatch h),λ h=>absurd e h⟩
  ·rename_i e;exact ⟨λ Z=>e,λ Z=>⟨_,rfl⟩⟩
 rows h C p hp:=by refine za (kz F h.tr h.im C (gZ h.im.ok)) λ d Jj=>?_;have hk:=(oi F p.1).mp (bp hp);simp only[qj F d Jj]at hk;refine ⟨ext (bW ps) (dK ps) _ p.1,by rw[yO,if_neg hk],?_⟩;refine b4 (aC.mp hp) λ X Z f=>?_;subst f;exact BC F C.nd d Jj X
 err h:=by refine ze (C8 (dK ps) (bx ps) (DJ ps) _ uA λ t i=>(k_ F h.tr h.im i).1.Wd F) λ l C=>?_;exact F.err h C
noncomputable def init:List Tr:=[(0,0,"")]
noncomputable abbrev FP(ps:List Pr)(K:List Tr)(t:Tr):Prop:=LC (dK ps) (bx ps) (DJ ps) K t
noncomputable def pC(ps:List Pr)(K:List Tr)(X:Str)(K':List Tr):Prop:=∀n d x,(n,d,x)∈K'↔∃e,d=e+1/\(d5 (dK ps) n)[e]? =ah X/\FP ps K (n,e,x)
inductive RT(ps:List Pr):List Tr->Prop
 |zero:RT ps init
 |step {K K':List Tr} {X:Str} {t:Tr}:RT ps K->pC ps K X K'->(∀t∈K',Ry ps t)->t∈K'->RT ps K'
inductive La(ps:List Pr)(K:List Tr)(B x:Str):Prop
 |mk (o:Nat) (h:1<=o) (l:FP ps K (o,0,x)) (e:((dK ps).getD o ("",[])).1=B)
noncomputable def Nd(K:List Tr):Prop:=K=init\/∀n x,(n,0,x)∉K
theorem pC.nd{X:Str}(h:pC ps K X K'):∀n x,(n,0,x)∉K':=λ n x q=>by refine b4 ((h n 0 x).mp q) λ e h Z=>?_;cases h
theorem RT.nd(h:RT ps K):Nd K:=by
 cases h with
 |zero=>exact .inl rfl
 |step _ h _ _=>exact .inr h.nd
theorem La.all(h:Nd K){x:Str}(q:La ps K B x){n:Nat}(m:1<=n)(l:n<(dK ps).length)(e:((dK ps).getD n ("",[])).1=B):FP ps K (n,0,x):=by
 obtain ⟨o,i,j,k⟩:=q;cases j with
 |base g=>
  rcases h with rfl|h
  ·cases aE.mp g;cases i
  ·exact absurd g (h _ _)
 |step a b c d _ _ f=>exact .step a b c d m l (e.trans (k.symm.trans f))
theorem GX{n:Nat}(h:FP ps K (n,d+1,x)):(n,d+1,x)∈K:=by
 cases h with
 |base h=>exact h
theorem pC.one{X:Str}(h:pC ps K X K')(hd:Nd K)(k:∀t∈K',Ry ps t){n:Nat}(f:1<=n){x:Str}:(n,1,x)∈K'↔(d5 (dK ps) n)[0]? =ah X/\n<(dK ps).length/\La ps K ((dK ps).getD n ("",[])).1 x:=by
 constructor
 ·intro q;refine ew ((h n 1 x).mp q) λ e g j i=>?_;cases g;exact ⟨j,(k _ q).r,n,f,i,rfl⟩
 ·intro d;refine jw d λ a b c=>?_;exact (h n 1 x).mpr ⟨0,rfl,a,c.all hd f b rfl⟩
theorem pC.more{X:Str}(h:pC ps K X K'){n d:Nat}{x:Str}:(n,d+2,x)∈K'↔(d5 (dK ps) n)[d+1]? =ah X/\(n,d+1,x)∈K:=by
 constructor
 ·intro q;refine ew ((h n (d+2) x).mp q) λ e f i g=>?_;have f:=Nat.succ.inj f;subst f;exact ⟨i,GX g⟩
 ·intro c;refine za c λ a b=>?_;exact (h n (d+2) x).mpr ⟨d+1,rfl,a,.base b⟩
theorem Ck(F:dw ps)(h:∀n x,(n,0,x)∉K)(H:∀n d x B,(n,d+1,x)∈K->(d5 (dK ps) n)[d+1]? =ah B->B∈ba ps->∃g,(n,d+1,g)∈K'/\(g=x\/¬∀m∈((d5 (dK ps) n).drop (d+2)).map (ix (bW ps)),R6 (bW ps) m)){x:Str}(q:La ps K B x):La ps K' B x:=by
 obtain ⟨o,A,j,C⟩:=q;refine ⟨o,A,?_,C⟩;have i:∀t,FP ps K t->t.2.1=0->FP ps K' t:=λ t y=>by
  induction y with
  |@base t z=>intro e;obtain ⟨n,d,x⟩:=t;subst e;exact absurd z (h _ _)
  |@step n k o a s j hk f b u l w G=>
   intro _;cases k with
   |zero=>exact .step (G rfl) hk f b u l w
   |succ k=>
    have v:∀x∈(d5 (dK ps) n).drop (k+2),Sym ps x:=λ x D=>F.sym n x (cz D);rw[e4 hk]at f;rw[km]at f;refine b4 (H n k a _ (GX j) (ay hk) f) λ g q1 I=>?_;refine .step (.base q1) hk (by rw[e4 hk,km];exact f) ((F.Q_ v).mpr ?_) u l w;rcases (F.Q_ v).mp b with r|⟨p,E⟩
    ·exact .inl r
    ·exact .inr ⟨p,E.trans (I.resolve_right λ c=>c p).symm⟩
 exact i _ j rfl
noncomputable def Q2(ps:List Pr):Prop:=∀n B,(d5 (dK ps) n)[2]? =ah B->B∉ba ps
theorem CX:hY∈fJ ps:=(gV ps).mpr (.inl (.head _))
theorem EK{e:Nat}{X:Str}(h:(d5 (dK ps) 0)[e]? =ah X):e=0/\X="s"\/e=1/\X=hY:=by
 cases e with
 |zero=>exact .inl ⟨rfl,(Option.some.inj h).symm⟩
 |succ e=>
  cases e with
  |zero=>exact .inr ⟨rfl,(Option.some.inj h).symm⟩
  |succ e=>cases h
theorem te(F:dw ps)(j:Q2 ps){X:Str}(h:pC ps K_ X K)(hd:Nd K_)(g:∀t∈K,Ry ps t)(H:∀n x B,1<=n->n<(dK ps).length->(d5 (dK ps) n)[0]? =ah X->La ps K_ ((dK ps).getD n ("",[])).1 x->(d5 (dK ps) n)[1]? =ah B->B∈ba ps->∃f,(n,1,f)∈K'/\(f=x\/¬∀m∈((d5 (dK ps) n).drop 2).map (ix (bW ps)),R6 (bW ps) m)){x:Str}(q:La ps K B x):La ps K' B x:=by
 refine Ck F h.nd (λ n d x B i a e=>?_) q;cases n with
 |zero=>exact (EK a).elim (λ k=>nomatch k.1) λ k=>absurd e (F.RS (k.2▸CX))
 |succ n=>
  have b:=(bh.mp a).1;cases d with
  |zero=>have c:=(h.one hd g (cp n)).mp i;exact H (n+1) x B (cp n) c.2.1 c.1 c.2.2 a e
  |succ d=>
   cases d with
   |zero=>exact absurd e (j _ _ a)
   |succ d=>exact absurd (aH b (F.Uc (n+1))) (bR.mpr (bJ 3 d))
theorem yB(F:dw ps)(g:Q2 ps){X:Str}(h:pC ps K_ X K)(hd:Nd K_)(e:∀t∈K,Ry ps t)(h':pC ps So X K')(b:Nd So)(d:∀t∈K',Ry ps t)(H:∀B x,La ps K_ B x->La ps So B x):∀B x,La ps K B x->La ps K' B x:=λ B x q=>te F g h hd e (λ n x B i f a c Z Z=>⟨x,(h'.one b d i).mpr ⟨a,f,H _ _ c⟩,.inl rfl⟩) q
structure DK(ps:List Pr)(Λ:List Str)(N3:List Nat){γ:Type}(Cs:List γ)(Sj:List Tr->γ->Prop):Prop where
 q2:Q2 ps
 la:∀n,1<=n->∀x∈d5 (dK ps) n,x∈Λ
 s:("s":Str)∈Λ
 n3:∀n B,(d5 (dK ps) n)[2]? =ah B->n∈N3
 ex:∀{K},RT ps K->∃c∈Cs,Sj K c
 eq:∀{K K' c},RT ps K->RT ps K'->Sj K c->Sj K' c->∀B x,La ps K B x->La ps K' B x
section
variable{Λ:List Str}{N3:List Nat}{γ:Type}{Cs:List γ}{Sj:List Tr->γ->Prop}
inductive PU(γ:Type) where
 |k0
 |kE
 |k1 (X:Str)
 |k2 (W Yy:Str) (c:γ)
 |k3 (n:Nat) (c:γ)
inductive QX(ps:List Pr){γ:Type}(Sj:List Tr->γ->Prop)(K:List Tr)(W Yy:Str)(c:γ):Prop
 |mk (K_ Kk:List Tr) (r0:RT ps K_) (r1:RT ps Kk) (sW:pC ps K_ W Kk) (sY:pC ps Kk Yy K) (hc:Sj K_ c) (hE:Yy≠hY) (h3:∀n x,(n,3,x)∉K)
inductive QW(ps:List Pr){γ:Type}(Sj:List Tr->γ->Prop)(K:List Tr)(n:Nat)(c:γ):Prop
 |mk (Va K_ Kk:List Tr) (V W Yy x:Str) (r2:RT ps Va) (r0:RT ps K_) (r1:RT ps Kk) (sV:pC ps Va V K_) (sW:pC ps K_ W Kk) (sY:pC ps Kk Yy K) (hc:Sj Va c) (hE:Yy≠hY) (h3:(n,3,x)∈K)
noncomputable def Kd(ps:List Pr){γ:Type}(Sj:List Tr->γ->Prop)(K:List Tr):PU γ->Prop
 |.k0=>K=init
 |.kE=>∃K_,pC ps K_ hY K
 |.k1 X=>pC ps init X K
 |.k2 W Yy c=>QX ps Sj K W Yy c
 |.k3 n c=>QW ps Sj K n c
noncomputable def C5(Λ:List Str)(N3:List Nat)(Cs:List γ):List (PU γ):=
 .k0::.kE::(Λ.map .k1++((Λ.flatMap λ W=>Λ.flatMap λ Yy=>Cs.map (.k2 W Yy))++N3.flatMap λ n=>Cs.map (.k3 n)))
theorem n5(f:α->List β)(k:Nat)(h:∀a,(f a).length=k):∀l:List α,(l.flatMap f).length=l.length*k:=by
 intro l;induction l with
 |nil=>exact (Nat.zero_mul k).symm
 |cons a l b=>simp only[db,aF,h,b,bj,x1,fj]
theorem C4:(C5 Λ N3 Cs).length=Λ.length+(Λ.length*(Λ.length*Cs.length)+N3.length*Cs.length)+2:=by unfold C5;simp only[bj,bj,aF,aF,au,n5 _ _ (λ W=>n5 _ _ (λ Yy=>au ..) Λ),n5 _ _ λ n=>au ..]
theorem RT.tr(h:RT ps K):∀t∈K,Ry ps t:=by
 cases h with
 |zero=>exact λ t a=>by simp only[aE.mp a];exact qD
 |step _ _ h _=>exact h
theorem ut(F:dw ps)(h:pC ps K hY K')(c:∀t∈K',Ry ps t){n d:Nat}{x:Str}(q:(n,d,x)∈K'):n=0/\d=2/\x="":=by
 refine ew ((h n d x).mp q) λ e a b Z=>?_;subst a;cases n with
 |zero=>exact (EK b).elim (λ k=>absurd k.2 (by decide+kernel)) λ k=>⟨rfl,congrArg j4 k.1,(c _ q).z rfl⟩
 |succ n=>have g:=(c _ q).r;have f:=aX b;have:=(F.rt _ (wB g) _ f).resolve_right (F.RS CX);exact absurd this (by decide+kernel)
theorem Bk(D:DK ps Λ N3 Cs Sj){n e:Nat}{X:Str}(h:(d5 (dK ps) n)[e]? =ah X)(a:X≠hY):X∈Λ:=by
 cases n with
 |zero=>exact (EK h).elim (λ k=>k.2.symm▸D.s) λ k=>absurd k.2 a
 |succ n=>exact D.la _ (cp n) _ (aX h)
theorem Ip(F:dw ps){n e:Nat}{x:Str}(h:pC ps K_ hY K)(f:∀t∈K,Ry ps t)(c:FP ps K (n,e,x))(i:(d5 (dK ps) n)[e]? =ah Yy):False:=by
 have a:∀{u:Tr},FP ps K u->u.1=0/\u.2.1=2:=λ b=>by
  induction b with
  |base b=>exact ⟨(ut F h f b).1,(ut F h f b).2.1⟩
  |step _ hk _ _ _ _ _ j=>refine za j λ g d=>?_;dsimp only at g d;rw[g,d]at hk;exact absurd hk (bA 2)
 have k1:n=0:=(a c).1;have k2:e=2:=(a c).2;rw[k1,k2]at i;exact nomatch i
theorem Ib(F:dw ps)(D:DK ps Λ N3 Cs Sj){W:Str}(h₀:RT ps K_)(h₁:RT ps Kk)(i:pC ps K_ W Kk)(j:pC ps Kk Yy K)(h:W∈Λ)(g:Yy∈Λ)(k:Yy≠hY):∃c∈C5 Λ N3 Cs,Kd ps Sj K c:=by
 skip;by_cases l:∃n x,(n,3,x)∈K
 ·refine Jc l λ m y o=>?_;refine za (j.more.mp o) λ r s=>?_;cases h₀ with
  |zero=>cases aE.mp (i.more.mp s).2
  |step a p e d=>refine b4 (D.ex a) λ c f b=>?_;exact ⟨.k3 m c,.tail _ (.tail _ (ax _ (ax _ (bT.mpr ⟨m,D.n3 m _ r,bp f⟩)))),⟨_,_,_,_,_,_,_,a,.step a p e d,h₁,p,i,j,b,k,o⟩⟩
 ·refine b4 (D.ex h₀) λ c f b=>?_;exact ⟨.k2 W Yy c,.tail _ (.tail _ (ax _ (aJ _ (bT.mpr ⟨W,h,bT.mpr ⟨Yy,g,bp f⟩⟩)))),⟨_,_,h₀,h₁,i,j,b,k,λ n x q=>l ⟨n,x,q⟩⟩⟩
theorem MY(F:dw ps)(D:DK ps Λ N3 Cs Sj)(h:RT ps K):∃c∈C5 Λ N3 Cs,Kd ps Sj K c:=by
 cases h with
 |zero=>exact ⟨.k0,.head _,rfl⟩
 |@step Kk K Yy t h₁ j p o=>
  refine ew ((j t.1 t.2.1 t.2.2).mp o) λ e Z m n=>?_;by_cases k:Yy=hY
  ·exact ⟨.kE,.tail _ (.head _),Kk,k▸j⟩
  have f:=Bk D m k;cases h₁ with
  |zero=>exact ⟨.k1 Yy,.tail _ (.tail _ (aJ _ (bp f))),j⟩
  |@step K_ _ W a h₀ i b d=>refine ew ((i a.1 a.2.1 a.2.2).mp d) λ l Z g Z=>?_;exact Ib F D h₀ (.step h₀ i b d) i j (Bk D g λ q=>Ip F (q▸i) b n m) f k
theorem Bh(F:dw ps)(w:Q2 ps){f:List Tr}{W:Str}(z:∀t∈K,Ry ps t)(p:∀t∈K',Ry ps t)(h₀:RT ps K_)(h₁:RT ps Kk)(o:pC ps K_ W Kk)(l:pC ps Kk Yy K)(r:Yy≠hY)(i:RT ps So)(g:RT ps f)(k:pC ps So W f)(j:pC ps f Yy K')(H:∀B x,La ps K_ B x->La ps So B x){n d:Nat}{x:Str}(hd:d<=2)(h:(n,d,x)∈K):(n,d,x)∈K':=by
 have hz:∀e,(d5 (dK ps) 0)[e+1]?≠ah Yy:=λ e q=>by
  cases e with
  |zero=>exact r (Option.some.inj q).symm
  |succ e=>cases q
 cases d with
 |zero=>exact absurd h (l.nd n x)
 |succ d=>
  cases d with
  |zero=>
   cases n with
   |zero=>
    refine ew ((l 0 1 x).mp h) λ e y Z u=>?_;cases y;cases u with
    |base v=>exact absurd v (o.nd 0 x)
    |step _ _ _ _ s _ _=>exact nomatch s
   |succ n=>refine jw ((l.one h₁.nd z (cp n)).mp h) λ a b c=>?_;exact (j.one g.nd p (cp n)).mpr ⟨a,b,yB F w o h₀.nd h₁.tr k i.nd g.tr H _ _ c⟩
  |succ d=>
   cases d with
   |succ d=>exact absurd hd (o5.mpr (bJ 3 d))
   |zero=>
   refine za (l.more.mp h) λ a b=>?_;cases n with
   |zero=>exact absurd a (hz 0)
   |succ n=>have m:=(o.one h₀.nd h₁.tr (cp n)).mp b;exact j.more.mpr ⟨a,(k.one i.nd g.tr (cp n)).mpr ⟨m.1,m.2.1,H _ _ m.2.2⟩⟩
theorem Cn(F:dw ps)(D:DK ps Λ N3 Cs Sj){c:PU γ}(A:∀t∈K,Ry ps t)(l:∀t∈K',Ry ps t)(M:∃t,t∈K')(h:Kd ps Sj K c)(h':Kd ps Sj K' c):∀t∈K,t∈K':=λ t j=>by
 obtain ⟨n,d,x⟩:=t;have Q:=aA (A _ j).d (F.Uc _);cases c with
 |k0=>exact (h.trans h'.symm)▸j
 |kE=>refine ze h λ Z b=>?_;refine ze h' λ Z w=>?_;refine ze M λ N T=>?_;obtain ⟨m,e,y⟩:=N;refine jw (ut F b A j) λ L e2 e3=>?_;have k:=ut F w l T;simp only[L,e2,e3,<-k.1,<-k.2.1,<-k.2.2];exact T
 |k1 X=>exact (h' n d x).mpr ((h n d x).mp j)
 |k2 W Yy c=>obtain ⟨_,_,r0,B,u,v,O,C,E⟩:=h;obtain ⟨_,_,a,s,f,g,o,_,_⟩:=h';exact Bh F D.q2 A l r0 B u v C a s f g (D.eq r0 a O o) (ci (j5 Q λ e=>E n x ((show d=3 from e)▸j))) j
 |k3 m c=>
  obtain ⟨_,_,_,V,W,Yy,y,J,r0,B,I,u,v,O,C,E⟩:=h;obtain ⟨_,_,_,V',W',Y',y',r,a,s,i,f,g,o,_,G⟩:=h';have b:=v.more.mp E;have w:=g.more.mp G;have c:=u.more.mp b.2;have S:=f.more.mp w.2;refine ew ((I m 1 y).mp c.2) λ Z L R Z=>?_;refine ew ((i m 1 y').mp S.2) λ Z P U Z=>?_;rw[<-Nat.succ.inj L]at R;rw[<-Nat.succ.inj P]at U;simp only[<-Option.some.inj (b.1.symm.trans w.1)]at g;simp only[<-Option.some.inj (c.1.symm.trans S.1)]at f;simp only[<-Option.some.inj (R.symm.trans U)]at i;have H:=D.eq J r O o;rcases o9 Q with hd|e
  ·exact Bh F D.q2 A l r0 B u v C a s f g (yB F D.q2 I J.nd r0.tr i r.nd a.tr H) (ci hd) j
  ·subst e;have p:=v.more.mp j;have q:=u.more.mp p.2;have Y:1<=n:=cw λ z=>by rw[z]at p;cases p.1
   have k:=(I.one J.nd r0.tr Y).mp q.2;exact g.more.mpr ⟨p.1,f.more.mpr ⟨q.1,(i.one r.nd a.tr Y).mpr ⟨k.1,k.2.1,H _ _ k.2.2⟩⟩⟩
theorem HX(P:α->β->Prop):∀(l:List α) (B:List β),l.Nodup->(∀a∈l,∃b∈B,P a b)->(∀a∈l,∀g∈l,∀b,P a b->P g b->a=g)->l.length<=B.length:=by
 intro l;induction l with
 |nil=>intro Z Z Z Z;exact bg _
 |cons a l i=>
  intro B nd m j
  classical
  simp only[bB]at nd;refine b4 (m a (.head _)) λ b p n=>?_;have i:=i (B.filter λ c=>decide (c≠b)) nd.2 (λ g d=>by refine b4 (m g (.tail _ d)) λ k h f=>?_;refine ⟨k,b3.mpr ⟨h,decide_eq_true λ e=>?_⟩,f⟩;subst e;exact nd.1 (j a (.head _) g (.tail _ d) k n f▸d)) λ x q y o=>j x (.tail _ q) y (.tail _ o)
  exact aQ i (List.length_filter_lt_length_iff_exists.mpr ⟨b,p,by simp⟩)
theorem IC(F:dw ps):∀n,∀p∈dX (bW ps) n,∃K,RT ps K/\wA ps K p.1:=by
 intro n;induction n with
 |zero=>intro p c;rw[aE.mp c];exact ⟨init,.zero,yi F⟩
 |succ n i=>
  intro p c;have i:=i;simp only[Ak]at c;cases e:(dX (bW ps) n)[n]? with
  |none=>simp only[e]at c;exact i p c
  |some q=>
   rw[e]at c;refine b4 (i q (aX e)) λ K H hk=>?_;have z:∀(l:List (Nat×eZ)) (a:List (eZ×Int)×List (Nat×Nat)),(∀p∈a.1,∃K,RT ps K/\wA ps K p.1)->(∀q∈l,∃K,RT ps K/\wA ps K q.2)->∀p∈(l.foldl me a).1,∃K,RT ps K/\wA ps K p.1:=λ l=>by
    induction l with
    |nil=>intro a h _;exact h
    |cons u l y=>
     intro a h g;refine y (me a u) (λ p c=>?_) λ v r=>g v (.tail _ r);have c:p∈(jZ u.1 u.2 a.1).1:=c;cases e:(a.1.map (·.1)).idxOf? u.2 with
     |some m=>rw[iA e]at c;exact h p c
     |none=>
      rw[fU e]at c;rcases aM.mp c with c|c
      ·exact h p c
      ·rw[aE.mp c];exact g u (.head _)
   refine z (fk (bW ps) q.1) (dX (bW ps) n,[]) i (λ u o=>?_) p c;refine ze (C8 (dK ps) (bx ps) (DJ ps) K uA λ t k=>(k_ F hk.tr hk.im k).1.Wd F) λ l C=>?_;refine za (kz F hk.tr hk.im C (gZ hk.im.ok)) λ g Jj=>?_;have f:=(oi F u.1).mp (bp o);rw[qj F g Jj]at f;refine ze (gD _ f) λ t k=>?_;have R:=BC F C.nd g Jj u.1;refine b4 (aC.mp o) λ X Z e=>?_;refine ⟨ext (bW ps) (dK ps) l u.1,.step (X:=(cc ps).getD u.1 "") H (λ n d x=>?_) R.tr k,by rw[<-e]at R ⊢;exact R⟩;refine jc.trans ?_;constructor
   ·intro s;obtain ⟨v,r,a,b,e⟩:=s;have A:n=v.1:=congrArg jP e;refine ⟨v.2.1,(congrArg (λ u=>u.2.1) e),?_,by simp only[A,(show x=v.2.2 from congrArg (λ u=>u.2.2) e)];exact (C.mem v).mp r⟩;have I:=bd a "";have:=(nY (F.RC v.1 _ I)).2;dsimp only[oF]at b;rw[b]at this;simp only[A,this,e4 a];exact ay a
   ·intro w;obtain ⟨G,D,B,E⟩:=w;have j:=(bh.mp B).1;refine ⟨(n,G,x),(C.mem _).mpr E,j,?_,by rw[D];rfl⟩;dsimp only[oF];simp only[e4 j,(bh.mp B).2];exact F.Uw ((oZ F.good hk.im.ok o).2)
theorem DK.most(F:dw ps)(D:DK ps Λ N3 Cs Sj)(h:(C5 Λ N3 Cs).length<=2000)(n:Nat):(dX (bW ps) n).length<=2000:=by
 refine aA ?_ h;have hk:=rO F.good F.Vy.pos n;simp only[<-au (f:=(·.1)) (as:=dX (bW ps) n)];have s:∀k∈(dX (bW ps) n).map (·.1),∃K,RT ps K/\wA ps K k:=λ k hk=>by refine b4 (aC.mp hk) λ p m e=>?_;subst e;exact IC F n p m
 refine HX (λ k c=>∃K,RT ps K/\wA ps K k/\Kd ps Sj K c) _ _ hk.2 (λ k hk=>?_) λ k hk k' u c ⟨K,q,d,i⟩ ⟨K',g,a,b⟩=>?_
 ·refine b4 (s k hk) λ K l o=>?_;refine b4 (MY F D l) λ c v r=>?_;exact ⟨c,v,K,l,o,r⟩
 ·have j:∀{K:List Tr},RT ps K->∃t,t∈K:=λ h=>by
   cases h with
   |zero=>exact ⟨_,.head _⟩
   |step _ _ _ h=>exact ⟨_,h⟩
  exact (BB F d a).mp ((dQ d.kn a.kn).mpr λ t=>⟨Cn F D d.tr a.tr (j g) i b t,Cn F D a.tr d.tr (j q) b i t⟩)
end
theorem FL{l:List Str}(h:x∈l):fQ l x=l:=by unfold fQ;exact if_pos (show l.any (· ==x)=aj from dI.mpr ⟨x,h,beq_self_eq_true x⟩)
theorem nf:∀(l:List Pr) (acc:List Str),(∀p∈l,p.1∈acc)->l.foldl (λ l p=>fQ l p.1) acc=acc:=by
 intro l;induction l with
 |nil=>intro Z Z;exact rfl
 |cons p l b=>intro acc h;dsimp only[c3];rw[FL (h p (.head _))];exact b acc λ q a=>h q (.tail _ a)
noncomputable def sg{α:Type}:List α->List (List α)
 |[]=>[[]]
 |a::l=>sg l++(sg l).map (a::·)
theorem P1:sg ([]:List α)=[[]]:=rfl
theorem P2{α:Type}{a:α}{l}:sg (a::l)=(sg l++(sg l).map (a::·)):=rfl
theorem tL(p:α->Prop):∀l:List α,∃s∈sg l,∀x,x∈s↔x∈l/\p x:=by
 intro l;induction l with
 |nil=>exact ⟨[],.head _,λ x=>⟨λ h=>(nomatch h),λ h=>(nomatch h.1)⟩⟩
 |cons a l d=>
  refine b4 (d) λ s c h=>?_;by_cases b:p a
  ·refine ⟨a::s,ax _ (bp c),λ x=>?_⟩;refine aI.trans ?_;rw[aI,h];exact ⟨λ q=>q.elim (λ e=>⟨.inl e,e▸b⟩) λ q=>⟨.inr q.1,q.2⟩,λ q=>q.1.elim .inl λ k=>.inr ⟨k,q.2⟩⟩
  ·refine ⟨s,aJ _ c,λ x=>?_⟩;rw[aI,h];exact ⟨λ q=>⟨.inr q.1,q.2⟩,λ q=>⟨q.1.resolve_left λ e=>b (e▸q.2),q.2⟩⟩
theorem Cf(F:dw ps)(u:∀t∈K,Ry ps t){t:Tr}(h:FP ps K t):Ry ps t:=by
 induction h with
 |base p=>exact u _ p
 |@step n d o a c w hd v b j l y k=>
  have r:∀x∈(d5 (dK ps) n).drop (d+1),Sym ps x:=λ x s=>F.sym n x (cz s);have i:c∈fJ ps/\c∈AH:=by
   rcases (F.Q_ r).mp b with ⟨g,m⟩|⟨g,m⟩
   ·rcases Dq F b with q|q
    ·exact q
    ·by_cases f:n=0
     ·exact absurd (q.trans (k.z f)) (F.R9 g)
     ·exact ⟨g,q▸(k.l (cw f)).2⟩
   ·have f:0<n:=cw λ e=>by subst e;exact F.Uv hd v g
    rw[m];exact k.l f
  exact ⟨l,bg _,λ e=>absurd j (by rw[show o=0 from e];decide),λ Z=>i⟩
theorem La.look(F:dw ps)(c:∀t∈K,Ry ps t){x:Str}(h:La ps K B x):x∈fJ ps/\x∈AH:=by obtain ⟨o,a,b,_⟩:=h;exact (Cf F c b).l a
theorem La.left(F:dw ps)(c:∀t∈K,Ry ps t){x:Str}(h:La ps K B x):B∈ba ps:=by
 obtain ⟨o,a,b,e⟩:=h;cases o with
 |zero=>cases a
 |succ n=>simp only[<-e];exact F.TF (eQ ((Cf F c b).r))
theorem lN{n:Nat}(a:1<=n){d:Nat}(h:(d5 (dK ps) n)[d]? =ah B):∃p∈ps,d5 (dK ps) n=p.2/\(dK ps).getD n ("",[])=p:=by
 cases n with
 |zero=>exact nomatch a
 |succ n=>
  have b:n<ps.length:=eb λ k=>by
   have e:d5 (dK ps) (n+1)=[]:=by show (ps.getD n ("",[])).2=[];rw[aD,bl k];rfl
   rw[e]at h;cases h
  exact ⟨_,bd b ("",[]),rfl,rfl⟩
noncomputable def zT:List Str:=["x","y"]
noncomputable def po:List Str:=[hY,"x","y"]
structure FQ(ps:List Pr):Prop where
 lf:ba ps=(["s","a"]:List Str)
 rt:∀p∈ps,p.2.length<=2/\∀x∈p.2,x∈lS
 pd:∀y∈ba ps,∃p∈ps,p.1=y/\∀x∈p.2,x∈zT
 l4:4<=ps.length
 l6:ps.length<=6
theorem yF(f:α->List Str)(k:Nat):∀l:List α,(∀a∈l,(f a).length<=k)->(l.flatMap f).length<=l.length*k:=by
 intro l;induction l with
 |nil=>intro Z;exact bg _
 |cons a l c=>intro h;rw[db,aF];dsimp only[bj];rw[x1,fj];exact gx (c λ b d=>h b (.tail _ d)) (h a (.head _))
theorem FQ.XJ(D:FQ ps):dw ps:=by
 refine ⟨λ p a=>?_,λ p a x b=>?_,λ p a=>cY (D.rt p a).1,λ x b=>?_,aA D.l6 (by decide),?_,by rw[D.lf];rfl,λ X=>?_⟩
 ·have h:p.1∈ba ps:=gn.mpr ⟨p,a,rfl⟩;simp only[D.lf]at h;exact (show ∀y∈(["s","a"]:List Str),y∈eN by decide+kernel) _ h
 ·rw[D.lf];exact (show ∀y∈lS,y∈gB\/y∈(["s","a"]:List Str)by decide+kernel) _ ((D.rt p a).2 x b)
 ·refine ew (D.pd x b) λ p f c g=>?_;exact ⟨p,f,c,λ y d=>(show ∀y∈zT,y∈gB by decide+kernel) _ (g y d)⟩
 ·rw[D.lf];exact cY D.l4
 ·refine aA i9 ?_;refine aA (yF (·.2) 2 (dK ps) λ p a=>?_) ?_
  ·rcases aI.mp a with e|e
   ·rw[e];exact aT _
   ·exact (D.rt p e).1
  ·show (ps.length+1)*2<=15;have:=D.l6;exact O1 this
theorem FQ.ts(D:FQ ps){x:Str}(h:x∈fJ ps)(h':x∈AH):x∈po:=by
 rcases (gV ps).mp h with h|⟨p,a,h,_⟩
 ·exact (show ∀y∈AH,y∈iM->y∈po by decide+kernel) x h' h
 ·exact (show ∀y∈AH,y∈lS->y∈po by decide+kernel) x h' ((D.rt p a).2 x h)
noncomputable def QS:List (List Str×List Str):=(sg po).flatMap λ a=>(sg po).map λ b=>(a,b)
theorem FQ.XN(D:FQ ps):DK ps lS [] QS λ K c=>∀x,(x∈c.1↔La ps K "s" x)/\(x∈c.2↔La ps K "a" x):=by
 have F:=D.XJ;have f:∀n B,(d5 (dK ps) n)[2]?≠ah B:=λ n B h=>by
  cases n with
  |zero=>cases h
  |succ n=>refine ew (lN (cp n) h) λ p j e Z=>?_;rw[e]at h;exact absurd (aH (bh.mp h).1 (D.rt p j).1) (bA 2)
 refine ⟨λ n B h=>absurd h (f n B),λ n r x k=>?_,by decide+kernel,λ n B h=>absurd h (f n B),λ {K} h=>?_,λ {K K' c} h h' l d B x q=>?_⟩
 ·refine ze (cI.mp k) λ i hi=>?_;refine ew (lN r hi) λ p j e Z=>?_;simp only[e]at k;exact (D.rt p j).2 x k
 ·refine b4 (tL (La ps K "s") po) λ a s t=>?_;refine b4 (tL (La ps K "a") po) λ b o m=>?_;have lk:∀{B x},La ps K B x->x∈po:=λ q=>D.ts (q.look F h.tr).1 (q.look F h.tr).2;exact ⟨(a,b),bT.mpr ⟨a,s,aC.mpr ⟨b,o,rfl⟩⟩,λ x=>⟨(t x).trans ⟨(·.2),λ q=>⟨lk q,q⟩⟩,(m x).trans ⟨(·.2),λ q=>⟨lk q,q⟩⟩⟩⟩
 ·have g:=q.left F h.tr;rw[D.lf]at g;rcases aI.mp g with e|g
  ·subst e;exact (d x).1.mp ((l x).1.mpr q)
  ·have e:=aE.mp g;subst e;exact (d x).2.mp ((l x).2.mpr q)
theorem FQ.most(D:FQ ps):∀n,(dX (bW ps) n).length<=2000:=DK.most D.XJ D.XN (by decide+kernel)
noncomputable def sr:List Str:=["x","y","z","s","a","b"]
structure ND(ps:List Pr)(A u:Str):Prop where
 F:dw ps
 lf:ba ps=(["s","a","b"]:List Str)
 ca:∀p∈ps,∀B,p.2[1]? =ah B->B∈ba ps->(p.1="s"/\∃y∈gB,p.2.drop 2=[y])\/(p.1=A/\p.2[0]? =ah u)
 q2:∀p∈ps,∀B,p.2[2]? =ah B->B∉ba ps
 n3:∀n B,(d5 (dK ps) n)[2]? =ah B->n∈[2,3,4,5]
 la:∀p∈ps,∀x∈p.2,x∈sr
noncomputable def PG(u:Str):List (Option (Str×Bool×List Str)):=ai::(((hY::sr).flatMap λ V=>[aj,ao].map λ e=>ah (V,e,[]))++[aj,ao].flatMap λ e=>(sg AH).map λ T=>ah (u,e,T))
noncomputable def QT(ps:List Pr)(A u:Str)(K:List Tr):Option (Str×Bool×List Str)->Prop
 |none=>K=init
 |some (V,e,T)=>∃K_,RT ps K_/\pC ps K_ V K/\(e=aj↔∃x,La ps K_ "s" x)/\(V=u->∀x,x∈T↔La ps K_ A x)
theorem ND.XN{A u:Str}(D:ND ps A u):DK ps sr [2,3,4,5] (PG u) (QT ps A u):=by
 have F:=D.F;have J:Q2 ps:=λ n B h=>by
  cases n with
  |zero=>exact nomatch h
  |succ n=>refine ew (lN (cp n) h) λ p f e Z=>?_;rw[e]at h;exact D.q2 p f B h
 have M:∀n,1<=n->∀x∈d5 (dK ps) n,x∈sr:=λ n o x E=>by refine ze (cI.mp E) λ i hi=>?_;refine ew (lN o hi) λ p f e Z=>?_;simp only[e]at E;exact D.la p f x E
 have z:∀(e:Nat) (X:Str),(d5 (dK ps) 0)[e]? =ah X->X∈hY::sr:=λ e X r=>(EK r).elim (λ k=>k.2▸(show ("s":Str)∈hY::sr by decide+kernel)) λ k=>k.2▸.head _;refine ⟨J,M,by decide+kernel,D.n3,λ {K} h=>?_,λ {K K' c} h h' s m B x q=>?_⟩
 ·cases h with
  |zero=>exact ⟨ai,.head _,rfl⟩
  |@step K_ _ X t a w hG P=>
   obtain ⟨n,d,x⟩:=t;refine ew ((w n d x).mp P) λ e' Z r Z=>?_;have G:X∈hY::sr:=by
    cases n with
    |zero=>exact z _ _ r
    |succ n=>exact .tail _ (M _ (cp n) _ (aX r))
   obtain ⟨e,j,l⟩:∃e:Bool,(e=aj↔∃x,La ps K_ "s" x)/\e∈[aj,ao]:=by
    by_cases k:∃x,La ps K_ "s" x
    ·exact ⟨aj,⟨λ Z=>k,λ Z=>rfl⟩,.head _⟩
    ·exact ⟨ao,⟨λ q=>(nomatch q),λ q=>absurd q k⟩,.tail _ (.head _)⟩
   by_cases N:X=u
   ·refine b4 (tL (La ps K_ A) AH) λ T R S=>?_;refine ⟨ah (X,e,T),.tail _ (ax _ (bT.mpr ⟨e,l,aC.mpr ⟨T,R,by rw[N]⟩⟩)),K_,a,w,j,λ Z x=>(S x).trans ⟨(·.2),λ q=>⟨(q.look F a.tr).2,q⟩⟩⟩
   ·exact ⟨ah (X,e,[]),.tail _ (aJ _ (bT.mpr ⟨X,G,aC.mpr ⟨e,l,rfl⟩⟩)),K_,a,w,j,λ k=>absurd k N⟩
 ·cases c with
  |none=>have s:K=init:=s;rw[m];rw[s]at q;exact q
  |some c=>
   obtain ⟨K_,r0,U,e0,t0⟩:=s;obtain ⟨Kk,I,L,Y,t1⟩:=m;refine te F J U r0.nd h.tr (λ n x B o g a b H Q=>?_) q;refine ew (lN o H) λ p f ep C=>?_;rw[ep]at H;rw[C]at b;rcases D.ca p f B H Q with ⟨k1,y,W,k2⟩|⟨k1,k2⟩
   ·refine ze (Y.mp (e0.mpr ⟨x,k1▸b⟩)) λ V v=>?_;refine ⟨V,(L.one I.nd h'.tr o).mpr ⟨a,g,(bz C)▸(bz k1)▸v⟩,.inr λ k=>?_⟩;refine (show y∉ba ps by rw[D.lf];exact (show ∀y∈gB,y∉(["s","a","b"]:List Str)by decide+kernel) y W) (F.R1 (F.Ro f (cz (i:=2) ((bz k2)▸.head _))) (k _ ?_));simp only[ep,k2];exact .head _
   ·have O:c.1=u:=Option.some.inj (a.symm.trans ((congrArg (·[0]?) ep).trans k2));refine ⟨x,(L.one I.nd h'.tr o).mpr ⟨a,g,?_⟩,.inl rfl⟩;simp only[C,k1];exact (t1 O x).mp ((t0 O x).mpr (k1▸b))
theorem ND.most{A u:Str}(D:ND ps A u):∀n,(dX (bW ps) n).length<=2000:=DK.most D.F D.XN (by
 rw[C4];have:(PG u).length=47:=by unfold PG;rw[bj,aF,n5 _ 2 (λ V=>rfl)];rfl
 rw[this];decide)
theorem Di(row:List Nat)(b:Nat×Str):(∀p∈pA row b,p.1=b.2/\p.2.length<=2/\∀x∈p.2,x∈lS)/\2<=(pA row b).length/\(pA row b).length<=3/\∃p∈pA row b,p.1=b.2/\∀x∈p.2,x∈zT:=by
 have h:∀x∈mM row b.1,x∈zT:=λ x a=>by refine b4 (aC.mp a) λ k Z c=>?_;subst c;exact bd (xs:=zT) (d4 (by decide)) ""
 have j:∀q,∀x∈qy row q,x∈lS:=λ q x a=>by refine b4 (aC.mp a) λ k Z g=>?_;subst g;exact bd (xs:=lS) (d4 (by decide)) ""
 have hk:=d4 (row:=row) (i:=b.1+4) (m:=2) (by decide);refine ⟨λ p d=>?_,?_,?_,⟨_,.head _,rfl,h⟩⟩
 ·rcases aI.mp d with e|d
  ·subst e;refine ⟨rfl,?_,λ x a=>(show ∀y∈zT,y∈lS by decide+kernel) x (h x a)⟩;show (mM row b.1).length<=2;unfold mM;simp only[au,bf];exact ci (d4 (by decide))
  ·refine b4 (aC.mp d) λ t Z f=>?_;subst f;refine ⟨rfl,?_,j _⟩;show (qy row (b.1+5+5*t)).length<=2;unfold qy;simp only[au,bf];exact Qn (d4 (row:=row) (i:=b.1+5+5*t) (m:=2) (by decide))
 ·dsimp only[pA];dsimp only[bj];rw[au,bf];exact Pc
 ·dsimp only[pA];dsimp only[bj];rw[au,bf];exact My hk
theorem CM(row:List Nat):FQ (n_.flatMap (pA row)):=by
 have e:n_.flatMap (pA row)=pA row (8,"s")++pA row (24,"a"):=by show pA row (8,"s")++(pA row (24,"a")++[])=_;rw[cL]
 simp only[e];refine A0 (Di row (8,"s")) λ l o n p j w i=>?_;refine A0 (Di row (24,"a")) λ a1 r u q h v m=>?_;have g:ba (pA row (8,"s")++pA row (24,"a"))=(["s","a"]:List Str):=by
  have s:∀q∈((aZ (1+pick row 12 2)).map λ t=>(("s":Str),qy row (8+5+5*t))),q.1∈(["s"]:List Str):=λ q d=>by refine b4 (aC.mp d) λ t Z c=>?_;subst c;exact .head _
  have k:∀q∈((aZ (1+pick row 28 2)).map λ t=>(("a":Str),qy row (24+5+5*t))),q.1∈(["s","a"]:List Str):=λ q d=>by refine b4 (aC.mp d) λ t Z f=>?_;subst f;exact .tail _ (.head _)
  unfold ba;refine fh.trans ?_;dsimp only[pA];simp only[c3,c3,show fQ [] "s"=(["s"]:List Str)from rfl,nf _ _ s,show fQ ["s"] ("a":Str)=(["s","a"]:List Str)by decide+kernel,nf _ _ k]
 refine ⟨g,λ p a=>?_,λ y b=>?_,by rw[aF];exact Pb o r,by rw[aF];exact Pa n u⟩
 ·rcases aM.mp a with a|a
  ·exact (l p a).2
  ·exact (a1 p a).2
 ·rw[g]at b;rcases aI.mp b with e|b
  ·exact ⟨p,aJ _ j,w.trans e.symm,i⟩
  ·exact ⟨q,ax _ h,v.trans (aE.mp b).symm,m⟩
noncomputable def cB(t:Str×Str×Str):List Str:="s"::hY::(h8 t).flatMap (·.2)
theorem Nu:∀t∈nS,∀X∈cB t,(cB t).count X<=13:=by decide+kernel
theorem Np:∀t∈nS,∀p∈h8 t,p.1∈eN/\p.2.length<=3/\∀x∈p.2,x∈sr/\(x∈gB\/x∈eN):=by decide+kernel
theorem Nv:∀t∈nS,∀p∈h8 t,p.2.getD 1 "x"∉eN\/(p.1="s"/\∃y∈gB,p.2.drop 2=[y]):=by decide+kernel
theorem Nq:∀t∈nS,∀p∈h8 t,p.2.getD 2 "x"∉eN:=by decide+kernel
theorem Nr:∀t∈nS,∀x∈eN,∃p∈h8 t,p.1=x/\∀y∈p.2,y∈gB:=by decide+kernel
theorem Nt:∀t∈nS,∀n,n<7->3<=((h8 t).getD n ("",[])).2.length->n+1∈[2,3,4,5]:=by decide+kernel
structure Qf(e:List Pr)(A u:Str):Prop where
 l:e.length<=1
 o:∀p∈e,p.1∈eN/\p.2.length<=2/\∀x∈p.2,x∈tb
 a:∀p∈e,p.1=A/\∀x,p.2[0]? =ah x->x=u
theorem PH{l:List Str}{d:Str}(h:l[i]? =ah B):l.getD i d=B:=by (refine (aD).trans ?_;rw[h]);rfl
theorem CN{t:Str×Str×Str}(l:t∈nS){e:List Pr}{A u:Str}(E:Qf e A u):ND (h8 t++e) A u:=by
 have j:ba (h8 t++e)=eN:=by unfold ba;rw[fh];exact nf e eN λ p d=>(E.o p d).1
 have z:∀x∈tb,x∈sr/\(x∈gB\/x∈eN):=by decide+kernel
 have o:∀p∈h8 t++e,p.1∈eN/\p.2.length<=3/\∀x∈p.2,x∈sr/\(x∈gB\/x∈eN):=λ p d=>by
  rcases aM.mp d with d|d
  ·exact Np t l p d
  ·refine jw (E.o p d) λ a b c=>?_;exact ⟨a,cY b,λ x g=>z x (c x g)⟩
 have s:=E.l;refine ⟨⟨λ p d=>(o p d).1,λ p d x g=>by rw[j];exact ((o p d).2.2 x g).2,λ p d=>(o p d).2.1,λ x g=>?_,?_,?_,by rw[j];rfl,λ X=>?_⟩,j,λ p d B i m=>?_,λ p d B i m=>?_,λ n B i=>?_,λ p d x g=>((o p d).2.2 x g).1⟩
 ·rw[j]at g;refine b4 (Nr t l x g) λ p q v=>?_;exact ⟨p,aJ _ q,v⟩
 ·rw[aF];exact O_ s
 ·rw[j,aF];show 6<=7+e.length+1;exact O9
 ·have y:(dK (h8 t++e)).flatMap (·.2)=cB t++e.flatMap (·.2):=by show (["s",hY]:List Str)++(h8 t++e).flatMap (·.2)=_;rfl
  simp only[y,gg];have q:(cB t).count X<=13:=by
   by_cases h:X∈cB t
   ·exact Nu t l X h
   ·rw[List.count_eq_zero_of_not_mem h];exact bg _
  exact gx q (aA i9 (aA (yF (·.2) 2 e λ p d=>(E.o p d).2.1) (Nat.mul_le_mul_right 2 s)))
 ·rw[j]at m;rcases aM.mp d with d|d
  ·exact .inl ((Nv t l p d).resolve_left λ k=>k (by rw[PH i];exact m))
  ·refine za (E.a p d) λ a c=>?_;have r:0<p.2.length:=aQ (bg _) (bh.mp i).1;exact .inr ⟨a,(c _ (ay r))▸ay r⟩
 ·rw[j]at m;rcases aM.mp d with d|d
  ·exact Nq t l p d (by rw[PH i];exact m)
  ·exact absurd (aH (bh.mp i).1 (E.o p d).2.1) (bA 2)
 ·cases n with
  |zero=>cases i
  |succ n=>
   have f:=(bh.mp i).1;have f:2<((h8 t++e).getD n ("",[])).2.length:=f;by_cases h:n<7
   ·rw[aD,c0 h]at f;exact Nt t l n h f
   ·by_cases k:n<(h8 t++e).length
    ·have w:(h8 t++e).getD n ("",[])∈e:=by rw[aD,bG (eY h)];simp only[aF]at k;exact bd (O8 k rfl h) _
     exact absurd (aH f (E.o _ w).2.1) (bA 2)
    ·rw[aD,bl (eY k)]at f;exact nomatch f
theorem Im(row:List Nat):Qf [mq row] ((mq row).1) ((mq row).2.getD 0 ""):=by
 refine ⟨aT _,λ p a=>?_,λ p a=>?_⟩
 ·rw[aE.mp a];refine ⟨bd (xs:=eN) (d4 (by decide)) "",?_,λ x c=>?_⟩
  ·show ((aZ (pick row 4 3)).map _).length<=2;simp only[au,bf];exact ci (d4 (by decide))
  ·refine b4 (aC.mp c) λ k Z b=>?_;subst b;exact bd (xs:=tb) (d4 (by decide)) ""
 ·rw[aE.mp a];exact ⟨rfl,λ x c=>(PH c).symm⟩
theorem BH(row:List Nat):dw (gk row)/\∀n,(dX (bW (gk row)) n).length<=2000:=by
 dsimp only[gk];split
 ·have b:nS.getD (pick row 1 6) ("","","")∈nS:=bd (d4 (by decide)) _;unfold CP;split
  ·have:=CN b (Im row);exact ⟨this.F,this.most⟩
  ·have:=CN b (e:=[]) (A:="") (u:="") ⟨bg _,λ p a=>(nomatch a),λ p a=>(nomatch a)⟩;exact ⟨this.F,this.most⟩
 ·exact ⟨(CM row).XJ,(CM row).most⟩
theorem Pd(row:List Nat):FO (gk row) (wA (gk row)):=by have a:=BH row;exact ⟨a.1.pr,a.1.good,a.1.Wq,a.1.Vq,a.1.sh,a.2,a.1.W_,a.1.Vy,a.1.shown⟩
noncomputable abbrev BE(t:aG):Array Value:=#[.ref t,.none,.none,.none,.bool ao,.none]
theorem rR(p:aG×MO)(J:Mu):addrs (p::J)=ce p++addrs J:=rfl
theorem zN{args:List V}(hm:hV G.K C=aj)(hi:g9 G.K (.ref C) "__init__"=ah (ah (.ref fI)))(N:lJ G.K (.ref fI)=ah (.type "function"))(hl:args.length<=100)(H:∀x t,cD G d (.ref fI) (.ref x::args) ((x,.exc C ai (BE t) [])::J) (λ v J'=>v=.none/\post (.ref x) J')):cD G (d+1) (.ref C) args J post:=by
 intro A g R s us S₀ O hS I P hN T Q;have f:G.K.In s.heap:=by obtain ⟨⟨n,base,outer,y,m,B,F,Y,N,L⟩,f,_⟩:=O;exact f.keeps F.keep
 obtain ⟨a,X,d',t,os⟩:=s;have k:∀b o,a.get? b=ah o->((a.push (dU us.toArray 0)).push (k7 C a.objs.size)).get? b=ah o:=λ b o e=>aL _ (aL _ e);have z:a.get? (a.objs.size+1)=ai:=ee (gw _);have D:∀b,a.get? b=ai->g.get? b=ai/\b≠R:=λ b e=>by
  obtain ⟨⟨n,base,outer,y,m,B,F,Y,N,L⟩,_⟩:=O;constructor
  ·cases q:g.get? b with
   |none=>rfl
   |some o=>rw[F.keep _ _ q]at e;cases e
  ·rintro rfl;refine mI F.ns λ o Z Z E Z=>?_;rw[E]at e;cases e
 have l:∀b∈addrs J,∃o,a.get? b=ah o:=λ b c=>by refine b4 (bT.mp c) λ p j c=>?_;exact (P p j).live b c
 have i:∀{b},b∈addrs ((a.objs.size+1,MO.exc C ai (BE a.objs.size) [])::J)->b=a.objs.size+1\/b∈addrs J:=λ {b} h=>by rw[rR]at h;exact (aM.mp h).imp_left λ h=>aE.mp h
 refine xv ((ml (M:=bn G.prog G.w) f hm).1) (by rw[Q.length,dA];exact aA ‹_› (by decide)) (g5 f hi) (λ w=>bind_fn f w N) ?_;rw[qB];have hx:((a.push (dU us.toArray 0)).push (k7 C a.objs.size)).get? (a.objs.size+1)=ah (k7 C a.objs.size):=by heap_get
 refine ki (H (a.objs.size+1) a.objs.size (Around.made A) g R ⟨(a.push (dU us.toArray 0)).push (k7 C a.objs.size),X,d',t,os⟩ (.ref (a.objs.size+1)::us) S₀ (O.made k) (λ b o e=>⟨k _ _ (hS b o e).1,λ c=>?_⟩) I (λ p j=>?_) ?_ (λ b c=>?_) (.cons (.ref _) Q)) ?_
 ·rcases i c with h|h
  ·have:=(hS b o e).1;rw[h,z]at this;cases this
  ·exact (hS b o e).2 h
 ·rcases aI.mp j with rfl|j
  ·exact .SH hx
  ·exact (P p j).mono (.refl _) λ b Z o e=>k b o e
 ·rw[rR];refine bB.mpr ⟨λ h=>?_,hN⟩;refine ze (l _ h) λ o E=>?_;rw[z]at E;cases E
 ·rcases i c with h|h
  ·rw[h];exact D _ z
  ·exact T b h
 ·rintro r s' ⟨u,v,J',S',rfl,st,keep,al,le,Vo,Ug,TC,Uo,hv,rfl,j⟩;cases hv;refine ⟨rfl,_,.ref (a.objs.size+1),J',S',rfl,st,λ b o e U=>keep b o (k b o e) λ c=>?_,λ b o e=>al b o (k b o e),le,λ b o e=>?_,Ug,TC,λ b c=>?_,.ref _,j⟩
  ·rcases i c with h|h
   ·rw[h,z]at e;cases e
   ·exact U h
  ·refine jw (Vo b o e) λ W S h3=>?_;refine ⟨W,S,h3.imp id λ q=>?_⟩;cases K:a.get? b with
   |none=>rfl
   |some o'=>rw[k _ _ K]at q;cases q
  ·rcases Uo b c with h|h
   ·rcases i h with h|h
    ·rw[h];exact .inr z
    ·exact .inl h
   ·refine .inr ?_;cases K:a.get? b with
    |none=>rfl
    |some o'=>rw[k _ _ K]at h;cases h
inductive QA(K:f7)(a:aG)(C:aG)(i:Nat)(name:Str)(Q:Option (Option V)->St->Prop)(v:V)(Y:St):Prop
 |mk (hv:Y.vals[i]? =ah (ah (.ref a))) (dd:Option aG) (vs:Array Value) (fs:List (Str×V)) (J1 J2:Mu) (h:Y.mu=J1++(a,.exc C dd vs fs)::J2) (s:sm K C name=aj) (z:fs.length<900) (q:∀D,Q ai ⟨Y.vals,J1++(a,.exc C (ah D) vs (m7 name v fs))::J2⟩)
theorem PY(I:f6 O G d T){a C:aG}{i:Nat}{x name:Str}{e:Expr}{p1:gU}{Q:Option (Option V)->St->Prop}(h:XV O Ex (bv e O.env) (QA G.K a C i name Q) Y)(j:autoParam (∀n,(T n)[i]? =ah (x,.loc)) rf)(hd:autoParam (iO x=aj) rf)(f:autoParam (eg e (ah (.Attribute (.Name x p1) name pos')) pos.line O.env=pure ao) rf):XF O Ex (gc (.Assign [.Attribute (.Name x p1) name pos'] e pos) O.env) Q Y:=
 Hp I.ok (h.mono λ v b q=>by
  cases q with
  |mk l k vs fs J1 J2 o c g m=>exact nl I i l ⟨a,C,k,vs,fs,J1,J2,rfl,o,(bz I.g)▸c,g,m⟩ j hd) f
theorem xM(I:f6 O G d T)(i:Nat)(F:fx G "Exception" (.type "Exception")){np a pos:gU}{args:List Expr}{Q:V->St->Prop}(h:XL O Ex (c4 (cM pos (bk args O.env))) (rq O Ex (.builtin "Exception.__init__") Q) Y)
 (hi:autoParam (∀n,(T n)[i]? =ah (("Exception":Str),NK.glob)) rf) (b:autoParam (Dy pos args O.env) rf)
 (f:autoParam (bv (.Call (.Attribute (.Name "Exception" np) "__init__" a) args [] pos) O.env=(do
  let ov <-bv (.Name "Exception" np) O.env
  iX a.atName
  gN (.Name "Exception" np) "__init__" a pos O.env ov (args.length+0) (cM pos (bk args O.env)) [])) rf)
 (e:autoParam (Hb pos args O.env) rf) (c:autoParam ((a.endLine==pos.line)=aj) rf):
 XV O Ex (bv (.Call (.Attribute (.Name "Exception" np) "__init__" a) args [] pos) O.env) Q Y:=
 Eh (i:=i) I.ok I.bt (I.at i hi) ((bz I.g)▸F.n) F.b (by decide) (rfl) b h f e c
theorem w9{C:aG}{name qual:Str}{f:aG}(Yy:cr G f name qual (cN (mem 2 0)) (cy (mem 2 0)) (bF (mem 2 0)) ["self","what","at"] [.none])(k:fx G "Exception" (.type "Exception"))(g:hV G.K C=aj)
 (j:sm G.K C "what"=aj) (a:sm G.K C "at"=aj) (x t:aG) (w:V):
 cD G (d+1) (.ref f) [.ref x,w] [(x,.exc C ai (BE t) [])] (λ v J'=>v=.none/\∃D vs,J'=[(x,.exc C (ah D) vs [("what",w),("at",.none)])]/\vs.size=6/\vs[1]? =ah .none):=
 de Yy _ _ _ rfl λ O I=>by refine aB<|xe I<|xM I 3 k<|an<|nl I 0 rfl<|a1<|nl I 1 rfl<|z_ (J1:=[]) (J2:=[]) I.ok rfl ((bz I.g)▸g) (t0:=.ref t) rfl λ vs e h=>?_;refine aB<|PY I (C:=C) (i:=0)<|nl I 1 rfl ⟨rfl,ai,vs,[],[],[],rfl,j,by decide,λ D=>?_⟩;refine aB<|PY I (C:=C) (i:=0)<|nl I 2 rfl ⟨rfl,_,vs,_,[],[],rfl,a,by show 1<900;decide,λ D=>bm ?_⟩;exact ⟨[],[(x,.exc C (ah D) vs [("what",w),("at",.none)])],_,.none,rfl,λ b c=>aI.mpr (.inl (aE.mp c)),dE.refl _ _,.refl _,rfl,D,vs,rfl,e,h⟩
set_option tactic.hygienic true in
theorem BR{K:f7}(h:yr K C=aj){od:Obj}{r:Value}(c:qq "at" od=ah (ah r)):findObj K C (ah od) "at"=ah (.value r):=by
 unfold yr at h;simp only[cW]at h;refine za h λ b a=>?_;split at a
 ·rename_i attr ha;exact findObj_own b ha a c
 ·cases a
structure Xc(G:GC)(C:aG):Prop where
 make:hV G.K C=aj
 mt:lJ G.K (.ref C)=ah (.type "type")
 g:mH G.K cj "GrammarError"=ah (ah (.ref C))
 k:mW G.K (.ref C)=aj
 init:∃f name qual,cr G f name qual (cN (mem 2 0)) (cy (mem 2 0)) (bF (mem 2 0)) ["self","what","at"] [.none]/\g9 G.K (.ref C) "__init__"=ah (ah (.ref f))/\lJ G.K (.ref f)=ah (.type "function")
 V2:fx G "Exception" (.type "Exception")
 WO:sm G.K C "what"=aj
 at_:sm G.K C "at"=aj
 get:oW G.K C=aj
 told:∃f name qual,cr G f name qual (cN (mem 2 1)) (cy (mem 2 1)) (bF (mem 2 1)) ["self"] []/\g9 G.K (.ref C) "told"=ah (ah (.ref f))/\lJ G.K (.ref f)=ah (.type "function")/\mW G.K (.ref f)=aj
 own:yr G.K C=aj
theorem zp(X:Xc G C)(w:V):cD G (d+2) (.ref C) [w] [] (λ v J'=>∃x D vs,v=.ref x/\J'=[(x,.exc C (ah D) vs [("what",w),("at",.none)])]/\vs.size=6/\vs[1]? =ah .none):=by refine kj X.init λ f name qual Yy i b=>?_;exact zN X.make i b (by show 1<=100;decide) λ x t=>(w9 Yy X.V2 X.make X.WO X.at_ x t w).mono (aT _) λ v J' a=>by refine Hj a λ e D vs c g h=>?_;exact ⟨e,x,D,vs,rfl,c,g,h⟩
inductive mz(O:FC)(C:aG)(e:Value)(s:aR):Prop
 |mk (a:aG) (Y:St) (Kp:b7) (Jj:List (aG×Obj)) (D:aG) (vs:Array Value) (w:V) (e1:e=.ref a) (R:cQ O Y Kp Jj s) (hm:(a,MO.exc C (ah D) vs [("what",w),("at",.none)])∈Y.mu) (hs:vs.size=6) (h1:vs[1]? =ah .none)
theorem Eg(X:Xc G C)(l:O.G=G)(ok:O.Ok){e:Expr}{Q:Option (Option V)->St->Prop}(h:XV O (mz O C) (bv e O.env) (λ v b=>∃a D vs w,v=.ref a/\(a,MO.exc C (ah D) vs [("what",w),("at",.none)])∈b.mu/\vs.size=6/\vs[1]? =ah .none) Y):XF O (mz O C) (gc (.Raise (ah e) ai pos) O.env) Q Y:=λ Kp Jj s R=>by
 show aW _ _ (do iX pos;raiseStmt O.env (ah (do let v <-bv e O.env;iX pos;pure v)) ai) _ _ _;refine aw (ej ?_);delta raiseStmt
 dsimp only;refine aw (aw (h.Q6 R λ u c v b Kk l₁ d i h₁=>aw (ej (az ?_))));refine AY h₁ λ a D vs w j p t o=>?_;subst j;have i:u=.ref a:=i.inv;subst i;have m:mz O C (.ref a) c:=⟨a,b,Kk,Jj,D,vs,w,rfl,d,p,t,o⟩;obtain ⟨es,n,g,q,x⟩:=(d.mu _ p).S_;have K:=d.Sb ok;have I:InstAt c.heap a {cls:=.ref C,dict:=ah D,data:=.fields vs} C (ah (dictOf es n)):=⟨g,rfl,rfl,q⟩;have f:∀{k:Bool->aR->Prop},k ao c->aW (bn O.G.prog O.G.w) O.A (isType (.ref a)) k (mz O C) c:=by intro k r;simp only[isType,loadHead];exact aw (e8 g (az r))
 refine aw (az ?_);dsimp only;refine aw (bD ?_);dsimp only[excFromValue,isExcClass];refine aw (aw (f ?_));skip;refine az ?_;skip;refine aw ((v8 (M:=bn O.G.prog O.G.w) K I (l▸(oV X.get).2.2)).here ?_);skip;refine az ?_;refine aw (f ?_);skip;skip;refine aw (aw (I.type.here (aw ((looks_typeIn K (l▸X.mt)).here ?_))));skip;refine az ?_;skip;refine aw (aw (gM g rfl o ?_));skip;refine az (aw (wpAny_handled ?_));rw[ok.hand]
 first
  |exact wpAny_throw m
  |exact aw (az (wpAny_throw m))
theorem HL(n:Nat)(h:n<=2000):(Str.ofString (toString (n:Int))).length<=100:=by
 have:∀n:_root_.Fin 2001,(Str.ofString (toString ((n.1:Nat):Int))).length<=100:=by decide+kernel
 exact this ⟨n,dc h⟩
theorem xh(X:Xc G C)(S:fx G "str" (.type "str"))(I:f6 O G (d+2) (mJ (bF (top 25))))(a:Nat)(g:a<=2000)(Q:Option (Option V)->St->Prop)(Y:St)(b:Y.vals[1]? =ah (ah (.nat a))):
 XF O (mz O C) (eI yk O.env) Q Y:=by
 have e:=HL a g;have f:(Str.ofString "more than ").length<=100:=by decide+kernel
 refine aB<|Eg X I.g I.ok<|tG 18 I.ok (I.at 18 (by intro n;rfl)) ((bz I.g)▸X.g) rfl ((bz I.g)▸X.k) rfl<|a1<|bw<|bw<|c1<|cb I 19 S<|a1<|nl I 1 b<|Nl (aQ ‹_› (by decide))<|i1 (JJ f e)<|c1<|i1 (by rw[Str.length_append];exact JI f e (by decide+kernel)) ?_;exact sp I Y.mu (zp (d:=d) X _) (aT _) rfl λ v J' c=>by refine qs c λ x D vs h k i j=>?_;exact ⟨x,D,vs,_,h,by subst k;exact .head _,i,j⟩
section
variable{a:aG}
theorem cQ.frames(ok:O.Ok)(i:O.RQ=[])(c:O.RF=O.env)(R:cQ O Y Kp Jj s):s.heap.FunFrames (r9 O.h₀ (fz (O.env::O.outer))) (O.env::O.outer):=by
 have f:O.env.frame=ah O.fL:=c▸ok.RJ;refine ⟨by rw[ok.kind];decide,⟨O.fL,?_⟩,?_⟩
 ·refine x6 R.frame λ m o es ep d a Z=>?_;refine ⟨o,f,r8 _ (d8.mpr ⟨O.env,.head _,f⟩),d,λ vs e=>?_⟩;rw[a]at e;cases e
 ·refine ti (Heap.FunFrames.of_keeps (λ b o e n=>⟨o,?_,rfl⟩) ok.below.frames) λ b g=>r8 _ ?_
  ·refine za (ok.Sr b o e) λ d a=>?_;exact R.old b o d a
  ·refine b4 (d8.mp g) λ x h e=>?_;exact d8.mpr ⟨x,.tail _ h,e⟩
theorem cQ.pre(ok:O.Ok)(c:O.RQ=[])(d:O.RF=O.env)(R:cQ O Y Kp Jj s){D:aG}{vs:Array Value}{w:V}(hi:(a,MO.exc C (ah D) vs [("what",w),("at",.none)])∈Y.mu)(m:vs.size=6):
 Pre O.h₀ (O.env::O.outer) C a s.heap:=by
 have g:∀b∈ce (a,MO.exc C (ah D) vs [("what",w),("at",.none)]),O.h₀.get? b=ai:=λ b l=>by
  rcases R.fresh b (ax _ (bT.mpr ⟨_,hi,l⟩))with h|h
  ·rw[c]at h;exact nomatch h
  ·exact h
 refine ⟨λ b o e Z=>R.old b o e (by rw[c];exact d7),λ b o e Z=>⟨o.slots,R.old b o e (by rw[c];exact d7)⟩,R.frames ok c d,g a (.head _),?_⟩;obtain ⟨es,n,p,k,f⟩:=(R.mu _ hi).S_;refine b4 (f.getL (x:="at") (v:=.none) (by kernel_rfl)) λ u i j=>?_;rw[j.inv]at i;exact ⟨_,vs,D,_,p,rfl,rfl,by rw[m];decide,rfl,g D (.tail _ (.head _)),k,by exact i,by exact f.Sn (by kernel_rfl)⟩
inductive IN(O:FC)(C:aG)(e:Value)(s:aR):Prop
 |mk (a L:aG) (e1:e=.ref a) (hf:O.env.frame=ah L) (F:yY O.h₀ (O.env::O.outer) C (iY L) a s.heap) (st:gu O.RP s)
theorem pz{e:Value}(h:IN O C e s):Hi (bn O.G.prog O.G.w) O.A O.env (IN O C) e s:=by obtain ⟨a,L,rfl,b,F,st⟩:=h;obtain ⟨n,vs,T,k,m,a1,d,f,g,o,l,j,i⟩:=F.tr;dsimp only[Hi];refine aw (gM a1 d f ?_);skip;rw[b];exact k4 F (ah L) λ h' c=>⟨a,L,rfl,b,c,st⟩
theorem B5(ok:O.Ok)(f:O.RQ=[])(b:O.RF=O.env){e:Value}{s:aR}(h:mz O C e s):Nb O (IN O C) e s:=by obtain ⟨a,Y,Kp,Jj,D,vs,w,rfl,R,hi,d,g⟩:=h;have c:O.env.frame=ah O.fL:=b▸ok.RJ;refine xq (b▸ok.frames) c (R.pre ok f b hi d) ?_ λ h' F=>pz ⟨a,_,rfl,c,F,R.st⟩;exact let ⟨_,_,e1,_,_⟩:=(R.mu _ hi).S_;⟨_,vs,e1,rfl,g⟩
theorem EY{e:Value}(h:IN O C e s):Nb O (IN O C) e s:=by obtain ⟨a,L,rfl,b,F,st⟩:=h;exact rc b F (pz ⟨a,L,rfl,b,F,st⟩)
theorem Ce{e:Value}{s:aR}(h:IN O C e s){Q:aR->Prop}{E:Value->aR->Prop}(d:∀L,O.env.frame=ah L->O.h₀.get? L=ai)(q:∀a h',e=.ref a->yY O.h₀ O.outer C .none a h'->gu O.RP s->Q {s with heap:=h'}):
 aW (bn O.G.prog O.G.w) O.A (IY O.env e) (λ Z=>Q) E s:=by
 obtain ⟨a,L,rfl,b,F,st⟩:=h;skip;exact aw (rc b F (k4 F ai λ h' c=>q a h' rfl (c.leave b (d L b)) st))
end
structure wE(C a:aG)(h:Heap):Prop where
 ex:∃oe oD,InstAt h a oe C (ah oD)/\qq "at" oD=ah (ah .none)/\qq "told" oD=ah ai
theorem wE.keeps{a:aG}{h:Heap}(E:wE C a h)(k:∀b o,h.get? b=ah o->h'.get? b=ah o):wE C a h':=by
 obtain ⟨c,e,⟨d,l,f,i⟩,j,g⟩:=E;refine ⟨c,e,⟨k _ _ d,l,f,?_⟩,j,g⟩;revert i
 cases c.dict with
 |none=>exact id
 |some D=>exact k _ _
theorem kA{st:Stmt}{a:List Stmt}{Q:Flow->aR->Prop}(h:aW M A (gc st env) (λ fl s'=>∃u,fl=.ret u/\Q (.ret u) s') E s):aW M A (eI (st::a) env) Q E s:=by show aW _ _ (gc st env>>=_) _ _ _;refine aw (aY h (λ fl s' b=>b4 b λ u e q=>?_) λ Z Z e=>e);cases e;exact az q
inductive Zz(h₀:Heap)(u:Value)(h:Heap):Prop
 |mk (t:aG) (a b:I2) (e:u=.ref t) (n:h₀.get? t=ai) (x:h.get? t=ah (dU #[.int 0 a,.int 0 b] 0))
theorem yG{p1 p2 p3:gU}{k1 k2 k3:Nat}{Q:Value->aR->Prop}(h:∀u h' tk,(∀b o,s.heap.get? b=ah o->h'.get? b=ah o)->Zz s.heap u h'->Q u {s with heap:=h',toks:=tk})
 (c:autoParam (bk [.Constant (.int 0) k1 p1,.Constant (.int 0) k2 p2] env=[(ao,bv (.Constant (.int 0) k1 p1) env),(ao,bv (.Constant (.int 0) k2 p2) env)]) rf):
 aW (bn prog w) A (bv (.Tuple [.Constant (.int 0) k1 p1,.Constant (.int 0) k2 p2] k3 p3) env) Q E s:=by
 refine wpAny_Tuple ?_;skip;show aW _ _ (do let v <-bv (.Constant (.int 0) k1 p1) env;let a <-pure [v];return a++(<-kc a (c4 (cM p3 [(ao,bv (.Constant (.int 0) k2 p2) env)])))) _ _ _;refine aw (qp (aw (az (aw (bD ?_)))));show aW _ _ (do let v <-bv (.Constant (.int 0) k2 p2) env;let a <-pure [v];return a++(<-kc a (c4 (cM p3 [])))) _ _ _;refine aw (qp (aw (az (aw (bD (az (az (az ⟨by rw[dA];simp,?_⟩))))))));exact h _ _ _ (λ b o e=>aL _ e) ⟨_,_,_,rfl,dh _,bO _ rfl⟩
theorem HW{p1 p2 p3 pos:gU}{k1 k2 k3:Nat}{Q:Flow->aR->Prop}(h:∀u h' tk,(∀b o,s.heap.get? b=ah o->h'.get? b=ah o)->Zz s.heap u h'->Q (.ret u) {s with heap:=h',toks:=tk})
 (a:autoParam (bk [.Constant (.int 0) k1 p1,.Constant (.int 0) k2 p2] env=[(ao,bv (.Constant (.int 0) k1 p1) env),(ao,bv (.Constant (.int 0) k2 p2) env)]) rf):
 aW (bn prog w) A (gc (.Return (ah (.Tuple [.Constant (.int 0) k1 p1,.Constant (.int 0) k2 p2] k3 p3)) pos) env) Q E s:=lE (yG h a)
theorem zc{f a:aG}{R:qr->aR->Prop}(X:Xc G C)(Yy:cr G f name qual (cN (mem 2 1)) (cy (mem 2 1)) (bF (mem 2 1)) ["self"] [])(i:G.K.In s.heap)(nl:s.heap.NoLimit)(l:A.depth<1000)(H:wE C a s.heap)(h:∀u h' tk,(∀b o,s.heap.get? b=ah o->h'.get? b=ah o)->Zz s.heap u h'->R (.ok (.ret u)) {s with heap:=h',toks:=tk}):gd (bn G.prog G.w) A (.call (.ref f) ⟨[.ref a],[]⟩) R s:=by
 obtain ⟨⟨dV,kV,Q,Z,w,ct,oc,an,od,Y,N,D,xJ,O,B,j⟩,p,m,hk,S,V,P⟩:=id Yy;have e0:xJ=[]:=h9.mp B;subst e0;refine DG l (i _ _ N) rfl p m rfl (codeRec_of i D) (j [.ref a] s i rfl _ _ _ _ ?_);refine wM hk (λ x U=>?_) λ E W s' x=>?_
 ·have r:x=(("self":Str),Value.ref a):=by simpa using U
  subst r;exact .inl (by kernel_rfl)
 subst W;refine ⟨nl.keeps x.toInCall.keep,codeAny_func ?_⟩;have g:=x.toInCall.keep;refine Jc x.toInCall.same λ h₁ tk n=>?_;generalize M:newEnv (bF (mem 2 1)) s.heap.objs.size cj (dZ (s.heap.objs.size+1) (bF (mem 2 1)).names []) (qual++".<locals>.") (ah f) w ai e_=env at*;refine kA<|wpAny_If<|nE<|Attribute_any_ (qo (gI (by rw[(show env.scope=bF (mem 2 1)from by rw[<-M];rfl)];exact hk) (by kernel_rfl) x.toInCall.ns (v:=.ref a) ?_ ?_) (rfl))
 ·exact (by kernel_rfl)
 ·refine fo ((H.keeps g).ex) λ oe oD I L h2=>?_;refine Fu (i.keeps g) I X.get (BR X.own L) rfl (FS (is_none (fA ?_)));refine (if_pos rfl).mpr ?_;refine kA<|HW λ u h' y k z=>⟨u,rfl,?_⟩;obtain ⟨t,c,d,K,J,T⟩:=z;subst n;have e:s.heap.get? t=ai:=by
   cases q:s.heap.get? t with
   |none=>rfl
   |some o=>have F:=g t o q;rw[show Heap.get? _ t=ai from J]at F;exact nomatch F
  exact ⟨u,rfl,h u h' y (λ b o e=>k b o (g b o e)) ⟨t,c,d,K,e,T⟩⟩
theorem cZ.max{bx:List fy}(A:cZ g bx)(n:Nat):(dX g n).length<=bx.length:=by
 rcases pQ bx.length n with q|q
 ·simp only[lY (cq A.len) n (bc q),A.len];exact aT _
 ·have:=(iQ g q).length_le;simp only[A.len]at this;exact this
theorem cZ.uniq{s t:List fy}(A:cZ g s)(B:cZ g t):t.length=s.length:=A.eq B.len.symm
theorem Dv(X:Nat)(k:eZ)(ks:List (eZ×Int)):k∈(jZ X k ks).1.map (·.1):=by
 cases e:(ks.map (·.1)).idxOf? k with
 |some n=>rw[iA e];refine Classical.byContradiction λ h=>?_;rw[h_.mpr h]at e;exact nomatch e
 |none=>rw[fU e,aK];exact ax _ (.head _)
theorem Bz:∀(l:List (Nat×eZ)) (a:List (eZ×Int)×List (Nat×Nat)),∀p∈l,p.2∈(l.foldl me a).1.map (·.1):=by
 intro l;induction l with
 |nil=>intros;first|contradiction|exact absurd ‹_<_› (c6 _)
 |cons q l b=>
  intro a p h;rcases aI.mp h with rfl|h
  ·exact ((nN l (me a p)).map _).subset (Dv _ _ _)
  ·exact b (me a q) p h
theorem cZ.two(m:c_ g)(j:0<g.owners.length){X:Nat}(k:g.after 0=(X:Int))(o:X<g.names.length){bx:List fy}(A:cZ g bx):2<=bx.length:=by
 have hk:gq g [(0,0)]:=(rO m j 0).1 _ (.head _);have C:=gZ hk;refine b4 (aC.mp ((C.keys 0).mpr (.base (.head _)))) λ p b e=>?_;have c:(1,p.2)∈cX g (iP g [(0,0)]) X:=aC.mpr ⟨p,b3.mpr ⟨b,e▸k▸beq_self_eq_true _⟩,by rw[e]⟩;have n:X∈pN g (iP g [(0,0)]):=b3.mpr ⟨bN.mpr o,by cases q:cX g (iP g [(0,0)]) X with|nil=>rw[q]at c;cases c|cons _ _=>rfl⟩
 have f:=(qk C.nd λ p b=>((C.mem p).mp b).1.lt hk).mpr c;have d:wy g (iP g [(0,0)]) X∈(dX g 1).map (·.1):=by exact Bz _ (dX g 0,[]) _ (aC.mpr ⟨X,n,rfl⟩)
 have a:[(0,0)]∈(dX g 1).map (·.1):=((iQ g (bg 1)).map _).subset (.head _);refine aA ?_ (A.max 1);refine eY λ h=>?_;cases i:dX g 1 with
 |nil=>rw[i]at a;exact nomatch a
 |cons z l=>rw[i]at a d h;cases rX (rZ.mp (ci (eQ h)));simp only[aE.mp d,<-aE.mp a]at f;cases aE.mp f
theorem zZ(pairs:List Pr):(bW pairs).after 0=((nZ pairs ((ba pairs).getD 0 ""):Nat):Int):=rfl
theorem FO.two(P:FO pairs Rk){bx:List fy}(A:cZ (bW pairs) bx):2<=bx.length:=
 A.two P.good P.HR.pos (zZ pairs) (P.good.syms 0 (cp _) _ (.head _))
inductive PO(O:FC)(C:aG)(e:Value)(s:aR):Prop
 |mk (a:aG) (Y:St) (Kp:b7) (Jj:List (aG×Obj)) (UM:aR) (e1:e=.ref a) (R:cQ O Y Kp Jj UM) (F:yY UM.heap (O.RF::O.outer) C .none a s.heap) (st:gu UM s)
noncomputable abbrev lj(G:GC)(f:aG):Prop:=cr G f "build_canonical" "build_canonical" (cN (top 25)) (cy (top 25)) (bF (top 25)) ["grammar","most"] []
section
variable{f:aG}
theorem xL(B:DL G CG CR CS CA)(X:Xc G C)(S:fx G "str" (.type "str"))(Yy:lj G f)(g:Gr)(W:c_ g)(hr:0<g.rules.length){bx:List fy}(A:cZ g bx)(M:bx.length<=2000)(c:Nat)(r:c+1=bx.length)(h1:1<=c)
 (I:f6 O G (d+5) T) {Q:V->St->Prop}:cS O (PO O C) (.ref f) [g.v CG CR,.nat c] Q Y:=λ Kp Jj s us R hu=>by
 obtain ⟨ok,rfl,hd, -, -⟩:=I;obtain ⟨m,F⟩:=R.fr ok;have P:=ok.depth;have h3:=ok.units;rw[hd]at P h3;refine jj (CW (d:=d+4) Yy [g.v CG CR,.nat c] [] (λ v J'=>(∃bx,v=kJ CG CR CS CA g bx/\cZ g bx/\bx.length<=c)/\J'=[]) rfl ok.below F ok.frames ok.RJ ok.S9 ok.Sb ok.top ok.hand (aH ‹_› (by decide)) (‹_›)
  (λ b o e=>⟨(R.kp b o e).1,d7⟩) R.UT (λ p hp=>nomatch hp) bK (λ b U=>nomatch U) hu ?_ ?_)
 ·rintro x s' ⟨u,v,J',S',rfl,st,keep,al,le,Vo,Ug,TC,Uo,hv,⟨YJ,e,A',Zn⟩,e2⟩;exact (JM r (A.uniq A') Zn).elim
 ·intro E k j w l q z i q1 q2 q3 q4 K q6 N q8 q9 y;have H:f6 E O.G (d+4) (mJ (bF (top 25))):=⟨k,j,w,let ⟨n,e⟩:=l;⟨λ Z=>n,e⟩,i⟩;refine ⟨IN E C,λ e s' h=>?_,nj (J:=[]) B g W hr c h1 (Gb r M) H (λ Z Z h=>EY h) (λ Z Z h=>B5 k q6 q4 h) λ Z Q Y t=>xh X S H c (Gb r M) Q Y t⟩;rw[<-j];refine Ce h (λ L e=>(bz K)▸y L e) λ a h' e D st=>?_;rw[K,q3]at D;rw[N]at st;exact ⟨a,Y,Kp,Jj,s,e,R,D,st⟩
theorem By(B:DL G CG CR CS CA)(Yy:lj G f)(g:Gr)(j:c_ g)(e:0<g.rules.length)(a:Nat)(k:1<=a)(c:a<=2000)(i:∀n,(dX g n).length<=a):
 cD G (d+5) (.ref f) [g.v CG CR,.nat a] J (λ v J'=>(∃bx,v=kJ CG CR CS CA g bx/\cZ g bx/\bx.length<=a)/\J'=J):=
 de Yy _ _ _ rfl λ O I=>nj B g j e a k c I (E0:=dL) (E1:=dL) (E2:=dL) (λ Z Z h=>h.elim) (λ Z Z h=>h.elim) λ b=>by refine ze b λ n h=>?_;exact absurd (i n) (o5.mpr h)
theorem Jk{a:List Stmt}{h₀:ExceptHandler}{i:List ExceptHandler}{Q:Option (Option V)->St->Prop}(h:XF O dL (eI body O.env) (λ f Y=>f≠ai/\Q f Y) Y):XF O Ex (gc (.Try body (h₀::i) a [] pos) O.env) Q Y:=
 λ Kp Jj s R=>wpAny_Try_except (aY (h Kp Jj s R) (λ f s' d=>Pt.on d λ b Y' K' l R' c e=>za e λ g q=>by
  cases c with
  |next=>exact absurd rfl g
  |ret j=>exact ⟨_,Y',K',l,R',.ret j,q⟩
  |cont=>exact ⟨_,Y',K',l,R',.cont,q⟩) λ Z Z h=>h.elim)
theorem cS.mono{v:Value}{i:V->St->Prop}(h:cS O Ex v vs Q Y)(k:∀b Y,Q b Y->i b Y):cS O Ex v vs i Y:=
 λ Kp Jj s us R j=>aY (h Kp Jj s us R j) (λ Z Z g=>by obtain ⟨b,Y',f,a,c,d,e⟩:=g;exact ⟨b,Y',f,a,c,d,k _ _ e⟩) λ Z Z e=>e
theorem oh(B:DL G CG CR CS CA)(F:Fn G "build_canonical" "build_canonical" (top 25) ["grammar","most"] [.nat 2000])(g:Gr)(a:Nat)(I:f6 O G d (mJ (bF (top 38)))){Q:Option (Option V)->St->Prop}(i:Y.vals[0]? =ah (ah (g.v CG CR)))(c:Y.vals[1]? =ah (ah (.nat a)))
 (h:cS O Ex (.ref F.f) [g.v CG CR,.nat a] (λ v Y'=>∃bx,v=kJ CG CR CS CA g bx/\bx.length<=2000/\Q (ah (ah (.nat bx.length))) Y') Y):XF O Ex (eI (cy (sub (top 38) 0)) O.env) Q Y:=by
 refine aB<|dB<|cb I 3 B.len<|a1<|fa I<|cg I 4 F<|an<|nl I 0 i<|a1<|nl I 1 c<|h.mono λ v Y' f=>ew f λ bx e hz q=>?_;have b:(bx.map (fy.v CS)).length=bx.length:=au ..;exact ⟨CA,mK CG CR CS g bx,.list (bx.map (fy.v CS)),e,B.A.a _ (by decide+kernel),by kernel_rfl,lh .frozen ((bz b)▸aQ ‹_› (by decide)) ((bz b)▸q)⟩
theorem zt(B:DL G CG CR CS CA)(F:Fn G "build_canonical" "build_canonical" (top 25) ["grammar","most"] [.nat 2000])(Yy:lj G F.f)(L:Fn G "_law_allowed" "_law_allowed" (top 38) ["grammar","most"] [])(g:Gr)(j:c_ g)(f:0<g.rules.length){bx:List fy}(A:cZ g bx)(b:bx.length<=2000)(k:1<=bx.length):
 cD G (d+6) (.ref L.f) [g.v CG CR,.nat bx.length] J (λ v J'=>v=.nat bx.length/\J'=J):=
 de L.y _ _ _ rfl λ O I=>by refine aB<|Jk<|oh B F g bx.length I rfl rfl<|sp I J (By (d:=d) (J:=[]) B Yy g j f bx.length k b A.max) Gc rfl λ v J' c=>za c λ h l=>ew h λ a e m i=>?_;subst l;have:=A.uniq m;exact ⟨a,e,aA ‹_› ‹_›,by simp,i2 ⟨by exact congrArg _ this,rfl⟩⟩
end
structure Gd(G:GC)(base:Heap):Prop where
 Sb:G.K.In base
 top:Top G.p G.loose G.SP G.mg G.mb base
structure Q0(O:FC)(u:Value)(s':aR):Prop where
 val:∃t c d,u=.ref t/\s'.heap.get? t=ah (dU #[.int 0 c,.int 0 d] 0)
 base:∀b o,O.base.get? b=ah o->s'.heap.get? b=ah o
 ns:∀L m,O.h₀.Ns L m->s'.heap.Ns L m
 st:gu O.RP s'
section
variable{a:aG}{h:Heap}
theorem Al(ok:O.Ok):∀b∈fz (O.RF::O.outer),O.base.get? b=ai:=λ b a=>by
 unfold fz at a;simp only[Ay,ok.RJ]at a;rcases aI.mp a with rfl|a
 ·cases q:O.base.get? O.fL with
  |none=>rfl
  |some o=>exact absurd (aH (cm (ok.below.stays _ _ q)) ok.above) (bA _)
 ·exact (ok.below.frames.mem a).1
theorem rP(ok:O.Ok){b:aG}{o:Obj}(q:O.base.get? b=ah o):O.h₀.get? b=ah o/\b∉O.RQ:=ok.Sr b o (ok.below.stays b o q)
theorem FK(ok:O.Ok)(R:cQ O Y Kp Jj s)(P:Pre s.heap (O.RF::O.outer) C a h):∀b o,O.base.get? b=ah o->h.get? b=ah o:=λ b o q=>by
 refine P.keep b o ?_ λ c=>by rw[Al ok _ c]at q;exact nomatch q
 refine za (rP ok q) λ e d=>?_;exact R.old b o e d
theorem CT{K:f7}{h:Heap}{g:Array GenState}{d:Drawn}{t:Nat}{e:aG}{f:Obj}{Q:Bool->aR->Prop}(j:K.In h)(b:IZ K C "Exception"=aj)(a1:h.get? e=ah f)(l:f.cls=.ref C)(q:Q aj ⟨h,g,d,t,os⟩):aW M A (excMatches (.ref e) (.ref C)) Q E ⟨h,g,d,t,os⟩:=by refine Classical.byContradiction λ k=>?_;obtain ⟨o,p,N,r,v,c,w,sub,u,n,x,k0,k1,k2,k3,s,a,i,m, -⟩:=kts_cls j b;exact k (wpAny_excMatches_sub_self i a1 l m q)
theorem Ie(X:Xc G C)(Xa:IZ G.K C "Exception"=aj)(I:f6 O G d T)(D:Gd G O.base)(l:O.RF=O.env)(p:O.RQ=[]){np p1 g f U S:gU}{e:Value}{s:aR}{Q:Flow->aR->Prop}(F:PO O C e s)
 (i j:Nat) (hi:∀n,(T n)[i]? =ah (("GrammarError":Str),NK.glob)) (hj:∀n,(T n)[j]? =ah (("error":Str),NK.loc)) (q:∀u s',Q0 O u s'->Q (.ret u) s')
 (he:bv (.Call (.Attribute (.Name "error" p1) "told" g) [] [] f) O.env=(do
  let ov <-bv (.Name "error" p1) O.env
  iX g.atName
  gN (.Name "error" p1) "told" g f O.env ov 0 [] []))
 (hp:(g.endLine==f.line)=aj):
 aW (bn G.prog G.w) O.A (kM e O.env) (λ Z Q8=>aW (bn G.prog G.w) O.A (setFlight e ai) (λ Z Rz=>aW (bn G.prog G.w) O.A (handleBy e O.env
  [.ExceptHandler (ah (.Name "GrammarError" np)) (ah "error") [.Return (ah (.Call (.Attribute (.Name "error" p1) "told" g) [] [] f)) U] S]) Q E Rz) E Q8) E s:=by
 have hi:=I.at i hi;have hj:=I.at j hj;obtain ⟨ok,rfl, -, -, -⟩:=I;obtain ⟨a,Y,Kp,Jj,k,rfl,R,F,st⟩:=F;have J:∀{h:Heap} {fl:Value},yY k.heap (O.RF::O.outer) C fl a h->∀b o,O.base.get? b=ah o->h.get? b=ah o:=λ F=>FK ok R F.toPre;rw[l]at F;refine zH (by rw[<-l];exact ok.frames) (l▸ok.RJ) F λ h1 F1=>k4 F1 ai λ h2 F2=>?_;refine b4 R.vars λ m hm hvs=>?_;have ek:=ok.loc j _ hj;have V:=J (l.symm▸F2);obtain ⟨oe,vs,Dd,oD,a1,a2,a3,a4,a5,a6,a7,a8,a9⟩:=id F2.exc;have N:(O.env.scope.kind==.class||(O.env.scope.kind==.module&&O.env.locals !=O.env.globals))=ao:=by rw[ok.kind];rfl
 refine wpAny_handleBy_cons (codeAny_handlers_test (oB ok.kind (ok.glob i _ hi) (IX (by rw[ok.globals];exact (D.top.keeps V).g) (mg_of ok.Sb ok.top.g X.g) ?_))) (by intro q;cases q);refine CT (D.Sb.keeps V) Xa a1 a2 ?_;refine codeAny_handlers_suite_as (k4 F2 ai λ h3 M=>?_);refine nD ek (M.slot.ns hm) (λ h4 A r=>?_) N;have y:O.env.locals∈O.fp++addrs Y.mu:=aJ _ (.head _);have nb:∀b o,O.base.get? b=ah o->b≠O.env.locals:=λ b o q e=>by
  refine za (rP ok q) λ q1 q2=>?_;rcases R.fresh _ y with h|h
  ·exact q2 (e▸h)
  ·rw[e,h]at q1;cases q1
 have B:∀b o,O.base.get? b=ah o->h4.get? b=ah o:=λ b o q=>(r.2 b (nb b o q)).trans (J (l.symm▸M) b o q);have K4:O.G.K.In h4:=D.Sb.keeps B;have K:wE C a h4:=by
  obtain ⟨oe,vs,Dd,oD,a1,a2,a3,a4,a5,a6,a7,a8,a9⟩:=id M.exc;have n1:∀b,k.heap.get? b=ai->b≠O.env.locals:=λ b q e=>by refine ze (R.live _ y) λ o w=>?_;rw[<-e,q]at w;cases w
  refine ⟨oe,oD,⟨(r.2 a (n1 _ M.new)).trans a1,a2,by unfold notCls;rw[a3],?_⟩,a8,a9⟩;rw[a5];exact (r.2 Dd (n1 _ a6)).trans a7
 refine qs X.told λ fT nT qT YT t1 t2 t3=>?_;have W:=ok.depth;refine fo (id K.ex) λ oe oD I4 l1 l2=>?_;refine kA (lE ?_);rw[he];refine aw (qo (gI ok.kind ek A (v:=.ref a) (if_pos rfl) (aw (ej ?_))) (by decide));unfold gN;refine aw (bD ?_);unfold D7;rw[if_pos (by rfl)];refine xE K4 I4 X.get t1 t2 (by show (qq "told" oD).map _=_;rw[l2];rfl) ?_;show aW _ _ (dW aj (.Name "error" p1) O.env g f>>=_) _ _ _;rw[(show dW aj (.Name "error" p1) O.env g f=pure f by unfold dW;rw[hp];rfl)];refine aw (az (D8 (P:=O.G.K.In) rfl (mo t3) ?_));show aW _ _ (c4 []>>=_) _ _ _;refine aw (az (aw (az (bD (aw (az (aw (az (az ⟨K4,?_⟩)))))))));refine jj (zc X YT K4 (D.top.nolimit.keeps B) (by show O.A.depth<1000;exact JL W) K λ u h5 Z7 k5 z=>⟨u,rfl,?_⟩);obtain ⟨t,c,e,z1,z2,z3⟩:=z;refine wpAny_nameGoes ek (A.keeps k5) N λ h6 m6 hn6 x=>q u _ ⟨⟨t,c,e,z1,?_⟩,λ b o q=>?_,λ L m q=>?_,?_⟩
 ·refine (x.2 t λ e=>?_).trans z3;refine mI A λ o Z Z w Z=>?_;rw[<-e]at w;rw[show h4.get? t=ai from z2]at w;cases w
 ·exact (x.2 b (nb b o q)).trans (k5 b o (B b o q))
 ·have H:L≠O.env.locals:=λ e=>by
   refine mI q λ o Z Z w Z=>?_;rcases R.fresh _ y with h|h
   ·rw[p]at h;cases h
   ·rw[e,h]at w;cases w
  have n1:k.heap.Ns L m:=q.keeps λ b o e=>R.old b o e (by rw[p];exact d7);exact (((M.slot.ns n1).sameBut r H).keeps k5).sameBut x H
 ·exact ⟨st.1.trans R.st.1,st.2.1.trans R.st.2.1,st.2.2.trans R.st.2.2⟩
end
theorem Hw{c:Ctx}{Q:Flow->gU->aR->Prop}{E:Value->gU->aR->Prop}{l':List Stmt}:∀{l:List Stmt} {p:gU} {s:aR},Sem.wp M c (eI l env) (λ f b a=>match f with|.next=>Sem.wp M c (eI l' env) Q E b a|f=>Q f b a) E p s->Sem.wp M c (eI (l++l') env) Q E p s:=by
 intro l;induction l with
 |nil=>intro p s h;have h:Sem.wp M c (pure Flow.next) _ _ p s:=h;rw[Sem.wp_pure']at h;exact h
 |cons st l d=>
  intro p s h;rw[arm_execs_cons,Sem.wp_bind']at h;rw[dn,arm_execs_cons,Sem.wp_bind'];refine Sem.wp_mono M c _ (λ f p' s' h'=>?_) (λ Z Z Z h'=>h') p s h;cases f with
  |next=>exact d h'
  |_=>rw[Sem.wp_pure']at h' ⊢;exact h'
theorem un{Q:Flow->aR->Prop}{l l':List Stmt}(h:aW M A (eI l env) (λ f a=>match f with|.next=>aW M A (eI l' env) Q E a|f=>Q f a) E s):aW M A (eI (l++l') env) Q E s:=λ c p b=>
 Hw (Sem.wp_mono M c _ (λ f p' s' h'=>by
  cases f with
  |next=>exact h' c p' b
  |_=>exact h') (λ Z Z Z h'=>h') p s (h c p b))
section
variable{f:aG}
theorem sy(L:wC G CG CR CS CA)(X:Xc G C)(B:IZ G.K C "Exception"=aj)(S:fx G "str" (.type "str"))(Yy:lj G L.build.f)(g:Gr)(hg:c_ g)(hr:0<g.rules.length){bx:List fy}(A:cZ g bx)(hl:bx.length<=2000)(h:Nat)(hm:h+1=bx.length)(h1:1<=h)
 (I:f6 O G (d+6) T) (D:Gd G O.base) (R:cQ O Y Kp Jj s) {us:List Value} (hu:di O.P Kp us [g.v CG CR,.nat h]) {Q:Value->aR->Prop}
 (q:∀u s',(∃t c d,u=.ref t/\s'.heap.get? t=ah (dU #[.int 0 c,.int 0 d] 0))->(∀b o,O.base.get? b=ah o->s'.heap.get? b=ah o)->(∀L m,s.heap.Ns L m->s'.heap.Ns L m)->gu s s'->Q u s'):
 aW (bn G.prog G.w) O.A (call (.ref L.RO.f) us) Q E s:=by
 obtain ⟨ok,rfl,hd, -, -⟩:=I;obtain ⟨m,F⟩:=R.fr ok;have W:=ok.depth;have h3:=ok.units;rw[hd]at W h3;refine jj (CU (d:=d+5) L.RO.y [g.v CG CR,.nat h] [] rfl ok.below F ok.frames ok.RJ ok.S9 ok.Sb ok.top ok.hand (aH ‹_› (by decide)) (‹_›)
  (λ b o e=>⟨(R.kp b o e).1,d7⟩) R.UT (λ p hp=>nomatch hp) bK (λ b i=>nomatch i) hu ?_)
 intro K y k H r z J j q1 U q3 q4 q5 q6 V q8 q9 W5 s' R';have v:f6 K O.G (d+5) (mJ (bF (top 38))):=⟨y,k,H,let ⟨n,e⟩:=r;⟨λ Z=>n,e⟩,j⟩;have i:=oh (Ex:=PO K C) (Q:=λ Z Z=>False) (Y:=⟨[g.v CG CR,.nat h].map ah++bu ((bF (top 38)).names.length-2) ai,[]⟩) L.B L.build g h v rfl rfl (xL L.B X S Yy g hg hr A hl h hm h1 v);have i:=i _ _ _ R';rw[k]at i;refine kA (wpAny_Try_except (aY i (λ f x w=>by obtain ⟨b,Y',K',l,R',hf,hq⟩:=w;exact hq.elim) λ e x hF=>?_));refine Ie X B v (U▸D) q4 q6 hF 5 2 (λ Z=>rfl) (λ Z=>rfl) (λ u s3 a=>⟨u,rfl,?_⟩) rfl rfl;obtain ⟨a1,P,M,N⟩:=a;rw[U]at P;rw[q5]at M;simp only[V]at N;exact q u s3 a1 P M N
theorem uz{f:Value}{args:List Expr}{pos:gU}{i:Value->aR->Prop}{Ex:Value->aR->Prop}(ok:O.Ok)(hk:nt O.G f)(d:(cM pos (bk args O.env)).any (·.1)=ao)
 (h:XL O Ex (c4 (cM pos (bk args O.env))) (λ vs g=>∀Kp Jj s us,cQ O g Kp Jj s->di O.P Kp us vs->aW (bn O.G.prog O.G.w) O.A (call f us) i Ex s) Y):
 ∀Kp Jj s,cQ O Y Kp Jj s->aW (bn O.G.prog O.G.w) O.A (callWith pos f [] (cM pos (bk args O.env)) []) i Ex s:=λ Kp Jj s R=>by
 refine D8 (P:=O.G.K.In) (by rw[d];rfl) hk ?_;have main:aW (bn O.G.prog O.G.w) O.A (c4 (cM pos (bk args O.env))) (λ vs c=>O.G.K.In c.heap/\aW (bn O.G.prog O.G.w) O.A (call f ([]++vs) []) i Ex c) Ex s:=
  h.Q6 R λ vs c ws g Kk l₁ j o h₁=>⟨j.Sb ok,h₁ Kk Jj c vs j o⟩
 skip;cases n:cM pos (bk args O.env)with
 |nil=>rw[n]at main;show aW _ _ (c4 []>>=_) _ _ _;refine aw (aY main (λ vs c m=>?_) λ Z Z e=>e);exact aw (az (bD (aw (az (aw (az (az m)))))))
 |cons a l=>
  obtain ⟨b,x⟩:=a;rw[n]at main d;have k:b=ao:=by simpa using (y3.mp d).1
  subst k;show aW _ _ (c4 ((ao,x)::l)>>=_) _ _ _;refine aw (aY main (λ vs c m=>?_) λ Z Z e=>e);exact aw (az (bD (aw (az (aw (az (az m)))))))
noncomputable def t8:Stmt:=sub (top 39) 19
theorem zU:cy (top 39)=(cy (top 39)).dropLast++[t8]:=by rfl
theorem BD(L:wC G CG CR CS CA)(Yy:lj G L.build.f)(g:Gr)(j:c_ g)(i:0<g.rules.length){bx:List fy}(A:cZ g bx)(e:bx.length<=2000)(l:1<=bx.length)(I:f6 O G (d+6) (mJ (bF (top 39))))
 (a:Y.vals[7]? =ah (ah (g.v CG CR))) (c:Y.vals[23]? =ah (ah (.nat bx.length))) (b:Y.vals[25]? =ah (ah (.nat bx.length))):XF O dL (gc t8 O.env) (λ f Z=>f=ah (ah (.bool aj))) Y:=by
 refine dB<|x_ (op:=.Eq) ?_ rfl;refine cg I 39 L.RO<|an<|nl I 7 a<|Mine.a1<|nl I 25 b<|sp I Y.mu (zt (d:=d) (J:=[]) L.B L.build Yy L.RO g j i A e l) (aT _) rfl λ v J' h=>za h λ k m=>?_;subst k;subst m;refine l9<|tq<|nl I 25 b<|nl I 23 c<|zK ⟨_,rfl,iz (beq_self_eq_true _)<|nl I 23 c<|zK ?_⟩;show ah (ah (V.bool _))=_;simp only[beq_self_eq_true]
theorem EN(L:wC G CG CR CS CA)(X:Xc G C)(w:IZ G.K C "Exception"=aj)(S:fx G "str" (.type "str"))(Yy:lj G L.build.f)(g:Gr)(K:c_ g)(V:0<g.rules.length){bx:List fy}(A:cZ g bx)(U:bx.length<=2000)(f:Nat)(j:f+1=bx.length)(N:1<=f)
 (I:f6 O G (d+6) (mJ (bF (top 39)))) (D:Gd G O.base) (R:cQ O Y Kp Jj s)
 (p:Y.vals[7]? =ah (ah (g.v CG CR))) (hc:Y.vals[23]? =ah (ah (.nat bx.length))) (h:Y.vals[25]? =ah (ah (.nat f))) {Q:Flow->aR->Prop} (q:∀s',(∀b o,O.base.get? b=ah o->s'.heap.get? b=ah o)->gu O.RP s'->Q (.ret (.bool aj)) s'):
 aW (bn G.prog G.w) O.A (gc t8 O.env) Q dL s:=by
 have ok:=I.ok;refine lE (wpAny_Compare1 (op:=.Eq) (aY (Q:=λ u s'=>(∃t c d,u=.ref t/\s'.heap.get? t=ah (dU #[.int 0 c,.int 0 d] 0))/\(∀b o,O.base.get? b=ah o->s'.heap.get? b=ah o)/\gu O.RP s'/\∃m a b,s'.heap.Ns O.env.locals m/\m "count"=ah (.int bx.length a)/\m "most"=ah (.int f b)) ?_ (λ ua s' r=>?_) λ Z Z e=>e) rfl)
 ·refine za (show O.G=G/\True from ⟨I.g,trivial⟩) λ hG hx=>?_;subst hG;refine tC (tF 39 ok (I.at 39 λ Z=>rfl) L.RO.p.g rfl R (uz ok (mo L.RO.p.k) rfl (an<|nl I 7 p<|Mine.a1<|nl I 25 h ?_) Kp Jj s R));intro Kp Jj s us R r;refine sy L X w S Yy g K V A U f j N I D R r λ u s' v b n st=>⟨v,b,⟨st.1.trans R.st.1,st.2.1.trans R.st.2.1,st.2.2.trans R.st.2.2⟩,?_⟩;refine b4 R.vars λ m j i=>?_;refine b4 (i 23 "count" _ _ (I.at 23 λ Z=>rfl) hc) λ u1 e1 F=>?_;refine b4 (i 25 "most" _ _ (I.at 25 λ Z=>rfl) h) λ u2 T r2=>?_;cases F;cases r2;exact ⟨m,_,_,n _ _ j,e1,T⟩
 ·refine Ed r λ l J st m x y B W E=>?_;obtain ⟨t,c,e,rfl,H⟩:=l;refine wpAny_IfExp (nE (qo (gI ok.kind (ok.loc 25 "most" (I.at 25 λ Z=>rfl)) B E (qo (gI ok.kind (ok.loc 23 "count" (I.at 23 λ Z=>rfl)) B W (eq_int (fA ?_))) rfl)) rfl) rfl);rw[show (((f:Nat):Int)==((bx.length:Nat):Int))=ao from beq_eq_false_iff_ne.mpr (JK j)];refine yG λ u h' tk k z=>?_;obtain ⟨t',c',e',rfl,z1,M⟩:=z;have rs:∀{c e:I2},di O.P (λ b o=>h'.get? b=ah o) [.int 0 c,.int 0 e] [.nat 0,.nat 0]:=.cons (.int 0 _) (.cons (.int 0 _) .nil);refine (P6 (s:={s' with heap:=h',toks:=tk}) (n:=8) (S:=λ b o=>h'.get? b=ah o) (P:=O.P) (A:=O.A) (λ Z Z e=>e) (k _ _ H) M rs rs (m_ [0,0]) (m_ [0,0]) (KF ok.units)).1 _ _ dL _ ?_
  rw[eK];exact q _ (λ b o e=>k b o (J b o e)) st
end
inductive uM(K:f7)(f:aG)(st:Stmt)(name qual:Str)(d:Option (List V)):Prop
 |mk (dV kV doc pm T5 ct oc:Value) (an od:Option aG) (Wc:Array (Option Value)) (hl:K.lookup f=ah ⟨oc,od,.func (Hg name qual (cN st) (cy st) (bF st) dV kV doc pm an T5 ct),Wc⟩) (hc:codeIn K T5 qual=aj) (hd:xJ K dV=ah d)
  (keep:mW K (.ref f)=aj) (typ:lJ K (.ref f)=ah (.type "function"))
theorem uM.keep{K:f7}{f:aG}{st:Stmt}{d:Option (List V)}(A:uM K f st name qual d):mW K (.ref f)=aj:=by cases A;assumption
theorem uM.typ{K:f7}{f:aG}{st:Stmt}{d:Option (List V)}(A:uM K f st name qual d):lJ K (.ref f)=ah (.type "function"):=by cases A;assumption
theorem Fq{fd:Ea}{name qual:Str}{a:eJ}{body:List Stmt}{scope:iD}(f:fd.name=name)(d:fd.qualname=qual)(i:fd.params=a)(e:fd.body=.stmts body)(h:fd.scope=scope)(b:fd.globals=cj)(g:fd.closure=[])(c:fd.builtins=e_):
 fd=Hg name qual a body scope fd.defaults fd.kwdefaults fd.doc fd.pyModule fd.annotations fd.code fd.closureTuple:=by
 cases fd;subst f;subst d;subst i;subst e;subst h;subst b;subst g;subst c;rfl
theorem vD{v:Value}{a:aG}(h:yj v=ah a):v=.ref a:=by cases v<;>cases h;rfl
theorem Et{d:Data}{i:Array Value}(h:Jv d=ah i):∃n,d=.seq i n:=by cases d<;>cases h;exact ⟨_,rfl⟩
theorem Fs{d:Data}{f:Ea}(h:Ng d=ah f):d=.func f:=by cases d<;>cases h;rfl
theorem QQ{b:Bool}{x:Option α}{y:α}(h:(if b=aj then x else ai)=ah y):b=aj/\x=ah y:=by cases b with
 |true=>exact ⟨rfl,h⟩
 |false=>cases h
theorem iG{K:f7}{v:Option (Option Value)}{st:Stmt}{d:Option (List V)}(h:pa K v=wr st name qual d):∃f,v=ah (ah (.ref f))/\uM K f st name qual d:=by refine b4 (ei.mp h) λ a g h=>b4 (ei.mp g) λ u k g=>b4 (ei.mp h) λ o j h=>b4 (bZ.mp h) λ fd i y=>?_;cases o with|mk oc od da sl=>cases Fs i;have b:=dg.mp (congrArg (λ x=>x.2.2.2.2.2.2.2.2.2) y);have c:=dg.mp b.1;have e:=Fq (congrArg (λ x=>x.1) y) (congrArg (λ x=>x.2.1) y) (congrArg (λ x=>x.2.2.1) y) (congrArg (λ x=>x.2.2.2.1) y) (congrArg (λ x=>x.2.2.2.2.1) y) (congrArg (λ x=>x.2.2.2.2.2.1) y) (congrArg (λ x=>x.2.2.2.2.2.2.1) y) (congrArg (λ x=>x.2.2.2.2.2.2.2.1) y);exact ⟨a,by rw[kO.mp k,vD g],⟨_,_,_,_,_,_,_,_,_,_,(show fd=_ from e)▸j,(show fd.qualname=qual from congrArg (λ x=>x.2.1) y)▸c.1,congrArg (λ x=>x.2.2.2.2.2.2.2.2.1) y,c.2,beq_iff_eq.mp b.2⟩⟩
theorem CZ{K:f7}{v:Value}{d:Option (List V)}(h:xJ K v=ah d):(v=.none/\d=ai)\/∃l,qC K v=ah l/\ah l=d:=by
 unfold xJ at h;by_cases e:v=.none
 ·rw[if_pos e]at h;exact .inl ⟨e,(Option.some.inj h).symm⟩
 ·rw[if_neg e]at h;exact .inr (bZ.mp h)
noncomputable def w3(sc:iD)(pn:List Str):Bool:=!sc.isCoroutine&&!sc.isGenerator&&decide (sc.kind=.function)&&decide (sc.names.map (·.1)).Nodup&&decide ((sc.names.take pn.length).map (·.1)=pn)&&(sc.names.take pn.length).all (λ y=>y.2==.local||y.2==.cell)
theorem yf(h:w3 sc pn=aj):sc.isCoroutine=ao/\sc.isGenerator=ao/\sc.kind=.function/\(sc.names.map (·.1)).Nodup/\(sc.names.take pn.length).map (·.1)=pn/\(sc.names.take pn.length).all (λ y=>y.2==.local||y.2==.cell)=aj:=by unfold w3 at h;simp only[cW,pH,decide_eq_true_eq]at h;refine za h λ a b=>?_;obtain ⟨⟨⟨⟨e,c⟩,g⟩,d⟩,f⟩:=a;exact ⟨e,c,g,d,f,b⟩
noncomputable def sC:Nat->(List Value->Prop)->Prop
 |0,P=>P []
 |n+1,P=>∀a,sC n λ l=>P (a::l)
theorem sC.at{n:Nat}{P:List Value->Prop}(h:sC n P){us:List Value}(e:us.length=n):P us:=by
 induction n generalizing P us with
 |zero=>simp only[h9.mp e];exact h
 |succ n b=>cases us with
  |nil=>cases e
  |cons a us=>exact b (h a) (Nat.succ.inj e)
section
variable{f:aG}{st:Stmt}
theorem uM.facts(A:uM G.K f st name qual ai)(r:w3 (bF st) pn=aj)
 (n:∀kV d g c i an,sC pn.length λ us=>D_ (Hg name qual (cN st) (cy st) (bF st) .none kV d g an c i) ⟨us,[]⟩=pure (pn.zip us)):cr G f name qual (cN st) (cy st) (bF st) pn []:=by
 cases A with
 |mk dV kV d g c i m an od j o k q a b=>
  have a:=yf r;cases (CZ q).elim (λ h=>h.1) λ h=>by refine b4 h λ l Z e=>?_;cases e
  refine ⟨⟨_,kV,d,g,c,i,m,an,od,j,o,k,[],λ Z=>.nil,rfl,λ us s X p=>.of_eq ?_⟩,a.1,a.2.1,a.2.2.1,a.2.2.2.1,a.2.2.2.2.1,a.2.2.2.2.2⟩;rw[cL];exact (n _ _ _ _ _ _).at p
noncomputable def qR:V->Bool:=vB aj aj aj aj
theorem HG{P:bQ}(h:qR (HH u)=aj):VR P S u (HH u):=by cases u<;>first|exact .none|exact .bool _|exact .int _ _|exact .str _ _|cases h
theorem tJ{P:bQ}:∀{us:List Value} {vs:List V},us.map HH=vs->vs.all qR=aj->di P S us vs
 |[],_,e,_=>by subst e;exact .nil
 |u::us,_,e,h=>by subst e;simp only[be,uU,cW]at h;exact .cons (HG h.1) (tJ rfl h.2)
theorem u6{K:f7}{l:List V}(h:qC K u=ah l):∃t a n,u=.ref t/\K.lookup t=ah (dU a n)/\a.toList.map HH=l:=by refine b4 (ei.mp h) λ t j h=>b4 (ei.mp h) λ o d h=>za (QQ h) λ c h=>b4 (bZ.mp h) λ i hi e=>?_;cases o with|mk oc od da sl=>simp only[cW,beq_iff_eq,Option.isNone_iff_eq_none,qm]at c;refine za c λ c f=>za c λ k b=>ze (Et hi) λ n g=>?_;subst k b g;cases sl;subst f;exact ⟨t,i,n,vD j,d,e⟩
noncomputable def IB:{k:Ea->List Value->Option (Array Value)->Sem (List (Str×Value))//∀fd us,D_ fd ⟨us,[]⟩=seqItems? fd.defaults>>=k fd us}:=⟨_,λ Z Z=>rfl⟩
theorem uM.Ss{ds:List V}(A:uM G.K f st name qual (ah ds))(B:ds.all qR=aj)(j:Nat)(r:j<=ds.length)(E:w3 (bF st) pn=aj)
 (w:∀T kV g k d l an,sC ds.length λ c=>sC (pn.length-j) λ us=>IB.1 (Hg name qual (cN st) (cy st) (bF st) (.ref T) kV g k an d l) us (ah c.toArray)=pure (pn.zip (us++c.drop (ds.length-j)))):
 cr G f name qual (cN st) (cy st) (bF st) pn (ds.drop (ds.length-j)):=by
 cases A with
 |mk dV kV g k d l v an od o z u D a b=>
  have a:=yf E;have y:qC G.K dV=ah ds:=by refine (CZ D).elim (λ h=>by cases h.2) λ h=>b4 h λ x F e=>?_;cases e;exact F
  refine kj (u6 y) λ t c n m C e=>?_;subst m;have p:c.toList.length=ds.length:=by simp only[<-e,au]
  have H:∀S,di G.w.params S (c.toList.drop (ds.length-j)) (ds.drop (ds.length-j)):=λ S=>(tJ (P:=G.w.params) (S:=S) e B).drop _;have i:(c.toList.drop (ds.length-j)).length=j:=by (refine fF.trans ?_;rw[p]);exact Qw r
  refine ⟨⟨_,kV,g,k,d,l,v,an,od,o,z,u,_,H,by (refine i.trans ?_;rw[fF]);exact Qv r,λ us s X q=>?_⟩,a.1,a.2.1,a.2.2.1,a.2.2.2.1,a.2.2.2.2.1,a.2.2.2.2.2⟩;exact .of_defaults rfl (X _ _ C) rfl (IB.2 _ us) (((w t kV g k d l an).at p).at (Nat.eq_sub_of_add_eq (by rw[i]at q;exact q)))
end
theorem Iq{K:f7}(e:vH K=lV)(i:Nat):(G5.map λ d=>pa K (mH K cj d)).getD i ai=lV.1.getD i ai:=congrArg (λ x:FN=>x.1.getD i ai) e
theorem E6{K:f7}(e:vH K=lV)(i:Nat):(Cc.map λ m=>pa K (g9 K (.ref (dD K m.1)) m.2)).getD i ai=lV.2.1.getD i ai:=congrArg (λ x:FN=>x.2.1.getD i ai) e
theorem FF{K:f7}(e:vH K=lV)(i:Nat):(Dh K).getD i ao=lV.2.2.1.getD i ao:=congrArg (λ x:FN=>x.2.2.1.getD i ao) e
section
variable{st:Stmt}{ds:List V}
theorem rY(h:pa G.K (mH G.K cj x)=wr st x qual ai)(i:w3 (bF st) pn=aj)
 (g:∀kV c d b e an,sC pn.length λ us=>D_ (Hg x qual (cN st) (cy st) (bF st) .none kV c d an b e) ⟨us,[]⟩=pure (pn.zip us)):Fn G x qual st pn []:=
 by refine b4 (iG h) λ f a A=>?_;exact ⟨f,a,A.keep,A.facts i g⟩
theorem AG(d:D1 G.K C x=aj)(h:pa G.K (g9 G.K (.ref C) x)=wr st x qual ai)(j:w3 (bF st) pn=aj)(i:∀kV c e b g an,sC pn.length λ us=>D_ (Hg x qual (cN st) (cy st) (bF st) .none kV c e an b g) ⟨us,[]⟩=pure (pn.zip us)):Me G C x qual st pn []:=
 by refine b4 (iG h) λ f a A=>?_;exact ⟨f,by unfold re;simp only[d,a,A.typ,A.keep,beq_self_eq_true,beq_self_eq_true];rfl,A.facts j i⟩
noncomputable abbrev NL(x qual:Str)(st:Stmt)(pn:List Str)(n j:Nat):Prop:=∀T kV doc pm T5 ct an,sC n λ T3=>sC (pn.length-j) λ us=>IB.1 (Hg x qual (cN st) (cy st) (bF st) (.ref T) kV doc pm an T5 ct) us (ah T3.toArray)=pure (pn.zip (us++T3.drop (n-j)))
theorem PF(h:pa G.K (mH G.K cj x)=wr st x qual (ah ds))(b:ds.all qR=aj)(j:Nat)(c:j<=ds.length)(d:w3 (bF st) pn=aj)(e:NL x qual st pn ds.length j):Fn G x qual st pn (ds.drop (ds.length-j)):=
 by refine b4 (iG h) λ f a A=>?_;exact ⟨f,a,A.keep,A.Ss b j c d e⟩
end
theorem EO{v:Option (Option Value)}{a b:aG}(h:v=ah (ah (.ref a)))(h':v=ah (ah (.ref b))):a=b:=by cases h.symm.trans h';rfl
theorem CC{K:f7}(h:Fl K x≠.none):mH K cj x=ah (ah (Fl K x)):=by
 unfold Fl at h ⊢;cases e:(mH K cj x).join with
 |none=>rw[e]at h;exact absurd rfl h
 |some v=>exact kO.mp e
theorem n9{a b:Bool}(h:(a&&b)=aj):a=aj/\b=aj:=dg.mp h
theorem xH[BEq α][LawfulBEq α]{a b:α}(h:(a==b)=aj):a=b:=beq_iff_eq.mp h
structure DE(G:GC):Prop where
 ex:∃CG CR CS CA C,∃L:wC G CG CR CS CA,Xc G C/\lj G L.build.f/\fx G "str" (.type "str")/\IZ G.K C "Exception"=aj/\∃f,mH G.K cj "law"=ah (ah (.ref f))/\cr G f "law" "law" (cN (top 39)) (cy (top 39)) (bF (top 39)) ["script"] []
theorem G3{l:List Str}(h:qC G.K (Fl G.K x)=ah (l.map .str))(p:(l.map V.str).all qR=aj):Gl G x (.tup (l.map .str)):=
 by refine kj (u6 h) λ Z Z n e lo v=>?_;exact ⟨_,CC ((bz e)▸λ h=>nomatch h),by rw[e];exact .tup (n:=n) lo (tJ v p)⟩
theorem Ii{i:Int}(h:HH (Fl G.K x)=.int i):Gl G x (.int i):=by
 refine ⟨_,CC λ n=>?_,?_⟩
 ·rw[n]at h;cases h
 ·generalize Fl G.K x=u at h;cases u<;>first|(cases h;exact .int _ _)|cases h
theorem An(e:vH G.K=lV):DE G:=by
 have D:=Iq e;have N:=E6 e;have B:=FF e;have q:=n9 (B 9);have m:=n9 (B 10);have g:=n9 (B 11);have d:=n9 (B 12);have h:=n9 (B 13);have j:=n9 (B 14);have n:=n9 (B 15);have k:=n9 (B 16);have f:=n9 (B 17);have c:=j.2;have b:=f.2;have u:=b9.mp (B 21);have p:Cmn G (dD G.K "Grammar") (dD G.K "Rule"):=⟨⟨(b9.mp (B 18)),(b9.mp (B 19))⟩,(⟨xH (B 0),by kernel_rfl,by decide,iF _ _⟩),(⟨xH (B 1),by kernel_rfl,by decide,gQ _ _⟩),(⟨xH (B 2),by kernel_rfl,by decide,gQ _ _⟩),(⟨xH (B 3),by kernel_rfl,by decide,gQ _ _⟩),(⟨xH (B 4),by kernel_rfl,by decide,iF _ _⟩),(⟨xH (B 5),by kernel_rfl,by decide,gQ _ _⟩),(AG c (N 0) (by kernel_rfl) λ Z Z Z Z Z Z Z=>rfl),(AG c (N 1) (by kernel_rfl) λ Z Z Z Z Z Z Z Z=>rfl),(AG c (N 2) (by kernel_rfl) λ Z Z Z Z Z Z Z Z=>rfl),(AG c (N 3) (by kernel_rfl) λ Z Z Z Z Z Z Z Z=>rfl),(AG c (N 4) (by kernel_rfl) λ Z Z Z Z Z Z Z Z Z=>rfl),(AG c (N 5) (by kernel_rfl) λ Z Z Z Z Z Z Z Z=>rfl),(AG c (N 6) (by kernel_rfl) λ Z Z Z Z Z Z Z Z=>rfl),(AG c (N 7) (by kernel_rfl) λ Z Z Z Z Z Z Z Z=>rfl),(rY (D 5) (by kernel_rfl) λ Z Z Z Z Z Z Z Z=>rfl),(rY (D 6) (by kernel_rfl) λ Z Z Z Z Z Z Z=>rfl),(rY (D 7) (by kernel_rfl) λ Z Z Z Z Z Z Z Z Z=>rfl)⟩;have r:DL G (dD G.K "Grammar") (dD G.K "Rule") (dD G.K "CanonicalState") (dD G.K "CanonicalAutomaton"):=⟨p,⟨(b9.mp (B 20)),u⟩,(b9.mp (B 22)),(b9.mp (B 23)),(rY (D 8) (by kernel_rfl) λ Z Z Z Z Z Z Z=>rfl),(rY (D 9) (by kernel_rfl) λ Z Z Z Z Z Z Z Z Z Z=>rfl),(rY (D 10) (by kernel_rfl) λ Z Z Z Z Z Z Z Z=>rfl),(rY (D 11) (by kernel_rfl) λ Z Z Z Z Z Z Z=>rfl),(AG k.2 (N 8) (by kernel_rfl) λ Z Z Z Z Z Z Z Z Z=>rfl),
  let ⟨_,i,Yy⟩:=iG (N 14)
  ⟨_,xH g.1,g.2,k.1,i,Yy.typ,Yy.facts (by kernel_rfl) λ Z Z Z Z Z Z Z Z Z Z=>rfl⟩,
  let ⟨_,i,Yy⟩:=iG (N 15)
  ⟨_,xH d.1,d.2,f.1,i,Yy.typ,Yy.facts (by kernel_rfl) λ Z Z Z Z Z Z Z Z Z=>rfl⟩⟩
 have s:NB G (dD G.K "Grammar") (dD G.K "Rule"):=⟨p,(b9.mp (B 24)),(b9.mp (B 25)),
  let ⟨_,i,Yy⟩:=iG (N 12)
  ⟨_,xH m.1,m.2,n.1,i,Yy.typ,Yy.Ss rfl 3 (by decide) (by kernel_rfl) λ Z Z Z Z Z Z Z Z Z Z Z Z Z Z Z Z=>rfl⟩,
  let ⟨_,i,Yy⟩:=iG (N 13)
  ⟨_,xH q.1,q.2,j.1,i,Yy.typ,Yy.facts (by kernel_rfl) λ Z Z Z Z Z Z Z Z Z Z Z Z Z=>rfl⟩,
  rY (D 3) (by kernel_rfl) λ Z Z Z Z Z Z Z Z=>rfl,G3 (l:=ME) (congrArg (λ x:FN=>x.2.2.2.2.1) e) rfl,Ii (congrArg (λ x:FN=>x.2.2.2.2.2) e)⟩
 have t:Xc G (dD G.K "GrammarError"):=⟨B 26,xH (B 27),xH h.1,h.2,
  let ⟨_,i,Yy⟩:=iG (N 16)
  ⟨_,_,_,Yy.Ss rfl 1 (by decide) (by kernel_rfl) λ Z Z Z Z Z Z Z Z Z Z=>rfl,i,Yy.typ⟩,(⟨xH (B 8),by kernel_rfl,by decide,gQ _ _⟩),B 28,B 29,B 30,
  let ⟨_,i,Yy⟩:=iG (N 17)
  ⟨_,_,_,Yy.facts (by kernel_rfl) λ Z Z Z Z Z Z Z=>rfl,i,Yy.typ,Yy.keep⟩,B 31⟩
 have F:Fn G "law" "law" (top 39) ["script"] []:=rY (D 24) (by kernel_rfl) λ Z Z Z Z Z Z Z=>rfl;have o:Fn G "build_canonical" "build_canonical" (top 25) ["grammar","most"] [.nat 2000]:=PF (D 12) rfl 1 (by decide) (by kernel_rfl) λ Z Z Z Z Z Z Z Z Z=>rfl;refine b4 (iG (D 12)) λ Z a Yy=>?_;exact ⟨⟨_,_,_,_,_,⟨r,s,(⟨xH (B 6),by kernel_rfl,by decide,gQ _ _⟩),G3 (l:=yt) (congrArg (λ x:FN=>x.2.2.2.1) e) rfl,(rY (D 0) (by kernel_rfl) λ Z Z Z Z Z Z Z=>rfl),(PF (D 1) rfl 0 (by decide) (by kernel_rfl) λ Z Z Z Z Z Z Z Z Z Z Z=>rfl),(rY (D 2) (by kernel_rfl) λ Z Z Z Z Z Z Z Z=>rfl),(PF (D 4) rfl 1 (by decide) (by kernel_rfl) λ Z Z Z Z Z Z Z Z Z=>rfl),o,(rY (D 13) (by kernel_rfl) λ Z Z Z Z Z Z Z=>rfl),(rY (D 14) (by kernel_rfl) λ Z Z Z Z Z Z Z Z=>rfl),(rY (D 15) (by kernel_rfl) λ Z Z Z Z Z Z Z Z Z=>rfl),(rY (D 16) (by kernel_rfl) λ Z Z Z Z Z Z Z=>rfl),(rY (D 17) (by kernel_rfl) λ Z Z Z Z Z Z Z Z Z Z=>rfl),(rY (D 18) (by kernel_rfl) λ Z Z Z Z Z Z Z=>rfl),(rY (D 19) (by kernel_rfl) λ Z Z Z Z Z Z Z Z Z Z=>rfl),(rY (D 20) (by kernel_rfl) λ Z Z Z Z Z Z Z Z=>rfl),(rY (D 21) (by kernel_rfl) λ Z Z Z Z Z Z Z Z Z=>rfl),(rY (D 22) (by kernel_rfl) λ Z Z Z Z Z Z Z Z Z Z Z=>rfl),(rY (D 23) (by kernel_rfl) λ Z Z Z Z Z Z Z Z=>rfl),(AG b (N 9) (by kernel_rfl) λ Z Z Z Z Z Z Z=>rfl),(AG b (N 10) (by kernel_rfl) λ Z Z Z Z Z Z Z Z Z=>rfl),(AG b (N 11) (by kernel_rfl) λ Z Z Z Z Z Z Z Z Z=>rfl)⟩,
  t,(show lj G o.f from (EO a o.p.g)▸(Yy.Ss rfl 0 (by decide) (by kernel_rfl) (λ Z Z Z Z Z Z Z Z Z Z=>rfl):lj G _)),(⟨xH (B 7),by kernel_rfl,by decide,gQ _ _⟩),B 32,_,F.p.g,F.y⟩⟩
theorem sG{R:WRecords}{P:bQ}{h:Heap}:∀{xs:List WData} {us:List Value},I1 P h us xs->WShape.hasItems R xs .int=aj->∃is:List Int,xs=is.map .int/\∀S:b7,di P S us (is.map .int)
 |[],_,w,_=>by cases w;exact ⟨[],rfl,λ Z=>.nil⟩
 |x::xs,_,w,h=>by
  cases w with
  |cons c f=>refine za (dg.mp (show (WShape.has R x .int&&WShape.hasItems R xs .int)=aj by simp only[<-h,WShape.hasItems])) λ e d=>?_;refine ze (hasW_int e) λ i a=>?_;subst a;refine b4 (sG f d) λ is b k=>?_;subst b;cases c;exact ⟨i::is,rfl,λ S=>.cons (.int _ _) (k S)⟩
noncomputable def jV:RowW:=PySem.Challenge.rw_nn0366_01.row.toRowW
theorem zY{e:Str->Option aG}{d:ExcName->Option Value}{args:List WData}{c:aR}(f:c.gens=#[])(k:∀b o,c.heap.get? b=ah o->s'.heap.get? b=ah o)(st:gu c s'):GoodWG jV.claim e d args c (.ok (.ret (.bool aj))) s':=by refine ⟨.inl ⟨.bool aj,.bool aj,[],rfl,λ Z=>rfl,.bool aj,?_,λ Z=>⟨bK,λ a h=>nomatch h⟩⟩,.of_keep k,st.2.2,.of_eq (st.1.trans f)⟩;show (WShape.has jV.records (.bool aj) jV.returns&&jV.post.holds jV.records {args:=args,res:=ah (.bool aj),after:=args})=aj;with_unfolding_all rfl
theorem Ci{h:Heap}{args:List WData}{c:List Value}{P:bQ}(e:jV.claim.pre args=aj)(l:I1 P h c args):∃a:List Int,a.length<=63/\di P (λ b o=>h.get? b=ah o) c [.list (a.map .int)]:=by
 refine za (pre_splitW e) λ u p=>?_;refine fo (hasAllW_cons u) λ d r g s t=>?_;subst g;obtain rfl:=hasAllW_nil t;refine b4 (hasW_list s) λ xs f v=>?_;subst f;cases l with
 |cons m w=>
  cases w;cases m with
  |list n q=>refine b4 (sG q v) λ is j k=>?_;subst j;refine ⟨is,?_,.cons (.list n (k _)) .nil⟩;have i:=condW_of (X:=!decide ((63:Int)<((is.map WData.int).length:Int))) ((holds_andW p).1) (by rfl);rw[au]at i;simp at i;exact Qu i
theorem MV{w:I0}{r c:aR}{mg mb:Str->Option Value}{K:f7}(X:K.In c.heap)(e:vH K=lV)(T:Top q1 (looseW q1 xw) (ExcName.means r.heap) mg mb c.heap){a:aG}(N:mg "law"=ah (.ref a))(hg:c.gens=#[])
 {args:List WData} {l:List Value} (B:jV.claim.pre args=aj) (J:I1 w.params c.heap l args) {cl:Str->Option aG} {i:ExcName->Option Value}:
 gd (bn PySem.Challenge.pw_nn0366_01 w) callerA (.call (.ref a) ⟨l,[]⟩) (GoodWG jV.claim cl i args c) c:=by
 refine ze (show ∃G:GC,G=⟨PySem.Challenge.pw_nn0366_01,w,K,q1,looseW q1 xw,ExcName.means r.heap,mg,mb⟩from ⟨_,rfl⟩) λ G j=>?_;have e1:PySem.Challenge.pw_nn0366_01=G.prog:=by rw[j]
 have H:w=G.w:=by rw[j]
 have E:G.K.In c.heap:=by rw[j];exact X
 have R:Top G.p G.loose G.SP G.mg G.mb c.heap:=by rw[j];exact T
 have o1:vH G.K=lV:=by rw[j];exact e
 have N:G.mg "law"=ah (.ref a):=by rw[j];exact N
 have J:I1 G.w.params c.heap l args:=H▸J;rw[e1,H];clear j e1 H X T e;obtain ⟨CG,CR,CS,CA,C,L,Xc,Yy,S,Xa,f,hf,YL⟩:=(An o1).ex;obtain rfl:f=a:=by have:=mg_of E R.g hf;rw[N]at this;cases this;rfl
 refine b4 (Ci B J) λ g hs M=>?_;refine CV (d:=6) YL [.list (g.map .int)] [] rfl (base:=c.heap) (outer:=[]) (S₀:=λ b o=>c.heap.get? b=ah o) (below_caller c.heap) E R rfl (by decide) (by decide) (λ b o e=>⟨e,d7⟩) E (λ p hp=>nomatch hp) bK M ?_;intro O ok j hd W t X6 F Z9 q2 q3 q4 q5 q6 q7 q8 q9 W5 s' R0;have I:f6 O G 6 (mJ (bF (top 39))):=⟨ok,j,hd,let ⟨n,e⟩:=W;⟨λ Z=>n,e⟩,F⟩;have P:=Pd (lq g);have hm:=Cg (d:=1) L g hs P I t _ _ _ R0;rw[j]at hm;rw[zU];refine un (aY hm ?_ λ Z Z h=>h.elim);intro fl s2 V;obtain ⟨b,Y',Ww,le,R',Y,bx,A,hl,z,rfl,h7,s,v,m⟩:=V;cases Y;show aW _ _ (eI [t8] O.env) _ _ _;have D:Gd G O.base:=by simp only[q2];exact ⟨E,R⟩
 have hr:0<(bW (gk (lq g))).rules.length:=cp _;have h2:=P.two A;have fin:∀q:aR,(∀b o,O.base.get? b=ah o->q.heap.get? b=ah o)->gu O.RP q->GoodWG jV.claim cl i args c (.ok (.ret (.bool aj))) q:=λ q k st=>by rw[q2]at k;rw[q7]at st;exact zY hg k st
 refine kA ?_;rcases m with rfl|m
 ·have hj:=BD (d:=0) L Yy _ P.good hr A hl (Qt h2) I h7 s v _ _ _ R';rw[j]at hj;refine aY hj (λ fl q zf=>Pt.on zf λ b Z6 K3 Z R3 U hb=>?_) λ Z Z h=>h.elim;subst hb;cases U with
  |ret M=>cases M;exact ⟨_,rfl,fin q (λ b o e=>by obtain ⟨x,y⟩:=rP ok e;exact R3.old b o x y) R3.st⟩
 ·exact aY (EN (d:=0) L Xc Xa S Yy _ P.good hr A hl z m (Qr h2 m) I D R' h7 s v (Q:=λ fl s'=>∃u,fl=.ret u/\GoodWG jV.claim cl i args c (.ok (.ret u)) s') λ q k st=>⟨_,rfl,fin q k st⟩) (λ Z Z h=>h) λ Z Z h=>h.elim
end Mine
open PySem PySem.W PyProof.Rows PySem.Calls
theorem PySem.Challenge.cw_nn0366_01_holds : PySem.Challenge.rw_nn0366_01.Holds := by
  refine holds_law Mine.P5 fun b => ?_;refine holds_open (q := Mine.q1) (loose := Mine.xw) (Xt := fun s => xlAt Mine.q1 [] s && recOk (RowW.records Mine.jV) s) (XP := XL Mine.q1 []) (Yf := Hook.obs Mine.hk) (Ya := Hook.val Mine.hk) (YP := Hook.says Mine.hk) (N := 6000) Mine.P9 (Hook.of Mine.hk) (Hook.keeps Mine.hk)
    (fun s e => xl_of s (Bool.and_eq_true_iff.mp e).1) XL.keeps (by rfl) (by rfl) (by rfl) (fun s e => recFacts_of (Bool.and_eq_true_iff.mp e).2) (by rfl) b (by decide +kernel) ⟨rfl, rfl, rfl, rfl, rfl, by decide +kernel⟩ ⟨[.list []], by decide +kernel, by decide +kernel⟩ ?_
  intro w g h v mb G Y fa o p t j dV kV r hd m u d k args f as a i n c l;obtain ⟨K, X, e⟩ := Y;exact enter_call (Mine.MV X e G.T d k a c)
