import PyProof.Rows.All
import Wide.All
import OpenK.AllK
import Wide.FinOn
import Lean
import PySem.Challenge.RW_no0431_01
set_option Elab.async false
set_option maxRecDepth 100000
set_option maxHeartbeats 8000000
set_option linter.all false
set_option genSizeOf false
set_option compiler.extract_closed false
open Array renaming any_toList->Fv,forIn_toList->OE,getElem?_eq_getElem->Fw,getElem?_eq_some_iff->OF,getElem?_toList->wF,length_toList->fc,mk->m9,replicate->OG,toArray_toList->Au,toList_append->OH,toList_push->OI
open Bool renaming and_eq_true->tR,and_eq_true_iff->gO,decide_and->Fy,eq_iff_iff->oz,false_eq_true->OL,false_ne_true->hH,not_eq_true'->Ay,not_eq_true->OM,not_not->Fz,or_eq_false_iff->ON,or_eq_true_iff->OO,true_and->rt
open Classical renaming not_not->wH,propDecidable->OV
open Decidable renaming em->OY
open Eq renaming symm->aj,trans->hJ
open ForInStep renaming yield->tT
open Iff renaming rfl->tW
open Int renaming add_nonneg->Pf,emod_lt_of_pos->oD,emod_nonneg->jB,eq_ofNat_of_zero_le->p8,fdiv_eq_ediv_of_nonneg->AI,le_of_lt->AJ,le_refl->Pg,le_trans->wK,lt_irrefl->Ph,lt_of_le_of_lt->AK,lt_of_lt_of_le->FW,lt_trans->FX,natCast_inj->FY,natCast_nonneg->aT,natCast_pos->hV,ne_of_gt->FZ,not_le->tX,not_lt->gQ,ofNat->F7,ofNat_inj->cU,ofNat_le->d6,ofNat_lt->a_,ofNat_sub->gR,pow_pos->F8,sub_lt_self->AL,sub_pos->Pj,toNat->oE,zero_lt_one->Pk
open List renaming Nodup->Pn,all_cons->Po,all_eq_true->eO,any_cons->Ga,append_assoc->dq,append_nil->ly,cons_append->ck,cons_lt_cons_iff->Pp,countP_cons->AQ,countP_eq_zero->Pq,countP_le_length->Gb,drop_append_of_le_length->wM,drop_drop->oF,drop_eq_getElem_cons->Gc,drop_left->kv,drop_of_length_le->AR,drop_zero->Pr,eq_nil_of_length_eq_zero->Pt,ext_getElem->Pu,filterMap_cons->Pw,filter_cons_of_neg->Gd,filter_cons_of_pos->Px,filter_eq_nil_iff->Py,find?_cons->Pz,foldl->PA,forIn_cons->wN,forIn_nil->Ge,getD_cons_succ->PB,getD_cons_zero->PC,getD_eq_getElem?_getD->be,getElem?_append_left->tZ,getElem?_append_right->p_,getElem?_drop->Gf,getElem?_eq_getElem->bQ,getElem?_eq_some_iff->eh,getElem?_map->mj,getElem?_range->PD,getElem?_take->Gg,getElem_drop->PE,getElem_map->wO,getElem_mem->kx,getElem_take->Gh,length->PF,length_append->bf,length_cons->ej,length_drop->m_,length_eq_zero_iff->AS,length_filter_le->wQ,length_map->f',length_nil->lz,length_pos_iff->PG,length_range->AU,length_replicate->t5,length_take->gu,lookup_cons->mq,lt_irrefl->mu,lt_trans->PH,map_append->t6,map_congr_left->qd,map_cons->qf,map_const'->PI,map_map->ng,map_take->PJ,mem_append->lA,mem_append_right->PK,mem_cons->eP,mem_iff_getElem->AV,mem_map->gS,mem_of_getElem?->gc,mem_of_mem_drop->PL,mem_range->hZ,mem_replicate->PM,mem_singleton->oG,nil_append->bL,nodup_range->Gi,not_mem_nil->lB,pairwise_append->PN,pairwise_cons->Gj,pairwise_iff_getElem->rB,pairwise_map->wR,perm_cons_erase->PO,range'->oH,range'_succ->Gk,range->aW,range_eq_range'->Gl,range_succ->PQ,range_succ_eq_map->AW,replicate->bV,replicate_succ->AX,size_toArray->rC,take_add_one->wU,take_append_drop->wV,take_left->wW,take_length->PR,take_of_length_le->wX,toList_toArray->PS
open List.Pairwise renaming map->adZ
open Nat renaming add_assoc->lD,add_comm->wY,add_le_add->aM,add_le_add_left->kB,add_le_add_right->dW,add_right_comm->wZ,add_sub_cancel->w1,add_sub_cancel_left->nj,add_sub_of_le->rD,add_zero->rE,beq->bh,ble->bW,blt->iU,blt_eq->rF,div_div_eq_div_mul->PX,div_lt_iff_lt_mul->Gm,eq_of_beq_eq_true->fG,eq_sub_of_add_eq->PY,le_add_left->cV,le_add_right->b6,le_antisymm->w2,le_of_ble_eq_true->aG,le_of_eq->bM,le_of_lt->bx,le_of_lt_succ->fH,le_of_not_lt->t8,le_of_sub_eq_zero->Gn,le_of_succ_le->nk,le_of_succ_le_succ->t9,le_refl->aP,le_sub_one_of_lt->A1,le_succ->t_,le_succ_of_le->Gp,le_trans->ai,le_zero->PZ,log2_lt->P1,lt_irrefl->eI,lt_of_le_of_lt->jD,lt_of_le_of_ne->rH,lt_of_lt_of_le->ua,lt_of_not_le->Gq,lt_of_sub_pos->P2,lt_or_ge->qg,lt_succ_of_lt->P4,lt_succ_self->A2,lt_trans->rI,lt_trichotomy->A3,min_eq_left->w3,min_eq_right->Gr,min_le_left->P5,min_le_right->Gs,mod_add_div'->P6,mod_add_div->Gu,mod_eq_of_lt->ub,mod_lt->eJ,mul_le_mul_left->bT,mul_le_mul_right->rJ,ne_of_beq_eq_false->P7,ne_of_lt->jE,not_le_of_lt->P8,not_lt->w4,not_lt_of_le->w5,not_lt_zero->P9,not_succ_le_zero->Gv,one_pos->Gw,pos_of_ne_zero->qh,pow_lt_pow_right->P_,reduceMul->Gx,strongRecOn->Qa,sub_add_cancel->jF,sub_eq_zero_of_le->Gy,sub_le->kC,sub_le_sub_right->w6,sub_lt->A4,sub_self->Qb,sub_sub_self->Gz,sub_zero->Qc,succ_le_succ->oJ,succ_ne_self->Qd,succ_ne_zero->rK,testBit_or->Qe,zero_add->kD,zero_le->eQ
open Nat.le renaming intro->rG
open Nat.succ renaming inj->nq
open Ne renaming symm->cN
open Option renaming bind_eq_some_iff->ue,bind_some->w8,isSome_iff_exists->GA,map_eq_some_iff->Qh
open Option.some renaming inj->bN
open Or renaming inr->GB
open Prod renaming ext->uf,fst->oK,snd->Qj
open PyProof.Rows renaming Call_->tS,FormattedValue_plain->ad4,add_int->ad5,and_int->ad6,assign_Tuple_tuple->GX,bitAnd_m32->rQ,callWith_type->ad7,eq_int->ad8,floordiv_int->ad9,ge_int->Qk,get?_update_seq->IS,gt_int->Ql,iadd_int->ad_,int_text_len_1921->ad',ior_int->aea,isub_int->aeb,ixor_int->aec,joinParts_cons->Xy,le_int->aed,listItems_at->YO,listUpdate_at->Dv,lshift_int_small->aee,lt_int->GC,mod_int'->aef,mul_int->Qm,ne_int->aeg,neg_int->aeh,or_int->aei,pow_int_small->aej,rshift_int->aek,seqObj->dz,sub_int->ael,tail_any->zJ,xor_int->aem
open PySem renaming Around->dn,BoolOp->wG,ClassData->FC,CmpOp->f_,DictEntry->jf,ExceptHandler->hO,Fin->oM,Keyword->wL,NameKind->h_,Operator->eR,OsState->gy,Params->aV,Program->qi,Result->ug,Scope->b7,Shared->au,UnaryOp->GJ,Value->ae,World->bF,argsOk->lG,assign->lH,assignEach->ny,assignInOrder->Bi,attributeBase->xi,backTo->fJ,backToKw->Bk,bindC->xm,bindL->xn,bm_if_false->nB,builtinLookup_eq_fast->qr,builtinsNs->oW,call->Qo,callWith->xq,call_bytes_ints->Qp,callerA->Hp,cameBackBy->xt,cellsFrom->rW,clipAt->rX,cmpInfo->uJ,codeAny->uM,codeAny_mono->RX,compareOp_gives->R1,contains->mC,entryFor->uR,entryFor_of_tree->uS,excClassObj->Ss,getAttr->IT,getMethod->IU,handled->lM,holding->sL,importedModules->C2,isInstance->C_,isSubtype_type->vB,isTrue->vC,keywordEach->Dn,letOwnedTupleGo->yB,letTemporaryGo->YM,loadGlobal->Ky,loadName->yE,mainGlobals->fA,methodCallForm->abc,model->aB,noteFrame->MF,notedBy->D_,plain->Em,putIn->Qq,pyIter->Ep,rawInt->lj,relabel->Er,richCompare_gives->M9,richCompare_meets_room->M_,setAttr->Nh,sizeLine->EI,sizeLine_eq->g9,slicePick->EK,slot_list_getitem->Nj,slot_list_setitem->acB,spliced->q9,standAt->tG,starEach->fE,start->cg,swappedStores->ND,swapsWith->EU,table->wt,treeTable->e_,typeIs_int->EY,typeLookup_type->rh,update->fF,wpAny->az,wpAny_Assign_Name->adq,wpAny_Constant_int->adt,wpAny_Name->zT,wpAny_assign_Name->zU,wpAny_bind->ax,wpAny_call->NT,wpAny_call_entry->adw,wpAny_comprehension_free->adx,wpAny_execs_cons->zV,wpAny_execs_nil->zW,wpAny_field->NU,wpAny_getItem_list->ady,wpAny_holding->pX,wpAny_isInstance->NV,wpAny_letOwnedTupleGo_listiter->adz,wpAny_loadPart->zX,wpAny_mono->bg,wpAny_newList->wA,wpAny_newTuple->adA,wpAny_of_eq->ki,wpAny_pure->bj,wpAny_rule->m7,wpAny_specialOf->NW,wpAny_standAt->wB,wpAny_truthy_bool->adC
open PySem.AutoSeq1 renaming sub_tuple_tuple->Fx
open PySem.Builtin renaming bitAnd->oA,bitNot->OR,bitOr->ko,bitXor->jA,divisionGoesByPylong->OS
open PySem.Builtin.Bytes renaming fitsIndex->adL,tooLong->adM
open PySem.Builtin.List renaming listFitsIndex->adN,listSubscript?->adO,listTooLong->adP
open PySem.Builtin.Range renaming rangeFitsLong->adQ,rangeSize->FA,small->OQ
open PySem.Calls renaming Constant_str->OX,callWith_builtin->Rk,call_len_list->Rq
open PySem.Challenge renaming pw_no0431_01->aen,rw_no0431_01->aeo
open PySem.F renaming bm_bind->O2,bm_called->FH,bm_plain->O3,slot_int_index->O4,slot_int_rmul->O5,sub_bytes_bytes->FI
open PySem.Heap renaming ExtBut->AD,SameBut->AE,get?_none_of_le->tU,get?_push_ne->Pc,get?_push_of_some->tV,get?_push_size->jg,get?_update_other->FT,get?_update_self->FU,lt_size->hU,size_push->rz,size_update->Pd
open PySem.Heap.IsList renaming typeIs->adV
open PySem.Heap.IsSliceOf renaming new->Pb
open PySem.Heap.SameBut renaming update->FR
open PySem.NameKind renaming free->oI
open PySem.Obj renaming data_mapFields->Qf,mapFields->Qg,mapSeq->gx
open PySem.PyData renaming keyHash->A5
open PySem.Str renaming ofString->ie
open PySem.Value renaming none->xg,ref->QK,type->Be
open PySem.W renaming Looks->AY,SharedT->A7,WRecords->GQ,any_some->uu,boot_drawn->By,boot_heap->mA,boot_toks->Bz,emptyDict->kH,eqBool_bytes->xC,findIn->kI,hideAll->nQ,hideAll_get->I9,hideAll_none->vg,instObj->jY,isStr->qN,kas_sort->Ki,keepIn->yu,kindOf->j0,looks_findIn->yF,looks_mroIn->Y1,looks_nsIn->KE,lookup->aR,nsMap_none_of_in->abH,piecesOf->wa,readsAllW_cons_inv->ab4,readsAllW_nil_inv->ab5,restOf->q8,segRunT->tE,topFrame->gM,topRun->m4,topStub->NL,typeIs_bytes->Qn,typeIs_bytes->m6
open PySem.W.FB renaming slot_bytes_getitem->FJ
open PySem.W.Fast renaming te14364793385576792824->O6,tw13343964577679436407->Az,tw14364793385576792824->FK,tw17119622794617984870->FN,tw5923862056798008813->O7,tw8326940854005059898->O8
open PySem.W.KBy renaming picked->Pm
open PySem.W.Looks renaming ld->PT,of_pure->PU
open PySem.W.WData renaming int->uq
open PySem.W.WTm renaming holds->GR
open UInt8 renaming le_antisymm->QB,lt_irrefl->GI,not_lt->Ba,toNat_ofNat'->QC
local macro_rules | `(tactic| lk) => `(tactic| k_extra "w")
local macro_rules | `(tactic| k_is) => `(tactic| k_extra "gp")
local macro_rules | `(tactic| k_in) => `(tactic| k_extra "mine sub")
local macro_rules | `(tactic| fin2) => `(tactic| kernel_rfl)
section
open PySem PySem.W
set_option genSizeOf true
set_option compiler.extract_closed true
namespace Mine.Head
section
noncomputable abbrev pw:qi:=aen
noncomputable def S (x:String) (t:Nat):ae:=.str (.ofString x) t
noncomputable def R (a:Nat):ae:=.ref a
noncomputable def I (i:Int):ae:=.int i 0
noncomputable def Y (l:List UInt8) (t:Nat):ae:=.bytes l.toArray t
noncomputable def E (P:aV) (x:String) (t:Nat) (v:ae):jf:=⟨A5 P (.ofString x),.str (.ofString x) t,v⟩
noncomputable def tu (l:List ae):Obj:=⟨.type "tuple",none,.seq l.toArray 0,#[]⟩
noncomputable def co (l:List ae):Obj:=⟨.type "code",none,.fields l.toArray,#[]⟩
noncomputable def tb (l:List ae):Obj:=⟨.none,none,.fields l.toArray,#[]⟩
noncomputable def fu (d:Data):Obj:=⟨.type "function",none,d,#[]⟩
noncomputable def di (n:Nat) (l:List jf):Obj:=⟨.type "dict",none,.dict l.toArray n,#[]⟩
noncomputable def fr (a b c d e:ae):Obj:=⟨.type "frame",none,.plain,#[some a,some b,some c,none,some d,none,some e]⟩
noncomputable def jL (st:Stmt):List Stmt:=match st with|.FunctionDef _ _ b ..=>b|.ClassDef _ _ _ b ..=>b|_=>[]
noncomputable def El (st:Stmt):Arguments:=match st with|.FunctionDef _ a ..=>a|_=>⟨[],[],none,[],[],none,[]⟩
noncomputable def dG (st:Stmt):b7:=match st with|.FunctionDef _ _ _ _ _ _ sc ..=>sc|_=>default
noncomputable def Mt (st:Stmt):Str:=match st with|.FunctionDef n ..=>n|_=>default
noncomputable def Eb (l:List Stmt) (i:Nat):Stmt:=match l,i with|[],_=>.Pass ⟨0,0,0,0⟩|s::_,0=>s|_::r,i+1=>Eb r i
noncomputable def top (i:Nat):Stmt:=Eb pw.main.body i
noncomputable def met (i j:Nat):Stmt:=Eb (jL (top i)) j
noncomputable def F (st:Stmt) (qual:String) (d m c:ae) (bl gl:Nat):Data:=
 .func {name:=Mt st,qualname:=.ofString qual,params:=El st,body:=.stmts (jL st),scope:=dG st,globals:=gl,closure:=[],defaults:=d,kwdefaults:=.none,doc:=.none,pyModule:=m,annotations:=none,code:=c,closureTuple:=.none,builtins:=bl}
noncomputable def C (n:String) (b m:List ae) (ns:Nat) (sub:List ae):Data:=
 .cls {name:=.ofString n,bases:=b,mro:=m,ns:=ns,qualname:=.ofString n,hasDict:=true,slotNames:=[],subclasses:=sub,abstract:=false,collection:=none,hasDel:=false}
noncomputable def alt {α:Type}:List α->List α
 |[]=>[]
 |[a]=>[a]
 |a::_::r=>a::alt r
noncomputable def bt:Nat->List Obj->BT
 |0,_=>.nil
 |_+1,[]=>.nil
 |n+1,o::r=>.node o (bt n (alt r)) (bt n (alt r.tail))
noncomputable def cF (n q:String) (t i j k m o r u:Nat):Obj:=co [S n t,S q (t+1),S "/claim/cut.py" (t+2),I i,I j,I k,I m,I o,R r,.bool true,I 181,R (r+1),.none,R (r+2),R (r+3),R (r+4),I u,I i,S "/claim/cut.py" (u+1)]
noncomputable def cC (n q:String) (t i j k m o r u:Nat):Obj:=co [S n t,S q (t+1),S "/claim/cut.py" (t+2),I i,I j,I k,I m,I o,R r,.bool false,I 181,R (r+1),.none,.none,.none,.none,I u,I i,S "/claim/cut.py" (u+1)]
noncomputable def cG (n q:String) (t i j k m o r u:Nat):Obj:=co [S n t,S q (t+1),S "/claim/cut.py" (t+2),I i,I j,I k,I m,I o,R r,.bool true,I 181,R (r+1),.none,.none,.none,R (r+2),I u,I i,S "/claim/cut.py" (u+1)]
noncomputable def sn:Nat->List String->List ae
 |_,[]=>[]
 |t,x::r=>S x t::sn (t+1) r
noncomputable def ts (t:Nat) (l:List String):Obj:=tu (sn t l)
noncomputable def fp (st:Stmt) (q:String):Obj:=⟨.none,none,F st q .none .none .none 0 0,#[]⟩
noncomputable def fv (st:Stmt) (q m:String) (t r gl bl:Nat):Obj:=fu (F st q .none (S m t) (R r) gl bl)
noncomputable def su (a:Nat):Obj:=⟨.type "super",none,.fields #[R a,R a,R a],#[]⟩
noncomputable def bi (a:Nat):Obj:=⟨.type "builtin_function_or_method",none,.fields #[.builtin "object.__init_subclass__",R a],#[]⟩
noncomputable def bp:Obj:=⟨.type "builtin_function_or_method",none,.fields #[.builtin "type.__prepare__",.type "type"],#[]⟩
noncomputable def gw (t a:Nat):Obj:=⟨.type "getset_descriptor",none,.fields #[S "__weakref__" t,R a,.builtin "ExceptionGroup.__weakref__",.none],#[]⟩
noncomputable def gd (t a:Nat):Obj:=⟨.type "getset_descriptor",none,.fields #[S "__dict__" t,R a,.builtin "function.__dict__",.builtin "function.__dict__#set"],#[]⟩
noncomputable def e (P:aV) (x:String) (t r:Nat):jf:=E P x t (R r)
noncomputable def eb (P:aV) (x:String) (t:Nat):jf:=E P x t (.builtin x)
noncomputable def et (P:aV) (x:String) (t:Nat):jf:=E P x t (.type x)
noncomputable def st (L:List Obj) (n toks:Nat) (os:gy):A7:=⟨bt 14 L,n,{},#[],{},toks,os⟩
noncomputable def ge (P:aV):List jf:=[E P "__doc__" 166 .none,
 E P "__package__" 167 .none,
 E P "__loader__" 168 (.builtin "__main__.__loader__#opaque"),
 E P "__spec__" 169 .none,
 e P "__annotations__" 170 6,
 e P "__builtins__" 171 4,
 E P "__file__" 173 (S "/claim/cut.py" 172),
 E P "__cached__" 174 .none,
 e P "_wall" 193 21,
 e P "KeepError" 215 31,
 e P "StoreError" 231 44,
 e P "Corrupt" 247 56,
 e P "ShortOctets" 263 68,
 e P "NotFound" 279 80,
 e P "BadOption" 295 92,
 e P "IterMisuse" 311 104,
 E P "MAX_32" 315 (.int 4294967295 314),
 E P "MAX_64" 317 (.int 18446744073709551615 316),
 E P "CHECK_CRC" 319 (.int 1 318),
 E P "CHECK_SUM" 321 (.int 2 320),
 E P "CRC_POLY" 323 (.int 2197175160 322),
 E P "MASK_DELTA" 325 (.int 2726488792 324),
 E P "HASH_SEED" 327 (.int 3164544308 326),
 E P "HASH_MUL" 329 (.int 3332679571 328),
 E P "HASH_SHIFT" 331 (.int 24 330),
 e P "read_groups" 345 113,
 e P "read_varint" 353 120,
 e P "read_varint32" 361 127,
 e P "read_fixed32" 369 134,
 e P "read_fixed64" 377 141,
 e P "make_crc_table" 387 148,
 e P "crc32c" 399 156,
 e P "mask" 406 163,
 e P "checksum" 414 170,
 e P "bloom_hash" 425 177,
 E P "KIND_VALUE" 429 (.int 1 428),
 E P "TAG_LENGTH" 431 (.int 8 430),
 e P "split_ikey" 441 184,
 e P "user_of" 448 191,
 e P "tag_of" 455 198,
 e P "Order" 508 236,
 e P "BytesOrder" 548 271,
 e P "InternalOrder" 618 325,
 e P "Options" 680 358,
 E P "TRAILER" 684 (.int 5 683),
 E P "PLAIN_TYPE" 686 (.int 0 685),
 E P "MOST_PROBES" 688 (.int 30 687),
 E P "LEAST_FILTER_BITS" 690 (.int 64 689),
 E P "WORD" 692 (.int 4294967295 691),
 e P "Block" 769 407,
 e P "BlockIter" 913 519,
 e P "Handle" 958 554,
 e P "read_handle" 968 565,
 e P "open_block" 979 572,
 e P "Bloom" 1042 603,
 e P "FilterReader" 1091 631,
 E P "MAGIC" 1095 (.int 15800726617472432983 1094),
 E P "FOOTER" 1097 (.int 48 1096),
 E P "HANDLES_ROOM" 1099 (.int 40 1098),
 E P "FILTER_KEY" 1101 (Y [102,105,108,116,101,114,46,114,97,102,116,107,101,101,112,46,98,108,111,111,109] 1100),
 e P "Footer" 1146 666,
 e P "read_footer" 1158 677,
 e P "Table" 1306 771,
 e P "TwoLevelIter" 1439 883,
 e P "_law_take" 1451 894,
 e P "_law_word" 1457 899,
 e P "_law_fix" 1463 904,
 e P "_law_var" 1470 911,
 e P "_law_key" 1477 918,
 e P "_law_rank" 1484 925,
 e P "_law_pairs" 1497 932,
 e P "_law_block" 1513 939,
 e P "_law_sealed" 1523 946,
 e P "_law_place" 1533 953,
 e P "_law_spans" 1546 960,
 e P "_law_tidy" 1560 967,
 e P "_law_wild" 1566 972,
 e P "_law_value" 1573 979,
 e P "_law_table" 1579 984,
 e P "_law_denies" 1587 991,
 e P "_law_clean" 1605 998,
 e P "_law_front" 1613 1005,
 e P "_law_rear" 1621 1012,
 e P "_law_row" 1627 1017,
 e P "_law_at" 1633 1022,
 e P "_law_after" 1645 1029,
 e P "_law_move" 1654 1036,
 e P "_law_shown" 1661 1043,
 e P "_law_stands" 1671 1050,
 e P "_law_got" 1680 1057,
 e P "_law_want" 1700 1064,
 e P "law" 1706 1069]
noncomputable abbrev o0 (P:aV):Obj:=di 159 [E P "__name__" 1 (S "builtins" 160),E P "__doc__" 2 (.builtin "builtins.__doc__:str#opaque"),E P "__package__" 3 (.builtin "builtins.__package__:str#opaque"),E P "__loader__" 4 (.builtin "builtins.__loader__:shared#opaque"),E P "__spec__" 5 (.builtin "builtins.__spec__#opaque"),eb P "__build_class__" 6,eb P "__import__" 7,eb P "abs" 8,eb P "all" 9,eb P "any" 10,eb P "ascii" 11,eb P "bin" 12,eb P "breakpoint" 13,eb P "callable" 14,eb P "chr" 15,eb P "compile" 16,eb P "delattr" 17,eb P "dir" 18,eb P "divmod" 19,eb P "eval" 20,eb P "exec" 21,eb P "format" 22,eb P "getattr" 23,eb P "globals" 24,eb P "hasattr" 25,eb P "hash" 26,eb P "hex" 27,eb P "id" 28,eb P "input" 29,eb P "isinstance" 30,eb P "issubclass" 31,eb P "iter" 32,eb P "aiter" 33,eb P "len" 34,eb P "locals" 35,eb P "max" 36,eb P "min" 37,eb P "next" 38,eb P "anext" 39,eb P "oct" 40,eb P "ord" 41,eb P "pow" 42,eb P "print" 43,eb P "repr" 44,eb P "round" 45,eb P "setattr" 46,eb P "sorted" 47,eb P "sum" 48,eb P "vars" 49,E P "None" 50 .none,E P "Ellipsis" 51 .ellipsis,E P "NotImplemented" 52 .notImplemented,E P "False" 53 (.bool false),E P "True" 54 (.bool true),et P "bool" 55,et P "memoryview" 56,et P "bytearray" 57,et P "bytes" 58,et P "classmethod" 59,et P "complex" 60,et P "dict" 61,et P "enumerate" 62,et P "filter" 63,et P "float" 64,et P "frozenset" 65,et P "property" 66,et P "int" 67,et P "list" 68,et P "map" 69,et P "object" 70,et P "range" 71,et P "reversed" 72,et P "set" 73,et P "slice" 74,et P "staticmethod" 75,et P "str" 76,et P "super" 77,et P "tuple" 78,et P "type" 79,et P "zip" 80,E P "__debug__" 81 (.bool true),et P "BaseException" 82,et P "BaseExceptionGroup" 83,et P "Exception" 84,et P "GeneratorExit" 85,et P "KeyboardInterrupt" 86,et P "SystemExit" 87,et P "ArithmeticError" 88,et P "AssertionError" 89,et P "AttributeError" 90,et P "BufferError" 91,et P "EOFError" 92,et P "ImportError" 93,et P "LookupError" 94,et P "MemoryError" 95,et P "NameError" 96,et P "OSError" 97,et P "ReferenceError" 98,et P "RuntimeError" 99,et P "StopAsyncIteration" 100,et P "StopIteration" 101,et P "SyntaxError" 102,et P "SystemError" 103,et P "TypeError" 104,et P "ValueError" 105,et P "Warning" 106,et P "FloatingPointError" 107,et P "OverflowError" 108,et P "ZeroDivisionError" 109,et P "BytesWarning" 110,et P "DeprecationWarning" 111,et P "EncodingWarning" 112,et P "FutureWarning" 113,et P "ImportWarning" 114,et P "PendingDeprecationWarning" 115,et P "ResourceWarning" 116,et P "RuntimeWarning" 117,et P "SyntaxWarning" 118,et P "UnicodeWarning" 119,et P "UserWarning" 120,et P "BlockingIOError" 121,et P "ChildProcessError" 122,et P "ConnectionError" 123,et P "FileExistsError" 124,et P "FileNotFoundError" 125,et P "InterruptedError" 126,et P "IsADirectoryError" 127,et P "NotADirectoryError" 128,et P "PermissionError" 129,et P "ProcessLookupError" 130,et P "TimeoutError" 131,et P "IndentationError" 132,et P "_IncompleteInputError" 133,et P "IndexError" 134,et P "KeyError" 135,et P "ModuleNotFoundError" 136,et P "NotImplementedError" 137,et P "PythonFinalizationError" 138,et P "RecursionError" 139,et P "UnboundLocalError" 140,et P "UnicodeError" 141,et P "BrokenPipeError" 142,et P "ConnectionAbortedError" 143,et P "ConnectionRefusedError" 144,et P "ConnectionResetError" 145,et P "TabError" 146,et P "UnicodeDecodeError" 147,et P "UnicodeEncodeError" 148,et P "UnicodeTranslateError" 149,et P "ExceptionGroup" 150,E P "EnvironmentError" 151 (.type "OSError"),E P "IOError" 152 (.type "OSError"),eb P "open" 153,E P "quit" 154 (.builtin "builtins.quit#opaque"),E P "exit" 155 (.builtin "builtins.exit#opaque"),E P "copyright" 156 (.builtin "builtins.copyright#opaque"),E P "credits" 157 (.builtin "builtins.credits#opaque"),E P "license" 158 (.builtin "builtins.license#opaque"),E P "help" 159 (.builtin "builtins.help#opaque")]
noncomputable abbrev o1 (P:aV):Obj:=di 2 [e P "builtins" 162 4,e P "__main__" 163 5]
noncomputable abbrev o2 (P:aV):Obj:=⟨.type "module",some 0,.plain,[].toArray⟩
noncomputable abbrev o3 (P:aV):Obj:=⟨.type "module",some 3,.plain,[].toArray⟩
noncomputable abbrev o4 (P:aV):Obj:=co [S "<module>" 176,S "<module>" 177,S "/claim/cut.py" 178,I 1,I 0,I 0,I 0,I 0,R 7,.bool false,I 175,R 8,.none,.none,.none,.none,I 179,I 1,S "/claim/cut.py" 180]
noncomputable abbrev o5 (P:aV):Obj:=fr (R 9) (R 3) (R 3) (S "__main__" 164) (R 0)
noncomputable abbrev o6 (P:aV):Obj:=cC "<module>" "<module>" 182 1 0 0 0 0 11 185
noncomputable abbrev o7 (P:aV):Obj:=fr (R 13) (R 3) (R 3) (S "__main__" 164) (R 0)
noncomputable abbrev o8 (P:aV):Obj:=⟨.none,none,.dict [E P "type.__subclasses__.Exception.0" 212 (I 31),E P "type.__subclasses__.Exception.n" 213 (I 1)].toArray 2,[].toArray⟩
noncomputable abbrev o9 (P:aV):Obj:=di 4 [E P "__module__" 700 (S "raftkeep.blocks" 681),E P "__firstlineno__" 704 (.int 231 703),e P "__init__" 717 376,e P "count_restarts" 724 383,e P "walk" 731 390,e P "entry_at" 745 397,e P "restart_key" 757 404,e P "__static_attributes__" 762 405,e P "__dict__" 764 408,e P "__weakref__" 766 409,E P "__doc__" 767 .none]
noncomputable abbrev MM (P:aV):Obj:=⟨.type "type",none,C "Block" [.type "object"] [R 407,.type "object"] 406 [],[none,none,some (S "Block" 693),some (S "Block" 701),some (.builtin "object.__new__"),some (.bool true)].toArray⟩
noncomputable def x0 (P:aV):List Obj:=[o0 P,o1 P,⟨.none,none,.dict [].toArray 0,[].toArray⟩,di 9 (E P "__name__" 165 (S "__main__" 164)::(ge P).take 8),o2 P,o3 P,di 0 [],tu [],tb [],o4 P,o5 P,tu [],tb [],o6 P,o7 P]
noncomputable def x1 (P:aV):List Obj:=[o0 P,o1 P,o8 P,di 35 (E P "__name__" 165 (S "raftkeep.octets" 312)::(ge P).take 34),o2 P,o3 P,di 0 [],tu [],tb [],o4 P,o5 P,tu [],tb [I 1,I 0,R 20,I 5,I 0,R 27,I 7,I 0,R 40,I 9,I 0,R 52,I 11,I 0,R 64,I 13,I 0,R 76,I 15,I 0,R 88,I 17,I 0,R 100,I 29,I 0,R 112,I 46,I 0,R 119,I 50,I 0,R 126,I 54,I 0,R 133,I 58,I 0,R 140,I 62,I 0,R 147,I 75,I 0,R 155,I 83,I 0,R 162,I 85,I 0,R 169],o6 P,o7 P,tu []]
noncomputable def x2 (P:aV):List Obj:=[tb [],ts 190 ["k"],tu [],fp (top 0) "_wall",cF "_wall" "_wall" 187 1 1 0 0 3 15 191,fv (top 0) "_wall" "__main__" 164 20 0 3,tu [.type "Exception"],bp,di 4 [E P "__module__" 203 (S "raftkeep.errors" 194),E P "__qualname__" 205 (S "KeepError" 204),E P "__firstlineno__" 207 (.int 5 206),e P "__static_attributes__" 208 29],tu [],tb [],cC "KeepError" "KeepError" 198 5 0 0 0 0 25 201,fr (R 27) (R 3) (R 24) (S "raftkeep.errors" 194) (R 0),tu [],di 3 [E P "__module__" 203 (S "raftkeep.errors" 194),E P "__firstlineno__" 207 (.int 5 206),e P "__static_attributes__" 208 29,e P "__weakref__" 210 32,E P "__doc__" 211 .none],⟨.type "type",none,C "KeepError" [.type "Exception"] [R 31,.type "Exception",.type "BaseException",.type "object"] 30 [R 44],[some (R 22),none,some (S "KeepError" 196),some (S "KeepError" 204),some (.builtin "Exception.__new__"),some (.bool true)].toArray⟩]
noncomputable def x3 (P:aV):List Obj:=[gw 209 31,su 31,bi 31,tu [R 31],bp,di 4 [E P "__module__" 223 (S "raftkeep.errors" 194),E P "__qualname__" 225 (S "StoreError" 224),E P "__firstlineno__" 227 (.int 7 226),e P "__static_attributes__" 228 42],tu [],tb [],cC "StoreError" "StoreError" 218 7 0 0 0 0 38 221,fr (R 40) (R 3) (R 37) (S "raftkeep.errors" 194) (R 0),tu [],di 2 [E P "__module__" 223 (S "raftkeep.errors" 194),E P "__firstlineno__" 227 (.int 7 226),e P "__static_attributes__" 228 42,E P "__doc__" 229 .none],⟨.type "type",none,C "StoreError" [R 31] [R 44,R 31,.type "Exception",.type "BaseException",.type "object"] 43 [R 56,R 80,R 92,R 104],[some (R 35),none,some (S "StoreError" 216),some (S "StoreError" 224),some (.builtin "Exception.__new__"),some (.bool true)].toArray⟩,su 44,bi 44,tu [R 44]]
noncomputable def x4 (P:aV):List Obj:=[bp,di 4 [E P "__module__" 239 (S "raftkeep.errors" 194),E P "__qualname__" 241 (S "Corrupt" 240),E P "__firstlineno__" 243 (.int 9 242),e P "__static_attributes__" 244 54],tu [],tb [],cC "Corrupt" "Corrupt" 234 9 0 0 0 0 50 237,fr (R 52) (R 3) (R 49) (S "raftkeep.errors" 194) (R 0),tu [],di 2 [E P "__module__" 239 (S "raftkeep.errors" 194),E P "__firstlineno__" 243 (.int 9 242),e P "__static_attributes__" 244 54,E P "__doc__" 245 .none],⟨.type "type",none,C "Corrupt" [R 44] [R 56,R 44,R 31,.type "Exception",.type "BaseException",.type "object"] 55 [R 68],[some (R 47),none,some (S "Corrupt" 232),some (S "Corrupt" 240),some (.builtin "Exception.__new__"),some (.bool true)].toArray⟩,su 56,bi 56,tu [R 56],bp,di 4 [E P "__module__" 255 (S "raftkeep.errors" 194),E P "__qualname__" 257 (S "ShortOctets" 256),E P "__firstlineno__" 259 (.int 11 258),e P "__static_attributes__" 260 66],tu [],tb []]
noncomputable def x5 (P:aV):List Obj:=[cC "ShortOctets" "ShortOctets" 250 11 0 0 0 0 62 253,fr (R 64) (R 3) (R 61) (S "raftkeep.errors" 194) (R 0),tu [],di 2 [E P "__module__" 255 (S "raftkeep.errors" 194),E P "__firstlineno__" 259 (.int 11 258),e P "__static_attributes__" 260 66,E P "__doc__" 261 .none],⟨.type "type",none,C "ShortOctets" [R 56] [R 68,R 56,R 44,R 31,.type "Exception",.type "BaseException",.type "object"] 67 [],[some (R 59),none,some (S "ShortOctets" 248),some (S "ShortOctets" 256),some (.builtin "Exception.__new__"),some (.bool true)].toArray⟩,su 68,bi 68,tu [R 44],bp,di 4 [E P "__module__" 271 (S "raftkeep.errors" 194),E P "__qualname__" 273 (S "NotFound" 272),E P "__firstlineno__" 275 (.int 13 274),e P "__static_attributes__" 276 78],tu [],tb [],cC "NotFound" "NotFound" 266 13 0 0 0 0 74 269,fr (R 76) (R 3) (R 73) (S "raftkeep.errors" 194) (R 0),tu [],di 2 [E P "__module__" 271 (S "raftkeep.errors" 194),E P "__firstlineno__" 275 (.int 13 274),e P "__static_attributes__" 276 78,E P "__doc__" 277 .none]]
noncomputable def x6 (P:aV):List Obj:=[⟨.type "type",none,C "NotFound" [R 44] [R 80,R 44,R 31,.type "Exception",.type "BaseException",.type "object"] 79 [],[some (R 71),none,some (S "NotFound" 264),some (S "NotFound" 272),some (.builtin "Exception.__new__"),some (.bool true)].toArray⟩,su 80,bi 80,tu [R 44],bp,di 4 [E P "__module__" 287 (S "raftkeep.errors" 194),E P "__qualname__" 289 (S "BadOption" 288),E P "__firstlineno__" 291 (.int 15 290),e P "__static_attributes__" 292 90],tu [],tb [],cC "BadOption" "BadOption" 282 15 0 0 0 0 86 285,fr (R 88) (R 3) (R 85) (S "raftkeep.errors" 194) (R 0),tu [],di 2 [E P "__module__" 287 (S "raftkeep.errors" 194),E P "__firstlineno__" 291 (.int 15 290),e P "__static_attributes__" 292 90,E P "__doc__" 293 .none],⟨.type "type",none,C "BadOption" [R 44] [R 92,R 44,R 31,.type "Exception",.type "BaseException",.type "object"] 91 [],[some (R 83),none,some (S "BadOption" 280),some (S "BadOption" 288),some (.builtin "Exception.__new__"),some (.bool true)].toArray⟩,su 92,bi 92,tu [R 44]]
noncomputable def x7 (P:aV):List Obj:=[bp,di 4 [E P "__module__" 303 (S "raftkeep.errors" 194),E P "__qualname__" 305 (S "IterMisuse" 304),E P "__firstlineno__" 307 (.int 17 306),e P "__static_attributes__" 308 102],tu [],tb [],cC "IterMisuse" "IterMisuse" 298 17 0 0 0 0 98 301,fr (R 100) (R 3) (R 97) (S "raftkeep.errors" 194) (R 0),tu [],di 2 [E P "__module__" 303 (S "raftkeep.errors" 194),E P "__firstlineno__" 307 (.int 17 306),e P "__static_attributes__" 308 102,E P "__doc__" 309 .none],⟨.type "type",none,C "IterMisuse" [R 44] [R 104,R 44,R 31,.type "Exception",.type "BaseException",.type "object"] 103 [],[some (R 95),none,some (S "IterMisuse" 296),some (S "IterMisuse" 304),some (.builtin "Exception.__new__"),some (.bool true)].toArray⟩,su 104,bi 104,tu [],tb [],ts 335 ["data","at","octets","most","n","shift","turn","octet"],tu [],fp (top 19) "read_groups"]
noncomputable def x8:List Obj:=[cF "read_groups" "read_groups" 332 29 4 0 0 3 107 343,fv (top 19) "read_groups" "raftkeep.octets" 312 112 0 3,tu [],tb [],ts 349 ["data","at"],tu [],fp (top 20) "read_varint",cF "read_varint" "read_varint" 346 46 2 0 0 3 114 351,fv (top 20) "read_varint" "raftkeep.octets" 312 119 0 3,tu [],tb [],ts 357 ["data","at"],tu [],fp (top 21) "read_varint32",cF "read_varint32" "read_varint32" 354 50 2 0 0 3 121 359,fv (top 21) "read_varint32" "raftkeep.octets" 312 126 0 3]
noncomputable def x9:List Obj:=[tu [],tb [],ts 365 ["data","at"],tu [],fp (top 22) "read_fixed32",cF "read_fixed32" "read_fixed32" 362 54 2 0 0 3 128 367,fv (top 22) "read_fixed32" "raftkeep.octets" 312 133 0 3,tu [],tb [],ts 373 ["data","at"],tu [],fp (top 23) "read_fixed64",cF "read_fixed64" "read_fixed64" 370 58 2 0 0 3 135 375,fv (top 23) "read_fixed64" "raftkeep.octets" 312 140 0 3,tu [],tb []]
noncomputable def wC:List Obj:=[ts 381 ["table","c","half","low"],tu [],fp (top 24) "make_crc_table",cF "make_crc_table" "make_crc_table" 378 62 0 0 0 3 142 385,fv (top 24) "make_crc_table" "raftkeep.octets" 312 147 0 3,tu [.int 0 388],tu [],tb [],ts 392 ["data","start","table","c","octet"],tu [],fp (top 25) "crc32c",cF "crc32c" "crc32c" 389 75 2 0 0 3 150 397,fu (F (top 25) "crc32c" (R 149) (S "raftkeep.octets" 312) (R 155) 0 3),tu [],tb [],ts 403 ["c"]]
noncomputable def x11:List Obj:=[tu [],fp (top 26) "mask",cF "mask" "mask" 400 83 1 0 0 3 157 404,fv (top 26) "mask" "raftkeep.octets" 312 162 0 3,tu [],tb [],ts 410 ["kind","data"],tu [],fp (top 27) "checksum",cF "checksum" "checksum" 407 85 2 0 0 3 164 412,fv (top 27) "checksum" "raftkeep.octets" 312 169 0 3]
noncomputable def x12 (P:aV):List Obj:=[o0 P,o1 P,o8 P,di 51 (E P "__name__" 165 (S "raftkeep.blocks" 681)::(ge P).take 50),o2 P,o3 P,di 0 [],tu [],tb [],o4 P,o5 P,tu [],tb [I 1,I 0,R 20,I 5,I 0,R 27,I 7,I 0,R 40,I 9,I 0,R 52,I 11,I 0,R 64,I 13,I 0,R 76,I 15,I 0,R 88,I 17,I 0,R 100,I 29,I 0,R 112,I 46,I 0,R 119,I 50,I 0,R 126,I 54,I 0,R 133,I 58,I 0,R 140,I 62,I 0,R 147,I 75,I 0,R 155,I 83,I 0,R 162,I 85,I 0,R 169,I 91,I 0,R 176,I 111,I 0,R 183,I 118,I 0,R 190,I 122,I 0,R 197,I 126,I 0,R 204,I 143,I 0,R 246,I 153,I 0,R 279,I 181,I 0,R 333,I 231,I 0,R 368],o6 P,o7 P,tu []]
noncomputable def zZ:List Obj:=[tu [],fp (top 26) "mask",cF "mask" "mask" 400 83 1 0 0 3 157 404,fv (top 26) "mask" "raftkeep.octets" 312 162 0 3,tu [],tb [],ts 410 ["kind","data"],tu [],fp (top 27) "checksum",cF "checksum" "checksum" 407 85 2 0 0 3 164 412,fv (top 27) "checksum" "raftkeep.octets" 312 169 0 3,tu [],tb [],ts 418 ["data","size","h","at","rest"],tu [],fp (top 28) "bloom_hash"]
noncomputable def z4:List Obj:=[cF "bloom_hash" "bloom_hash" 415 91 1 0 0 3 171 423,fv (top 28) "bloom_hash" "raftkeep.octets" 312 176 0 3,tu [],tb [],ts 435 ["ik","user","tag","kind"],tu [],fp (top 32) "split_ikey",cF "split_ikey" "split_ikey" 432 111 1 0 0 3 178 439,fv (top 32) "split_ikey" "raftkeep.keys" 426 183 0 3,tu [],tb [],ts 445 ["ik"],tu [],fp (top 33) "user_of",cF "user_of" "user_of" 442 118 1 0 0 3 185 446,fv (top 33) "user_of" "raftkeep.keys" 426 190 0 3]
noncomputable def z7 (P:aV):List Obj:=[tu [],tb [],ts 452 ["ik"],tu [],fp (top 34) "tag_of",cF "tag_of" "tag_of" 449 122 1 0 0 3 192 453,fv (top 34) "tag_of" "raftkeep.keys" 426 197 0 3,tu [],bp,di 8 [E P "__module__" 463 (S "raftkeep.keys" 426),E P "__qualname__" 465 (S "Order" 464),E P "__firstlineno__" 467 (.int 126 466),e P "compare" 476 212,e P "separator" 485 219,e P "successor" 493 226,e P "name" 500 233,e P "__static_attributes__" 501 234],tu [],tb [I 128,I 4,R 211,I 135,I 4,R 218,I 138,I 4,R 225,I 141,I 4,R 232],cC "Order" "Order" 458 126 0 0 0 0 202 461,fr (R 204) (R 3) (R 201) (S "raftkeep.keys" 426) (R 0),tu [],tb []]
noncomputable def z_:List Obj:=[ts 471 ["self","a","b"],tu [],fp (met 35 0) "Order.compare",cF "compare" "Order.compare" 468 128 3 0 0 3 206 474,fv (met 35 0) "Order.compare" "raftkeep.keys" 426 211 0 3,tu [],tb [],ts 480 ["self","a","b"],tu [],fp (met 35 1) "Order.separator",cF "separator" "Order.separator" 477 135 3 0 0 3 213 483,fv (met 35 1) "Order.separator" "raftkeep.keys" 426 218 0 3,tu [],tb [],ts 489 ["self","a"],tu []]
noncomputable def Aa (P:aV):List Obj:=[fp (met 35 2) "Order.successor",cF "successor" "Order.successor" 486 138 2 0 0 3 220 491,fv (met 35 2) "Order.successor" "raftkeep.keys" 426 225 0 3,tu [],tb [],ts 497 ["self"],tu [],fp (met 35 3) "Order.name",cF "name" "Order.name" 494 141 1 0 0 3 227 498,fv (met 35 3) "Order.name" "raftkeep.keys" 426 232 0 3,tu [],di 4 [E P "__module__" 463 (S "raftkeep.keys" 426),E P "__firstlineno__" 467 (.int 126 466),e P "compare" 476 212,e P "separator" 485 219,e P "successor" 493 226,e P "name" 500 233,e P "__static_attributes__" 501 234,e P "__dict__" 503 237,e P "__weakref__" 505 238,E P "__doc__" 506 .none],⟨.type "type",none,C "Order" [.type "object"] [R 236,.type "object"] 235 [R 271,R 325],[none,none,some (S "Order" 456),some (S "Order" 464),some (.builtin "object.__new__"),some (.bool true)].toArray⟩,gd 502 236,gw 504 236,su 236]
noncomputable def Ab (P:aV):List Obj:=[bi 236,tu [R 236],bp,di 7 [E P "__module__" 516 (S "raftkeep.keys" 426),E P "__qualname__" 518 (S "BytesOrder" 517),E P "__firstlineno__" 520 (.int 143 519),e P "separator" 529 254,e P "successor" 537 261,e P "name" 544 268,e P "__static_attributes__" 545 269],tu [],tb [I 145,I 4,R 253,I 148,I 4,R 260,I 151,I 4,R 267],cC "BytesOrder" "BytesOrder" 511 143 0 0 0 0 244 514,fr (R 246) (R 3) (R 243) (S "raftkeep.keys" 426) (R 0),tu [],tb [],ts 524 ["self","a","b"],tu [],fp (met 36 0) "BytesOrder.separator",cF "separator" "BytesOrder.separator" 521 145 3 0 0 3 248 527,fv (met 36 0) "BytesOrder.separator" "raftkeep.keys" 426 253 0 3,tu []]
noncomputable def Ac (P:aV):List Obj:=[tb [],ts 533 ["self","a"],tu [],fp (met 36 1) "BytesOrder.successor",cF "successor" "BytesOrder.successor" 530 148 2 0 0 3 255 535,fv (met 36 1) "BytesOrder.successor" "raftkeep.keys" 426 260 0 3,tu [],tb [],ts 541 ["self"],tu [],fp (met 36 2) "BytesOrder.name",cF "name" "BytesOrder.name" 538 151 1 0 0 3 262 542,fv (met 36 2) "BytesOrder.name" "raftkeep.keys" 426 267 0 3,tu [],di 2 [E P "__module__" 516 (S "raftkeep.keys" 426),E P "__firstlineno__" 520 (.int 143 519),e P "separator" 529 254,e P "successor" 537 261,e P "name" 544 268,e P "__static_attributes__" 545 269,E P "__doc__" 546 .none],⟨.type "type",none,C "BytesOrder" [R 236] [R 271,R 236,.type "object"] 270 [],[some (R 241),none,some (S "BytesOrder" 509),some (S "BytesOrder" 517),some (.builtin "object.__new__"),some (.bool true)].toArray⟩]
noncomputable def Ad (P:aV):List Obj:=[su 271,bi 271,tu [R 236],bp,di 10 [E P "__module__" 556 (S "raftkeep.keys" 426),E P "__qualname__" 558 (S "InternalOrder" 557),E P "__firstlineno__" 560 (.int 153 559),e P "__init__" 567 287,e P "compare" 579 294,e P "dress" 589 301,e P "separator" 598 308,e P "successor" 606 315,e P "name" 613 322,e P "__static_attributes__" 615 323],tu [],tb [I 155,I 4,R 286,I 158,I 4,R 293,I 170,I 4,R 300,I 173,I 4,R 307,I 176,I 4,R 314,I 179,I 4,R 321],cC "InternalOrder" "InternalOrder" 551 153 0 0 0 0 277 554,fr (R 279) (R 3) (R 276) (S "raftkeep.keys" 426) (R 0),tu [],tb [],ts 564 ["self"],tu [],fp (met 37 0) "InternalOrder.__init__",cF "__init__" "InternalOrder.__init__" 561 155 1 0 0 3 281 565,fv (met 37 0) "InternalOrder.__init__" "raftkeep.keys" 426 286 0 3]
noncomputable def Ae:List Obj:=[tu [],tb [],ts 571 ["self","a","b","c","tag_a","tag_b"],tu [],fp (met 37 1) "InternalOrder.compare",cF "compare" "InternalOrder.compare" 568 158 3 0 0 3 288 577,fv (met 37 1) "InternalOrder.compare" "raftkeep.keys" 426 293 0 3,tu [],tb [],ts 583 ["self","a","user","short"],tu [],fp (met 37 2) "InternalOrder.dress",cF "dress" "InternalOrder.dress" 580 170 4 0 0 3 295 587,fv (met 37 2) "InternalOrder.dress" "raftkeep.keys" 426 300 0 3,tu [],tb []]
noncomputable def Af:List Obj:=[ts 593 ["self","a","b"],tu [],fp (met 37 3) "InternalOrder.separator",cF "separator" "InternalOrder.separator" 590 173 3 0 0 3 302 596,fv (met 37 3) "InternalOrder.separator" "raftkeep.keys" 426 307 0 3,tu [],tb [],ts 602 ["self","a"],tu [],fp (met 37 4) "InternalOrder.successor",cF "successor" "InternalOrder.successor" 599 176 2 0 0 3 309 604,fv (met 37 4) "InternalOrder.successor" "raftkeep.keys" 426 314 0 3,tu [],tb [],ts 610 ["self"],tu []]
noncomputable def Ag (P:aV):List Obj:=[fp (met 37 5) "InternalOrder.name",cF "name" "InternalOrder.name" 607 179 1 0 0 3 316 611,fv (met 37 5) "InternalOrder.name" "raftkeep.keys" 426 321 0 3,ts 614 ["user_order"],di 2 [E P "__module__" 556 (S "raftkeep.keys" 426),E P "__firstlineno__" 560 (.int 153 559),e P "__init__" 567 287,e P "compare" 579 294,e P "dress" 589 301,e P "separator" 598 308,e P "successor" 606 315,e P "name" 613 322,e P "__static_attributes__" 615 323,E P "__doc__" 616 .none],⟨.type "type",none,C "InternalOrder" [R 236] [R 325,R 236,.type "object"] 324 [],[some (R 274),none,some (S "InternalOrder" 549),some (S "InternalOrder" 557),some (.builtin "object.__new__"),some (.bool true)].toArray⟩,su 325,bi 325,tu [],bp,di 7 [E P "__module__" 626 (S "raftkeep.keys" 426),E P "__qualname__" 628 (S "Options" 627),E P "__firstlineno__" 630 (.int 181 629),e P "__init__" 637 341,e P "check_all" 644 348,e P "tiny" 651 355,e P "__static_attributes__" 673 356],tu [],tb [I 183,I 4,R 340,I 206,I 4,R 347,I 209,I 4,R 354],cC "Options" "Options" 621 181 0 0 0 0 331 624,fr (R 333) (R 3) (R 330) (S "raftkeep.keys" 426) (R 0),tu []]
noncomputable def Ah:List Obj:=[tb [],ts 634 ["self"],tu [],fp (met 38 0) "Options.__init__",cF "__init__" "Options.__init__" 631 183 1 0 0 3 335 635,fv (met 38 0) "Options.__init__" "raftkeep.keys" 426 340 0 3,tu [],tb [],ts 641 ["self"],tu [],fp (met 38 1) "Options.check_all",cF "check_all" "Options.check_all" 638 206 1 0 0 3 342 642,fv (met 38 1) "Options.check_all" "raftkeep.keys" 426 347 0 3,tu [],tb [],ts 648 ["self"]]
noncomputable def Ai (P:aV):List Obj:=[tu [],fp (met 38 2) "Options.tiny",cF "tiny" "Options.tiny" 645 209 1 0 0 3 349 649,fv (met 38 2) "Options.tiny" "raftkeep.keys" 426 354 0 3,ts 652 ["base_bytes","block_size","check","create_missing","expand_factor","filter_base_lg","filter_bits","grandparent_factor","heights","l0_stop","l0_trigger","level_factor","log_block","max_file_size","max_height","max_mem_level","num_levels","paranoid","restart_interval","sync_writes","write_buffer"],di 4 [E P "__module__" 626 (S "raftkeep.keys" 426),E P "__firstlineno__" 630 (.int 181 629),e P "__init__" 637 341,e P "check_all" 644 348,e P "tiny" 651 355,e P "__static_attributes__" 673 356,e P "__dict__" 675 359,e P "__weakref__" 677 360,E P "__doc__" 678 .none],⟨.type "type",none,C "Options" [.type "object"] [R 358,.type "object"] 357 [],[none,none,some (S "Options" 619),some (S "Options" 627),some (.builtin "object.__new__"),some (.bool true)].toArray⟩,gd 674 358,gw 676 358,su 358,bi 358,tu [],bp,di 9 [E P "__module__" 700 (S "raftkeep.blocks" 681),E P "__qualname__" 702 (S "Block" 701),E P "__firstlineno__" 704 (.int 231 703),e P "__init__" 717 376,e P "count_restarts" 724 383,e P "walk" 731 390,e P "entry_at" 745 397,e P "restart_key" 757 404,e P "__static_attributes__" 762 405],tu [],tb [I 233,I 4,R 375,I 255,I 4,R 382,I 258,I 4,R 389,I 261,I 4,R 396,I 271,I 4,R 403]]
noncomputable def Aj:List Obj:=[cC "Block" "Block" 695 231 0 0 0 0 366 698,fr (R 368) (R 3) (R 365) (S "raftkeep.blocks" 681) (R 0),tu [],tb [],ts 708 ["self","data","order","size","count","turn","place"],tu [],fp (met 45 0) "Block.__init__",cF "__init__" "Block.__init__" 705 233 3 0 0 3 370 715,fv (met 45 0) "Block.__init__" "raftkeep.blocks" 681 375 0 3,tu [],tb [],ts 721 ["self"],tu [],fp (met 45 1) "Block.count_restarts",cF "count_restarts" "Block.count_restarts" 718 255 1 0 0 3 377 722,fv (met 45 1) "Block.count_restarts" "raftkeep.blocks" 681 382 0 3]
noncomputable def Ak:List Obj:=[tu [],tb [],ts 728 ["self"],tu [],fp (met 45 2) "Block.walk",cF "walk" "Block.walk" 725 258 1 0 0 3 384 729,fv (met 45 2) "Block.walk" "raftkeep.blocks" 681 389 0 3,tu [],tb [],ts 735 ["self","at","shared","place","unshared","length","value_at","end"],tu [],fp (met 45 3) "Block.entry_at",cF "entry_at" "Block.entry_at" 732 261 2 0 0 3 391 743,fv (met 45 3) "Block.entry_at" "raftkeep.blocks" 681 396 0 3,tu [],tb []]
noncomputable def x28 (P:aV):List Obj:=[ts 749 ["self","turn","shared","place","value_at","end"],tu [],fp (met 45 4) "Block.restart_key",cF "restart_key" "Block.restart_key" 746 271 2 0 0 3 398 755,fv (met 45 4) "Block.restart_key" "raftkeep.blocks" 681 403 0 3,ts 758 ["data","limit","order","restarts"],o9 P,MM P,gd 763 407,gw 765 407,su 407,bi 407]
noncomputable def x29 (P:aV):List Obj:=[o0 P,o1 P,o8 P,di 63 (E P "__name__" 165 (S "raftkeep.tables" 1092)::(ge P).take 62),o2 P,o3 P,di 0 [],tu [],tb [],o4 P,o5 P,tu [],tb [I 1,I 0,R 20,I 5,I 0,R 27,I 7,I 0,R 40,I 9,I 0,R 52,I 11,I 0,R 64,I 13,I 0,R 76,I 15,I 0,R 88,I 17,I 0,R 100,I 29,I 0,R 112,I 46,I 0,R 119,I 50,I 0,R 126,I 54,I 0,R 133,I 58,I 0,R 140,I 62,I 0,R 147,I 75,I 0,R 155,I 83,I 0,R 162,I 85,I 0,R 169,I 91,I 0,R 176,I 111,I 0,R 183,I 118,I 0,R 190,I 122,I 0,R 197,I 126,I 0,R 204,I 143,I 0,R 246,I 153,I 0,R 279,I 181,I 0,R 333,I 231,I 0,R 368,I 276,I 0,R 417,I 394,I 0,R 529,I 405,I 0,R 564,I 409,I 0,R 571,I 419,I 0,R 578,I 464,I 0,R 613,I 499,I 0,R 641,I 510,I 0,R 676],o6 P,o7 P,tu []]
noncomputable def E1 (P:aV):List Obj:=[ts 749 ["self","turn","shared","place","value_at","end"],tu [],fp (met 45 4) "Block.restart_key",cF "restart_key" "Block.restart_key" 746 271 2 0 0 3 398 755,fv (met 45 4) "Block.restart_key" "raftkeep.blocks" 681 403 0 3,ts 758 ["data","limit","order","restarts"],o9 P,MM P,gd 763 407,gw 765 407,su 407,bi 407,tu [],bp,di 18 [E P "__module__" 777 (S "raftkeep.blocks" 681),E P "__qualname__" 779 (S "BlockIter" 778),E P "__firstlineno__" 781 (.int 276 780),e P "__init__" 789 425,e P "lose" 796 432,e P "need" 803 439,e P "valid" 810 446,e P "key" 817 453,e P "value" 824 460,e P "go_restart" 832 467,e P "parse" 846 474,e P "seek_first" 853 481,e P "seek_last" 860 488,e P "seek" 868 495,e P "narrow" 882 502,e P "step" 889 509,e P "back" 898 516,e P "__static_attributes__" 906 517],tu []]
noncomputable def E3:List Obj:=[tb [I 278,I 4,R 424,I 287,I 4,R 431,I 292,I 4,R 438,I 296,I 4,R 445,I 299,I 4,R 452,I 303,I 4,R 459,I 307,I 4,R 466,I 312,I 4,R 473,I 334,I 4,R 480,I 338,I 4,R 487,I 344,I 4,R 494,I 351,I 4,R 501,I 377,I 4,R 508,I 381,I 4,R 515],cC "BlockIter" "BlockIter" 772 276 0 0 0 0 415 775,fr (R 417) (R 3) (R 414) (S "raftkeep.blocks" 681) (R 0),tu [],tb [],ts 785 ["self","block"],tu [],fp (met 46 0) "BlockIter.__init__",cF "__init__" "BlockIter.__init__" 782 278 2 0 0 3 419 787,fv (met 46 0) "BlockIter.__init__" "raftkeep.blocks" 681 424 0 3,tu [],tb [],ts 793 ["self"],tu [],fp (met 46 1) "BlockIter.lose",cF "lose" "BlockIter.lose" 790 287 1 0 0 3 426 794]
noncomputable def E4:List Obj:=[fv (met 46 1) "BlockIter.lose" "raftkeep.blocks" 681 431 0 3,tu [],tb [],ts 800 ["self"],tu [],fp (met 46 2) "BlockIter.need",cF "need" "BlockIter.need" 797 292 1 0 0 3 433 801,fv (met 46 2) "BlockIter.need" "raftkeep.blocks" 681 438 0 3,tu [],tb [],ts 807 ["self"],tu [],fp (met 46 3) "BlockIter.valid",cF "valid" "BlockIter.valid" 804 296 1 0 0 3 440 808,fv (met 46 3) "BlockIter.valid" "raftkeep.blocks" 681 445 0 3,tu []]
noncomputable def E5:List Obj:=[tb [],ts 814 ["self"],tu [],fp (met 46 4) "BlockIter.key",cF "key" "BlockIter.key" 811 299 1 0 0 3 447 815,fv (met 46 4) "BlockIter.key" "raftkeep.blocks" 681 452 0 3,tu [],tb [],ts 821 ["self"],tu [],fp (met 46 5) "BlockIter.value",cF "value" "BlockIter.value" 818 303 1 0 0 3 454 822,fv (met 46 5) "BlockIter.value" "raftkeep.blocks" 681 459 0 3,tu [],tb [],ts 828 ["self","turn"]]
noncomputable def E6:List Obj:=[tu [],fp (met 46 6) "BlockIter.go_restart",cF "go_restart" "BlockIter.go_restart" 825 307 2 0 0 3 461 830,fv (met 46 6) "BlockIter.go_restart" "raftkeep.blocks" 681 466 0 3,tu [],tb [],ts 836 ["self","start","before","shared","place","value_at","end","restarts"],tu [],fp (met 46 7) "BlockIter.parse",cF "parse" "BlockIter.parse" 833 312 1 0 0 3 468 844,fv (met 46 7) "BlockIter.parse" "raftkeep.blocks" 681 473 0 3,tu [],tb [],ts 850 ["self"],tu [],fp (met 46 8) "BlockIter.seek_first"]
noncomputable def E7:List Obj:=[cF "seek_first" "BlockIter.seek_first" 847 334 1 0 0 3 475 851,fv (met 46 8) "BlockIter.seek_first" "raftkeep.blocks" 681 480 0 3,tu [],tb [],ts 857 ["self"],tu [],fp (met 46 9) "BlockIter.seek_last",cF "seek_last" "BlockIter.seek_last" 854 338 1 0 0 3 482 858,fv (met 46 9) "BlockIter.seek_last" "raftkeep.blocks" 681 487 0 3,tu [],tb [],ts 864 ["self","target"],tu [],fp (met 46 10) "BlockIter.seek",cF "seek" "BlockIter.seek" 861 344 2 0 0 3 489 866,fv (met 46 10) "BlockIter.seek" "raftkeep.blocks" 681 494 0 3]
noncomputable def E8:List Obj:=[tu [],tb [],ts 872 ["self","target","left","right","side","standing","middle","found"],tu [],fp (met 46 11) "BlockIter.narrow",cF "narrow" "BlockIter.narrow" 869 351 2 0 0 3 496 880,fv (met 46 11) "BlockIter.narrow" "raftkeep.blocks" 681 501 0 3,tu [],tb [],ts 886 ["self"],tu [],fp (met 46 12) "BlockIter.step",cF "step" "BlockIter.step" 883 377 1 0 0 3 503 887,fv (met 46 12) "BlockIter.step" "raftkeep.blocks" 681 508 0 3,tu [],tb []]
noncomputable def E9 (P:aV):List Obj:=[ts 893 ["self","original","turn"],tu [],fp (met 46 13) "BlockIter.back",cF "back" "BlockIter.back" 890 381 1 0 0 3 510 896,fv (met 46 13) "BlockIter.back" "raftkeep.blocks" 681 515 0 3,ts 899 ["ahead","block","current","held_key","order","turn","value_from"],di 4 [E P "__module__" 777 (S "raftkeep.blocks" 681),E P "__firstlineno__" 781 (.int 276 780),e P "__init__" 789 425,e P "lose" 796 432,e P "need" 803 439,e P "valid" 810 446,e P "key" 817 453,e P "value" 824 460,e P "go_restart" 832 467,e P "parse" 846 474,e P "seek_first" 853 481,e P "seek_last" 860 488,e P "seek" 868 495,e P "narrow" 882 502,e P "step" 889 509,e P "back" 898 516,e P "__static_attributes__" 906 517,e P "__dict__" 908 520,e P "__weakref__" 910 521,E P "__doc__" 911 .none],⟨.type "type",none,C "BlockIter" [.type "object"] [R 519,.type "object"] 518 [],[none,none,some (S "BlockIter" 770),some (S "BlockIter" 778),some (.builtin "object.__new__"),some (.bool true)].toArray⟩,gd 907 519,gw 909 519,su 519,bi 519,tu [],bp,di 7 [E P "__module__" 921 (S "raftkeep.blocks" 681),E P "__qualname__" 923 (S "Handle" 922),E P "__firstlineno__" 925 (.int 394 924),e P "__init__" 934 537,e P "encode" 941 544,e P "row" 948 551,e P "__static_attributes__" 951 552],tu []]
noncomputable def E_:List Obj:=[tb [I 396,I 4,R 536,I 400,I 4,R 543,I 403,I 4,R 550],cC "Handle" "Handle" 916 394 0 0 0 0 527 919,fr (R 529) (R 3) (R 526) (S "raftkeep.blocks" 681) (R 0),tu [],tb [],ts 929 ["self","offset","size"],tu [],fp (met 47 0) "Handle.__init__",cF "__init__" "Handle.__init__" 926 396 3 0 0 3 531 932,fv (met 47 0) "Handle.__init__" "raftkeep.blocks" 681 536 0 3,tu [],tb [],ts 938 ["self"],tu [],fp (met 47 1) "Handle.encode",cF "encode" "Handle.encode" 935 400 1 0 0 3 538 939]
noncomputable def E' (P:aV):List Obj:=[fv (met 47 1) "Handle.encode" "raftkeep.blocks" 681 543 0 3,tu [],tb [],ts 945 ["self"],tu [],fp (met 47 2) "Handle.row",cF "row" "Handle.row" 942 403 1 0 0 3 545 946,fv (met 47 2) "Handle.row" "raftkeep.blocks" 681 550 0 3,ts 949 ["offset","size"],di 4 [E P "__module__" 921 (S "raftkeep.blocks" 681),E P "__firstlineno__" 925 (.int 394 924),e P "__init__" 934 537,e P "encode" 941 544,e P "row" 948 551,e P "__static_attributes__" 951 552,e P "__dict__" 953 555,e P "__weakref__" 955 556,E P "__doc__" 956 .none],⟨.type "type",none,C "Handle" [.type "object"] [R 554,.type "object"] 553 [],[none,none,some (S "Handle" 914),some (S "Handle" 922),some (.builtin "object.__new__"),some (.bool true)].toArray⟩,gd 952 554,gw 954 554,su 554,bi 554,tu []]
noncomputable def Fb (P:aV):List Obj:=[tb [],ts 962 ["data","at","offset","size"],tu [],fp (top 48) "read_handle",cF "read_handle" "read_handle" 959 405 2 0 0 3 559 966,fv (top 48) "read_handle" "raftkeep.blocks" 681 564 0 3,tu [],tb [],ts 972 ["data","handle","check","end","body"],tu [],fp (top 49) "open_block",cF "open_block" "open_block" 969 409 3 0 0 3 566 977,fv (top 49) "open_block" "raftkeep.blocks" 681 571 0 3,tu [],bp,di 7 [E P "__module__" 987 (S "raftkeep.blocks" 681),E P "__qualname__" 989 (S "Bloom" 988),E P "__firstlineno__" 991 (.int 419 990),e P "__init__" 1000 586,e P "make" 1017 593,e P "may_have" 1032 600,e P "__static_attributes__" 1035 601]]
noncomputable def Fc:List Obj:=[tu [],tb [I 421,I 4,R 585,I 432,I 4,R 592,I 449,I 4,R 599],cC "Bloom" "Bloom" 982 419 0 0 0 0 576 985,fr (R 578) (R 3) (R 575) (S "raftkeep.blocks" 681) (R 0),tu [],tb [],ts 995 ["self","bits","probes"],tu [],fp (met 50 0) "Bloom.__init__",cF "__init__" "Bloom.__init__" 992 421 2 0 0 3 580 998,fv (met 50 0) "Bloom.__init__" "raftkeep.blocks" 681 585 0 3,tu [],tb [],ts 1004 ["self","keys","wanted","length","wide","out","key","h","delta","probe","place"],tu [],fp (met 50 1) "Bloom.make"]
noncomputable def Fd (P:aV):List Obj:=[cF "make" "Bloom.make" 1001 432 2 0 0 3 587 1015,fv (met 50 1) "Bloom.make" "raftkeep.blocks" 681 592 0 3,tu [],tb [],ts 1021 ["self","key","held","probes","wide","h","delta","probe","place"],tu [],fp (met 50 2) "Bloom.may_have",cF "may_have" "Bloom.may_have" 1018 449 3 0 0 3 594 1030,fv (met 50 2) "Bloom.may_have" "raftkeep.blocks" 681 599 0 3,ts 1033 ["bits","probes"],di 4 [E P "__module__" 987 (S "raftkeep.blocks" 681),E P "__firstlineno__" 991 (.int 419 990),e P "__init__" 1000 586,e P "make" 1017 593,e P "may_have" 1032 600,e P "__static_attributes__" 1035 601,e P "__dict__" 1037 604,e P "__weakref__" 1039 605,E P "__doc__" 1040 .none],⟨.type "type",none,C "Bloom" [.type "object"] [R 603,.type "object"] 602 [],[none,none,some (S "Bloom" 980),some (S "Bloom" 988),some (.builtin "object.__new__"),some (.bool true)].toArray⟩,gd 1036 603,gw 1038 603,su 603,bi 603]
noncomputable def Fe (P:aV):List Obj:=[tu [],bp,di 6 [E P "__module__" 1050 (S "raftkeep.blocks" 681),E P "__qualname__" 1052 (S "FilterReader" 1051),E P "__firstlineno__" 1054 (.int 464 1053),e P "__init__" 1065 621,e P "may_have" 1078 628,e P "__static_attributes__" 1084 629],tu [],tb [I 466,I 4,R 620,I 480,I 4,R 627],cC "FilterReader" "FilterReader" 1045 464 0 0 0 0 611 1048,fr (R 613) (R 3) (R 610) (S "raftkeep.blocks" 681) (R 0),tu [],tb [],ts 1058 ["self","bloom","data","size","start"],tu [],fp (met 51 0) "FilterReader.__init__",cF "__init__" "FilterReader.__init__" 1055 466 3 0 0 3 615 1063,fv (met 51 0) "FilterReader.__init__" "raftkeep.blocks" 681 620 0 3,tu [],tb []]
noncomputable def Ff (P:aV):List Obj:=[ts 1069 ["self","offset","key","span","place","low","high"],tu [],fp (met 51 1) "FilterReader.may_have",cF "may_have" "FilterReader.may_have" 1066 480 3 0 0 3 622 1076,fv (met 51 1) "FilterReader.may_have" "raftkeep.blocks" 681 627 0 3,ts 1079 ["base_lg","bloom","count","data","start"],di 4 [E P "__module__" 1050 (S "raftkeep.blocks" 681),E P "__firstlineno__" 1054 (.int 464 1053),e P "__init__" 1065 621,e P "may_have" 1078 628,e P "__static_attributes__" 1084 629,e P "__dict__" 1086 632,e P "__weakref__" 1088 633,E P "__doc__" 1089 .none],⟨.type "type",none,C "FilterReader" [.type "object"] [R 631,.type "object"] 630 [],[none,none,some (S "FilterReader" 1043),some (S "FilterReader" 1051),some (.builtin "object.__new__"),some (.bool true)].toArray⟩,gd 1085 631,gw 1087 631,su 631,bi 631,tu [],bp,di 7 [E P "__module__" 1109 (S "raftkeep.tables" 1092),E P "__qualname__" 1111 (S "Footer" 1110),E P "__firstlineno__" 1113 (.int 499 1112),e P "__init__" 1122 649,e P "encode" 1129 656,e P "row" 1136 663,e P "__static_attributes__" 1139 664],tu []]
noncomputable def Fg:List Obj:=[tb [I 501,I 4,R 648,I 505,I 4,R 655,I 508,I 4,R 662],cC "Footer" "Footer" 1104 499 0 0 0 0 639 1107,fr (R 641) (R 3) (R 638) (S "raftkeep.tables" 1092) (R 0),tu [],tb [],ts 1117 ["self","meta","index"],tu [],fp (met 57 0) "Footer.__init__",cF "__init__" "Footer.__init__" 1114 501 3 0 0 3 643 1120,fv (met 57 0) "Footer.__init__" "raftkeep.tables" 1092 648 0 3,tu [],tb [],ts 1126 ["self"],tu [],fp (met 57 1) "Footer.encode",cF "encode" "Footer.encode" 1123 505 1 0 0 3 650 1127]
noncomputable def Fh (P:aV):List Obj:=[fv (met 57 1) "Footer.encode" "raftkeep.tables" 1092 655 0 3,tu [],tb [],ts 1133 ["self"],tu [],fp (met 57 2) "Footer.row",cF "row" "Footer.row" 1130 508 1 0 0 3 657 1134,fv (met 57 2) "Footer.row" "raftkeep.tables" 1092 662 0 3,ts 1137 ["index","meta"],di 4 [E P "__module__" 1109 (S "raftkeep.tables" 1092),E P "__firstlineno__" 1113 (.int 499 1112),e P "__init__" 1122 649,e P "encode" 1129 656,e P "row" 1136 663,e P "__static_attributes__" 1139 664,e P "__dict__" 1141 667,e P "__weakref__" 1143 668,E P "__doc__" 1144 .none],⟨.type "type",none,C "Footer" [.type "object"] [R 666,.type "object"] 665 [],[none,none,some (S "Footer" 1102),some (S "Footer" 1110),some (.builtin "object.__new__"),some (.bool true)].toArray⟩,gd 1140 666,gw 1142 666,su 666,bi 666,tu []]
noncomputable def x47:List Obj:=[tb [],ts 1150 ["data","tail","handles","meta","at","index"],tu [],fp (top 58) "read_footer",cF "read_footer" "read_footer" 1147 510 1 0 0 3 671 1156,fv (top 58) "read_footer" "raftkeep.tables" 1092 676 0 3]
noncomputable def x48 (P:aV):List Obj:=[o0 P,o1 P,o8 P,di 89 (E P "__name__" 165 (S "law_no0431_01" 1440)::(ge P).take 88),o2 P,o3 P,di 0 [],tu [],tb [],o4 P,o5 P,tu [],tb [I 1,I 0,R 20,I 5,I 0,R 27,I 7,I 0,R 40,I 9,I 0,R 52,I 11,I 0,R 64,I 13,I 0,R 76,I 15,I 0,R 88,I 17,I 0,R 100,I 29,I 0,R 112,I 46,I 0,R 119,I 50,I 0,R 126,I 54,I 0,R 133,I 58,I 0,R 140,I 62,I 0,R 147,I 75,I 0,R 155,I 83,I 0,R 162,I 85,I 0,R 169,I 91,I 0,R 176,I 111,I 0,R 183,I 118,I 0,R 190,I 122,I 0,R 197,I 126,I 0,R 204,I 143,I 0,R 246,I 153,I 0,R 279,I 181,I 0,R 333,I 231,I 0,R 368,I 276,I 0,R 417,I 394,I 0,R 529,I 405,I 0,R 564,I 409,I 0,R 571,I 419,I 0,R 578,I 464,I 0,R 613,I 499,I 0,R 641,I 510,I 0,R 676,I 522,I 0,R 683,I 637,I 0,R 781,I 725,I 0,R 893,I 729,I 0,R 898,I 735,I 0,R 903,I 737,I 0,R 910,I 741,I 0,R 917,I 743,I 0,R 924,I 745,I 0,R 931,I 753,I 0,R 938,I 771,I 0,R 945,I 775,I 0,R 952,I 778,I 0,R 959,I 793,I 0,R 966,I 807,I 0,R 971,I 811,I 0,R 978,I 813,I 0,R 983,I 872,I 0,R 990,I 874,I 0,R 997,I 891,I 0,R 1004,I 899,I 0,R 1011,I 907,I 0,R 1016,I 909,I 0,R 1021,I 911,I 0,R 1028,I 930,I 0,R 1035,I 947,I 0,R 1042],o6 P,o7 P,tu []]
noncomputable def NX (P:aV):List Obj:=[tb [],ts 1150 ["data","tail","handles","meta","at","index"],tu [],fp (top 58) "read_footer",cF "read_footer" "read_footer" 1147 510 1 0 0 3 671 1156,fv (top 58) "read_footer" "raftkeep.tables" 1092 676 0 3,tu [],bp,di 16 [E P "__module__" 1166 (S "raftkeep.tables" 1092),E P "__qualname__" 1168 (S "Table" 1167),E P "__firstlineno__" 1170 (.int 522 1169),e P "__init__" 1181 691,e P "read_block" 1189 698,e P "read_filters" 1199 705,e P "whole_handle" 1209 712,e P "block_iter" 1218 719,e P "walk" 1225 726,e P "get" 1237 733,e P "offset_of" 1246 740,e P "first_key" 1254 747,e P "last_key" 1262 754,e P "verify" 1276 761,e P "verify_key" 1291 768,e P "__static_attributes__" 1299 769],tu [],tb [I 524,I 4,R 690,I 538,I 4,R 697,I 543,I 4,R 704,I 556,I 4,R 711,I 562,I 4,R 718,I 566,I 4,R 725,I 569,I 4,R 732,I 585,I 4,R 739,I 592,I 4,R 746,I 599,I 4,R 753,I 606,I 4,R 760,I 627,I 4,R 767],cC "Table" "Table" 1161 522 0 0 0 0 681 1164,fr (R 683) (R 3) (R 680) (S "raftkeep.tables" 1092) (R 0),tu [],tb [],ts 1174 ["self","data","options","order","metas"]]
noncomputable def NY:List Obj:=[tu [],fp (met 59 0) "Table.__init__",cF "__init__" "Table.__init__" 1171 524 4 0 0 3 685 1179,fv (met 59 0) "Table.__init__" "raftkeep.tables" 1092 690 0 3,tu [],tb [],ts 1185 ["self","handle"],tu [],fp (met 59 1) "Table.read_block",cF "read_block" "Table.read_block" 1182 538 2 0 0 3 692 1187,fv (met 59 1) "Table.read_block" "raftkeep.tables" 1092 697 0 3,tu [],tb [],ts 1193 ["self","metas","walker","content"],tu [],fp (met 59 2) "Table.read_filters"]
noncomputable def NZ:List Obj:=[cF "read_filters" "Table.read_filters" 1190 543 2 0 0 3 699 1197,fv (met 59 2) "Table.read_filters" "raftkeep.tables" 1092 704 0 3,tu [],tb [],ts 1203 ["self","octets","handle","at"],tu [],fp (met 59 3) "Table.whole_handle",cF "whole_handle" "Table.whole_handle" 1200 556 2 0 0 3 706 1207,fv (met 59 3) "Table.whole_handle" "raftkeep.tables" 1092 711 0 3,tu [],tb [],ts 1213 ["self","octets","content"],tu [],fp (met 59 4) "Table.block_iter",cF "block_iter" "Table.block_iter" 1210 562 2 0 0 3 713 1216,fv (met 59 4) "Table.block_iter" "raftkeep.tables" 1092 718 0 3]
noncomputable def N1:List Obj:=[tu [],tb [],ts 1222 ["self"],tu [],fp (met 59 5) "Table.walk",cF "walk" "Table.walk" 1219 566 1 0 0 3 720 1223,fv (met 59 5) "Table.walk" "raftkeep.tables" 1092 725 0 3,tu [],tb [],ts 1229 ["self","ikey","outer","place","handle","inner"],tu [],fp (met 59 6) "Table.get",cF "get" "Table.get" 1226 569 2 0 0 3 727 1235,fv (met 59 6) "Table.get" "raftkeep.tables" 1092 732 0 3,tu [],tb []]
noncomputable def N2:List Obj:=[ts 1241 ["self","ikey","outer"],tu [],fp (met 59 7) "Table.offset_of",cF "offset_of" "Table.offset_of" 1238 585 2 0 0 3 734 1244,fv (met 59 7) "Table.offset_of" "raftkeep.tables" 1092 739 0 3,tu [],tb [],ts 1250 ["self","walker"],tu [],fp (met 59 8) "Table.first_key",cF "first_key" "Table.first_key" 1247 592 1 0 0 3 741 1252,fv (met 59 8) "Table.first_key" "raftkeep.tables" 1092 746 0 3,tu [],tb [],ts 1258 ["self","walker"],tu []]
noncomputable def N3:List Obj:=[fp (met 59 9) "Table.last_key",cF "last_key" "Table.last_key" 1255 599 1 0 0 3 748 1260,fv (met 59 9) "Table.last_key" "raftkeep.tables" 1092 753 0 3,tu [],tb [],ts 1266 ["self","end","last","bound","outer","handle","inner","key"],tu [],fp (met 59 10) "Table.verify",cF "verify" "Table.verify" 1263 606 1 0 0 3 755 1274,fv (met 59 10) "Table.verify" "raftkeep.tables" 1092 760 0 3,tu [],tb [],ts 1280 ["self","key","last","bound","top","handle","user","seq","kind"],tu [],fp (met 59 11) "Table.verify_key",cF "verify_key" "Table.verify_key" 1277 627 6 0 0 3 762 1289]
noncomputable def N4 (P:aV):List Obj:=[fv (met 59 11) "Table.verify_key" "raftkeep.tables" 1092 767 0 3,ts 1292 ["body_end","data","filters","footer","index","options","order"],di 4 [E P "__module__" 1166 (S "raftkeep.tables" 1092),E P "__firstlineno__" 1170 (.int 522 1169),e P "__init__" 1181 691,e P "read_block" 1189 698,e P "read_filters" 1199 705,e P "whole_handle" 1209 712,e P "block_iter" 1218 719,e P "walk" 1225 726,e P "get" 1237 733,e P "offset_of" 1246 740,e P "first_key" 1254 747,e P "last_key" 1262 754,e P "verify" 1276 761,e P "verify_key" 1291 768,e P "__static_attributes__" 1299 769,e P "__dict__" 1301 772,e P "__weakref__" 1303 773,E P "__doc__" 1304 .none],⟨.type "type",none,C "Table" [.type "object"] [R 771,.type "object"] 770 [],[none,none,some (S "Table" 1159),some (S "Table" 1167),some (.builtin "object.__new__"),some (.bool true)].toArray⟩,gd 1300 771,gw 1302 771,su 771,bi 771,tu [],bp,di 18 [E P "__module__" 1314 (S "raftkeep.tables" 1092),E P "__qualname__" 1316 (S "TwoLevelIter" 1315),E P "__firstlineno__" 1318 (.int 637 1317),e P "__init__" 1327 789,e P "valid" 1334 796,e P "need" 1341 803,e P "key" 1348 810,e P "value" 1355 817,e P "aside" 1363 824,e P "enter" 1372 831,e P "skip_ahead" 1380 838,e P "skip_behind" 1388 845,e P "seek_first" 1396 852,e P "seek_last" 1404 859,e P "seek" 1413 866,e P "step" 1420 873,e P "back" 1427 880,e P "__static_attributes__" 1432 881],tu [],tb [I 639,I 4,R 788,I 645,I 4,R 795,I 648,I 4,R 802,I 652,I 4,R 809,I 656,I 4,R 816,I 660,I 4,R 823,I 665,I 4,R 830,I 675,I 4,R 837,I 683,I 4,R 844,I 691,I 4,R 851,I 699,I 4,R 858,I 707,I 4,R 865,I 715,I 4,R 872,I 720,I 4,R 879],cC "TwoLevelIter" "TwoLevelIter" 1309 637 0 0 0 0 779 1312,fr (R 781) (R 3) (R 778) (S "raftkeep.tables" 1092) (R 0),tu []]
noncomputable def N5:List Obj:=[tb [],ts 1322 ["self","outer","maker"],tu [],fp (met 60 0) "TwoLevelIter.__init__",cF "__init__" "TwoLevelIter.__init__" 1319 639 3 0 0 3 783 1325,fv (met 60 0) "TwoLevelIter.__init__" "raftkeep.tables" 1092 788 0 3,tu [],tb [],ts 1331 ["self"],tu [],fp (met 60 1) "TwoLevelIter.valid",cF "valid" "TwoLevelIter.valid" 1328 645 1 0 0 3 790 1332,fv (met 60 1) "TwoLevelIter.valid" "raftkeep.tables" 1092 795 0 3,tu [],tb [],ts 1338 ["self"]]
noncomputable def N6:List Obj:=[tu [],fp (met 60 2) "TwoLevelIter.need",cF "need" "TwoLevelIter.need" 1335 648 1 0 0 3 797 1339,fv (met 60 2) "TwoLevelIter.need" "raftkeep.tables" 1092 802 0 3,tu [],tb [],ts 1345 ["self"],tu [],fp (met 60 3) "TwoLevelIter.key",cF "key" "TwoLevelIter.key" 1342 652 1 0 0 3 804 1346,fv (met 60 3) "TwoLevelIter.key" "raftkeep.tables" 1092 809 0 3,tu [],tb [],ts 1352 ["self"],tu [],fp (met 60 4) "TwoLevelIter.value"]
noncomputable def N7:List Obj:=[cF "value" "TwoLevelIter.value" 1349 656 1 0 0 3 811 1353,fv (met 60 4) "TwoLevelIter.value" "raftkeep.tables" 1092 816 0 3,tu [],tb [],ts 1359 ["self","held"],tu [],fp (met 60 5) "TwoLevelIter.aside",cF "aside" "TwoLevelIter.aside" 1356 660 1 0 0 3 818 1361,fv (met 60 5) "TwoLevelIter.aside" "raftkeep.tables" 1092 823 0 3,tu [],tb [],ts 1367 ["self","held","place"],tu [],fp (met 60 6) "TwoLevelIter.enter",cF "enter" "TwoLevelIter.enter" 1364 665 2 0 0 3 825 1370,fv (met 60 6) "TwoLevelIter.enter" "raftkeep.tables" 1092 830 0 3]
noncomputable def N8:List Obj:=[tu [],tb [],ts 1376 ["self","held"],tu [],fp (met 60 7) "TwoLevelIter.skip_ahead",cF "skip_ahead" "TwoLevelIter.skip_ahead" 1373 675 1 0 0 3 832 1378,fv (met 60 7) "TwoLevelIter.skip_ahead" "raftkeep.tables" 1092 837 0 3,tu [],tb [],ts 1384 ["self","held"],tu [],fp (met 60 8) "TwoLevelIter.skip_behind",cF "skip_behind" "TwoLevelIter.skip_behind" 1381 683 1 0 0 3 839 1386,fv (met 60 8) "TwoLevelIter.skip_behind" "raftkeep.tables" 1092 844 0 3,tu [],tb []]
noncomputable def N9:List Obj:=[ts 1392 ["self","held"],tu [],fp (met 60 9) "TwoLevelIter.seek_first",cF "seek_first" "TwoLevelIter.seek_first" 1389 691 1 0 0 3 846 1394,fv (met 60 9) "TwoLevelIter.seek_first" "raftkeep.tables" 1092 851 0 3,tu [],tb [],ts 1400 ["self","held"],tu [],fp (met 60 10) "TwoLevelIter.seek_last",cF "seek_last" "TwoLevelIter.seek_last" 1397 699 1 0 0 3 853 1402,fv (met 60 10) "TwoLevelIter.seek_last" "raftkeep.tables" 1092 858 0 3,tu [],tb [],ts 1408 ["self","target","held"],tu []]
noncomputable def N_:List Obj:=[fp (met 60 11) "TwoLevelIter.seek",cF "seek" "TwoLevelIter.seek" 1405 707 2 0 0 3 860 1411,fv (met 60 11) "TwoLevelIter.seek" "raftkeep.tables" 1092 865 0 3,tu [],tb [],ts 1417 ["self"],tu [],fp (met 60 12) "TwoLevelIter.step",cF "step" "TwoLevelIter.step" 1414 715 1 0 0 3 867 1418,fv (met 60 12) "TwoLevelIter.step" "raftkeep.tables" 1092 872 0 3,tu [],tb [],ts 1424 ["self"],tu [],fp (met 60 13) "TwoLevelIter.back",cF "back" "TwoLevelIter.back" 1421 720 1 0 0 3 874 1425]
noncomputable def Oa (P:aV):List Obj:=[fv (met 60 13) "TwoLevelIter.back" "raftkeep.tables" 1092 879 0 3,ts 1428 ["inner","maker","outer","place"],di 4 [E P "__module__" 1314 (S "raftkeep.tables" 1092),E P "__firstlineno__" 1318 (.int 637 1317),e P "__init__" 1327 789,e P "valid" 1334 796,e P "need" 1341 803,e P "key" 1348 810,e P "value" 1355 817,e P "aside" 1363 824,e P "enter" 1372 831,e P "skip_ahead" 1380 838,e P "skip_behind" 1388 845,e P "seek_first" 1396 852,e P "seek_last" 1404 859,e P "seek" 1413 866,e P "step" 1420 873,e P "back" 1427 880,e P "__static_attributes__" 1432 881,e P "__dict__" 1434 884,e P "__weakref__" 1436 885,E P "__doc__" 1437 .none],⟨.type "type",none,C "TwoLevelIter" [.type "object"] [R 883,.type "object"] 882 [],[none,none,some (S "TwoLevelIter" 1307),some (S "TwoLevelIter" 1315),some (.builtin "object.__new__"),some (.bool true)].toArray⟩,gd 1433 883,gw 1435 883,su 883,bi 883,tu [],tb [],ts 1445 ["tape","at","m","k"],tu [],fp (top 62) "_law_take",cF "_law_take" "_law_take" 1442 725 3 0 0 3 888 1449,fv (top 62) "_law_take" "law_no0431_01" 1440 893 0 3,tu []]
noncomputable def Ob:List Obj:=[tb [],fp (top 63) "_law_word",cG "_law_word" "_law_word" 1452 729 1 0 0 3 895 1455,fv (top 63) "_law_word" "law_no0431_01" 1440 898 0 3,tu [],tb [],fp (top 64) "_law_fix",cG "_law_fix" "_law_fix" 1458 735 2 0 0 3 900 1461,fv (top 64) "_law_fix" "law_no0431_01" 1440 903 0 3,tu [],tb [],ts 1467 ["n"],tu [],fp (top 65) "_law_var",cF "_law_var" "_law_var" 1464 737 1 0 0 3 905 1468,fv (top 65) "_law_var" "law_no0431_01" 1440 910 0 3]
noncomputable def Oc:List Obj:=[tu [],tb [],ts 1474 ["pair"],tu [],fp (top 66) "_law_key",cF "_law_key" "_law_key" 1471 741 1 0 0 3 912 1475,fv (top 66) "_law_key" "law_no0431_01" 1440 917 0 3,tu [],tb [],ts 1481 ["pair"],tu [],fp (top 67) "_law_rank",cF "_law_rank" "_law_rank" 1478 743 1 0 0 3 919 1482,fv (top 67) "_law_rank" "law_no0431_01" 1440 924 0 3,tu [],tb []]
noncomputable def Od:List Obj:=[ts 1488 ["tape","at","most","pairs","i","x","pair"],tu [],fp (top 68) "_law_pairs",cF "_law_pairs" "_law_pairs" 1485 745 3 0 0 3 926 1495,fv (top 68) "_law_pairs" "law_no0431_01" 1440 931 0 3,tu [],tb [],ts 1501 ["rows","x","more","out","marks","last","key","value","same","mark"],tu [],fp (top 69) "_law_block",cF "_law_block" "_law_block" 1498 753 3 0 0 3 933 1511,fv (top 69) "_law_block" "law_no0431_01" 1440 938 0 3,tu [],tb [],ts 1517 ["content","fault","body","total"],tu []]
noncomputable def Oe:List Obj:=[fp (top 70) "_law_sealed",cF "_law_sealed" "_law_sealed" 1514 771 2 0 0 3 940 1521,fv (top 70) "_law_sealed" "law_no0431_01" 1440 945 0 3,tu [],tb [],ts 1527 ["off","content","fault","told"],tu [],fp (top 71) "_law_place",cF "_law_place" "_law_place" 1524 775 3 0 0 3 947 1531,fv (top 71) "_law_place" "law_no0431_01" 1440 952 0 3,tu [],tb [],ts 1537 ["tape","at","says","out","starts","i","what"],tu [],fp (top 72) "_law_spans",cF "_law_spans" "_law_spans" 1534 778 2 0 0 3 954 1544]
noncomputable def Of:List Obj:=[fv (top 72) "_law_spans" "law_no0431_01" 1440 959 0 3,tu [],tb [],ts 1550 ["tape","at","blocks","rows","pairs","n","sep","low"],tu [],fp (top 73) "_law_tidy",cF "_law_tidy" "_law_tidy" 1547 793 2 0 0 3 961 1558,fv (top 73) "_law_tidy" "law_no0431_01" 1440 966 0 3,tu [],tb [],fp (top 74) "_law_wild",cG "_law_wild" "_law_wild" 1561 807 2 0 0 3 968 1564,fv (top 74) "_law_wild" "law_no0431_01" 1440 971 0 3,tu [],tb [],ts 1570 ["pair"]]
noncomputable def Og:List Obj:=[tu [],fp (top 75) "_law_value",cF "_law_value" "_law_value" 1567 811 1 0 0 3 973 1571,fv (top 75) "_law_value" "law_no0431_01" 1440 978 0 3,tu [],tb [],fp (top 76) "_law_table",cG "_law_table" "_law_table" 1574 813 3 0 0 3 980 1577,fv (top 76) "_law_table" "law_no0431_01" 1440 983 0 3,tu [],tb [],ts 1583 ["held","off"],tu [],fp (top 77) "_law_denies",cF "_law_denies" "_law_denies" 1580 872 2 0 0 3 985 1585,fv (top 77) "_law_denies" "law_no0431_01" 1440 990 0 3]
noncomputable def Oh:List Obj:=[tu [],tb [],ts 1591 ["index","held","end","last","bound","sep","pairs","off","size","fault","pair","rank"],tu [],fp (top 78) "_law_clean",cF "_law_clean" "_law_clean" 1588 874 2 0 0 3 992 1603,fv (top 78) "_law_clean" "law_no0431_01" 1440 997 0 3,tu [],tb [],ts 1609 ["index","i"],tu [],fp (top 79) "_law_front",cF "_law_front" "_law_front" 1606 891 2 0 0 3 999 1611,fv (top 79) "_law_front" "law_no0431_01" 1440 1004 0 3,tu [],tb []]
noncomputable def Oi:List Obj:=[ts 1617 ["index","i"],tu [],fp (top 80) "_law_rear",cF "_law_rear" "_law_rear" 1614 899 2 0 0 3 1006 1619,fv (top 80) "_law_rear" "law_no0431_01" 1440 1011 0 3,tu [],tb [],fp (top 81) "_law_row",cG "_law_row" "_law_row" 1622 907 2 0 0 3 1013 1625,fv (top 81) "_law_row" "law_no0431_01" 1440 1016 0 3,tu [],tb [],fp (top 82) "_law_at",cG "_law_at" "_law_at" 1628 909 2 0 0 3 1018 1631,fv (top 82) "_law_at" "law_no0431_01" 1440 1021 0 3,tu []]
noncomputable def Oj:List Obj:=[tb [],ts 1637 ["index","place","move","rank","i","j"],tu [],fp (top 83) "_law_after",cF "_law_after" "_law_after" 1634 911 4 0 0 3 1023 1643,fv (top 83) "_law_after" "law_no0431_01" 1440 1028 0 3,tu [],tb [],ts 1649 ["walk","move","target"],tu [],fp (top 84) "_law_move",cF "_law_move" "_law_move" 1646 930 3 0 0 3 1030 1652,fv (top 84) "_law_move" "law_no0431_01" 1440 1035 0 3,tu [],tb [],ts 1658 ["pair"]]
noncomputable def x72:List Obj:=[tu [],fp (top 85) "_law_shown",cF "_law_shown" "_law_shown" 1655 947 1 0 0 3 1037 1659,fv (top 85) "_law_shown" "law_no0431_01" 1440 1042 0 3]
noncomputable def x73 (P:aV):List Obj:=[o0 P,o1 P,o8 P,di 93 (E P "__name__" 165 (S "law_no0431_01" 1440)::(ge P).take 92),o2 P,o3 P,di 0 [],tu [],tb [],o4 P,o5 P,tu [],tb [I 1,I 0,R 20,I 5,I 0,R 27,I 7,I 0,R 40,I 9,I 0,R 52,I 11,I 0,R 64,I 13,I 0,R 76,I 15,I 0,R 88,I 17,I 0,R 100,I 29,I 0,R 112,I 46,I 0,R 119,I 50,I 0,R 126,I 54,I 0,R 133,I 58,I 0,R 140,I 62,I 0,R 147,I 75,I 0,R 155,I 83,I 0,R 162,I 85,I 0,R 169,I 91,I 0,R 176,I 111,I 0,R 183,I 118,I 0,R 190,I 122,I 0,R 197,I 126,I 0,R 204,I 143,I 0,R 246,I 153,I 0,R 279,I 181,I 0,R 333,I 231,I 0,R 368,I 276,I 0,R 417,I 394,I 0,R 529,I 405,I 0,R 564,I 409,I 0,R 571,I 419,I 0,R 578,I 464,I 0,R 613,I 499,I 0,R 641,I 510,I 0,R 676,I 522,I 0,R 683,I 637,I 0,R 781,I 725,I 0,R 893,I 729,I 0,R 898,I 735,I 0,R 903,I 737,I 0,R 910,I 741,I 0,R 917,I 743,I 0,R 924,I 745,I 0,R 931,I 753,I 0,R 938,I 771,I 0,R 945,I 775,I 0,R 952,I 778,I 0,R 959,I 793,I 0,R 966,I 807,I 0,R 971,I 811,I 0,R 978,I 813,I 0,R 983,I 872,I 0,R 990,I 874,I 0,R 997,I 891,I 0,R 1004,I 899,I 0,R 1011,I 907,I 0,R 1016,I 909,I 0,R 1021,I 911,I 0,R 1028,I 930,I 0,R 1035,I 947,I 0,R 1042,I 949,I 0,R 1049,I 964,I 0,R 1056,I 977,I 0,R 1063,I 997,I 0,R 1068],o6 P,o7 P,tu []]
noncomputable def x74:List Obj:=[tu [],fp (top 85) "_law_shown",cF "_law_shown" "_law_shown" 1655 947 1 0 0 3 1037 1659,fv (top 85) "_law_shown" "law_no0431_01" 1440 1042 0 3,tu [],tb [],ts 1665 ["walk","index","place","n"],tu [],fp (top 86) "_law_stands",cF "_law_stands" "_law_stands" 1662 949 3 0 0 3 1044 1669,fv (top 86) "_law_stands" "law_no0431_01" 1440 1049 0 3,tu [],tb [],ts 1675 ["table","what","key"],tu [],fp (top 87) "_law_got"]
noncomputable def x75:List Obj:=[cF "_law_got" "_law_got" 1672 964 3 0 0 3 1051 1678,fv (top 87) "_law_got" "law_no0431_01" 1440 1056 0 3,tu [],tb [],ts 1684 ["index","held","meta","what","rank","place","bad","i","sep","pairs","off","size","fault","j"],tu [],fp (top 88) "_law_want",cF "_law_want" "_law_want" 1681 977 5 0 0 3 1058 1698,fv (top 88) "_law_want" "law_no0431_01" 1440 1063 0 3,tu [],tb [],fp (top 89) "law",cG "law" "law" 1701 997 1 0 0 3 1065 1704,fv (top 89) "law" "law_no0431_01" 1440 1068 0 3]
noncomputable def L0 (P:aV):List Obj:=x0 P
noncomputable def L1 (P:aV):List Obj:=x1 P++(x2 P++(x3 P++(x4 P++(x5 P++(x6 P++(x7 P++(x8++(x9++(wC++(x11))))))))))
noncomputable def L2 (P:aV):List Obj:=x12 P++(x2 P++(x3 P++(x4 P++(x5 P++(x6 P++(x7 P++(x8++(x9++(wC++(zZ++(z4++(z7 P++(z_++(Aa P++(Ab P++(Ac P++(Ad P++(Ae++(Af++(Ag P++(Ah++(Ai P++(Aj++(Ak++(x28 P)))))))))))))))))))))))))
noncomputable def L3 (P:aV):List Obj:=x29 P++(x2 P++(x3 P++(x4 P++(x5 P++(x6 P++(x7 P++(x8++(x9++(wC++(zZ++(z4++(z7 P++(z_++(Aa P++(Ab P++(Ac P++(Ad P++(Ae++(Af++(Ag P++(Ah++(Ai P++(Aj++(Ak++(E1 P++(E3++(E4++(E5++(E6++(E7++(E8++(E9 P++(E_++(E' P++(Fb P++(Fc++(Fd P++(Fe P++(Ff P++(Fg++(Fh P++(x47))))))))))))))))))))))))))))))))))))))))))
noncomputable def L4 (P:aV):List Obj:=x48 P++(x2 P++(x3 P++(x4 P++(x5 P++(x6 P++(x7 P++(x8++(x9++(wC++(zZ++(z4++(z7 P++(z_++(Aa P++(Ab P++(Ac P++(Ad P++(Ae++(Af++(Ag P++(Ah++(Ai P++(Aj++(Ak++(E1 P++(E3++(E4++(E5++(E6++(E7++(E8++(E9 P++(E_++(E' P++(Fb P++(Fc++(Fd P++(Fe P++(Ff P++(Fg++(Fh P++(NX P++(NY++(NZ++(N1++(N2++(N3++(N4 P++(N5++(N6++(N7++(N8++(N9++(N_++(Oa P++(Ob++(Oc++(Od++(Oe++(Of++(Og++(Oh++(Oi++(Oj++(x72)))))))))))))))))))))))))))))))))))))))))))))))))))))))))))))))))
noncomputable def L5 (P:aV):List Obj:=x73 P++(x2 P++(x3 P++(x4 P++(x5 P++(x6 P++(x7 P++(x8++(x9++(wC++(zZ++(z4++(z7 P++(z_++(Aa P++(Ab P++(Ac P++(Ad P++(Ae++(Af++(Ag P++(Ah++(Ai P++(Aj++(Ak++(E1 P++(E3++(E4++(E5++(E6++(E7++(E8++(E9 P++(E_++(E' P++(Fb P++(Fc++(Fd P++(Fe P++(Ff P++(Fg++(Fh P++(NX P++(NY++(NZ++(N1++(N2++(N3++(N4 P++(N5++(N6++(N7++(N8++(N9++(N_++(Oa P++(Ob++(Oc++(Od++(Oe++(Of++(Og++(Oh++(Oi++(Oj++(x74++(x75))))))))))))))))))))))))))))))))))))))))))))))))))))))))))))))))))
end
section
noncomputable abbrev benv:Env:={scope:=pw.main.scope,locals:=mainNs,globals:=mainNs,cells:=[],code:=.ref 13,frame:=some 14}
noncomputable abbrev bd:List Stmt:=behindTheImports pw
noncomputable abbrev cE:Code:=.body bd benv
noncomputable abbrev q0:Pos:=⟨0,0,0,0⟩
noncomputable abbrev ann:Option ae:=some (.ref 6)
theorem conv {p:qi} {w:bF} {MJ:Nat} {an:Option ae} {b n:Nat} {s:A7} {t:Thread} {r:Option (Flow×A7×Code×Pos)}
  (h:Fast.tw10110043849684766642 FK p w MJ an b n s t=r):tE e_ p w MJ an b n s t=r:=by
 rw[Fast.te10110043849684766642,O6];exact h
theorem r0 (w:bF) (os:gy):tE e_ pw w 11 ann 1 1969 (st (L0 w.params) 15 187 os) (wa ((bd.drop 0).take 28) benv cE q0 [gM q0])=some (.next,st (L1 w.params) 171 415 os,cE,⟨85,0,90,50⟩):=conv (by fin2)
theorem r1 (w:bF) (os:gy):tE e_ pw w 11 ann 1 1910 (st (L1 w.params) 171 415 os) (wa ((bd.drop 28).take 18) benv cE ⟨85,0,90,50⟩ [gM q0])=some (.next,st (L2 w.params) 412 770 os,cE,⟨231,0,275,40⟩):=conv (by fin2)
theorem r2 (w:bF) (os:gy):tE e_ pw w 11 ann 1 1936 (st (L2 w.params) 412 770 os) (wa ((bd.drop 46).take 13) benv cE ⟨231,0,275,40⟩ [gM q0])=some (.next,st (L3 w.params) 678 1159 os,cE,⟨510,0,521,30⟩):=conv (by fin2)
theorem r3 (w:bF) (os:gy):tE e_ pw w 11 ann 1 1989 (st (L3 w.params) 678 1159 os) (wa ((bd.drop 59).take 27) benv cE ⟨510,0,521,30⟩ [gM q0])=some (.next,st (L4 w.params) 1044 1662 os,cE,⟨947,0,948,45⟩):=conv (by fin2)
theorem r4 (w:bF) (os:gy):tE e_ pw w 11 ann 1 132 (st (L4 w.params) 1044 1662 os) (wa ((bd.drop 86).take 4) benv cE ⟨947,0,948,45⟩ [gM q0])=some (.next,st (L5 w.params) 1070 1707 os,cE,⟨997,0,1035,15⟩):=conv (by fin2)
end
section
theorem opened (N:Nat) (hN:bW 600 N=true):∀w:bF,(fencedOpening e_ pw w N).map (λs=>(s.heap,s.gens,s.drawn,s.toks))=some (mA w.params,m9 [],By,Bz):=
 boot_open (by fin2) hN λs=>by fin2
theorem acy (w:bF):((mA w.params).isNs fA&&(m9 []:Array GenState).size==0,(mA w.params).objs.size,(mA w.params).nsMap fA "__annotations__")=(true,11,ann):=by fin2
theorem pre (w:bF) (os:gy):topGo e_ pw w 11 ann 12 ⟨mA w.params,m9 [],By,Bz,os⟩ (NL pw)=some ((st (L0 w.params) 15 187 os).abs,⟨denote e_ cE,cE,q0,[gM q0]⟩):=by
 have h:Fast.tw15667345088766844465 FK pw w 11 ann 12 ⟨mA w.params,m9 [],By,Bz,os⟩ (NL pw)=some ((st (L0 w.params) 15 187 os).abs,⟨Fast.tw11892475500146522536 FK cE,cE,q0,[gM q0]⟩):=by fin2
 rw[Fast.te15667345088766844465,O6,Fast.te11892475500146522536];exact h
theorem nA (w:bF) (os:gy):segRun e_ pw w 11 ann 1 1 (st (L0 w.params) 15 187 os).abs (blockOf bd benv cE q0 [gM q0])=some (.next,(st (L0 w.params) 15 187 os).abs,cE,q0):=by fin2
theorem chain {w:bF} (i n i' N M T:Nat) {s s':A7} {r:au} {p p':Pos}
  (h:tE e_ pw w 11 ann 1 N s (wa ((bd.drop i).take n) benv cE p [gM q0])=some (.next,s',cE,p'))
  (k:m4 e_ pw w 11 ann M s'.abs (q8 (bd.drop i') benv cE p' [gM q0])=some r) (e1:i+n=i') (e2:N+M=T):
  m4 e_ pw w 11 ann T s.abs (q8 (bd.drop i) benv cE p [gM q0])=some r:=by
 subst e1 e2
 have e:bd.drop i=(bd.drop i).take n++bd.drop (i+n):=by rw[<-oF,wV]
 rw[e]
 exact piece_app (segRun_of h) k
noncomputable def HF (P:aV):Heap:=absHeap (bt 14 (L5 P)) 1070 {}
theorem fin (w:bF) (os:gy):m4 e_ pw w 11 ann 2 (st (L5 w.params) 1070 1707 os).abs ⟨doneF .next,cE,⟨997,0,1035,15⟩,[gM q0]⟩=some ⟨HF w.params,#[],{},1707,os⟩:=by fin2
theorem last:bd.drop 90=[]:=by fin2
theorem aci (w:bF) (os:gy):m4 e_ pw w 11 ann 2 (st (L5 w.params) 1070 1707 os).abs (q8 (bd.drop 90) benv cE ⟨997,0,1035,15⟩ [gM q0])=some ⟨HF w.params,#[],{},1707,os⟩:=by
 rw[last];exact piece_nil (fin w os)
theorem ach (w:bF) (os:gy):m4 e_ pw w 11 ann 134 (st (L4 w.params) 1044 1662 os).abs (q8 (bd.drop 86) benv cE ⟨947,0,948,45⟩ [gM q0])=some ⟨HF w.params,#[],{},1707,os⟩:=chain 86 4 90 132 2 134 (r4 w os) (aci w os) rfl rfl
theorem acg (w:bF) (os:gy):m4 e_ pw w 11 ann 2123 (st (L3 w.params) 678 1159 os).abs (q8 (bd.drop 59) benv cE ⟨510,0,521,30⟩ [gM q0])=some ⟨HF w.params,#[],{},1707,os⟩:=chain 59 27 86 1989 134 2123 (r3 w os) (ach w os) rfl rfl
theorem acf (w:bF) (os:gy):m4 e_ pw w 11 ann 4059 (st (L2 w.params) 412 770 os).abs (q8 (bd.drop 46) benv cE ⟨231,0,275,40⟩ [gM q0])=some ⟨HF w.params,#[],{},1707,os⟩:=chain 46 13 59 1936 2123 4059 (r2 w os) (acg w os) rfl rfl
theorem ace (w:bF) (os:gy):m4 e_ pw w 11 ann 5969 (st (L1 w.params) 171 415 os).abs (q8 (bd.drop 28) benv cE ⟨85,0,90,50⟩ [gM q0])=some ⟨HF w.params,#[],{},1707,os⟩:=chain 28 18 46 1910 4059 5969 (r1 w os) (acf w os) rfl rfl
theorem acd (w:bF) (os:gy):m4 e_ pw w 11 ann 7938 (st (L0 w.params) 15 187 os).abs (q8 (bd.drop 0) benv cE q0 [gM q0])=some ⟨HF w.params,#[],{},1707,os⟩:=chain 0 28 28 1969 5969 7938 (r0 w os) (ace w os) rfl rfl
theorem ack (w:bF) (os:gy):m4 e_ pw w 11 ann 7939 (st (L0 w.params) 15 187 os).abs ⟨denote e_ cE,cE,q0,[gM q0]⟩=some ⟨HF w.params,#[],{},1707,os⟩:=
 piece_block (n:=1) (N:=7938) (nA w os) (acd w os)
theorem acj (w:bF) (os:gy):m4 e_ pw w 11 ann 7951 ⟨mA w.params,m9 [],By,Bz,os⟩ (NL pw)=some ⟨HF w.params,#[],{},1707,os⟩:=
 go_top (n:=12) (N:=7939) (pre w os) (ack w os)
end
section
abbrev cQ:OpenLaw:=aeo
noncomputable def qv:qi:=view pw [89]
noncomputable def loose:List Str:=pw.boundNames.filter λn=>n !=("law":Str)
noncomputable abbrev Xt (s:au):Bool:=xlAt qv [] s&&recOk [] s
noncomputable abbrev XP:(Str->Option ae)->Heap->Prop:=XL qv []
noncomputable abbrev K (P:aV):List Obj:=L5 P
noncomputable abbrev Yf (s:au):List Obj:=s.heap.objs.toList
noncomputable abbrev Ya (w:bF):List Obj:=K w.params
theorem YW (w:bF):(staticsOk (C2 pw.main.body) (mA w.params) (HF w.params))=true:=by fin2
theorem YX (w:bF):(namesBound pw (HF w.params))=true:=by fin2
theorem YY (w:bF):laidKept (mA w.params) (HF w.params)=true:=by fin2
theorem YZ (w:bF) (os:gy):Yf ⟨HF w.params,#[],{},1707,os⟩=Ya w:=by fin2
theorem Y0 (w:bF) (os:gy):Fast.tw4187177175401517315 qv loose (C2 pw.main.body) Xt true ⟨HF w.params,#[],{},1707,os⟩=openGood qv loose:=by fin2
theorem YV (w:bF):(λos=>((staticsOk (C2 pw.main.body) (mA w.params) (HF w.params)&&namesBound pw (HF w.params)&&gensDone ⟨HF w.params,#[],{},1707,os⟩&&laidKept (mA w.params) (HF w.params)),
  openSeen qv loose (C2 pw.main.body) Xt true ⟨HF w.params,#[],{},1707,os⟩,Yf ⟨HF w.params,#[],{},1707,os⟩))=λ_=>(true,openGood qv loose,Ya w):=by
 funext os
 have l5:=Y0 w os
 rw[<-Fast.te4187177175401517315]at l5
 rw[YW,YX,YY,YZ,l5]
 rfl
theorem left:LeftO pw qv loose Xt Yf Ya 8000:=LeftO.of_pieces (opened 8000 rfl) acy acj rfl YV
noncomputable def YP (w:bF) (h:Heap):Prop:=∀a o,(K w.params)[a]?=some o->h.get? a=some o
noncomputable def posOf (st:Stmt):Pos:=match st with|.FunctionDef _ _ _ _ _ _ _ _ _ p=>p|_=>default
noncomputable def BQ:DefRec:=⟨.ofString "law",El (top 89),jL (top 89),dG (top 89),posOf (top 89)⟩
theorem hY (w:bF) (s:au) (e:Yf s=Ya w):YP w s.heap:=by
 intro a o h
 have:s.heap.objs[a]?=some o:=by rw[<-wF,show s.heap.objs.toList=K w.params from e];exact h
 unfold Heap.get?
 rw[this]
 have hf:(K w.params).all (λo=>!o.isFreed)=true:=by fin2
 have hm:=eO.mp hf o (gc h)
 revert hm
 obtain⟨c,d,dt,sl⟩:=o
 cases dt<;>intro hm<;>first|rfl|(exact absurd hm (by simp[Obj.isFreed]))
theorem Vx (w:bF) (h h':Heap) (y:YP w h) (k:∀b o,h.get? b=some o->h'.get? b=some o):YP w h':=λa o e=>k a o (y a o e)
theorem holds_of (zy:cQ.wellSaid=true) (call:WalkO qv loose XP YP cQ.row.toRowW BQ [] λf vs=>Qo f vs):cQ.Holds:=by
 refine holds_law zy λk1=>?_
 refine holds_open (r:=cQ.row) (q:=qv) (loose:=loose) (Xt:=Xt) (XP:=XP) (Yf:=Yf) (Ya:=Ya) (YP:=YP) (d:=BQ) (kwd:=[]) (N:=8000) left hY Vx
  (λs e=>xl_of s (gO.mp e).1) XL.keeps (by fin2) (by fin2) (by fin2) (λs e=>recFacts_of (gO.mp e).2) (by fin2) k1 (by fin2) ⟨rfl,rfl,rfl,rfl,rfl,by fin2⟩ ?_ call
 w_witness2
end
section
theorem zi:(O7 cQ.row.prog.main.body).all cThrough.contains=true:=by fin2
theorem zv:Az cQ.row.prog cQ.row.prog.main.body (ie "vars")=false:=by fin2
theorem zd:Az cQ.row.prog cQ.row.prog.main.body (ie "dir")=false:=by fin2
theorem zl:Az cQ.row.prog cQ.row.prog.main.body (ie "locals")=false:=by fin2
theorem zn {p:Str->Bool} {a:Str} {l:List Str} (h:p a=false) (q:l.filter p=[]):(a::l).filter p=[]:=(Gd (h▸hH)).trans q
theorem zb:O8 {strict:=!true,foot:=none,bare:=[]} cQ.row.prog.main.body=true:=by fin2
theorem z5:O8 {strict:=!(O7 cQ.row.prog.main.body).all cThrough.contains,foot:=none,bare:=[ie "vars",ie "dir",ie "locals"].filter (Az cQ.row.prog cQ.row.prog.main.body)} cQ.row.prog.main.body=true:=by
 rewrite [zi,zn zv (zn zd (zn zl rfl))]
 exact zb
theorem z6:(FN cQ.row.prog cQ.row.prog.main.body λ_ n=>Fast.tw17868728402115742887 n)=true:=by fin2
theorem z3:Fast.tw8377067652309620493 cQ.row.prog=true:=by fin2
theorem z8:(FN cQ.prog cQ.above λ_ n=>!(Fast.tw10792542408131684335 cQ).contains n)=true:=by fin2
theorem z9:(FN cQ.prog cQ.footing λsc n=>sc.kind==.module||sc.names.lookup n !=some .globalExplicit)=true:=by fin2
theorem z1:((Fast.tw797321630700447069 cQ).all λn=>!Fast.qNamed n||cQ.about==[n]||!Fast.tw6984425678791042302 cQ n)=true:=by fin2
theorem zy:cQ.wellSaid=true:=by
 unfold OpenLaw.wellSaid OpenRow.wellSaid OpenRow.partSaid looksOpen
 repeat' (with_reducible apply look_both)
 all_goals ((
  (try rw[Fast.te8326940854005059898]);(try rw[Fast.te17119622794617984870]);(try rw[Fast.te8377067652309620493]);(try rw[Fast.te10501279942588096481]);(try rw[Fast.te8179353310426384613])
  (try rw[Fast.te16286561074155671207]);(try rw[Fast.te17868728402115742887]);(try rw[Fast.te13343964577679436407]);(try rw[Fast.te797321630700447069]);(try rw[Fast.te6984425678791042302])
  (try rw[Fast.te10792542408131684335]);(try rw[Fast.te9558739934217749035]);(try rw[Fast.te18344453789297297638]);(try rw[Fast.te11788848310118352699]);(try rw[Fast.te12862048085361865435])
  (try rw[Fast.te12879404354523853263]);(try rw[Fast.te482687673346738481]);(try rw[Fast.te9807087744658564304]);(try rw[Fast.te5923862056798008813]);(try rw[Fast.named_eq])
  with_reducible first|exact z5|exact z6|exact z3|exact z8|exact z9|exact z1|as_aux_lemma=>fin2))
end
end Mine.Head
end
namespace Mine
open PySem PySem.W PySem.Calls PyProof.Rows
variable{nh par a9:Bool} {ns aC:List Int} {a ah b bits c cur d e ag i j k n o oa off oi opt pa r t tn vf ar x:Nat} {O O' S:Nat->Prop}
section
theorem zl {m:Nat}(h:a<=m)(q:bW m n=true):a<=n:=ai h (aG q)
theorem za {m p:Nat}(h:a<=m)(q:bW (m+p) n=true):a+p<=n:=zl (dW h p) q
theorem zea {m p:Nat}(e:a=b)(h:b<=m)(q:bW (m+p) n=true):a+p<=n:=e▸za h q
theorem rq {p m:Nat}(h:a+p<=m)(q:bW m (n+p)=true):a<=n:=Nat.le_of_add_le_add_right (zl h q)
theorem zt {p m:Nat}(h:a+p<=m)(q:bW (m+r) (n+p)=true):a+r<=n:=rq (p:=p) (wZ a r p▸dW h r) q
theorem zb {m:Nat}(h:a+b<=m)(q:bW m n=true):a<=n:=zl (ai (b6 _ _) h) q
theorem zc {m:Nat}(h:b+a<=m)(q:bW m n=true):a<=n:=zl (ai (cV _ _) h) q
theorem Am {m:Nat}(h:a+b<=m)(q:bW (m+r) n=true):a+r<=n:=za (ai (b6 _ _) h) q
theorem pZ {m:Nat}(h:a<=m)(q:bW m n=true):(a:Int)<=(n:Nat):=d6.mpr (zl h q)
theorem zj {m:Nat}(h:a<=m)(q:bW (m+1) n=true):(a:Int)<(n:Nat):=a_.mpr (za h q)
theorem zj1 {m:Nat}(h:a+1<=m)(q:bW m n=true):(a:Int)<(n:Nat):=a_.mpr (zl h q)
theorem Fl {m:Nat}(h:a+1<=m)(q:bW m (n+1)=true):(a:Int)<=(n:Nat):=d6.mpr (rq h q)
theorem zk {m:Nat}(h:a<=b)(g:b<=m)(q:bW m n=true):a<=n:=zl (ai h g) q
theorem Ot {m:Nat}(h:a<=b)(g:b<=m)(q:bW (m+r) n=true):a+r<=n:=za (ai h g) q
theorem tN {m:Nat}(h:a<=k*b)(g:b<=m)(q:bW (k*m) n=true):a<=n:=zl (ai h (bT k g)) q
theorem zmr {m:Nat}(h:a<=k*b)(g:b<=m)(q:bW (k*m+r) n=true):a+r<=n:=za (ai h (bT k g)) q
theorem Ao {m:Nat}(h:a<=k*b+c)(g:b<=m)(q:bW (k*m+c) n=true):a<=n:=zl (ai h (dW (bT k g) c)) q
theorem Fm {m:Nat}(h:a<=k*b+c)(g:b<=m)(q:bW (k*m+c+r) n=true):a+r<=n:=za (ai h (dW (bT k g) c)) q
theorem zp {m p:Nat}(h:a<=m)(g:b<=p)(q:bW (m+p) n=true):a+b<=n:=zl (aM h g) q
theorem zpr {m p:Nat}(h:a<=m)(g:b<=p)(q:bW (m+p+r) n=true):a+b+r<=n:=za (aM h g) q
theorem Fq {m p:Nat}(h:a<=m)(g:b<=p)(q:bW (m+(p+r)) n=true):a+(b+r)<=n:=zl (aM h (dW g r)) q
theorem zo(q:bW k (n+1)=true)(p:bW 1 k=true):a%k<=n:=fH (ua (eJ a (aG p)) (aG q))
theorem Ox(q:bW (k+r) (n+1)=true)(p:bW 1 k=true):a%k+r<=n:=fH (ua (Nat.add_lt_add_right (eJ a (aG p)) r) (aG q))
theorem Ap {a:Int}(q:bW k n=true)(p:bW 1 k=true):a%(k:Nat)<(n:Nat):=FW (oD a (hV.mpr (aG p))) (d6.mpr (aG q))
theorem Aq {a:Int}(q:bW k (n+1)=true)(p:bW 1 k=true):a%(k:Nat)<=(n:Nat):=Int.le_of_lt_add_one (Ap (n:=n+1) q p)
theorem zn {m:Nat}(h:(a:Int)=(m:Nat))(q:bh m n=false):¬a=n:=λe=>absurd (cU.mp h▸e) (P7 q)
theorem tO {m:Nat}(h:m=a)(q:bh m n=false):¬a=n:=λe=>absurd (h.trans e) (P7 q)
theorem Ou {m:Nat}(h:¬a=m):¬(a:Int)=(m:Nat):=λe=>h (cU.mp e)
theorem Ov {m:Nat}(h:¬a=m):¬(m:Nat)=(a:Int):=λe=>h (cU.mp e).symm
theorem zx {m:Nat}(h:m<=a)(q:bW m n=false):¬a=n:=λe=>absurd (e▸h) (λk=>by rw[Nat.ble_eq_true_of_le k]at q;cases q)
theorem km {m:Nat}(h:a+1<=b)(g:b<=m)(q:bW m n=true):(a:Int)<(n:Nat):=a_.mpr (zk h g q)
theorem kj(h:a+(b+1)=c):a+1+b=c:=(wZ a 1 b).trans h
theorem om(h:a+(b+1)<=c):a+1+b<=c:=(wZ a 1 b).symm▸h
theorem tM(h:c<=a+(b+1)):c<=a+1+b:=(wZ a 1 b).symm▸h
theorem f9(h:a+(c+1)=b):a+1<=b:=h▸oJ (b6 a c)
theorem pY(h:¬(b:Int)<=(a:Int)):a+1<=b:=a_.mp (tX.mp h)
theorem zai(h:a+1<=b):¬a=b:=jE h
theorem gN(h:a<=b):a<=b+c:=ai h (b6 b c)
theorem rj(h:a<=c)(e:b=c+d):a<=b:=e▸gN h
theorem Om {m:Nat}(h:b<=m)(q:bW m n=true):min a b<=n:=zl (ai (Gs a b) h) q
theorem zao {m:Nat}(h:a<=m)(q:bW m n=true):min a b<=n:=zl (ai (P5 a b) h) q
theorem Fi {m:Nat}(h:a<=m)(q:bW (m+r) n=true):a-b+r<=n:=za (ai (kC a b) h) q
theorem Oo {P:Prop}(h:b+1<=c)(g:c+1<=d)(e:b=d):P:=absurd e (jE (rI h g))
theorem Oq {P:Prop}(h:b+1<=c)(g:c+1<=d)(e:b+1=d):P:=absurd e (jE (jD h g))
theorem wD {P:Prop}(h:b+1<=c)(e:0=c):P:=absurd (e▸h) (Gv b)
theorem Fj {P:Prop}(h:b+1<=c)(e:c+1<=b):P:=absurd (rI h e) (eI b)
theorem zg(h:a<=b)(g:¬a=b):a+1<=b:=rH h g
theorem Fk(h:a<=b)(g:¬(a:Int)=(b:Int)):a+1<=b:=rH h λe=>g (e▸rfl)
theorem zgj(h:a<=b)(g:¬(b:Int)=(a:Int)):a+1<=b:=rH h λe=>g (e▸rfl)
theorem Fs(h:a+1<=b):a-1+1<=b:=jD (kC a 1) h
theorem zs4(h:c+1<=a)(g:¬c<=b):¬a<=b:=λe=>g (ai (nk h) e)
theorem Oy(h:c+1<=b)(g:¬c<=a):a+1<=b:=rI (Gq g) h
theorem zu {c:Int}(h:c<(b:Int))(e:(a:Int)=c):a+1<=b:=a_.mp (e▸h)
theorem zv {a:Int}{m:Nat}(g:b<=m)(h:a<(b:Int))(q:bW m n=true):a<(n:Nat):=FW h (pZ g q)
theorem zw {a:Int}{m:Nat}(h:a<=(m:Nat))(q:bW m n=true):a<=(n:Nat):=wK h (d6.mpr (aG q))
theorem Fn(h:a+1<=c):a+1<=(a+c+1)/2:=(Nat.le_div_iff_mul_le (by decide)).mpr (by lia)
theorem Fo(h:a+1<=c):(a+c+1)/2<=c:=Nat.div_le_of_le_mul (by lia)
theorem zsb(h:b+1<=a):a-(b+1)+1=a-b:=(Nat.sub_add_eq a b 1)▸jF (Nat.sub_pos_of_lt h)
theorem Oz(h:x+1<=c-a):a+(x+1)<=c:=Nat.add_le_of_le_sub' (bx (P2 (ua (Nat.succ_pos x) h))) h
theorem zq:a<=c+4*(a+1):=ai (ai (t_ a) (Nat.le_mul_of_pos_left (a+1) (by decide))) (cV _ c)
theorem cq(h0:a<=1000000):a<=16777216:=ai h0 (aG rfl)
theorem eY:(↑a:Int).toNat=a:=rfl
theorem iL(h0:a+1<=c)(h1:b=c):a+1<=b:=h1▸h0
theorem js {a:Prop}(h0:b+1<=c)(h1:b=c):a:=(eI _ (h1▸h0)).elim
theorem lT(h0:b<=100)(h1:a=b):a<=1000000:=ai (bM h1) (ai h0 (aG rfl))
theorem n7(h0:a<=5):a<=1000000:=ai h0 (aG rfl)
theorem n8(h0:a+1<=c)(h1:c+1<=b):a+1<=b:=ai h0 (nk h1)
theorem pK(h0:1<=a):a-1+1<=a:=A4 h0 Gw
theorem qS(h0:(↑a:Int)=0):0=a:=cU.mp h0.symm
theorem qP(h0:a<=b)(h1:¬a<b):a=b:=w2 h0 (t8 h1)
theorem qQ(h0:a=b):¬a<b:=w5 (bM h0.symm)
theorem qR(h0:¬0<(↑a:Int)):¬0<a:=λh=>h0 (a_.mpr h)
theorem ta(h0:(↑a:Int)=2):2=a:=cU.mp h0.symm
theorem tc(h0:(↑a:Int)=1):1=a:=cU.mp h0.symm
theorem td(h0:a<=3):a<=1000:=ai h0 (aG rfl)
theorem tf(h0:a<=100000):a<=1000000:=ai h0 (aG rfl)
theorem ti(h0:c+1<=b)(h1:a<=c):a<=b:=by lia-abstractProof
theorem vO(h0:a<=1000):a<=16777216:=ai h0 (aG rfl)
theorem vP {a:Prop}(h0:b+1<=b):a:=absurd h0 (eI _)
theorem vQ(h0:b<=1000)(h1:a=b):a<=1000000:=ai (bM h1) (ai h0 (aG rfl))
theorem vR {a:Prop}(h0:b+1<=0):a:=absurd h0 (Gv _)
theorem vS(h0:a+1<=b)(h1:¬a+1=b):a+2<=b:=rH h0 h1
theorem vT(h0:¬(↑a:Int)=1):¬a=1:=λh=>h0 (congrArg _ h)
theorem vU(h0:¬(↑a:Int)=3):¬a=3:=λh=>h0 (congrArg _ h)
theorem vV(h0:a+1<=1024):a+1<=65536:=ai h0 (aG rfl)
theorem yG:((↑a:Int)-1).toNat=a-1:=by lia-abstractProof
theorem yH {a:Int}:0<=a%8:=jB _ (by decide)
theorem yI(h0:0=a):¬0<a:=w5 (bM h0.symm)
theorem Dy(h0:a+b<=1000000):a<=1000000:=ai (b6 _ _) h0
theorem yK(h0:1<=a):(↑a:Int)≠0:=FZ (hV.mpr h0)
theorem yL:(↑(a+1):Int)=(↑a:Int)+1:=rfl
theorem yM(h0:¬(↑a:Int)=2):¬a=2:=λh=>h0 (congrArg _ h)
theorem yN(h0:(↑a:Int)=3):3=a:=cU.mp h0.symm
theorem yO(h0:a+1<=10000):a+1<=16384:=ai h0 (aG rfl)
theorem yP(h0:a<=b)(h1:¬a=b):a+1<=b:=rH h0 h1
theorem yQ(h0:a<=100):a<=1000000:=ai h0 (aG rfl)
theorem yR(h0:¬(↑a:Int)=0):¬a=0:=λh=>h0 (congrArg _ h)
theorem yS(h0:a<b\/a=0/\b=0):a<=b:=by lia-abstractProof
theorem yT(h0:b<=5)(h1:a=b):a<=16777216:=ai (bM h1) (ai h0 (aG rfl))
theorem Dz(h0:b+c+5<=d)(h1:d<=1000000)(h2:a=c+1):a<=16777216:=by lia-abstractProof
theorem DA(h0:9=a):a<=16777216:=h0▸(aG rfl)
theorem DB {a:Int}:a-1<a:=AL _ (by decide)
theorem DC(h0:40=a):a<=16777216:=h0▸(aG rfl)
theorem DD(h0:¬(↑a:Int)≠(↑b:Int)):a=b:=FY.mp (wH.mp h0)
theorem DE {a:Prop}(h0:1<=b)(h1:0=b):a:=(eI _ (h1▸h0)).elim
theorem DF {a:Prop}(h0:0=1):a:=(rK _ h0.symm).elim
theorem DG {a:Prop}(h0:0=2):a:=(rK _ h0.symm).elim
theorem DH(h0:a<=2)(h1:b<=2):a+b<=16777216:=ai (aM h0 h1) (aG rfl)
theorem DI(h0:¬(↑a:Int)=4):¬a=4:=λh=>h0 (congrArg _ h)
theorem DJ(h0:a+1<=8):a=0\/a=1\/a=2\/a=3\/a=4\/a=5\/a=6\/a=7:=by lia-abstractProof
theorem DK(h0:a<=5):a<=999999:=ai h0 (aG rfl)
theorem DL(h0:1<=a)(h1:a<=b):a-1+1<=b:=by lia-abstractProof
theorem DM(h0:(↑a:Int)%7≠0):a%7≠0:=λh=>h0 (congrArg _ h)
theorem DN(h0:b+1<=a):a-1-b+1<=a:=by lia-abstractProof
theorem DO(h0:a+1<=b):a=b-1-(b-1-a):=by lia-abstractProof
theorem DP(h0:a+1<=c)(h1:c+1<=d)(h2:b=d):a+1<=b:=ai h0 (ai (nk h1) (bM h2.symm))
theorem DQ(h0:a+1<=c)(h1:b=c+d):¬a=b:=jE (rj h0 h1)
theorem DR(h0:a+1=b):¬a=b:=by lia-abstractProof
theorem DS(h0:a+1<=c)(h1:b=d)(h2:c=d):a+1<=b:=ai h0 (bM (h2.trans h1.symm))
theorem DT:((↑a:Int)+1).toNat=a+1:=rfl
theorem DU:a<=b+(a+1):=by lia-abstractProof
theorem DV(h0:¬b<=a):a<=b:=bx (Gq h0)
theorem Ls:-(↑a:Int)<1:=by lia-abstractProof
theorem Lu:(-(-(↑a:Int)-1)-1).toNat=a:=by lia-abstractProof
theorem Lw {a:Int}:0<=a%128:=jB _ (by decide)
theorem Lx:(↑(a+4*b):Int)=(↑a:Int)+4*(↑b:Int):=rfl
theorem Ly(h0:¬(↑a:Int)=0):a-1+1<=a:=by lia-abstractProof
theorem Lz:(↑(a+b+1):Int)=(↑a:Int)+(↑b:Int)+1:=rfl
theorem LA {a:Int}:0<=a%64/8:=by lia-abstractProof
theorem LB {a:Int}:a%64/8<8:=by lia-abstractProof
theorem LC {a:Int}(h0:9=b):a%64/8<(↑b:Int):=by lia-abstractProof
theorem LF {a:Int}:(a%64/8).toNat+1<=8:=by lia-abstractProof
theorem LG {a:Int}:(a%8).toNat+1<=8:=by lia-abstractProof
theorem LH(h0:9=a):((↑a:Int)-1)*8=64:=by subst h0;rfl
theorem LJ(h0:a=b+5):0<=(↑a:Int)-1:=by lia-abstractProof
theorem LK(h0:a+1<=8):a+1<=9:=ai h0 (aG rfl)
theorem LM(h0:48=a):a<=16777216:=h0▸(aG rfl)
theorem LN:40-(↑a:Int)<=16777216:=by lia-abstractProof
theorem LO:(40-(↑a:Int)).toNat=40-a:=by lia-abstractProof
theorem LP(h0:(↑a:Int)≠(↑b:Int)):a≠b:=λh=>h0 (congrArg _ h)
theorem LQ(h0:b≠c)(h1:a=3↔b≠c):a≠0:=by lia-abstractProof
theorem LR(h0:a+1=b):a=b-1:=PY h0
theorem LU(h0:b+a=c)(h1:b=c):0=a:=by lia-abstractProof
theorem LV(h0:a+2<=b):a<=b:=ai (b6 _ _) h0
theorem LW(h0:¬0<b):¬a<b:=by lia-abstractProof
theorem LX(h0:0=a):¬a≠0:=by subst h0;decide
theorem LY:(↑(a+b+5):Int)=(↑a:Int)+(↑b:Int)+5:=rfl
theorem LZ(h0:3=a+b):(↑a:Int)<=1000000:=by lia-abstractProof
theorem L6 {a b:Int}(h0:b<a):0-a<0-b:=by lia-abstractProof
theorem L7 {a b:Int}(h0:0-a<0-b)(h1:¬b<a):False:=by lia-abstractProof
theorem L8(h0:a+3+c+d=b):a+1<=b:=by lia-abstractProof
theorem L9(h0:a+1<=b+1)(h1:¬a=b):a+1<=b:=by lia-abstractProof
theorem L_(h0:c<=d+1)(h1:a<=39*d)(h2:d<=100)(h3:b<=4):a+b+4*c+4<=1000000:=by lia-abstractProof
theorem Ma:a<=a+b+4:=by lia-abstractProof
theorem Mb(h0:a<=6):a+1<=128:=ai (dW h0 _) (aG rfl)
theorem Mc(h0:a<=100):a<=16777216:=ai h0 (aG rfl)
theorem Md(h0:a<=30):a<=100:=ai h0 (aG rfl)
theorem Me(h0:a<=100000):a<=100000:=ai h0 (aG rfl)
theorem Mf(h0:a<=100000):a+1<=16777216:=ai (dW h0 _) (aG rfl)
theorem KH(h0:(↑a:Int)=4):4=a:=cU.mp h0.symm
theorem KI(h0:b+c<=3)(h1:a<=9*b):a<=16777208:=tN h1 (ai (b6 _ _) h0) rfl
theorem KJ(h0:b+c<=3)(h1:a<=9*b):a<=16777207:=tN h1 (ai (b6 _ _) h0) rfl
theorem KL(h0:b+c<=5)(h1:a=b):a<=5:=by lia-abstractProof
theorem KO(h0:b<=5)(h1:a=b):a<=1000000:=ai (bM h1) (ai h0 (aG rfl))
theorem KP(h0:a+1<=3):1+a<=5:=by lia-abstractProof
theorem KQ(h0:a<=3):a+8<=30:=ai (dW h0 _) (aG rfl)
theorem KR(h0:a<=2):a<=100:=ai h0 (aG rfl)
theorem KS(h0:a<=1000):a+1<=10000:=ai (dW h0 _) (aG rfl)
theorem KU:a+1<=a+3:=by lia-abstractProof
theorem KW(h0:a<=5):a<=6:=ai h0 (aG rfl)
theorem KX(h0:a<=5):(↑(a+1):Int)<1000000:=by lia-abstractProof
theorem KY:a+2<=a+3:=by lia-abstractProof
theorem KZ(h0:a<=5):(↑(a+2):Int)<1000000:=by lia-abstractProof
theorem K0(h0:¬(↑a:Int)=6):¬a=6:=λh=>h0 (congrArg _ h)
theorem K1:(↑(a+1):Int)-1=(↑a:Int):=by lia-abstractProof
theorem K2(h0:0<(↑a:Int)):(↑(a-1):Int)=(↑a:Int)-1:=gR (hV.mp h0)
theorem K3(h0:b<=100)(h1:a<=b):a<=1000000:=ai h1 (ai h0 (aG rfl))
theorem K4(h0:¬(↑a:Int)=(↑b:Int)):¬a=b:=λh=>h0 (congrArg _ h)
theorem K5(h0:¬(↑a:Int)<(↑b:Int)):¬a<b:=λh=>h0 (a_.mpr h)
theorem K6 {a:Prop}(h0:b+1<=c)(h1:c=d+0)(h2:¬b<d):a:=by lia-abstractProof
theorem K7 {f g:Nat}(h0:b<=10)(h1:b=c+d+e+f+g)(h2:a=c+(d+(e+f))):40-a-1+1=40-a:=by lia-abstractProof
theorem K8(h0:0=a):a+1<=128:=h0▸(aG rfl)
theorem K9(h0:¬a≠0):0=a:=(wH.mp h0).symm
theorem K_(h0:a=c)(h1:b=c):a=b:=h1▸h0
theorem La(h0:b+1<=c):a+b+1<=a+c:=kB h0 _
theorem Lb(h0:a+1<=d)(h1:b<=a)(h2:b+c=d):a-b+1<=c:=by lia-abstractProof
theorem Lc(h0:a<=3):a+8<=1000000:=ai (dW h0 _) (aG rfl)
theorem Ld(h0:a+1<=c)(h1:c=b+1)(h2:¬a<b):a=b:=by lia-abstractProof
theorem Le:min 40 a<=1000000:=by lia-abstractProof
theorem Lf(h0:c+1<=128)(h1:0=a):min a b+min c d<=16777216:=by lia-abstractProof
theorem Lg(h0:a+1<=128)(h1:c+1<=128):min a b+min c d<=16777216:=by lia-abstractProof
theorem Lh(h0:a+1<=b)(h1:b<=100000):a+1<=1000000:=ai h0 (ai h1 (aG rfl))
theorem Li(h0:a<=b)(h1:c<=a)(h2:b=c):a=b:=by lia-abstractProof
theorem Lj {a:Prop}{b:Int}(h0:0<=b)(h1:b<0):a:=absurd h1 (gQ.mpr h0)
theorem Lk(h0:a<=16777216):a<=1099511627776:=ai h0 (aG rfl)
theorem Ll(h0:b<=1000000)(h1:a=b):(↑a:Int)<2^63:=by lia-abstractProof
theorem Lm(h0:b<=1000000)(h1:a=b):a<=16777216:=ai (bM h1) (ai h0 (aG rfl))
theorem Y'(h0:a+1<=2^8)(h1:b+1<=2^8)(h2:c+1<=2^8)(h3:d+1<=2^8):a+b*256+c*65536+d*16777216+1<=4294967296:=zl (oJ (aM (aM (aM (fH h0) (rJ _ (fH h1))) (rJ _ (fH h2))) (rJ _ (fH h3)))) rfl
theorem Za {a:Int}(h0:2<=a):(↑(a-2).toNat:Int)+2=a:=by rw[Int.toNat_of_nonneg (Int.sub_nonneg.mpr h0)];exact Int.sub_add_cancel a 2
theorem Zb {a:Int}(h0:16384<=a)(h1:b+1<=2^8)(h2:c+1<=128):¬a<(↑(b-128+c*128):Int):=gQ.mpr (wK (d6.mpr (zl (aM (w6 (fH h1) 128) (rJ 128 (fH h2))) rfl)) h0)
theorem Zc(h0:a+4*(d+1)=c)(h1:b+e=d):a+4*b+4<=c:=h0▸lD a (4*b) 4▸kB (dW (bT 4 (rG h1)) 4) a
theorem Zd(h0:a+(c+1)=b):a-1+1<=b:=Fs (f9 h0)
theorem Ze(h0:b<=1000000)(h1:a+c=d)(h2:b=e+4*(d+1)):(↑a:Int)-1<1000000:=FW (AL _ (by decide)) (d6.mpr (ai (rG h1) (ai zq (h2▸h0))))
theorem Zf(h0:c<=1000000)(h1:c=d+4*(b+1)):min a b<=1000000:=ai (Gs _ _) (ai zq (h1▸h0))
theorem Zg(h0:a=b+4*(c+1)):(↑(a-4):Int)=(↑a:Int)-4:=gR (h0▸ai (cV 4 (4*c)) (cV _ b))
theorem Zh(h0:a=b+4*(c+1)):a-4+4<=a:=bM (jF (h0▸ai (cV 4 (4*c)) (cV _ b)))
theorem Zi(h0:b<=1000000)(h1:b=c+4*(a+1)):(↑a:Int)<=1000000000:=pZ (ai zq (h1▸h0)) rfl
theorem Zj:a+1=b+a+1-b:=(lD b a 1▸nj b (a+1)).symm
theorem Zk(h0:a=b+5):(↑(a-5):Int)=(↑a:Int)-5:=gR (h0▸cV 5 b)
theorem Zl(h0:a=b+5):a-5+4<=a:=ai (t_ _) (bM (jF (h0▸cV 5 b)))
theorem Zm(h0:a+4*d+5=c)(h1:¬(↑d:Int)<=(↑b:Int)):a+4*b+4<=c:=h0▸ai (kB (bT 4 (pY h1)) a) (b6 _ 5)
theorem Zn(h0:a+4*d+5=c)(h1:¬(↑d:Int)<=(↑b:Int)):a+4*b+4+4<=c:=h0▸ai (dW (kB (bT 4 (pY h1)) a) 4) (kB (by decide) _)
theorem Zo(h0:b+9<=c)(h1:a=c+d+5):9=min 9 (a-b):=(w3 (Nat.le_sub_of_add_le' (h1▸gN (gN h0)))).symm
theorem Zp(h0:48<=a):48=a-(a-48):=(Gz h0).symm
theorem Zq(h0:d<=c)(h1:¬(↑d:Int)<(↑a:Int)+(↑b:Int)+5):a+b+5<=c:=ai (d6.mp (gQ.mp h1)) h0
theorem Zr(h0:a=b+c):a-b=c:=h0▸nj _ _
theorem Zs(h0:b+1<=c)(h1:b+a=c):a-1+1=a:=jF (Nat.le_of_add_le_add_left (h1▸h0))
theorem Zt(h0:a=b+(c+1)):a-(b+1)=c:=by subst h0;exact(Nat.add_sub_add_right (b+c) 1 b).trans (nj _ _)
theorem Zu {a b:Int}(h0:0<=a)(h1:a<=b)(h2:b<2^32):0<=a/\a<2^32:=⟨h0,AK h1 h2⟩
theorem Zv(h0:a+1<=b+4*(c+1)):a+1<=b+4+4*c:=ai h0 (bM (wZ b (4*c) 4))
theorem Zw:a+1<=0+4*(a/4+1):=(kD (4*(a/4+1))).symm▸Nat.lt_mul_div_succ a (by decide)
theorem Zx(h0:a+1<=4294967296)(h1:b+1<=4294967296):a+b*4294967296+1<=2^64:=zl (oJ (aM (fH h0) (rJ _ (fH h1)))) rfl
theorem Zy(h0:¬1<(↑a:Int)%256):a%256<=1:=t8 λh=>h0 (a_.mpr h)
theorem Zz:0<=(↑(a%256):Int)/\(↑(a%256):Int)<256:=⟨aT _,a_.mpr (eJ a (by decide))⟩
theorem ZA {a:Int}(h0:b+1<=128)(h1:(↑b:Int)=a):0<=a/\a<256:=h1▸⟨aT b,zj1 h0 rfl⟩
theorem ZC {a b:Int}(h0:a=b%128+128):0<=a/\a<256:=h0▸⟨Pf (jB _ (by decide)) (by decide),Int.add_lt_add_right (oD b (by decide)) 128⟩
theorem ZD(h0:a+1<=16384):a/128+1<=128:=(Gm (by decide)).mpr h0
theorem ZE(h0:a+1<=3):a=0\/a=1\/a=2:=(by decide:∀b,b<3->b=0\/b=1\/b=2) a h0
theorem ZF:(↑(a%3):Int)<1000000:=a_.mpr (jD (fH (eJ _ (by decide))) (aG rfl))
theorem ZG(h0:3=a+(b+1)):a=0\/a=1\/a=2:=(by decide:∀b,b<3->b=0\/b=1\/b=2) a (f9 h0.symm)
theorem ZH(h0:c=0->a<40)(h1:c=0->b=1)(h2:1=c+1):a-b+1<=39:=(h1 (nq h2.symm)).symm▸oJ (w6 (fH (h0 (nq h2.symm))) 1)
theorem ZI(h0:c=1->a<39)(h1:c=1->b=3)(h2:2=c+1):a-b+1<=36:=(h1 (nq h2.symm)).symm▸oJ (w6 (fH (h0 (nq h2.symm))) 3)
theorem ZJ(h0:c=2->a<36)(h1:c=2->b=9)(h2:3=c+1):a-b+1<=27:=(h1 (nq h2.symm)).symm▸oJ (w6 (fH (h0 (nq h2.symm))) 9)
theorem ZK:a%7=0\/a%7=1\/a%7=2\/a%7=3\/a%7=4\/a%7=5\/a%7=6:=(by decide:∀b,b<7->b=0\/b=1\/b=2\/b=3\/b=4\/b=5\/b=6) _ (eJ a (by decide))
theorem ZL(h0:b<=2):(1+a%3)*256+b+1<=1024:=zl (aM (aM (rJ _ (aM (aP _) (fH (eJ _ (by decide))))) h0) (aP _)) rfl
theorem ZM(h0:a+1<=b+1)(h1:b<=5):(↑a:Int)<=1000000000:=d6.mpr (zl (ai (ai (b6 _ _) h0) (aM h1 (aP _))) rfl)
theorem ZN(h0:a+1<=c)(h1:b=c+3+d+e):a+1<=b:=h1▸gN (gN (gN h0))
theorem ZO(h0:a<=39*e)(h1:b<=30)(h2:d<=6):a+(3+(b-c)+d)<=39*(e+1):=aM h0 (aM (kB (ai (kC b c) h1) 3) h2)
theorem ZP(h0:a<=b+1)(h1:b<=100):a<=100000:=zl (ai h0 (aM h1 (aP _))) rfl
theorem ZQ(h0:a<=b+1)(h1:b<=100):a+1<=4294967296:=zl (aM (ai h0 (aM h1 (aP _))) (aP _)) rfl
theorem ZR(h0:b+1<=c)(h1:c<=39*d)(h2:d<=100)(h3:a=b):a+1<=4294967296:=h3▸zl (ai h0 (ai h1 (bT 39 h2))) rfl
theorem ZS(h0:d+e<=100)(h1:a<=39*d)(h2:b<=30):a+3+(b-c)<=16777216:=zl (aM (aM (ai h1 (bT _ (ai (b6 _ _) h0))) (aP _)) (ai (kC _ _) h2)) rfl
theorem ZT {f:Nat}(h0:e+f<=100)(h1:a<=39*e)(h2:b<=30)(h3:d<=6):a+(b-c+1+1+1)+d<=16777216:=zl (aM (aM (ai h1 (bT _ (ai (b6 _ _) h0))) (aM (aM (aM (ai (kC _ _) h2) (aP _)) (aP _)) (aP _))) h3) rfl
theorem ZU(h0:b+c<=100)(h1:a<=b+1):a<=999999:=zl (ai h1 (aM (ai (b6 _ _) h0) (aP _))) rfl
theorem ZV(h0:a<=39*c)(h1:c<=100)(h2:b<=4):a+b<=16777216:=zl (aM (ai h0 (bT _ h1)) h2) rfl
theorem ZW(h0:c<=d+1)(h1:a<=39*d)(h2:d<=100)(h3:b<=4):a+b+4*c<=1000000:=zl (aM (aM (ai h1 (bT _ h2)) h3) (bT _ (ai h0 (aM h2 (aP _))))) rfl
theorem ZX(h0:c<=d+1)(h1:a<=39*d)(h2:d<=100)(h3:b<=4):a+b+4*c+4<=16777216:=zl (aM (aM (aM (ai h1 (bT _ h2)) h3) (bT _ (ai h0 (aM h2 (aP _))))) (aP _)) rfl
theorem ZY(h0:b<=9*c)(h1:a<=9):a+b<=9*(c+1):=ai (aM h1 h0) (bM (wY _ _))
theorem ZZ(h0:b<=9*c)(h1:c<=3)(h2:a<=b):a+1<=4294967296:=zl (aM (ai h2 (ai h0 (bT _ h1))) (aP _)) rfl
theorem Z0(h0:b<=9*c)(h1:c<=3)(h2:a=b+4*(c+1)+1):a<=1000000:=h2▸zl (dW (aM (ai h0 (bT 9 h1)) (bT 4 (oJ h1))) 1) rfl
theorem Z1(h0:a+b<=3):4*a+4<=16777216:=zl (aM (bT _ (ai (b6 _ _) h0)) (aP _)) rfl
theorem Z2(h0:a<=9*b)(h1:b<=3):a+4*b<=16777216:=zl (aM (ai h0 (bT _ h1)) (bT _ h1)) rfl
theorem Z3(h0:a<=9*b)(h1:b<=3):a+4*b+4<=16777216:=zl (aM (aM (ai h0 (bT _ h1)) (bT _ h1)) (aP _)) rfl
theorem Z4(h0:a<=9*b)(h1:b<=3):a+4*b<=16777211:=zl (aM (ai h0 (bT _ h1)) (bT _ h1)) rfl
theorem Z5(h0:a<=9*b)(h1:b<=3):a+4*b+4+(0+1)<=100:=zl (aM (aM (aM (ai h0 (bT _ h1)) (bT _ h1)) (aP _)) (aP _)) rfl
theorem Z6(h0:b+1<=c-a):a+b+1<=c:=Oz (x:=b) h0
theorem Z7(h0:a+b<=5)(h1:1<=c)(h2:c<=b):a<=4:=t9 (ai (kB (ai h1 h2) a) h0)
theorem Z8(h0:b+c<=5)(h1:1<=d)(h2:d<=c)(h3:a=b):a<=4:=h3▸t9 (ai (kB (ai h1 h2) b) h0)
theorem Z9(h0:a+b<=5)(h1:1<=c)(h2:c<=b):a+1+(b-c)<=5:=ai (lD a 1 (b-c)▸kB (wY 1 (b-c)▸ai (kB h1 (b-c)) (bM (jF h2))) a) h0
theorem Z_(h0:b+1<=2)(h1:¬1+(↑b:Int)<(↑a:Int)):a<=2:=ai (d6.mp (gQ.mp h1)) (wY 1 b▸h0)
theorem Z'(h0:b+c<=5)(h1:a<=c):(↑a:Int)-1<1000000:=FX (AL _ (by decide)) (zj (ai h1 (ai (cV c b) h0)) rfl)
theorem ad(h0:a+1<=c+1)(h1:1<=b)(h2:0<(↑a:Int)):a-b+1<=c:=ai (A4 (hV.mp h2) h1) (t9 h0)
theorem am(h0:b+c<=5)(h1:a<=c):(↑a:Int)<1000000:=zj (ai h1 (ai (cV c b) h0)) rfl
theorem ap(h0:b+1<=3)(h1:1+b=a):a<=5:=zl (ai (bM h1.symm) (aM (aP _) (ai (b6 _ _) h0))) rfl
theorem bv(h0:b+1<=14)(h1:a=b-6):a<=7:=h1▸w6 (fH h0) 6
theorem ca(h0:¬(↑c:Int)<5):¬(a=b/\0<c/\c<5):=λh=>h0 (a_.mpr h.2.2)
theorem ch(h0:b+5+d=c-a):a+b+5<=c:=(lD a b 5)▸Oz (x:=b+4) (rG h0)
theorem cr(h0:c<=44*e+12)(h1:a<=110*d)(h2:e<=2)(h3:b<=3):a+b+(c+5)<=110*(d+1):=ai (aM (aM h1 h3) (dW (Ao h0 h2 rfl:c<=100) 5)) (lD (110*d) 3 105▸kB (aG rfl:3+105<=110) _)
theorem db(h0:b<=44*c+12)(h1:a<=1000)(h2:c<=2):a+(b+5)<=16777216:=zl (aM h1 (aM (ai h0 (aM (bT _ h2) (aP _))) (aP _))) rfl
theorem dL(h0:a<=110*c)(h1:b<=3)(h2:d<=5)(h3:c+e=d):a+b<=1000:=zl (aM (ai h0 (bT _ (ai (ai (b6 _ _) (bM h3)) h2))) h1) rfl
theorem f8(h0:a=b+(c+1)):(↑(a-1-b):Int)=(↑a:Int)-1-(↑b:Int):=by subst h0;exact(gR (b6 b c)).trans (congrArg (·-(b:Int)) (gR (cV 1 (b+c))))
theorem im(h0:a<=110*c)(h1:d<=5)(h2:c+e=d):a+b%4<=16777216:=zl (aM (ai h0 (bT _ (ai (ai (b6 _ _) (bM h2)) h1))) (fH (eJ _ (by decide)))) rfl
theorem is(h0:¬(↑a:Int)%7≠0):¬(a%7≠0/\0<b/\c=0):=λh=>h0 λe=>h.1 (cU.mp e)
theorem jp(h0:c<=1)(h1:a<=2)(h2:b<=2):a+b+c<=5:=zl (aM (aM h1 h2) h0) rfl
theorem kt(h0:c<=1)(h1:a<=4)(h2:b<=5):a+b+c<=10:=zl (aM (aM h1 h2) h0) rfl
theorem kw(h0:b<=44*c+12)(h1:a<=2000)(h2:c<=3):a+(b+5)<=2500:=zl (aM h1 (aM (ai h0 (aM (bT _ h2) (aP _))) (aP _))) rfl
theorem lc(h0:b<=44*c+12)(h1:a<=2500)(h2:c<=5):a+(b+5)<=16777216:=zl (aM h1 (aM (ai h0 (aM (bT _ h2) (aP _))) (aP _))) rfl
theorem lf(h0:b<=44*d+12)(h1:c<=10)(h2:a<=2500)(h3:d<=5):a+(b+5)+c<=16777216:=zl (aM (aM h2 (aM (ai h0 (aM (bT _ h3) (aP _))) (aP _))) h1) rfl
theorem lm(h0:a<=10000)(h1:8=b):a+b<=16777216:=zl (aM h0 (bM h1.symm)) rfl
theorem ln(h0:¬(↑d:Int)%3≠0):¬(a=7/\0<b/\c=0/\d%3≠0):=λh=>h0 λe=>h.2.2.2 (cU.mp e)
theorem lw(h0:0<(↑b:Int))(h1:(↑a:Int)=7)(h2:0=(↑c:Int)%7)(h3:(↑c:Int)%3≠0):a=7/\0<b/\c%7=0/\c%3≠0:=⟨cU.mp h1,hV.mp h0,cU.mp h2.symm,λe=>h3 (congrArg F7 e)⟩
theorem mt {a:Prop}(h0:¬(↑c:Int)%7≠0):¬(a/\0<b/\c%7≠0/\0<d):=λh=>h0 λe=>h.2.2.1 (cU.mp e)
theorem pc {a:Prop}(h0:¬0<(↑d:Int)):¬(a/\0<b/\c≠0/\0<d):=λh=>h0 (hV.mpr h.2.2.2)
theorem pi(h0:¬(↑a:Int)≠5):¬(a≠5/\b=0/\c=0):=λh=>h0 λe=>h.1 (cU.mp e)
theorem pr(h0:(↑c:Int)=0)(h1:(↑b:Int)≠5):(↑a:Int)=0↔b≠5/\c=0/\a=0:=⟨λe=>⟨λk=>h1 (congrArg F7 k),cU.mp h0,cU.mp e⟩,λe=>congrArg F7 e.2.2⟩
theorem pt(h0:a<=110*c)(h1:b<=100)(h2:c<=5):a+(b+5)<=2000:=zl (aM (ai h0 (bT _ h2)) (aM h1 (aP _))) rfl
theorem pu {f g:Nat}(h0:c<=44*f+12)(h1:d<=44*g+12)(h2:a<=110*i)(h3:e<=10)(h4:b<=100)(h5:f<=3)(h6:g<=5)(h7:i<=5):a+(b+5)+(c+5)+(d+5)+e+(40-e)<=10000:=zl (aM (aM (aM (aM (aM (ai h2 (bT _ h7)) (aM h4 (aP _))) (aM (ai h0 (aM (bT _ h5) (aP _))) (aP _))) (aM (ai h1 (aM (bT _ h6) (aP _))) (aP _))) h3) (ai (kC _ _) (aP _))) rfl
theorem py(h0:¬0<(↑a:Int))(h1:¬(↑b:Int)≠(↑c:Int)):¬(0<a\/b≠c):=λh=>h.elim (λk=>h0 (hV.mpr k)) λk=>h1 λe=>k (cU.mp e)
theorem rc(h0:a+(c+1)=b):(↑a:Int)<(↑b:Int):=a_.mpr (f9 h0)
theorem re(h0:a<=b)(h1:¬(↑a:Int)=(↑b:Int)):a+1+(b-(a+1))=b:=rD (Fk h0 h1)
theorem sB(h0:1<(↑a:Int))(h1:¬a=2):¬a-2=0:=λe=>h1 (w2 (Gn e) (a_.mp h0))
theorem sK(h0:a<=3)(h1:1<(↑a:Int))(h2:¬a=2):1=a-2:=by obtain rfl:a=3:=w2 h0 (rH (a_.mp h1) (cN h2));rfl
theorem s4(h0:a<=3/\b<65536):a<=9/\b<65536:=h0.imp_left λh=>zl h rfl
theorem s5(h0:a+1<=b-c)(h1:b=c+1):0=a:=by subst h1;rw[nj]at h0;exact(PZ.mp (t9 h0)).symm
theorem tt {a:Prop}(h0:b+1<=c-d)(h1:c=d+0):a:=absurd (Qb c▸(h1▸h0:b+1<=c-c)) (Gv b)
theorem ul(h0:b+(c+1)=d)(h1:a=d+e):a-(b+1)+1=a-b:=zsb (h1▸gN (f9 h0))
theorem ut(h0:a+1<=16384):a/128+1<=256:=zl ((Gm (by decide)).mpr h0:a/128<128) rfl
theorem u8(h0:b+1<=16384)(h1:a=b/128):a+1<=128:=h1▸(Gm (by decide)).mpr h0
theorem v6(h0:a%128+128=b)(h1:a/128=c):a=b-128+c*128:=by subst h0 h1;rw[w1];exact(P6 a 128).symm
theorem wf {f g:Nat}(h0:c<=44*e+12)(h1:d<=44*f+12)(h2:a<=110*g)(h3:b<=100)(h4:e<=3)(h5:f<=5)(h6:g<=5):a+(b+5)+(c+5)+(d+5)<2000/\a<=550/\b<=100/\c<=144/\d<=232:=⟨jD (aM (aM (aM (ai h2 (bT _ h6)) (aM h3 (aP _))) (aM (ai h0 (aM (bT _ h4) (aP _))) (aP _))) (aM (ai h1 (aM (bT _ h5) (aP _))) (aP _))) (aG rfl),zl (ai h2 (bT _ h6)) rfl,zl h3 rfl,zl (ai h0 (aM (bT _ h4) (aP _))) rfl,zl (ai h1 (aM (bT _ h5) (aP _))) rfl⟩
theorem wl {f g:Nat}(h0:40-c=a)(h1:c=d+e+f+g+(0+0))(h2:b=d+(e+(f+g))):a=40-b:=h0▸congrArg (40- ·) (h1.trans (((lD (d+e) f g).trans (lD d e (f+g))).trans h2.symm))
theorem wn(h0:a+3+c+d<=e)(h1:e<=b):a+1<=b:=nk (nk (ai (gN (gN (aP _))) (ai h0 h1)))
theorem wp(h0:a+3+c+d<=e)(h1:e<=b):a+2<=b:=nk (ai (gN (gN (aP _))) (ai h0 h1))
theorem wr(h0:a+3+c+d<=e)(h1:e<=b):a+3<=b:=ai (gN (gN (aP _))) (ai h0 h1)
theorem wv(h0:b+3+c+d<=a):¬(↑a:Int)<(↑(b+2+1):Int)+(↑c:Int)+(↑d:Int):=gQ.mpr (d6.mpr h0)
theorem ww(h0:a+b+5<=c)(h1:c<=550):a+1<=10000:=zl (aM (ai (ai (ai (b6 _ _) (b6 _ _)) h0) h1) (aP _)) rfl
theorem wE(h0:a<=b)(h1:0=b-a):a=b:=w2 h0 (Gn h1.symm)
theorem wP(h0:0<b-a\/c=0):a<b\/c=0:=h0.imp_left P2
theorem wS(h0:b+a+5<=c)(h1:c+1<=2000):a+1<=10000:=zl (aM (ai (ai (ai (cV _ _) (b6 _ _)) h0) (ai (b6 _ _) h1)) (aP _)) rfl
theorem wT(h0:a+(c+1)=d)(h1:b=d+e):a+1<=b:=h1▸gN (f9 h0)
theorem xz(h0:0=a)(h1:¬b≠c):¬(0<a\/b≠c):=λh=>h.elim (λk=>jE k h0) h1
theorem xL:((a≠5/\b≠3/\c≠3)/\(c=0\/c=3))/\(b=0\/b=3)↔a≠5/\b=0/\c=0:=⟨λh=>⟨h.1.1.1,h.2.resolve_right h.1.1.2.1,h.1.2.resolve_right h.1.1.2.2⟩,λh=>⟨⟨⟨h.1,λe=>absurd (h.2.1.symm.trans e) (by decide),λe=>absurd (h.2.2.symm.trans e) (by decide)⟩,.inl h.2.2⟩,.inl h.2.1⟩⟩
theorem aaa(h0:a<=b)(h1:¬a=b):a+1+(b-(a+1))=b:=rD (zg h0 h1)
theorem aab(h0:b<=100)(h1:c<d/\a<b):a+1<=1000:=zl (ai h1.2 h0) rfl
theorem aac(h0:a+(b+1)=5):a=0\/a=1\/a=2\/a=3\/a=4:=(by decide:∀b,b<5->b=0\/b=1\/b=2\/b=3\/b=4) a (f9 h0)
theorem aad(h0:a+b=5):(↑a:Int)<1000000:=a_.mpr (jD (ai (b6 _ _) (bM h0)) (aG rfl))
theorem aae:a%5*256+b%2+1<=65536:=zl (aM (aM (rJ _ (fH (eJ _ (by decide)))) (fH (eJ _ (by decide)))) (aP _)) rfl
theorem aaf(h0:¬4<(↑a:Int)%9):a%9<=4:=t8 λh=>h0 (a_.mpr h)
theorem aag(h0:a+1<=b)(h1:b<=a+1):a=b-1:=(w2 h0 h1:a+1=b)▸rfl
theorem aah(h0:c+1<=d)(h1:e<=b)(h2:a=c)(h3:d=e):a+1<=b:=h2▸ai (ai h0 (bM h3)) h1
theorem aai(h0:a+1<=b)(h1:b<=100000):(↑a:Int)-1<1000000:=FX (AL _ (by decide)) (km h0 h1 rfl)
theorem aaj(h0:c+1<=b)(h1:(↑d:Int)<(↑c:Int))(h2:(d+c+1)/2=a):a+1<=b:=jD (h2▸Fo (a_.mp h1)) h0
theorem aak(h0:(↑b:Int)<(↑c:Int))(h1:(b+c+1)/2=a):1<=a:=ai (cV 1 b) (h1▸Fn (a_.mp h0))
theorem aal(h0:(↑c:Int)<(↑b:Int))(h1:(c+b+1)/2=a):a<=b:=h1▸Fo (a_.mp h0)
theorem aam(h0:(↑b:Int)<(↑c:Int))(h1:(b+c+1)/2=a):(↑(a-1):Int)=(↑a:Int)-1:=gR (ai (cV 1 b) (h1▸Fn (a_.mp h0)))
theorem aan(h0:(↑a:Int)<(↑c:Int))(h1:(a+c+1)/2=b):a<=b-1:=A1 (h1▸Fn (a_.mp h0))
theorem aao(h0:c+1<=b)(h1:(↑d:Int)<(↑c:Int))(h2:(d+c+1)/2=a):a-1+1<=b:=jD (kC a 1) (jD (h2▸Fo (a_.mp h1)) h0)
theorem aap {b:Int}(h0:a+1<=2^8)(h1:0<=b/\b<=255*(↑c:Int)):0<=(↑a:Int)+b/\(↑a:Int)+b<=255*(↑(c+1):Int):=⟨Pf (aT a) h1.1,wK (Int.add_le_add (d6.mpr (fH h0)) h1.2) (Int.le_of_eq ((Int.add_comm _ _).trans (Int.mul_add 255 c 1).symm))⟩
theorem aaq {a:Int}(h0:b<=16777216)(h1:0<=a/\a<=255*(↑(min c b):Int)):a<2^63:=AK h1.2 (a_.mpr (jD (bT 255 (ai (Gs c b) h0)) (aG rfl):255*min c b<2^63))
theorem aar(h0:c+d<=1000000)(h1:a=c)(h2:b=d):a+b<=16777216:=zl (aM (ai (bM h1) (ai (b6 _ _) h0)) (ai (bM h2) (ai (cV _ _) h0))) rfl
theorem aas(h0:2<=b)(h1:a<=c)(h2:b-1=c):a+1<=b:=jD (h2▸h1) (A4 (nk h0) Gw)
theorem aat(h0:b+1<=2)(h1:a=c)(h2:b=c):a+1<=64:=zl (aM (ai (bM h1) (ai (bM h2.symm) (ai (b6 _ _) h0))) (aP _)) rfl
theorem aau {a:Int}(h0:a.toNat+1<=c)(h1:b=c):a<(↑b:Int):=AK (Int.self_le_toNat a) (a_.mpr (h1▸h0))
theorem aav(h0:¬b<=a):a<=b-c+c:=ai (bx (Gq h0)) (Nat.le_add_of_sub_le (aP (b-c)))
theorem aaw(h0:1<=a)(h1:1<=b)(h2:¬a=b):a-1≠b-1:=λe=>h2 ((jF h0).symm.trans ((congrArg (·+1) e).trans (jF h1)))
theorem aax(h0:a<=b+1)(h1:c<=1000)(h2:b=c):a<=16777216+1:=zl (ai h0 (aM (ai (bM h2) h1) (aP _))) rfl
theorem aay(h0:0=a-b):a<=b:=Gn h0.symm
theorem vW(h0:a+b<=9000):a+1<=9900:=Am h0 rfl
theorem yJ(h0:a+b<=9000):a+51<=9200:=Am h0 rfl
theorem Dx(h0:b<=5)(h1:a=b):a+1<=64:=zea h1 h0 rfl
theorem Ln(h0:b<=30)(h1:a<=b):a+1<=128:=Ot h1 h0 rfl
theorem Lo(h0:a<=30):a-b+1<=128:=Fi h0 rfl
theorem Lp(h0:a<=44*b+12)(h1:b<=3):a+1<=16384:=Fm h0 h1 rfl
theorem Lq(h0:a+1<=2000):a+48<=1000000:=zt h0 rfl
theorem Lr:48<=a+48:=cV _ _
theorem aaz(h0:a<=b)(h1:¬b=a):a+1<=b:=rH h0 (cN h1)
theorem aaA(h0:a+1<=b+(c+1)):a+1<=b+1+c:=tM h0
theorem aaB(h0:a<=30):a+1<=200:=ai (dW h0 _) (aG rfl)
theorem aaC(h0:b<=30)(h1:a<=b):a+1<=16384:=Ot h1 h0 rfl
theorem aaD(h0:a<=30):a-b+1<=16384:=Fi h0 rfl
theorem aaE(h0:a<=6):a+1<=16384:=ai (dW h0 _) (aG rfl)
theorem aaF(h0:a+1<=10000):a+2001<=16384:=zt h0 rfl
theorem aaG(h0:b<=4)(h1:a=b):a<=5:=ai (bM h1) (ai h0 (aG rfl))
theorem aaH(h0:a<=44*b+12)(h1:b<=2):a+1<=10000:=Fm h0 h1 rfl
theorem aaI(h0:a<=100):a+1<=10000:=ai (dW h0 _) (aG rfl)
theorem aaJ(h0:a<=2500):a+1<=10000:=ai (dW h0 _) (aG rfl)
theorem aaK(h0:a<=44*b+12)(h1:b<=5):a+1<=10000:=Fm h0 h1 rfl
theorem aaL(h0:a<=2000):a+2001<=16384:=ai (dW h0 _) (aG rfl)
theorem aaM(h0:a<=2000):a+1<=16384:=ai (dW h0 _) (aG rfl)
theorem aaN:a%128+129<=256:=Ox rfl rfl
theorem aaO(h0:a<=144):a+1<=16384:=ai (dW h0 _) (aG rfl)
theorem aaP(h0:a<=232):a+1<=16384:=ai (dW h0 _) (aG rfl)
theorem aaQ(h0:a+1<=200):a<=1000000:=rq h0 rfl
theorem aaR(h0:a<=5):a<=1000:=ai h0 (aG rfl)
theorem aaS(h0:a<=550):a+1<=10000:=ai (dW h0 _) (aG rfl)
theorem aaT(h0:a+1<=3):a<=10:=rq h0 rfl
theorem aaU(h0:a+1<=200):a<=1000:=rq h0 rfl
theorem aaV(h0:a<=100000):a-1+1<=1000000:=Fi h0 rfl
theorem aaW(h0:a+b<=900):a+1<=1000:=Am h0 rfl
theorem aaX {a b c:Int}(h0:a<c)(h1:c<b):a<b:=FX h0 h1
theorem aaY(h0:a+1<=64):a<=16777216:=rq h0 rfl
theorem aaZ(h0:a+1<=64):a<=16777216+1:=rq h0 rfl
theorem aa0(h0:¬a<2):2<=a:=t8 h0
theorem Fp {m:Nat}(h:a<m)(q:bW m n=true):(a:Int).natAbs<n:=ua h (aG q)
theorem Ow(q:bW k n=true)(p:bW 1 k=true):((a:Int)%(k:Nat)).natAbs<n:=ua (eJ a (aG p)) (aG q)
theorem znl(h:b<=a):¬(a:Int)<(b:Int):=gQ.mpr (d6.mpr h)
theorem znk(h:b<a):¬(a:Int)<=(b:Int):=tX.mpr (a_.mpr h)
end
variable{A A':dn} {items:Array ae} {env:Env} {ce ee iter te:Expr} {K:Frag} {h h' o_ h₀:Heap} {es:List Expr} {data hk:List UInt8} {vs:List ae} {M:Model} {held:Option (List Bool)} {prog:qi} {cs sc scope:b7} {s s' cu s₀ s₁:au} {kind:Str->Option h_} {newId:String} {fl v:ae} {w:bF}
section
inductive PV where
 |none|bool (b:Bool)|int (i:Int)|str|bytes (l:List UInt8)|tup (l:List PV)|lst (l:List PV)|ref (a:Nat)
inductive AO where
 |inst (C:Nat) (fs:List (Nat×PV))
 |av (l:List PV)
abbrev aa:=Nat->Option AO
def ao (σ:aa) (b:Nat):Prop:=(σ b).isSome=true\/∃C fs,σ (b+1)=some (.inst C fs)
def upd (σ:aa) (a:Nat) (o:AO):aa:=λb=>if b=a then some o else σ b
theorem ay (σ:aa) (a:Nat) (o:AO):upd σ a o a=some o:=by simp[upd]
theorem aw (σ:aa) {a b:Nat} (o:AO) (h:b≠a):upd σ a o b=σ b:=by simp[upd,h]
mutual
inductive Rep (h:Heap) (O:Nat->Prop):ae->PV->Prop
 |none:Rep h O .none .none
 |bool (b:_):Rep h O (.bool b) (.bool b)
 |int (i t:_):Rep h O (.int i t) (.int i)
 |str (s t:_):Rep h O (.str s t) .str
 |bytes (b t:_):Rep h O (.bytes b t) (.bytes b.toList)
 |tup {a vs l}:IsTup h a vs->¬O a->aJ h O vs.toList l->Rep h O (.ref a) (.tup l)
 |lst {a vs l}:h.IsList a vs->¬O a->aJ h O vs.toList l->Rep h O (.ref a) (.lst l)
 |ref (a:_):Rep h O (.ref a) (.ref a)
inductive aJ (h:Heap) (O:Nat->Prop):List ae->List PV->Prop
 |nil:aJ h O [] []
 |cons {v vs p ps}:Rep h O v p->aJ h O vs ps->aJ h O (v::vs) (p::ps)
end
def ew (O:Nat->Prop) (h h':Heap):Prop:=∀a o xs n,h.get? a=some o->o.data=.seq xs n->¬O a->∃sl,h'.get? a=some {o with slots:=sl}
theorem IsTup.wi (k:ew O h h') {a vs} (x:IsTup h a vs) (n:¬O a):IsTup h' a vs:=by
 obtain⟨o,ho,hc,m,hd⟩:=x
 obtain⟨sl,e⟩:=k a o _ _ ho hd n
 exact⟨_,e,hc,m,hd⟩
theorem IsList.wi (k:ew O h h') {a vs} (x:h.IsList a vs) (n:¬O a):h'.IsList a vs:=by
 obtain⟨o,ho,hc,m,hd⟩:=x
 obtain⟨sl,e⟩:=k a o _ _ ho hd n
 exact⟨_,e,hc,m,hd⟩
theorem IsTup.alive {a vs} (x:IsTup h a vs):∃o,h.get? a=some o:=let⟨o,ho,_⟩:=x;⟨o,ho⟩
theorem IsList.alive {a vs} (x:h.IsList a vs):∃o,h.get? a=some o:=let⟨o,ho,_⟩:=x;⟨o,ho⟩
theorem aJ.ind {P:List ae->List PV->Prop} (n:P [] []) (c:∀{v vs p ps},Rep h O v p->aJ h O vs ps->P vs ps->P (v::vs) (p::ps)) {vs ps} (r:aJ h O vs ps):P vs ps:=
 aJ.rec (motive_1:=λ_ _ _=>True) (motive_2:=λvs ps _=>P vs ps) trivial (λ_=>trivial) (λ_ _=>trivial) (λ_ _=>trivial) (λ_ _=>trivial) (λ_ _ _ _=>trivial) (λ_ _ _ _=>trivial) (λ_=>trivial) n (λx y _ z=>c x y z) r
theorem Rep.mono (k:ew O h h') (n:∀a o,h.get? a=some o->¬O a->¬O' a) {v p} (r:Rep h O v p):Rep h' O' v p:=
 Rep.rec (motive_1:=λv p _=>Rep h' O' v p) (motive_2:=λvs ps _=>aJ h' O' vs ps) .none .bool .int .str .bytes
  (λx y _ z=>.tup (IsTup.wi k x y) (IsTup.alive x|>.elim λo ho=>n _ o ho y) z) (λx y _ z=>.lst (IsList.wi k x y) (IsList.alive x|>.elim λo ho=>n _ o ho y) z) .ref .nil (λ_ _ x y=>.cons x y) r
theorem aJ.mono (k:ew O h h') (n:∀a o,h.get? a=some o->¬O a->¬O' a) {v p} (r:aJ h O v p):aJ h' O' v p:=
 r.ind .nil λx _ z=>.cons (x.mono k n) z
theorem aJ.length {v p} (r:aJ h O v p):v.length=p.length:=
 r.ind (P:=λv p=>v.length=p.length) rfl λ_ _ z=>congrArg (· +1) z
theorem aJ.get {vs ps} (r:aJ h O vs ps):∀(i:Nat) (p:PV),ps[i]?=some p->∃v,vs[i]?=some v/\Rep h O v p:=
 r.ind (P:=λvs ps=>∀(i:Nat) (p:PV),ps[i]?=some p->∃v,vs[i]?=some v/\Rep h O v p) (λ_ _ e=>by cases e) λx _ z i p e=>by
  cases i with
  |zero=>exact⟨_,rfl,bN e▸x⟩
  |succ i=>exact z i p e
theorem aJ.append {vs ps ws qs} (r:aJ h O vs ps) (z:aJ h O ws qs):aJ h O (vs++ws) (ps++qs):=
 r.ind (P:=λvs ps=>aJ h O (vs++ws) (ps++qs)) z λx _ y=>.cons x y
theorem aJ.take {vs ps} (r:aJ h O vs ps):∀n:Nat,aJ h O (vs.take n) (ps.take n):=
 r.ind (P:=λvs ps=>∀n:Nat,aJ h O (vs.take n) (ps.take n)) (λn=>by cases n<;>exact .nil) λx _ y n=>by
  cases n with
  |zero=>exact .nil
  |succ n=>exact .cons x (y n)
theorem aJ.drop {vs ps} (r:aJ h O vs ps):∀n:Nat,aJ h O (vs.drop n) (ps.drop n):=
 r.ind (P:=λvs ps=>∀n:Nat,aJ h O (vs.drop n) (ps.drop n)) (λn=>by cases n<;>exact .nil) λx r y n=>by
  cases n with
  |zero=>exact .cons x r
  |succ n=>exact y n
theorem aJ.set {vs ps} (r:aJ h O vs ps):∀(n:Nat) {v p},Rep h O v p->aJ h O (vs.set n v) (ps.set n p):=
 r.ind (P:=λvs ps=>∀(n:Nat) {v p},Rep h O v p->aJ h O (vs.set n v) (ps.set n p)) (λn _ _ _=>.nil) λx r y n _ _ z=>by
  cases n with
  |zero=>exact .cons z r
  |succ n=>exact .cons x (y n z)
def Kp (S:Nat->Prop) (l:List Env) (h h':Heap):Prop:=∀b o,h.get? b=some o->¬S b->∃sl,h'.get? b=some {o with slots:=sl}/\((∀env∈l,env.frame≠some b)->sl=o.slots)
theorem Kp.refl {l:List Env}:Kp S l h h:=λ_ o e _=>⟨o.slots,e,λ_=>rfl⟩
theorem Kp.of_keeps {l:List Env} (k:∀b o,h.get? b=some o->h'.get? b=some o):Kp S l h h':=λb o e _=>⟨o.slots,k b o e,λ_=>rfl⟩
theorem Kp.y9 {l:List Env} (k:∀b o,h.get? b=some o->¬S b->h'.get? b=some o):Kp S l h h':=λb o e n=>⟨o.slots,k b o e n,λ_=>rfl⟩
theorem Kp.mono {T:Nat->Prop} {l:List Env} (k:Kp S l h h') (m:∀b,S b->T b):Kp T l h h':=λb o e n=>k b o e λx=>n (m b x)
theorem Kp.seq {l:List Env} (k:Kp S l h h') (m:∀b o xs n,h.get? b=some o->o.data=.seq xs n->S b->O b):ew O h h':=
 λa o xs n e d x=>let⟨sl,q,_⟩:=k a o e λz=>x (m a o xs n e d z);⟨sl,q⟩
theorem Kp.trans {T:Nat->Prop} {l l':List Env} (k:Kp S l h h') (k':Kp T l' h' o_) (m:∀b o,h.get? b=some o->T b->S b)
  (ml:∀b o,h.get? b=some o->(∀env∈l,env.frame≠some b)->∀env∈l',env.frame≠some b):Kp S l h o_:=λb o e n=>by
 obtain⟨sl,e',x⟩:=k b o e n
 obtain⟨pT,R',y⟩:=k' b _ e' λz=>n (m b o e z)
 exact⟨pT,R',λq=>(y (ml b o e q)).trans (x q)⟩
theorem Kp.alive {l:List Env} (k:Kp S l h h') {b o} (e:h.get? b=some o) (n:¬S b):∃o',h'.get? b=some o':=let⟨_,q,_⟩:=k b o e n;⟨_,q⟩
theorem Kp.exact {l:List Env} (k:Kp S l h h') {b o} (e:h.get? b=some o) (n:¬S b) (f:∀env∈l,env.frame≠some b):h'.get? b=some o:=by
 obtain⟨_,q,x⟩:=k b o e n
 rw[q,x f]
structure Rl (l:List Env) (σ:aa) (h:Heap) (σ':aa) (h':Heap):Prop where
 kp:Kp (ao σ) l h h'
 new:∀b,ao σ' b->ao σ b\/h.get? b=none
 old:∀b,ao σ b->ao σ' b
theorem Rl.refl {l:List Env} {σ:aa}:Rl l σ h σ h:=⟨Kp.refl,λ_ x=>.inl x,λ_ x=>x⟩
theorem UY {σ σ':aa} {l:List Env} (k:Kp S l h h') (hS:∀b o,h.get? b=some o->S b->ao σ b) (n:∀b,ao σ' b->ao σ b\/h.get? b=none):∀b,ao σ' b\/h'.get? b=none->ao σ b\/h.get? b=none:=λb z=>by
 rcases z with z|z
 ·exact n b z
 ·by_cases q:ao σ b
  ·exact .inl q
  ·refine .inr ?_
   cases e:h.get? b with
   |none=>rfl
   |some o=>obtain⟨_,e',_⟩:=k b o e λz=>q (hS b o e z);rw[z]at e';cases e'
theorem Rl.back {l:List Env} {σ σ':aa} (x:Rl l σ h σ' h'):∀b,ao σ' b\/h'.get? b=none->ao σ b\/h.get? b=none:=UY x.kp (λ_ _ _ z=>z) x.new
theorem Rl.trans {l:List Env} {σ σ' oy:aa} (x:Rl l σ h σ' h') (y:Rl l σ' h' oy o_):Rl l σ h oy o_:=by
 refine⟨x.kp.trans y.kp (λb o e z=>?_) λ_ _ _ z=>z,λb z=>x.back b (y.new b z),λb z=>y.old b (x.old b z)⟩
 rcases x.new b z with q|q
 ·exact q
 ·rw[e]at q;cases q
theorem Rl.of_keeps {l:List Env} {σ:aa} (k:∀b o,h.get? b=some o->h'.get? b=some o):Rl l σ h σ h':=⟨Kp.of_keeps k,λ_ x=>.inl x,λ_ x=>x⟩
theorem Rl.rep {l:List Env} {σ σ':aa} (x:Rl l σ h σ' h') {v p} (r:Rep h (ao σ) v p):Rep h' (ao σ') v p:=
 r.mono (x.kp.seq λ_ _ _ _ _ _ z=>z) λa o e n z=>(x.new a z).elim n λq=>by rw[e]at q;cases q
theorem Rl.jb {l:List Env} {σ σ':aa} (x:Rl l σ h σ' h') {v p} (r:aJ h (ao σ) v p):aJ h' (ao σ') v p:=
 r.mono (x.kp.seq λ_ _ _ _ _ _ z=>z) λa o e n z=>(x.new a z).elim n λq=>by rw[e]at q;cases q
def sf:Nat->List Obj->Frag
 |_,[]=>[]
 |n,o::r=>(n,o)::sf (n+1) r
theorem IE {o:Obj} {r:List Obj}:sf n (o::r)=(n,o)::sf (n+1) r:=rfl
theorem IF:∀(l:List Obj) (n a:Nat) (o:Obj),(sf n l).lookup a=some o->n<=a/\l[a-n]?=some o:=by
 intro bD
 induction bD with
 |nil=>
  intro n a o e
  cases e
 |cons x r ih=>
  intro n a o e
  simp only[IE,mq]at e
  by_cases q:a=n
  ·subst q;simp at e;subst e;simp
  ·rw[beq_eq_false_iff_ne.mpr q]at e
   obtain⟨h1,h2⟩:=ih (n+1) a o e
   refine⟨bx h1,?_⟩
   rw[show a-n=(a-(n+1))+1 by lia,List.getElem?_cons_succ];exact h2
noncomputable def KF (P:aV):Frag:=sf 0 (Head.K P)
theorem kf_in (y:Head.YP w h):(KF w.params).In h:=λa o e=>y a o (by simpa using(IF _ _ _ _ e).2)
end
variable{fs:List (Nat×PV)} {acc args l ps xs:List PV} {fp:Nat->PV} {p p' q y:PV} {Q R:PV->aa->Prop} {σ σ' oy σ₀ σ₁ τ υ:aa}
section
set_option genCtorIdx false
section
noncomputable def qT:List String:=["data","at","octets","most","ShortOctets","n","shift","turn","range","len","octet","Corrupt","MAX_64","read_groups","MAX_32","read_fixed32","kind","CHECK_CRC","crc32c","mask","CHECK_SUM","sum","BadOption","size","h","HASH_SEED","HASH_MUL","rest","HASH_SHIFT","ik","user","user_of","tag","tag_of","KIND_VALUE","TAG_LENGTH","bytes","read_fixed64","self","a","b","user_order","BytesOrder","c","compare","tag_a","tag_b","check","log_block","sync_writes","create_missing","paranoid","write_buffer","max_height","heights","block_size","restart_interval","filter_bits","filter_base_lg","max_file_size","num_levels","l0_trigger","l0_stop","base_bytes","level_factor","max_mem_level","grandparent_factor","expand_factor","order","count","limit","restarts","place","BlockIter","shared","read_varint32","unshared","length","value_at","end","entry_at","block","current","ahead","held_key","value_from","IterMisuse","need","lose","start","before","go_restart","parse","valid","target","narrow","left","right","side","standing","middle","found","restart_key","original","offset","read_varint","Handle","handle","TRAILER","body","checksum","PLAIN_TYPE","bits","probes","MOST_PROBES","key","held","wide","bloom_hash","delta","WORD","probe","bloom","base_lg","span","low","high","may_have","meta","index","row","FOOTER","tail","HANDLES_ROOM","MAGIC","handles","read_handle","Footer","options","footer","read_footer","body_end","read_block","Block","filters","metas","read_filters","verify","open_block","walker","walk","FILTER_KEY","seek","content","value","whole_handle","Bloom","FilterReader","TwoLevelIter","ikey","outer","inner","block_iter","seek_first","NotFound","seek_last","last","bound","verify_key","step","top","seq","split_ikey","maker","aside","enter","back","skip_ahead","skip_behind","tape","m","k","u","i","_law_var","pair","_law_fix","pairs","_law_take","x","_law_word","_law_rank","rows","more","out","marks","same","mark","fault","total","off","told","says","starts","what","blocks","_law_pairs","min","sep","seps","opts","wild","_law_wild","_law_tidy","max","victim","faults","places","offs","_law_key","_law_value","_law_block","_law_place","_law_sealed","_law_spans","magic","opens","rank","_law_denies","one","move","_law_front","_law_rear","_law_row","j","_law_at","_law_shown","table","get","offset_of","first_key","last_key","bad","_law_after","script","Options","tiny","_law_table","_law_clean","InternalOrder","Table","_law_stands","want","_law_move","_law_got","_law_want"]
noncomputable def nm (k:Nat):Str:=ie (qT.getD k "")
noncomputable def cT:Nat:=256
noncomputable def distinct:List Str->Bool
 |[]=>true
 |a::r=>!r.contains a&&distinct r
theorem R7 {a:Str} {r:List Str}:distinct (a::r)=(!r.contains a&&distinct r):=rfl
noncomputable def r5:Nat->List Nat->Bool
 |_,[]=>true
 |m,a::r=>!m.testBit a&&r5 (m|||1<<<a) r
theorem HO {m a:Nat} {r:List Nat}:r5 m (a::r)=(!m.testBit a&&r5 (m|||1<<<a) r):=rfl
theorem R6 {x:Nat} {l:List Nat}:∀{m:Nat},r5 m l=true->x∈l->m.testBit x=false:=by
 induction l with
 |nil=>intro m _ h;cases h
 |cons a r ih=>
  intro m h hx
  rw[HO,gO]at h
  rcases eP.mp hx with rfl|hx
  ·exact(Ay _).mp h.1
  ·have:=ih h.2 hx
   rw[Qe]at this
   exact(ON.mp this).1
theorem R5 {l:List Nat}:∀{m:Nat},r5 m l=true->∀(i j x:Nat),l[i]?=some x->l[j]?=some x->i=j:=by
 induction l with
 |nil=>intro m _ i j x e;cases e
 |cons a r ih=>
  intro m h i j x e f
  rw[HO,gO]at h
  have no:¬a∈r:=λz=>by
   have q:=R6 h.2 z
   rw[Qe,ON,Nat.testBit_shiftLeft]at q
   simp at q
  cases i with
  |zero=>
   cases j with
   |zero=>rfl
   |succ j=>cases e;exact absurd (gc (show r[j]?=_ from f)) no
  |succ i=>
   cases j with
   |zero=>cases f;exact absurd (gc (show r[i]?=_ from e)) no
   |succ j=>exact congrArg _ (ih h.2 i j x e f)
noncomputable def BE (s:Str):Nat:=s.cps.toList.foldl (λh c=>(h*21+c)%8191) 0
theorem MB:(r5 0 (qT.map λs=>BE (ie s))&&qT.length==cT)=true:=by fin2
theorem D8 {i j:Nat} (hi:i<cT) (hj:j<cT) (e:nm i=nm j):i=j:=by
 obtain⟨h1,h2⟩:=gO.mp MB
 have h2:qT.length=cT:=beq_iff_eq.mp h2
 have g:∀k,k<cT->(qT.map λs=>BE (ie s))[k]?=some (BE (nm k)):=λk hk=>by
  have hk:k<qT.length:=h2▸hk
  rw[mj,bQ hk];simp[nm,List.getD,bQ hk]
 exact R5 h1 i j _ (g i hi) (e▸g j hj)
set_option bootstrap.genMatcherCode false
set_option genInjectivity false
inductive MT where
 |nm (x:Nat)|tup (l:List Nat)
inductive ME where
 |none|bool (b:Bool)|int (i:Int)|neg (i:Int)|aQ (l:List UInt8)|str
 |v (x:Nat)|g (x:Nat)
 |bin (o:eR) (l r:ME)
 |cmp (o:f_) (l r:ME)
 |no (e:ME)|an (l:List ME)|or (l:List ME)
 |ite (t a b:ME)
 |tup (l:List ME)|lst (l:List ME)|n9 (l:List ME)
 |rep (l:List ME) (n:ME)|pM (l:List ME) (n:ME)
 |idx (o i:ME)|e9 (o:ME) (lo hi:Option ME)
 |at(o:ME) (x:Nat)
 |cf (f:Nat) (args:List ME)|cc (c:Nat) (args:List ME)|cm (o:ME) (m:Nat) (args:List ME)|cb (b:Nat) (args:List ME)
 |g' (e:ME) (f:Nat)|app (o x:ME)
 |fs (l:List ME)
 |cp (elt:ME) (t:MT) (src:ME) (cond:Option ME)
inductive ML where
 |nm (x:Nat)|at(o:ME) (x:Nat)|idx (o i:ME)|tup (l:List Nat)
inductive MS where
 |asg (t:ML) (e:ME)|aug (t:ML) (o:eR) (e:ME)|ex (e:ME)|ret (e:Option ME)
 |ite (c:ME) (a b:List MS)|dj (c:ME) (b:List MS)|fw (t:ML) (it:ME) (b:List MS)
 |rs (c:Nat) (args:List ME)|rr|tr (b:List MS) (hs:List (Nat×List MS))|ps
noncomputable def jZ (sc:b7) (s:Str):Bool:=sc.names.lookup s==some .globalImplicit&&!(s==("__debug__":Str))
noncomputable def sT (sc:b7) (s:Str):Bool:=(sc.names.lookup s==some .local||sc.names.lookup s==some .cell)&&!(s==("__debug__":Str))
noncomputable def inner (cs:b7):b7:={cs with names:=cs.names.map λ(n,k)=>if k==.free then(n,.cell)else(n,k)}
noncomputable def C4 (sc cs:b7) (l:List Str):Bool:=cs.kind==.function&&distinct (cs.names.map (·.1))&&(cs.names.all λ(n,k)=>k !=.local||n==(".0":Str)||l.contains n)&&cs.names.all λ(n,k)=>k !=.cell&&(k !=.free||sc.names.lookup n==some .cell)
noncomputable def kP (x:Nat):Bool:=iU x cT
noncomputable def okN (sc:b7):List Nat->Bool
 |[]=>true
 |x::r=>kP x&&sT sc (nm x)&&okN sc r
noncomputable def tw (sc:b7):MT->Bool
 |.nm x=>kP x&&sc.names.lookup (nm x)==some .local
 |.tup l=>okN sc l&&l.all λx=>sc.names.lookup (nm x)==some .local
noncomputable def EV:MT->List Str
 |.nm x=>[nm x]
 |.tup l=>l.map nm
noncomputable def kd:ME->Nat
 |.str=>5|.tup _=>14|.cp ..=>29|.v _=>6|.idx ..=>19|.at ..=>21|.cf ..=>22|.cm ..=>24|.bool _=>1|_=>0
noncomputable def v9 (m:ME):Bool:=!(bh (kd m) 5)
noncomputable def MD (m:ME):Bool:=!(bh (kd m) 14)
noncomputable def n_ (m:ME):Bool:=!(bh (kd m) 29)
noncomputable def tv:ME->Bool
 |.cf f _=>nm f !=("super":Str)
 |.cc f _=>nm f !=("super":Str)
 |.cb f _=>nm f !=("super":Str)
 |_=>true
noncomputable def jv:Expr:=.List [] ⟨0,0,0,0⟩
noncomputable def Vj:List Comprehension->List Expr
 |[]=>[]
 |g::_=>g.target::g.iter::g.ifs
noncomputable def g8:wL:=⟨none,jv,⟨0,0,0,0⟩⟩
noncomputable def view:Expr->List Expr×Nat×Str×b7×wL
 |.BoolOp _ l _=>(l,0,"",default,g8)
 |.BinOp l _ r _=>([l,r],0,"",default,g8)
 |.UnaryOp _ x _=>([x],0,"",default,g8)
 |.IfExp t a b _=>([t,a,b],0,"",default,g8)
 |.Compare l _ rs _=>(l::rs,0,"",default,g8)
 |.Call f as ks _=>(f::as,0,"",default,match ks with|[]=>g8|k::_=>k)
 |.JoinedStr l _=>(l,0,"",default,g8)
 |.FormattedValue v _ _ _=>([v],0,"",default,g8)
 |.Constant (.str s) k _=>([],k,s,default,g8)
 |.Constant _ k _=>([],k,"",default,g8)
 |.Attribute o _ _=>([o],0,"",default,g8)
 |.Subscript o i _=>([o,i],0,"",default,g8)
 |.List l _=>(l,0,"",default,g8)
 |.Tuple l k _=>(l,k,"",default,g8)
 |.Slice lo hi _ _=>([lo.getD jv,hi.getD jv],0,"",default,g8)
 |.ListComp e gs cs _=>(e::Vj gs,0,"",cs,g8)
 |_=>([],0,"",default,g8)
noncomputable def kids (e:Expr):List Expr:=(view e).1
noncomputable def hd:List Expr->Expr
 |[]=>jv
 |e::_=>e
noncomputable def bE (e:Expr):Expr:=hd (kids e)
noncomputable def dy (e:Expr):Expr:=hd (kids e).tail
noncomputable def n4 (e:Expr):Expr:=hd (kids e).tail.tail
noncomputable def s8 (e:Expr):Expr:=hd (kids e).tail.tail.tail
noncomputable def mR (e:Expr):Nat:=(view e).2.1
noncomputable def strOf (e:Expr):Str:=(view e).2.2.1
noncomputable def mE (e:Expr):b7:=(view e).2.2.2.1
noncomputable def yx (e:Expr):wL:=(view e).2.2.2.2
noncomputable def lW:List Nat->List Expr->List Expr
 |[],_=>[]
 |x::r,es=>.Name (nm x) (hd es).pos::lW r es.tail
noncomputable def kU:MT->Expr->Expr
 |.nm x,e=>.Name (nm x) e.pos
 |.tup l,e=>.Tuple (lW l (kids e)) (mR e) e.pos
mutual
noncomputable def mk:ME->Expr->Expr
 |.none,e=>.Constant .none (mR e) e.pos
 |.bool b,e=>.Constant (.bool b) (mR e) e.pos
 |.int i,e=>.Constant (.int i) (mR e) e.pos
 |.neg i,e=>.UnaryOp .USub (.Constant (.int i) (mR (bE e)) (bE e).pos) e.pos
 |.aQ l,e=>.Constant (.bytes l) (mR e) e.pos
 |.str,e=>.Constant (.str (strOf e)) (mR e) e.pos
 |.v x,e=>.Name (nm x) e.pos
 |.g x,e=>.Name (nm x) e.pos
 |.bin o l r,e=>.BinOp (mk l (bE e)) o (mk r (dy e)) e.pos
 |.cmp o l r,e=>.Compare (mk l (bE e)) [o] [mk r (dy e)] e.pos
 |.no m,e=>.UnaryOp .Not (mk m (bE e)) e.pos
 |.an l,e=>.BoolOp .And (ct l (kids e)) e.pos
 |.or l,e=>.BoolOp .Or (ct l (kids e)) e.pos
 |.ite t a b,e=>.IfExp (mk t (bE e)) (mk a (dy e)) (mk b (n4 e)) e.pos
 |.tup l,e=>.Tuple (ct l (kids e)) (mR e) e.pos
 |.lst l,e=>.List (ct l (kids e)) e.pos
 |.n9 l,e=>.List (ct l (kids e)) e.pos
 |.rep l n,e=>.BinOp (.List (ct l (kids (bE e))) (bE e).pos) .Mult (mk n (dy e)) e.pos
 |.pM l n,e=>.BinOp (.List (ct l (kids (bE e))) (bE e).pos) .Mult (mk n (dy e)) e.pos
 |.idx o i,e=>.Subscript (mk o (bE e)) (mk i (dy e)) e.pos
 |.e9 o lo hi,e=>.Subscript (mk o (bE e)) (.Slice (yW lo (bE (dy e))) (yW hi (dy (dy e))) none (dy e).pos) e.pos
 |.at o x,e=>.Attribute (mk o (bE e)) (nm x) e.pos
 |.cf f as,e=>.Call (.Name (nm f) (bE e).pos) (ct as (kids e).tail) [] e.pos
 |.cc f as,e=>.Call (.Name (nm f) (bE e).pos) (ct as (kids e).tail) [] e.pos
 |.cb f as,e=>.Call (.Name (nm f) (bE e).pos) (ct as (kids e).tail) [] e.pos
 |.g' m f,e=>.Call (.Name "sorted" (bE e).pos) [mk m (dy e)] [⟨some "key",.Name (nm f) (yx e).value.pos,(yx e).pos⟩] e.pos
 |.app o x,e=>.Call (.Attribute (mk o (bE (bE e))) "append" (bE e).pos) [mk x (dy e)] [] e.pos
 |.cm o m as,e=>.Call (.Attribute (mk o (bE (bE e))) (nm m) (bE e).pos) (ct as (kids e).tail) [] e.pos
 |.fs l,e=>.JoinedStr (vY l (kids e)) e.pos
 |.cp m t src c,e=>.ListComp (mk m (bE e)) [⟨kU t (dy e),mk src (n4 e),lX c (s8 e),0⟩] (mE e) e.pos
noncomputable def ct:List ME->List Expr->List Expr
 |[],_=>[]
 |m::ms,es=>mk m (hd es)::ct ms es.tail
noncomputable def yW:Option ME->Expr->Option Expr
 |none,_=>none
 |some m,e=>some (mk m e)
noncomputable def lX:Option ME->Expr->List Expr
 |none,_=>[]
 |some m,e=>[mk m e]
noncomputable def vY:List ME->List Expr->List Expr
 |[],_=>[]
 |m::ms,es=>(bif v9 m then .FormattedValue (mk m (bE (hd es))) (-1) none (hd es).pos else .Constant (.str (strOf (hd es))) (mR (hd es)) (hd es).pos)::vY ms es.tail
end
mutual
noncomputable def ok:ME->b7->Expr->Bool
 |.v x,sc,_=>kP x&&sT sc (nm x)
 |.g x,sc,_=>kP x&&jZ sc (nm x)
 |.bin _ l r,sc,e=>ok l sc (bE e)&&ok r sc (dy e)
 |.cmp _ l r,sc,e=>ok l sc (bE e)&&ok r sc (dy e)
 |.no m,sc,e=>ok m sc (bE e)
 |.an l,sc,e=>gG l sc (kids e)
 |.or l,sc,e=>gG l sc (kids e)
 |.ite t a b,sc,e=>ok t sc (bE e)&&ok a sc (dy e)&&ok b sc (n4 e)
 |.tup l,sc,e=>gG l sc (kids e)
 |.lst l,sc,e=>gG l sc (kids e)
 |.n9 l,sc,e=>gG l sc (kids e)
 |.rep l n,sc,e=>gG l sc (kids (bE e))&&ok n sc (dy e)
 |.pM l n,sc,e=>gG l sc (kids (bE e))&&ok n sc (dy e)
 |.idx o i,sc,e=>ok o sc (bE e)&&ok i sc (dy e)
 |.e9 o lo hi,sc,e=>ok o sc (bE e)&&ze lo sc (bE (dy e))&&ze hi sc (dy (dy e))
 |.at o x,sc,e=>kP x&&ok o sc (bE e)&&tv o
 |.cf f as,sc,e=>jZ sc (nm f)&&gG as sc (kids e).tail
 |.cc f as,sc,e=>jZ sc (nm f)&&gG as sc (kids e).tail
 |.cb f as,sc,e=>jZ sc (nm f)&&gG as sc (kids e).tail
 |.g' m f,sc,e=>jZ sc (nm f)&&jZ sc ("sorted":Str)&&ok m sc (dy e)
 |.app o x,sc,e=>(bE e).pos.endLine==e.pos.line&&ok o sc (bE (bE e))&&ok x sc (dy e)&&tv o
 |.cm o m as,sc,e=>(bE e).pos.endLine==e.pos.line&&iU as.length 30&&kP m&&ok o sc (bE (bE e))&&gG as sc (kids e).tail&&tv o
 |.fs l,sc,e=>Ef l sc (kids e)
 |.cp m t src c,sc,e=>C4 sc (mE e) (EV t)&&ok src sc (n4 e)&&tw (inner (mE e)) t&&ok m (inner (mE e)) (bE e)&&tx c (inner (mE e)) (s8 e)
 |_,_,_=>true
noncomputable def gG:List ME->b7->List Expr->Bool
 |[],_,_=>true
 |m::ms,sc,es=>ok m sc (hd es)&&gG ms sc es.tail
noncomputable def ze:Option ME->b7->Expr->Bool
 |none,_,_=>true
 |some m,sc,e=>ok m sc e
noncomputable def tx:Option ME->b7->Expr->Bool
 |none,_,_=>true
 |some m,sc,e=>ok m sc e
noncomputable def Ef:List ME->b7->List Expr->Bool
 |[],_,_=>true
 |m::ms,sc,es=>(bif v9 m then ok m sc (bE (hd es))else bW (strOf (hd es)).length 1000)&&Ef ms sc es.tail
end
noncomputable def abw:Stmt:=.Pass ⟨0,0,0,0⟩
noncomputable def abv:hO:=.ExceptHandler none none [] ⟨0,0,0,0⟩
noncomputable def wz:Stmt->Expr×Expr×List Stmt×List Stmt×List hO
 |.Assign ts v _=>(hd ts,v,[],[],[])
 |.AugAssign t _ v _=>(t,v,[],[],[])
 |.Expr v _=>(jv,v,[],[],[])
 |.Return (some v) _=>(jv,v,[],[],[])
 |.If c a b _=>(jv,c,a,b,[])
 |.While c a _ _=>(jv,c,a,[],[])
 |.For t it a _ _=>(t,it,a,[],[])
 |.Raise (some v) _ _=>(jv,v,[],[],[])
 |.Try a hs _ _ _=>(jv,jv,a,[],hs)
 |_=>(jv,jv,[],[],[])
noncomputable def kg (s:Stmt):Expr:=(wz s).1
noncomputable def b5 (s:Stmt):Expr:=(wz s).2.1
noncomputable def aS (s:Stmt):List Stmt:=(wz s).2.2.1
noncomputable def bS (s:Stmt):List Stmt:=(wz s).2.2.2.1
noncomputable def hS (s:Stmt):List hO:=(wz s).2.2.2.2
noncomputable def I2:List Stmt->Stmt
 |[]=>abw
 |s::_=>s
noncomputable def va:List hO->hO
 |[]=>abv
 |s::_=>s
noncomputable def tH:hO->Expr
 |.ExceptHandler (some e) _ _ _=>e
 |_=>jv
noncomputable def bH:hO->List Stmt
 |.ExceptHandler _ _ b _=>b
noncomputable def pH:hO->Pos
 |.ExceptHandler _ _ _ p=>p
noncomputable def pL:ML->Expr->Expr
 |.nm x,e=>.Name (nm x) e.pos
 |.at o x,e=>.Attribute (mk o (bE e)) (nm x) e.pos
 |.idx o i,e=>.Subscript (mk o (bE e)) (mk i (dy e)) e.pos
 |.tup l,e=>.Tuple (lW l (kids e)) (mR e) e.pos
noncomputable def v_:ML->b7->Expr->Bool
 |.nm x,sc,_=>kP x&&sT sc (nm x)
 |.at o x,sc,e=>kP x&&ok o sc (bE e)
 |.idx o i,sc,e=>ok o sc (bE e)&&ok i sc (dy e)
 |.tup l,sc,_=>okN sc l
mutual
noncomputable def Mm:MS->Stmt->Stmt
 |.asg t m,s=>.Assign [pL t (kg s)] (mk m (b5 s)) s.pos
 |.aug t o m,s=>.AugAssign (pL t (kg s)) o (mk m (b5 s)) s.pos
 |.ex m,s=>.Expr (mk m (b5 s)) s.pos
 |.ret m,s=>.Return (yW m (b5 s)) s.pos
 |.ite m a b,s=>.If (mk m (b5 s)) (jt a (aS s)) (jt b (bS s)) s.pos
 |.dj m b,s=>.While (mk m (b5 s)) (jt b (aS s)) [] s.pos
 |.fw t m b,s=>.For (pL t (kg s)) (mk m (b5 s)) (jt b (aS s)) [] s.pos
 |.rs c as,s=>.Raise (some (.Call (.Name (nm c) (bE (b5 s)).pos) (ct as (kids (b5 s)).tail) [] (b5 s).pos)) none s.pos
 |.rr,s=>.Raise none none s.pos
 |.tr b hs,s=>.Try (jt b (aS s)) (D1 hs (hS s)) [] [] s.pos
 |.ps,s=>.Pass s.pos
noncomputable def jt:List MS->List Stmt->List Stmt
 |[],_=>[]
 |m::ms,ss=>Mm m (I2 ss)::jt ms ss.tail
noncomputable def D1:List (Nat×List MS)->List hO->List hO
 |[],_=>[]
 |(c,b)::hs,l=>.ExceptHandler (some (.Name (nm c) (tH (va l)).pos)) none (jt b (bH (va l))) (pH (va l))::D1 hs l.tail
end
mutual
noncomputable def MR:MS->b7->Stmt->Bool
 |.asg t m,sc,s=>v_ t sc (kg s)&&ok m sc (b5 s)
 |.aug t _ m,sc,s=>v_ t sc (kg s)&&ok m sc (b5 s)
 |.ex m,sc,s=>ok m sc (b5 s)&&n_ m
 |.ret m,sc,s=>ze m sc (b5 s)
 |.ite m a b,sc,s=>ok m sc (b5 s)&&k9 a sc (aS s)&&k9 b sc (bS s)
 |.dj m b,sc,s=>ok m sc (b5 s)&&k9 b sc (aS s)
 |.fw t m b,sc,s=>v_ t sc (kg s)&&ok m sc (b5 s)&&k9 b sc (aS s)
 |.rs c as,sc,s=>jZ sc (nm c)&&gG as sc (kids (b5 s)).tail
 |.tr b hs,sc,s=>k9 b sc (aS s)&&Eg hs sc (hS s)
 |_,_,_=>true
noncomputable def k9:List MS->b7->List Stmt->Bool
 |[],_,_=>true
 |m::ms,sc,ss=>MR m sc (I2 ss)&&k9 ms sc ss.tail
noncomputable def Eg:List (Nat×List MS)->b7->List hO->Bool
 |[],_,_=>true
 |(c,b)::hs,sc,l=>jZ sc (nm c)&&k9 b sc (bH (va l))&&!b.isEmpty&&Eg hs sc l.tail
end
end
theorem mU {x:Nat} (h:kP x=true):x<cT:=of_decide_eq_true (by simpa[kP]using h)
theorem D0 (m:ME) (e:Expr) (r:List Expr) (env:Env):fE (mk m e::r) env=(false,eval (mk m e) env)::fE r env:=by cases m<;>rfl
theorem abj (m:ME) (e:Expr) (o i:ae):subscripted (mk m e) false o i=operate [o,i] (getItem o i):=by cases m<;>rfl
theorem vX {m:ME} (h:n_ m=true) (e:Expr) {t:Option Expr} {l:Nat} {env:Env}:EU (mk m e) t l env=pure false:=by cases m<;>first|rfl|exact absurd h hH
end
variable{ms:List ME} {rest:List MS} {m:ME} {bX:Option ME}
section
section
noncomputable abbrev pw:qi:=Head.pw
noncomputable def bG (A:dn):List Env:=A.frames.getD []
noncomputable def FieldsAt (h:Heap) (O:Nat->Prop):List jf->List (Nat×PV)->Prop
 |[],[]=>True
 |e::es,(k,p)::fs=>(∃t,e.key=.str (nm k) t)/\k<cT/\Rep h O e.val p/\FieldsAt h O es fs
 |_,_=>False
inductive jC (h:Heap) (a:Nat) (vs:Array ae):Prop
 |mk (o:_) (g:h.get? a=some o) (c:o.cls=.type "list") (d:o.dict=none) (n:_) (k:o.data=.seq vs n)
theorem jC.isList {vs:Array ae} (x:jC h a vs):h.IsList a vs:=x.rec λo ho hc _ n hd=>⟨o,ho,hc,n,hd⟩
theorem jC.alive {vs:Array ae} (x:jC h a vs):∃o,h.get? a=some o:=x.rec λo ho _ _ _ _=>⟨o,ho⟩
inductive AH (h:Heap) (O:Nat->Prop) (a:Nat) (C:Nat) (fs:List (Nat×PV)):Prop
 |mk (p:0<a) (sl) (g:h.get? a=some ⟨.ref C,some (a-1),.plain,sl⟩) (es n fB:_) (g2:h.get? (a-1)=some ⟨.type "dict",none,.dict es n,fB⟩) (f:FieldsAt h O es.toList fs)
noncomputable def w7 (h:Heap) (O:Nat->Prop) (a:Nat):AO->Prop
 |.inst C fs=>AH h O a C fs
 |.av l=>∃vs,jC h a vs/\aJ h O vs.toList l
structure Cn (w:bF) (σ:aa) (h:Heap):Prop where
 base:(KF w.params).In h
 at_:∀a o,σ a=some o->w7 h (ao σ) a o
 lo:∀b,ao σ b->1070<=b
 apart:∀a C fs,σ a=some (.inst C fs)->σ (a-1)=none
inductive O_ (env:Env) (σ:aa) (h:Heap):Prop
 |mk (k:env.scope.kind≠.module) (L o:_) (f:env.frame=some L) (g:h.get? L=some o) (d:∃es n,o.data=.dict es n) (n:¬ao σ L) (lo:1070<=L)
noncomputable def mh (l:List Env) (σ:aa) (h:Heap):Prop:=∀env∈l,O_ env σ h
structure Lv (d:Nat) (A:dn):Prop where
 depth:A.depth+d<=900
 units:A.units+6*d<=9000
structure cI (d:Nat) (nh:Bool) (w:bF) (A:dn) (σ:aa) (s:au):Prop where
 lv:Lv d A
 hd:nh=true->A.handled=none
 cn:Cn w σ s.heap
 fr:A.frames=some (bG A)
 ok:mh (bG A) σ s.heap
 gens:s.gens=#[]
structure aF (w:bF) (A:dn) (σ:aa) (s:au) (σ':aa) (s':au):Prop where
 same:∃h' tk,s'={s with heap:=h',toks:=tk}
 cn:Cn w σ' s'.heap
 rl:Rl (bG A) σ s.heap σ' s'.heap
theorem FieldsAt.mono (k:ew O h h') (n:∀a o,h.get? a=some o->¬O a->¬O' a):∀{es fs},FieldsAt h O es fs->FieldsAt h' O' es fs
 |[],[],_=>trivial
 |_::_,(_,_)::_,⟨a,b,c,d⟩=>⟨a,b,c.mono k n,FieldsAt.mono k n d⟩
theorem G7 (P:aV):(Head.K P).length=1070:=by fin2
theorem G8 {P:aV} {o:Obj} (e:(KF P).lookup c=some o):c<1070:=
 Nat.lt_of_lt_of_eq (eh.mp (IF _ _ _ _ e).2).1 (G7 P)
theorem Bm (b:(KF w.params).In h) {a:Nat} (ha:1070<=a) (hs:∀b,b≠a->h'.get? b=h.get? b):(KF w.params).In h':=λc o e=>
 (hs c λz=>absurd (z▸G8 e:a<1070) (w4.mpr ha)).trans (b c o e)
theorem w7.mv {o:AO} (x:w7 h O a o) (k:∀ob,h.get? a=some ob->h'.get? a=some ob) (k2:∀C fs,o=.inst C fs->∀ob,h.get? (a-1)=some ob->h'.get? (a-1)=some ob)
  (q:ew O h h') (n:∀a o,h.get? a=some o->¬O a->¬O' a):w7 h' O' a o:=by
 cases o with
 |inst C fs=>
  obtain⟨h0,sl,e1,es,m,fB,e2,f⟩:=x
  exact⟨h0,sl,k _ e1,es,m,fB,k2 _ _ rfl _ e2,f.mono q n⟩
 |av l=>
  obtain⟨vs,⟨o,ho,h1,h2,m,h3⟩,r⟩:=x
  exact⟨vs,⟨o,k _ ho,h1,h2,m,h3⟩,r.mono q n⟩
theorem AH.pos {C:Nat} (x:AH h O a C fs):0<a:=x.rec λp _ _ _ _ _ _ _=>p
theorem k_ (c:Cn w σ h) {b:Nat} (o:ao σ b):∃x,h.get? b=some x:=by
 rcases o with o|⟨C,fs,o⟩
 ·obtain⟨x,hx⟩:=GA.mp o
  have:=c.at_ b x hx
  cases x with
  |inst C fs=>obtain⟨_,sl,e,_⟩:=this;exact⟨_,e⟩
  |av l=>obtain⟨vs,e,_⟩:=this;obtain⟨o,q⟩:=jC.alive e;exact⟨o,q⟩
 ·obtain⟨_,_,_,es,n,sl,e,_⟩:=c.at_ _ _ o
  exact⟨_,e⟩
theorem Cn.keep (c:Cn w σ h) (b:(KF w.params).In h') (k:∀a o,h.get? a=some o->ao σ a->∃sl,h'.get? a=some {o with slots:=sl})
  (q:ew (ao σ) h h'):Cn w σ h':=by
 refine⟨b,λa o e=>?_,c.lo,c.apart⟩
 have own:ao σ a:=.inl (by rw[e];rfl)
 have:=c.at_ a o e
 cases o with
 |inst C fs=>
  obtain⟨h0,sl,e1,es,n,fB,e2,f⟩:=this
  obtain⟨pT,BR⟩:=k _ _ e1 own
  obtain⟨acz,Sa⟩:=k _ _ e2 (.inr ⟨C,fs,by rw[jF h0];exact e⟩)
  exact⟨h0,pT,BR,es,n,acz,Sa,f.mono q λ_ _ _ z=>z⟩
 |av l=>
  obtain⟨vs,⟨o,ho,hc,vc,m,hd⟩,r⟩:=this
  obtain⟨pT,BR⟩:=k _ _ ho own
  exact⟨vs,⟨_,BR,hc,vc,m,hd⟩,r.mono q λ_ _ _ z=>z⟩
theorem Cn.keeps (c:Cn w σ h) (k:∀b o,h.get? b=some o->h'.get? b=some o):Cn w σ h':=
 c.keep (c.base.keeps k) (λa o e _=>⟨o.slots,k a o e⟩) λa o _ _ e _ _=>⟨o.slots,k a o e⟩
theorem mh.rl {l:List Env} (x:mh l σ h) (r:Kp (ao σ) l h h') (n:∀b,ao σ' b->ao σ b\/h.get? b=none):mh l σ' h':=λenv m=>by
 obtain⟨hk,L,o,hf,ho,⟨es,ep,hd⟩,hn,CB⟩:=x env m
 obtain⟨sl,e,_⟩:=r L o ho hn
 exact⟨hk,L,_,hf,e,⟨es,ep,hd⟩,(λz=>(n L z).elim hn λq=>by replace q:=ho▸q;cases q),CB⟩
theorem nn {α:Type} {a:α} {P:Prop} (h:none=some a):P:=by cases h
theorem ff {P:Prop} (h:false=true):P:=by cases h
theorem ns2 {α:Type} {o:Option α} {a:α} {P:Prop} (h:o=none) (e:o=some a):P:=nn (h.symm.trans e)
theorem tC (x:∃h' tk,s'={s with heap:=h',toks:=tk}):s'.gens=s.gens:=by obtain⟨_,_,rfl⟩:=x;rfl
theorem tD (x:∃h' tk,s'={s with heap:=h',toks:=tk}) {h:Heap} {t:Nat}:∃h' tk,({s' with heap:=h,toks:=t}:au)={s with heap:=h',toks:=tk}:=by obtain⟨_,_,rfl⟩:=x;exact⟨h,t,rfl⟩
theorem EH (x:∃h' tk,s'={s with heap:=h',toks:=tk}) (y:∃h' tk,cu={s' with heap:=h',toks:=tk}):∃h' tk,cu={s with heap:=h',toks:=tk}:=by obtain⟨_,_,rfl⟩:=y;exact tD x
theorem aF.refl (c:Cn w σ s.heap):aF w A σ s σ s:=⟨⟨s.heap,s.toks,rfl⟩,c,Rl.refl⟩
theorem aF.tok (c:Cn w σ s.heap) (t:Nat):aF w A σ s σ {s with toks:=t}:=⟨⟨s.heap,t,rfl⟩,c,Rl.refl⟩
theorem aF.keeps (c:Cn w σ s.heap) (k:∀b o,s.heap.get? b=some o->h'.get? b=some o):aF w A σ s σ {s with heap:=h',toks:=t}:=
 ⟨⟨h',t,rfl⟩,c.keeps k,Rl.of_keeps k⟩
theorem aF.trans (x:aF w A σ s σ' s') (y:aF w A σ' s' oy cu):aF w A σ s oy cu:=⟨EH x.same y.same,y.cn,x.rl.trans y.rl⟩
theorem cI.out (i:cI d nh w A σ s) (o:aF w A σ s σ' s'):cI d nh w A σ' s':=
 ⟨i.lv,i.hd,o.cn,i.fr,i.ok.rl o.rl.kp o.rl.new,(tC o.same).trans i.gens⟩
inductive Ex where
 |short|b_|j_|rP|ja
noncomputable def iq:Ex->Nat
 |.b_=>56|.short=>68|.j_=>80|.rP=>92|.ja=>104
set_option genInjectivity false in
inductive ur where
 |fresh|tr (fl:ae)
inductive O0 (h₀:Heap) (e:Nat) (σ:aa) (h:Heap) (vs:Array ae) (fl:ae):Prop
 |mk (T oT ts) (a:vs[1]?=some (.ref T)) (b:h₀.get? T=none) (c:¬ao σ T) (d:T≠e) (g:h.get? T=some oT) (k:oT.data=.fields ts) (l:ts[3]?=some fl)
noncomputable def OZ (h₀:Heap) (e:Nat) (σ:aa) (h:Heap) (vs:Array ae):ur->Prop
 |.fresh=>vs[1]?=some .none
 |.tr fl=>O0 h₀ e σ h vs fl
inductive gq (st:ur) (h₀:Heap) (e:Nat) (ex:Ex) (σ:aa) (h:Heap):Prop
 |mk (a:h₀.get? e=none) (b:¬ao σ e) (oe vs a0:_) (c:h.get? e=some oe) (d:oe.cls=.ref (iq ex)) (k:oe.data=.fields vs) (l:vs[0]?=some a0) (t:OZ h₀ e σ h vs st)
theorem gq.back {st:ur} {dT:Heap} {ex:Ex} (x:gq st dT e ex σ h) (b:∀b,dT.get? b=none->ao σ₀ b\/h₀.get? b=none) (o:∀b,ao σ₀ b->ao σ b):gq st h₀ e ex σ h:=by
 obtain⟨h1,h2,oe,vs,a0,h3,h4,h5,h6,h7⟩:=x
 refine⟨(b e h1).resolve_left λz=>h2 (o e z),h2,oe,vs,a0,h3,h4,h5,h6,?_⟩
 cases st with
 |fresh=>exact h7
 |tr fl=>
  obtain⟨T,oT,ts,k1,k2,k3,k4,k5,k6,k7⟩:=h7
  exact⟨T,oT,ts,k1,(b T k2).resolve_left λz=>k3 (o T z),k3,k4,k5,k6,k7⟩
noncomputable abbrev af:=List (Nat×PV)
noncomputable def get:af->Nat->Option PV
 |[],_=>none
 |(k,p)::r,x=>bif bh k x then some p else get r x
noncomputable def put:af->Nat->PV->af
 |[],x,p=>[(x,p)]
 |(k,q)::r,x,p=>bif bh k x then(k,p)::r else(k,q)::put r x p
theorem u1:get [] x=none:=rfl
theorem mH {r:af}:get ((k,p)::r) x=bif bh k x then some p else get r x:=rfl
theorem M4:put [] x p=[(x,p)]:=rfl
theorem Eo {r:af}:put ((k,q)::r) x p=bif bh k x then(k,p)::r else(k,q)::put r x p:=rfl
theorem cJ (ρ:af) (x:Nat) (p:PV) (y:Nat):get (put ρ x p) y=if y=x then some p else get ρ y:=by
 induction ρ with
 |nil=>
  simp only[M4,Eo,u1,mH]
  by_cases h:y=x
  ·subst h;simp
  ·have:bh x y=false:=by cases q:bh x y with|false=>rfl|true=>exact absurd (fG q).symm h
   simp[h,this]
 |cons a r ih=>
  obtain⟨k,q⟩:=a
  simp only[Eo]
  cases sH:bh k x with
  |true=>
   have e:=fG sH
   subst e
   simp only[cond_true,mH]
   cases xW:bh k y with
   |true=>have:=fG xW;subst this;simp
   |false=>
    have:y≠k:=λe=>by subst e;simp at xW
    simp[this]
  |false=>
   simp only[cond_false,mH,ih]
   cases xW:bh k y with
   |true=>
    have e:=fG xW
    subst e
    have:k≠x:=λe=>by subst e;simp at sH
    simp[this]
   |false=>simp
noncomputable def uo (env:Env) (h:Heap) (x:Str) (v:ae):Prop:=
 (env.kindOf x=some .local/\∃m,h.Ns env.locals m/\m x=some v)\/(env.kindOf x=some .cell/\∃c,env.cells.lookup x=some c/\h.IsCell c (some v))
noncomputable def sS (sc:b7) (x:Str):Bool:=sc.names.lookup x==some .local||sc.names.lookup x==some .cell
noncomputable def FO (env:Env) (b:Nat):Prop:=b=env.locals\/∃x,env.cells.lookup x=some b
structure cA (sc:b7) (env:Env) (ρ:af) (σ:aa) (h:Heap):Prop where
 names:env.scope.names=sc.names
 kind:env.scope.kind=.function
 glob:env.globals=fA
 blt:env.builtins=oW
 vars:∀k p,get ρ k=some p->sS sc (nm k)=true->k<cT/\∃v,uo env h (nm k) v/\Rep h (ao σ) v p
 ns:∃m,h.Ns env.locals m
 cells:∀x,sc.names.lookup x=some .cell->∃c v,env.cells.lookup x=some c/\h.IsCell c v
 rT:∀x y c,env.cells.lookup x=some c->env.cells.lookup y=some c->x=y
 i9:∀b,FO env b->¬ao σ b
 nL:∀b,FO env b->1070<=b
 gg:∀b,FO env b->∃o,h.get? b=some o/\((∃es n,o.data=.dict es n)\/∃v,o.data=.cell v)
inductive Ax {α:Type} (P:α->Prop) (Q:α->aa->Prop) (σ:aa):Prop where
 |intro(p:α):P p->Q p σ->Ax P Q σ
theorem Ax.elim {α:Type} {P:α->Prop} {Q:α->aa->Prop} {C:Prop} (h:Ax P Q σ) (k:∀p,P p/\Q p σ->C):C:=by
 cases h with|intro p a b=>exact k p ⟨a,b⟩
structure Br (x:Bool) (A B:Prop):Prop where
 t:x=true->A
 f:x=false->B
structure Bn (x:Bool) (A B:Prop):Prop where
 f:x=false->A
 t:x=true->B
noncomputable abbrev C7 (p:PV) (b:Bool):Prop:=p=.bool b
noncomputable abbrev qb (Q:PV->aa->Prop):Bool->aa->Prop:=λb σ=>Q (.bool b) σ
noncomputable abbrev qn (Q:PV->aa->Prop):Bool->aa->Prop:=λb σ=>Q (.bool (!b)) σ
set_option genInjectivity false in
structure Cx where
 sc:b7
 d:Nat
 nh:Bool
structure In (c:Cx) (w:bF) (A:dn) (env:Env) (ρ:af) (σ:aa) (s:au):Prop where
 fi:cI c.d c.nh w A σ s
 en:cA c.sc env ρ σ s.heap
theorem cA.mv {ρ:af} (i:cA sc env ρ σ h)
  (k:∀b o,FO env b->h.get? b=some o->((∃es n,o.data=.dict es n)\/∃v,o.data=.cell v)->∃o',h'.get? b=some o'/\o'.data=o.data) (rp:∀v p,Rep h (ao σ) v p->Rep h' (ao σ') v p) (nw:∀b,FO env b->¬ao σ' b):cA sc env ρ σ' h':=by
 have ns:∀m,h.Ns env.locals m->h'.Ns env.locals m:=λm hm=>by
  obtain⟨o,es,ep,ho,hd,q⟩:=hm
  obtain⟨o',e,d⟩:=k _ _ (.inl rfl) ho (.inl ⟨_,_,hd⟩)
  exact⟨o',es,ep,e,d.trans hd,q⟩
 have cl:∀x c v,env.cells.lookup x=some c->h.IsCell c v->h'.IsCell c v:=λx c v h1 hc=>by
  obtain⟨o,ho,hd⟩:=hc
  obtain⟨o',e,d⟩:=k _ _ (.inr ⟨x,h1⟩) ho (.inr ⟨_,hd⟩)
  exact⟨o',e,d.trans hd⟩
 exact⟨i.names,i.kind,i.glob,i.blt,λx p e hl=>(i.vars x p e hl).imp_right λz=>z.imp λv y=>⟨y.1.imp (λu=>u.imp_right λu=>u.imp λm u=>u.imp_left (ns m)) λu=>u.imp_right λu=>u.imp λc u=>⟨u.1,cl _ c _ u.1 u.2⟩,rp _ _ y.2⟩,
  i.ns.imp ns,λx e=>(i.cells x e).imp λc u=>u.imp λv u=>⟨u.1,cl x c v u.1 u.2⟩,i.rT,nw,i.nL,λb f=>(i.gg b f).elim λo u=>(k b o f u.1 u.2).imp λo' z=>⟨z.1,by rw[z.2];exact u.2⟩⟩
theorem cA.rl {ρ:af} {l:List Env} (i:cA sc env ρ σ h) (r:Rl l σ h σ' h'):cA sc env ρ σ' h':=
 i.mv (λb o f ho _=>(r.kp _ _ ho (i.i9 b f)).elim λsl z=>⟨_,z.1,rfl⟩) (λ_ _=>r.rep) λb f z=>(r.new _ z).elim (i.i9 b f) λq=>(i.gg b f).elim λo u=>nomatch q.symm.trans u.1
theorem In.out {c:Cx} {ρ:af} (i:In c w A env ρ σ s) (o:aF w A σ s σ' s'):In c w A env ρ σ' s':=⟨i.fi.out o,i.en.rl o.rl⟩
inductive lE (w:bF) (A:dn) (σ:aa) (s:au) (Q:PV->aa->Prop) (v:ae) (s':au):Prop
 |mk (p σ':_) (q:Q p σ') (r:Rep s'.heap (ao σ') v p) (o:aF w A σ s σ' s')
inductive d8 (w:bF) (A:dn) (σ:aa) (s:au) (X:Ex->aa->Prop) (x:ae) (s':au):Prop
 |mk (ex σ' e:_) (a:x=.ref e) (q:X ex σ') (o:aF w A σ s σ' s') (z:gq (.tr .none) s.heap e ex σ' s'.heap)
inductive Fu (w:bF) (A:dn) (σ:aa) (s:au) (Q:List PV->aa->Prop) (vs:List ae) (s':au):Prop
 |mk (ps σ':_) (q:Q ps σ') (r:aJ s'.heap (ao σ') vs ps) (o:aF w A σ s σ' s')
inductive A9 (w:bF) (A:dn) (σ:aa) (s:au) (Q:Bool->aa->Prop) (b:Bool) (s':au):Prop
 |mk (σ':_) (q:Q b σ') (o:aF w A σ s σ' s')
structure V (c:Cx) (m:ME) (ρ:af) (σ:aa) (Q:PV->aa->Prop) (X:Ex->aa->Prop):Prop where
 intro::
 out:∀w A env e s,ok m c.sc e=true->In c w A env ρ σ s->az (aB pw w) A (eval (mk m e) env) (lE w A σ s Q) (d8 w A σ s X) s
structure VA (c:Cx) (ms:List ME) (ρ:af) (σ:aa) (Q:List PV->aa->Prop) (X:Ex->aa->Prop):Prop where
 intro::
 out:∀w A env es pos s,gG ms c.sc es=true->In c w A env ρ σ s->az (aB pw w) A (q9 (fJ pos (fE (ct ms es) env))) (Fu w A σ s Q) (d8 w A σ s X) s
structure T (c:Cx) (m:ME) (ρ:af) (σ:aa) (Q:Bool->aa->Prop) (X:Ex->aa->Prop):Prop where
 intro::
 out:∀w A env e s,ok m c.sc e=true->In c w A env ρ σ s->az (aB pw w) A (vC (mk m e) env (eval (mk m e) env)) (A9 w A σ s Q) (d8 w A σ s X) s
noncomputable def OT (w:bF) (A:dn) (σ:aa) (s:au) (Q:PV->aa->Prop) (X:Ex->aa->Prop) (r:ug) (s':au):Prop:=match r with
 |.ok (.ret v)=>lE w A σ s Q v s'
 |.ok _=>False
 |.error e=>d8 w A σ s X e s'
structure Call (d:Nat) (nh:Bool) (f:Nat) (args:List PV) (σ:aa) (Q:PV->aa->Prop) (X:Ex->aa->Prop):Prop where
 intro::
 out:∀w A s vals,cI d nh w A σ s->aJ s.heap (ao σ) vals args->uM (aB pw w) A (.call (.ref f) ⟨vals,[]⟩) (OT w A σ s Q X) s
section
variable{X:Ex->aa->Prop} {c:Cx} {ρ:af} {e:Expr}
theorem d8.back (o:aF w A σ s σ' s') {x:ae} {cu:au} (h:d8 w A σ' s' X x cu):d8 w A σ s X x cu:=
 h.rec λex bY e h1 h2 h3 h4=>⟨ex,bY,e,h1,h2,o.trans h3,h4.back (λb z=>o.rl.back b (.inr z)) λb z=>h3.rl.old b (o.rl.old b z)⟩
theorem lE.back (o:aF w A σ s σ' s') {x:ae} {cu:au} (h:lE w A σ' s' Q x cu):lE w A σ s Q x cu:=
 h.rec λp bY h1 h2 h3=>⟨p,bY,h1,h2,o.trans h3⟩
theorem dA (h:Q p σ') (r:Rep s'.heap (ao σ') v p) (o:aF w A σ s σ' s'):lE w A σ s Q v s':=⟨p,σ',h,r,o⟩
theorem GV {Q:List PV->aa->Prop} (h:Q ps σ') (r:aJ s'.heap (ao σ') vs ps) (o:aF w A σ s σ' s'):Fu w A σ s Q vs s':=⟨ps,σ',h,r,o⟩
theorem m5 {Q:Bool->aa->Prop} {b:Bool} (h:Q b σ') (o:aF w A σ s σ' s'):A9 w A σ s Q b s':=⟨σ',h,o⟩
theorem here (i:In c w A env ρ σ s):aF w A σ s σ s:=.refl i.fi.cn
theorem V.run (h:V c m ρ σ Q X) (o:aF w A σ₀ s₀ σ s) (hc:ok m c.sc e=true) (i:In c w A env ρ σ s) {P:ae->au->Prop}
  (k:∀p σ' v s',Q p σ'->Rep s'.heap (ao σ') v p->aF w A σ s σ' s'->aF w A σ₀ s₀ σ' s'->In c w A env ρ σ' s'->P v s'):az (aB pw w) A (eval (mk m e) env) P (d8 w A σ₀ s₀ X) s:=
 bg (h.out w A env e s hc i) (λv s' z=>z.rec λp σ' z1 z2 z3=>k p σ' v s' z1 z2 z3 (o.trans z3) (i.out z3)) λ_ _ z=>z.back o
theorem V.go (h:V c m ρ σ Q X) (o:aF w A σ₀ s₀ σ s) (hc:ok m c.sc e=true) (i:In c w A env ρ σ s):az (aB pw w) A (eval (mk m e) env) (lE w A σ₀ s₀ Q) (d8 w A σ₀ s₀ X) s:=
 h.run o hc i λ_ _ _ _ q r _ o _=>dA q r o
theorem VA.run {pos:Pos} {Q:List PV->aa->Prop} (h:VA c ms ρ σ Q X) (o:aF w A σ₀ s₀ σ s) (hc:gG ms c.sc es=true) (i:In c w A env ρ σ s) {P:List ae->au->Prop}
  (k:∀ps σ' vs s',Q ps σ'->aJ s'.heap (ao σ') vs ps->aF w A σ s σ' s'->aF w A σ₀ s₀ σ' s'->In c w A env ρ σ' s'->P vs s'):az (aB pw w) A (q9 (fJ pos (fE (ct ms es) env))) P (d8 w A σ₀ s₀ X) s:=
 bg (h.out w A env es pos s hc i) (λvs s' z=>z.rec λp σ' z1 z2 z3=>k p σ' vs s' z1 z2 z3 (o.trans z3) (i.out z3)) λ_ _ z=>z.back o
theorem T.run {Q:Bool->aa->Prop} (h:T c m ρ σ Q X) (o:aF w A σ₀ s₀ σ s) (hc:ok m c.sc e=true) (i:In c w A env ρ σ s) {P:Bool->au->Prop}
  (k:∀b σ' s',Q b σ'->aF w A σ₀ s₀ σ' s'->In c w A env ρ σ' s'->P b s'):az (aB pw w) A (vC (mk m e) env (eval (mk m e) env)) P (d8 w A σ₀ s₀ X) s:=
 bg (h.out w A env e s hc i) (λb s' z=>z.rec λσ' z1 z2=>k b σ' s' z1 (o.trans z2) (i.out z2)) λ_ _ z=>z.back o
theorem Call.run {f:Nat} (h:Call d nh f args σ Q X) (w A s vals) (hi:cI d nh w A σ s) (hr:aJ s.heap (ao σ) vals args):
  az (aB pw w) A (call (.ref f) vals) (lE w A σ s Q) (d8 w A σ s X) s:=by
 refine NT (RX (h.out w A s vals hi hr) λr s' z=>?_)
 rcases r with e|f
 ·exact z
 ·cases f<;>exact z
theorem Call.go {f:Nat} (h:Call d nh f args σ Q X) (o:aF w A σ₀ s₀ σ s) {vals:List ae} (hi:cI d nh w A σ s) (hr:aJ s.heap (ao σ) vals args):
  az (aB pw w) A (call (.ref f) vals) (lE w A σ₀ s₀ Q) (d8 w A σ₀ s₀ X) s:=
 bg (h.run w A s vals hi hr) (λ_ _ z=>z.back o) λ_ _ z=>z.back o
theorem ak {a b:Bool} (h:(a&&b)=true):a=true/\b=true:=gO.mp h
end
section
theorem Rep.cInt {i:Int} {P:ae->Prop} (r:Rep h O v (.int i)) (k:∀t,P (.int i t)):P v:=by cases r;exact k _
theorem Rep.ints {i j:Int} {v2:ae} {P:ae->ae->Prop} (r:Rep h O v (.int i)) (r2:Rep h O v2 (.int j)) (k:∀t u,P (.int i t) (.int j u)):P v v2:=by cases r;cases r2;exact k _ _
theorem Rep.cBool {b:Bool} {P:ae->Prop} (r:Rep h O v (.bool b)) (k:P (.bool b)):P v:=by cases r;exact k
theorem Rep.uE {P:ae->Prop} (r:Rep h O v .none) (k:P .none):P v:=by cases r;exact k
theorem Rep.nG {P:ae->Prop} (r:Rep h O v (.ref a)) (k:P (.ref a)):P v:=by cases r;exact k
theorem Rep.Hn {l:List UInt8} {P:ae->List UInt8->Prop} (r:Rep h O v (.bytes l)) (k:∀b t,P (.bytes b t) b.toList):P v l:=by cases r;exact k _ _
theorem Rep.jO {P:ae->Prop} (r:Rep h O v (.tup l)) (k:∀a vs,IsTup h a vs->¬O a->aJ h O vs.toList l->P (.ref a)):P v:=by cases r;exact k _ _ ‹_› ‹_› ‹_›
theorem Rep.nF {P:ae->Prop} (r:Rep h O v (.lst l)) (k:∀a vs,h.IsList a vs->¬O a->aJ h O vs.toList l->P (.ref a)):P v:=by cases r;exact k _ _ ‹_› ‹_› ‹_›
theorem aJ.eS {P:List ae->Prop} (r:aJ h O vs []) (k:P []):P vs:=by cases r;exact k
theorem aJ.dJ {P:List ae->Prop} (r:aJ h O vs (p::ps)) (k:∀v vs,Rep h O v p->aJ h O vs ps->P (v::vs)):P vs:=by cases r;exact k _ _ ‹_› ‹_›
end
end
end
variable{ex:Ex} {X:Ex->aa->Prop} {ρ ρ' bJ:af} {N':af->aa->Prop}
section
open PySem PySem.W
noncomputable abbrev Rd (b:List MS) (st:Stmt):Bool:=k9 b (Head.dG st) (Head.jL st)
abbrev aeU (b:List MS) (st:Stmt):Prop:=jt b (Head.jL st)=Head.jL st
end
section
variable{c:Cx}
inductive RB (v:ae) (l:List UInt8):Prop
 |mk (b:Array UInt8) (t:Tok) (e1:v=.bytes b t) (e2:b.toList=l)
theorem Rep.aQ {l:List UInt8} (r:Rep h O v (.bytes l)):RB v l:=r.Hn (P:=RB) λb t=>⟨b,t,rfl,rfl⟩
theorem V_mono {Q':PV->aa->Prop} (h:V c m ρ σ Q X) (k:∀p σ',Q p σ'->Q' p σ'):V c m ρ σ Q' X:=.intro λw A env e s hc i=>
 h.run (here i) hc i λ_ _ _ _ q r _ o _=>dA (k _ _ q) r o
theorem jI (h:Q .none σ):V c .none ρ σ Q X:=.intro λ_ _ _ _ _ _ i=>Constant_none (dA h .none (here i))
theorem lF {b:Bool} (h:Q (.bool b) σ):V c (.bool b) ρ σ Q X:=.intro λ_ _ _ _ _ _ i=>Constant_bool (dA h (.bool b) (here i))
theorem aI {z:Int} (h:Q (.int z) σ):V c (.int z) ρ σ Q X:=.intro λ_ _ _ _ _ _ i=>adt (dA h (.int _ _) (.tok i.fi.cn _))
theorem mz {l:List UInt8} (h:Q (.bytes l) σ):V c (.aQ l) ρ σ Q X:=.intro λ_ _ _ _ _ _ i=>Constant_bytes (dA h (.bytes _ _) (.tok i.fi.cn _))
theorem QJ (h:Q .str σ):V c .str ρ σ Q X:=.intro λ_ _ _ _ _ _ i=>OX (dA h (.str _ _) (.tok i.fi.cn _))
theorem KD {x:Str} {E:ae->au->Prop} {P:ae->au->Prop} (hk:env.scope.kind=.function) (a:uo env s.heap x v) (h:P v s):az M A (yE env x) P E s:=by
 rcases a with⟨h1,m,hm,hv⟩|⟨h1,cc,h2,nP⟩
 ·exact wpAny_loadName_local hk h1 hm hv h
 ·exact wpAny_loadName_cell hk h1 h2 nP h
theorem Xr {s:Str} (h:sT sc s=true):(s==("__debug__":Str))=false:=Ay _▸(ak h).2
theorem JI {x:Str} (h:sT sc x=true):sS sc x=true:=(ak h).1
theorem yi {s:Str} (h:jZ sc s=true):(s==("__debug__":Str))=false:=Ay _▸(ak h).2
theorem C9 {s:Str} (h:jZ sc s=true):sc.names.lookup s=some .globalImplicit:=beq_iff_eq.mp (ak h).1
theorem aq (e:get ρ x=some p) (h:Q p σ):V c (.v x) ρ σ Q X:=.intro λw A env _ s hc i=>by
 obtain⟨_,h2⟩:=ak hc
 obtain⟨_,v,hv,hr⟩:=i.en.vars x p e (JI h2)
 exact zT (KD i.en.kind hv (dA h hr (here i))) (Xr h2)
theorem Kz {x:Str} (hk:env.scope.kind=.function) (a:env.kindOf x=some .globalImplicit):yE env x=Ky env x:=by
 unfold yE
 rw[Env.blockKind,hk,a];rfl
theorem KC {x:Str} {E:ae->au->Prop} {P:ae->au->Prop} (X:K.In s.heap) (hk:env.scope.kind=.function) (hg:env.globals=fA)
  (a:env.kindOf x=some .globalImplicit) (e:nsIn K fA x=some (some v)) (h:P v s):az M A (yE env x) P E s:=by
 refine aj (Kz hk a)▸?_
 unfold Ky
 refine aj (hg)▸?_
 exact ax ((KE X e).here (bj h))
theorem KA {x:Str} {E:ae->au->Prop} {P:ae->au->Prop} (X:K.In s.heap) (hk:env.scope.kind=.function) (hg:env.globals=fA) (hb:env.builtins=oW)
  (a:env.kindOf x=some .globalImplicit) (e:nsIn K fA x=some none) (e':nsIn K oW x=some (some v)) (h:P v s):az M A (yE env x) P E s:=by
 rw[Kz hk a]
 unfold Ky
 rw[hg,hb]
 exact ax ((KE X e).here (ax ((KE X e').here (bj h))))
theorem In.kd (i:In c w A env ρ σ s) (h:jZ c.sc (nm x)=true):env.kindOf (nm x)=some .globalImplicit:=by
 show env.scope.names.lookup _=_;rw[i.en.names];exact C9 h
theorem sy {pos:Pos} {E:ae->au->Prop} {P:ae->au->Prop} (i:In c w A env ρ σ s) (h:jZ c.sc (nm x)=true) (e:nsIn (KF w.params) fA (nm x)=some (some v)) (k:P v s):
  az (aB pw w) A (eval (.Name (nm x) pos) env) P E s:=zT (KC i.fi.cn.base i.en.kind i.en.glob (i.kd h) e k) (yi h)
theorem BB {pos:Pos} {E:ae->au->Prop} {P:ae->au->Prop} (i:In c w A env ρ σ s) (h:jZ c.sc (nm x)=true) (e:nsIn (KF w.params) fA (nm x)=some none) (e':nsIn (KF w.params) oW (nm x)=some (some v)) (k:P v s):
  az (aB pw w) A (eval (.Name (nm x) pos) env) P E s:=zT (KA i.fi.cn.base i.en.kind i.en.glob i.en.blt (i.kd h) e e' k) (yi h)
noncomputable def Cb:List (Nat×PV):=[(14,.int 4294967295),(12,.int 18446744073709551615),(17,.int 1),(20,.int 2),(25,.int 3164544308),(26,.int 3332679571),(28,.int 24),
 (34,.int 1),(35,.int 8),(108,.int 5),(111,.int 0),(114,.int 30),(120,.int 4294967295),(134,.int 15800726617472432983),(131,.int 48),(133,.int 40),
 (151,.bytes [102,105,108,116,101,114,46,114,97,102,116,107,101,101,112,46,98,108,111,111,109])]
noncomputable def Xm (j:Int):ae->Bool
 |.int i _=>i==j
 |_=>false
noncomputable def Rj (l:List UInt8):ae->Bool
 |.bytes b _=>b.toList==l
 |_=>false
noncomputable def JH (v:ae):PV->Bool
 |.int j=>Xm j v
 |.bytes l=>Rj l v
 |_=>false
theorem Xq (e:JH v p=true):Rep h O v p:=by
 cases p<;>first|exact ff e|skip
 ·cases v<;>first|exact ff e|exact(beq_iff_eq.mp e:_=_)▸.int _ _
 ·cases v<;>first|exact ff e|exact(beq_iff_eq.mp e:_=_)▸.bytes _ _
theorem Vb (P:aV):(Cb.all λkp=>(nsIn (KF P) fA (nm kp.1)).any λo=>o.any λv=>JH v kp.2)=true:=by fin2
theorem get_mem:∀{l:af},get l x=some p->(x,p)∈l
 |(k,q)::r,e=>by
  simp only[mH]at e
  cases sH:bh k x with
  |true=>replace e:=sH▸e;have:=fG sH;subst this;cases e;exact .head _
  |false=>replace e:=sH▸e;exact .tail _ (get_mem e)
theorem QE (e:get Cb x=some p) (h:Q p σ):V c (.g x) ρ σ Q X:=.intro λw A env _ s hc i=>by
 obtain⟨o,h1,z⟩:=uu (eO.mp (Vb w.params) (x,p) (get_mem e))
 obtain⟨v,h2,z⟩:=uu z
 exact sy i (ak hc).2 (h1.trans (congrArg some h2)) (dA h (Xq z) (here i))
noncomputable def eN (o:eR) (x y p:PV):Prop:=∀{d nh w A σ s v1 v2} {P:ae->au->Prop} {E:ae->au->Prop},cI d nh w A σ s->Rep s.heap (ao σ) v1 x->Rep s.heap (ao σ) v2 y->
 (∀v s',Rep s'.heap (ao σ) v p->aF w A σ s σ s'->P v s')->az (aB pw w) A (binaryOp o v1 v2) P E s
noncomputable def c9 (o:f_) (x y:PV) (b:Bool):Prop:=∀{d nh w A σ s v1 v2} {P:ae->au->Prop} {E:ae->au->Prop},cI d nh w A σ s->Rep s.heap (ao σ) v1 x->Rep s.heap (ao σ) v2 y->
 (∀s',aF w A σ s σ s'->P (.bool b) s')->az (aB pw w) A (compareOp o v1 v2) P E s
noncomputable abbrev B1 (o:eR) (Q:PV->aa->Prop) (x:PV):PV->aa->Prop:=λy σ=>Ax (eN o x y) Q σ
noncomputable abbrev Sz (c:Cx) (X:Ex->aa->Prop) (ρ:af) (o:eR) (r:ME) (Q:PV->aa->Prop):PV->aa->Prop:=λx σ=>V c r ρ σ (B1 o Q x) X
theorem dC {o:eR} {l r:ME} (h:V c l ρ σ (Sz c X ρ o r Q) X):V c (.bin o l r) ρ σ Q X:=.intro λw A env _ s hc i=>
 wpAny_BinOp (h.run (here i) (ak hc).1 i λx σ₁ zS s₁ hx r1 _ o1 i1=>hx.run o1 (ak hc).2 i1 λy bY E0 aU hy r2 q2 o2 i2=>
  hy.elim λp z=>z.1 i2.fi (q2.rl.rep r1) r2 λv s' hv o3=>dA z.2 hv (o2.trans o3))
section
theorem oU {a b:Int}:eN .Add (.int a) (.int b) (.int (a+b)):=λi r1 r2 h=>by apply r1.ints r2;intro _ _;exact ad5 (h _ _ (.int _ _) (.tok i.cn _))
theorem xl {a b:Int}:eN .Sub (.int a) (.int b) (.int (a-b)):=λi r1 r2 h=>by apply r1.ints r2;intro _ _;exact ael (h _ _ (.int _ _) (.tok i.cn _))
theorem jJ {a b:Int} (hb:b.natAbs<2^64):eN .Mult (.int a) (.int b) (.int (a*b)):=λi r1 r2 h=>by
 apply r1.ints r2;intro _ _;exact Qm (h _ _ (.int _ _) (.tok i.cn _)) (.of_right (intBits_le hb))
theorem xk {a b:Int} (ha:a.natAbs<2^64):eN .Mult (.int a) (.int b) (.int (a*b)):=λi r1 r2 h=>by
 apply r1.ints r2;intro _ _;exact Qm (h _ _ (.int _ _) (.tok i.cn _)) (.of_left (intBits_le ha))
theorem abG {a b:Int} (hb:b.natAbs<2^64):OS a b=false:=by
 have h1:b.natAbs.log2<=64:=by
  by_cases h0:b.natAbs=0
  ·rw[h0];decide
  ·exact bx ((P1 h0).mpr hb)
 simp only[OS,Bool.and_eq_false_iff,decide_eq_false_iff_not]
 refine .inl ?_
 split<;>lia
theorem kG {a b:Int} (h0:0<b) (hb:b.natAbs<2^64):eN .FloorDiv (.int a) (.int b) (.int (a/b)):=λi r1 r2 h=>by
 apply r1.ints r2;intro _ _
 refine ad9 (FZ h0) ?_ (.inl (abG hb))
 rw[AI _ (AJ h0)]
 exact h _ _ (.int _ _) (.tok i.cn _)
theorem gz {a b:Int} (h0:0<b):eN .Mod (.int a) (.int b) (.int (a%b)):=λi r1 r2 h=>by
 apply r1.ints r2;intro _ _
 refine aef (FZ h0) ?_
 rw[Int.fmod_eq_emod_of_nonneg _ (AJ h0)]
 exact h _ _ (.int _ _) (.tok i.cn _)
theorem ux {a b:Int} (h0:0<=b) (h1:b<=1000000) (ha:a.natAbs<2^64):eN .Pow (.int a) (.int b) (.int (a^b.toNat)):=λi r1 r2 h=>by
 apply r1.ints r2;intro _ _;exact aej h0 h1 ha (h _ _ (.int _ _) (.tok i.cn _))
theorem jK {a b:Int} (h0:0<=b) (h1:b<=1000000) (ha:a.natAbs<2^64):eN .LShift (.int a) (.int b) (.int (a*2^b.toNat)):=λi r1 r2 h=>by
 apply r1.ints r2;intro _ _;exact aee h0 h1 ha (h _ _ (.int _ _) (.tok i.cn _))
theorem oV {a b:Int} (h0:0<=b):eN .RShift (.int a) (.int b) (.int (a.fdiv (2^b.toNat))):=λi r1 r2 h=>by
 apply r1.ints r2;intro _ _;exact aek h0 (h _ _ (.int _ _) (.tok i.cn _))
theorem Q1 {a b:Int}:eN .BitAnd (.int a) (.int b) (.int (oA a b)):=λi r1 r2 h=>by apply r1.ints r2;intro _ _;exact ad6 (h _ _ (.int _ _) (.tok i.cn _))
theorem Q3 {a b:Int}:eN .BitOr (.int a) (.int b) (.int (ko a b)):=λi r1 r2 h=>by apply r1.ints r2;intro _ _;exact aei (h _ _ (.int _ _) (.tok i.cn _))
theorem Q4 {a b:Int}:eN .BitXor (.int a) (.int b) (.int (jA a b)):=λi r1 r2 h=>by apply r1.ints r2;intro _ _;exact aem (h _ _ (.int _ _) (.tok i.cn _))
theorem b9 {a b:List UInt8} (hz:a.length+b.length<=16777216):eN .Add (.bytes a) (.bytes b) (.bytes (a++b)):=λi r1 r2 h=>by
 obtain⟨b1,t1,rfl,rfl⟩:=r1.aQ
 obtain⟨b2,t2,rfl,rfl⟩:=r2.aQ
 refine KBy.add_bytes (by simpa using hz) λt' k=>?_
 refine h _ _ ?_ (.tok i.cn _)
 refine(OH)▸?_
 exact .bytes _ _
theorem dw {a b:Int}:c9 .Eq (.int a) (.int b) (decide (a=b)):=λi r1 r2 h=>by
 apply r1.ints r2;intro _ _;refine ad8 ?_
 rw[show(a==b)=decide (a=b) from by rw[oz];simp];exact h _ (.refl i.cn)
theorem qt {a b:Int}:c9 .NotEq (.int a) (.int b) (decide (a≠b)):=λi r1 r2 h=>by
 apply r1.ints r2;intro _ _;refine aeg ?_
 rw[show(a !=b)=decide (a≠b) from by rw[oz];simp];exact h _ (.refl i.cn)
theorem rY {a b:Int}:c9 .Lt (.int a) (.int b) (decide (a<b)):=λi r1 r2 h=>by apply r1.ints r2;intro _ _;exact GC (h _ (.refl i.cn))
theorem RP {a b:Int}:c9 .LtE (.int a) (.int b) (decide (a<=b)):=λi r1 r2 h=>by apply r1.ints r2;intro _ _;exact aed (h _ (.refl i.cn))
theorem ip {a b:Int}:c9 .Gt (.int a) (.int b) (decide (b<a)):=λi r1 r2 h=>by apply r1.ints r2;intro _ _;exact Ql (h _ (.refl i.cn))
theorem xv {a b:Int}:c9 .GtE (.int a) (.int b) (decide (b<=a)):=λi r1 r2 h=>by apply r1.ints r2;intro _ _;exact Qk (h _ (.refl i.cn))
theorem RL {a b:List UInt8}:c9 .Eq (.bytes a) (.bytes b) (decide (a=b)):=λi r1 r2 h=>by
 obtain⟨b1,t1,rfl,rfl⟩:=r1.aQ
 obtain⟨b2,t2,rfl,rfl⟩:=r2.aQ
 refine PySem.W.eq_bytes ?_
 rw[show(b1.toList==b2.toList)=decide (b1.toList=b2.toList) from by rw[oz];simp];exact h _ (.refl i.cn)
theorem RQ {a b:List UInt8}:c9 .NotEq (.bytes a) (.bytes b) (decide (a≠b)):=λi r1 r2 h=>by
 obtain⟨b1,t1,rfl,rfl⟩:=r1.aQ
 obtain⟨b2,t2,rfl,rfl⟩:=r2.aQ
 refine PySem.W.ne_bytes ?_
 rw[show(b1.toList !=b2.toList)=decide (b1.toList≠b2.toList) from by rw[oz];simp];exact h _ (.refl i.cn)
noncomputable def isNone:PV->Bool|.none=>true|_=>false
theorem BL {x:PV}:c9 .Is x .none (isNone x):=λi r1 r2 h=>by
 apply r2.uE;refine is_none_gen ?_
 cases r1<;>exact h _ (.refl i.cn)
theorem uL {x:PV}:c9 .IsNot x .none (!isNone x):=λi r1 r2 h=>by
 apply r2.uE;refine isnot_none_gen ?_
 cases r1<;>exact h _ (.refl i.cn)
end
noncomputable abbrev SD (o:f_) (Q:PV->aa->Prop) (x:PV):PV->aa->Prop:=λy σ=>Ax (c9 o x y) (qb Q) σ
noncomputable abbrev SA (c:Cx) (X:Ex->aa->Prop) (ρ:af) (o:f_) (r:ME) (Q:PV->aa->Prop):PV->aa->Prop:=λx σ=>V c r ρ σ (SD o Q x) X
theorem Hb {op:f_} (m:ME) (e:Expr):behindInMarks op (mk m e)=false:=by cases m<;>rfl
theorem uk {o:f_} {l r:ME} (h:V c l ρ σ (SA c X ρ o r Q) X):V c (.cmp o l r) ρ σ Q X:=.intro λw A env _ s hc i=>
 wpAny_Compare1 (h.run (here i) (ak hc).1 i λx σ₁ zS s₁ hx r1 _ o1 i1=>hx.run o1 (ak hc).2 i1 λy bY E0 aU hy r2 q2 o2 i2=>
  hy.elim λb z=>z.1 i2.fi (q2.rl.rep r1) r2 λs' o3=>dA z.2 (.bool b) (o2.trans o3)) (Hb _ _)
end
section
variable{c:Cx}
theorem fY (o:Obj):∀b x,h.get? b=some x->(h.push o).get? b=some x:=λ_ _ e=>tV o e
theorem kZ (c:Cn w σ h):¬ao σ h.objs.size:=λo=>
 (k_ c o).elim λ_ e=>absurd (hU e) (eI _)
theorem bc {Q:List PV->aa->Prop} (h:Q [] σ):VA c [] ρ σ Q X:=.intro λ_ _ _ _ _ _ _ i=>spliced_none (GV h .nil (here i))
noncomputable abbrev Ib (Q:List PV->aa->Prop) (p:PV):List PV->aa->Prop:=λps σ=>Q (p::ps) σ
noncomputable abbrev Sy (c:Cx) (X:Ex->aa->Prop) (ρ:af) (ms:List ME) (Q:List PV->aa->Prop):PV->aa->Prop:=λp σ=>VA c ms ρ σ (Ib Q p) X
theorem aO {Q:List PV->aa->Prop} (h:V c m ρ σ (Sy c X ρ ms Q) X):VA c (m::ms) ρ σ Q X:=.intro λw A env es pos s hc i=>
 spliced_more (h.run (here i) (ak hc).1 i λp σ₁ v s₁ hp r1 _ o1 i1=>hp.run o1 (ak hc).2 i1 λps bY vs aU gE rs q2 o2 _=>GV gE (.cons (q2.rl.rep r1) rs) o2) (D0 m _ _ env)
theorem room (h:n<=1000000):n<=EI:=by rw[g9];exact cq h
noncomputable abbrev SY (Q:PV->aa->Prop):List PV->aa->Prop:=λps σ=>ps.length<=1000000/\Q (.tup ps) σ
theorem qp (h:VA c ms ρ σ (SY Q) X):V c (.tup ms) ρ σ Q X:=.intro λw A env _ s hc i=>
 Tuple_ (h.run (here i) hc i λps σ₁ vs s₁ hq hr _ o1 i1=>
  have o2:aF w A σ₁ s₁ σ₁ {s₁ with heap:=s₁.heap.push {cls:=.type "tuple",data:=.seq vs.toArray}}:=.keeps o1.cn (fY _)
  adA (dA hq.2 (.tup (vs:=vs.toArray) ⟨_,jg _ rfl,rfl,_,rfl⟩ (kZ o1.cn) (o2.rl.jb hr)) (o1.trans o2)) (room (hr.length▸hq.1)))
noncomputable abbrev SJ (Q:PV->aa->Prop):List PV->aa->Prop:=λps σ=>ps.length<=1000000/\Q (.lst ps) σ
theorem Bd (h:VA c ms ρ σ (SJ Q) X):V c (.lst ms) ρ σ Q X:=.intro λw A env _ s hc i=>
 List_ (h.run (here i) hc i λps σ₁ vs s₁ hq hr _ o1 i1=>
  have o2:aF w A σ₁ s₁ σ₁ {s₁ with heap:=s₁.heap.push {cls:=.type "list",data:=.seq vs.toArray}}:=.keeps o1.cn (fY _)
  wA (dA hq.2 (.lst (vs:=vs.toArray) ⟨_,jg _ rfl,rfl,_,rfl⟩ (kZ o1.cn) (o2.rl.jb hr)) (o1.trans o2)) (room (hr.length▸hq.1)))
theorem Ek (hn:∀C fs,σ a≠some (.inst C fs)) {b:Nat}:ao (upd σ a (.av l)) b↔ao σ b\/b=a:=by
 constructor
 ·rintro(h|⟨C,fs,h⟩)
  ·by_cases e:b=a
   ·exact .inr e
   ·rw[aw _ _ e]at h;exact .inl (.inl h)
  ·by_cases e:b+1=a
   ·rw[e,ay]at h;cases h
   ·rw[aw _ _ e]at h;exact .inl (.inr ⟨C,fs,h⟩)
 ·rintro((h|⟨C,fs,h⟩)|rfl)
  ·by_cases e:b=a
   ·exact .inl (by rw[e,ay];rfl)
   ·exact .inl (by rw[aw _ _ e];exact h)
  ·have e:b+1≠a:=λe=>hn C fs (e▸h)
   exact .inr ⟨C,fs,by rw[aw _ _ e];exact h⟩
  ·exact .inl (by rw[ay];rfl)
theorem xj (b:(KF w.params).In h):1070<=h.objs.size:=by
 have e:((KF w.params).lookup 1069).isSome=true:=by fin2
 obtain⟨o,e⟩:=GA.mp e
 exact hU (b _ _ e)
theorem yY (c:Cn w σ s.heap) (r:aJ s.heap (ao σ) vs l):
  aF w A σ s (upd σ s.heap.objs.size (.av l)) {s with heap:=s.heap.push {cls:=.type "list",data:=.seq vs.toArray}}:=by
 have nn:=kZ c
 have hn:∀C fs,σ s.heap.objs.size≠some (.inst C fs):=λC fs e=>nn (.inl (by rw[e];rfl))
 have fresh:s.heap.get? s.heap.objs.size=none:=tU (aP _)
 have rl:Rl (bG A) σ s.heap (upd σ s.heap.objs.size (.av l)) (s.heap.push {cls:=.type "list",data:=.seq vs.toArray}):=by
  refine⟨Kp.of_keeps (fY _),λb o=>?_,λb o=>(Ek hn).mpr (.inl o)⟩
  rcases(Ek hn).mp o with o|rfl
  ·exact .inl o
  ·exact .inr fresh
 have c':=c.keeps (fY (h:=s.heap) {cls:=.type "list",data:=.seq vs.toArray})
 refine⟨⟨_,_,rfl⟩,⟨c'.base,λa o e=>?_,λb o=>?_,λa C fs e=>?_⟩,rl⟩
 ·by_cases ea:a=s.heap.objs.size
  ·subst ea;rw[ay]at e;cases e
   exact⟨vs.toArray,⟨_,jg _ rfl,rfl,rfl,_,rfl⟩,by simpa using rl.jb r⟩
  ·rw[aw _ _ ea]at e
   have q:ew (ao σ) s.heap (s.heap.push {cls:=.type "list",data:=.seq vs.toArray}):=rl.kp.seq λ_ _ _ _ _ _ z=>z
   exact(c.at_ a o e).mv (λ_=>fY _ _ _) (λ_ _ _ _=>fY _ _ _) q λa o e n z=>(rl.new a z).elim n λq=>by rw[e]at q;cases q
 ·rcases(Ek hn).mp o with o|rfl
  ·exact c.lo b o
  ·exact xj c.base
 ·by_cases ea:a=s.heap.objs.size
  ·subst ea;rw[ay]at e;cases e
  ·rw[aw _ _ ea]at e
   have h1:=c.apart a C fs e
   by_cases eb:a-1=s.heap.objs.size
   ·have:ao σ (a-1):=.inr ⟨C,fs,by rw[jF (c.at_ _ _ e).1];exact e⟩
    exact absurd (eb▸this) nn
   ·rw[aw _ _ eb];exact h1
theorem qU (h:¬ao σ a):σ a=none:=by
 cases e:σ a with
 |none=>rfl
 |some o=>exact absurd (.inl (by rw[e];rfl)) h
theorem QF (h:VA c ms ρ σ (λps σ₁=>ps.length<=1000000/\∀a,σ₁ a=none->Q (.ref a) (upd σ₁ a (.av ps))) X):V c (.n9 ms) ρ σ Q X:=.intro λw A env _ s hc i=>
 List_ (h.run (here i) hc i λps σ₁ vs s₁ hq hr _ o1 i1=>
  wA (dA (hq.2 _ (qU (kZ o1.cn))) (.ref _) (o1.trans (yY o1.cn hr))) (room (hr.length▸hq.1)))
theorem zO {b:Bool} {P:Bool->au->Prop} {E:ae->au->Prop} (h:P b s):az M A (truthy (.bool b)) P E s:=adC h
noncomputable def plainT (m:ME):Bool:=[1,6,19,21,22,24].any (bh (kd m))
theorem abZ (hm:plainT m=true) (e:Expr) (env:Env):vC (mk m e) env (eval (mk m e) env)=(do let v<-eval (mk m e) env;tG (mk m e).pos;sL [v] (truthy v)):=by
 cases m<;>first|rfl|exact absurd hm hH
noncomputable abbrev r8 (Q:Bool->aa->Prop):PV->aa->Prop:=λp σ=>Ax (C7 p) Q σ
theorem r8.ok {Q:Bool->aa->Prop} {H:Heap} {P:ae->Prop} (h:r8 Q p σ) (r:Rep H O v p) (k:∀b,Q b σ->P (.bool b)):P v:=
 h.elim λb z=>(show Rep _ _ v (.bool b) from z.1▸r).cBool (k b z.2)
theorem nu {Q:Bool->aa->Prop} (h:V c m ρ σ (r8 Q) X) (hm:plainT m=true):T c m ρ σ Q X:=.intro λw A env _ s hc i=>
 isTrue_plain (h.run (here i) hc i λp σ₁ v s₁ hq hr _ o1 _=>r8.ok (P:=λv=>az (aB pw w) A (truthy v) _ _ s₁) hq hr λb q=>zO (m5 q o1)) (abZ hm _ env)
noncomputable abbrev Il (o:f_) (Q:Bool->aa->Prop) (x:PV):PV->aa->Prop:=λy σ=>Ax (c9 o x y) Q σ
noncomputable abbrev SU (c:Cx) (X:Ex->aa->Prop) (ρ:af) (o:f_) (r:ME) (Q:Bool->aa->Prop):PV->aa->Prop:=λx σ=>V c r ρ σ (Il o Q x) X
theorem aY {o:f_} {l r:ME} {Q:Bool->aa->Prop} (h:V c l ρ σ (SU c X ρ o r Q) X):T c (.cmp o l r) ρ σ Q X:=.intro λw A env _ s hc i=>
 wpAny_isTrue_Compare1 (h.run (here i) (ak hc).1 i λx σ₁ zS s₁ hx r1 _ o1 i1=>hx.run o1 (ak hc).2 i1 λy bY E0 aU hy r2 q2 o2 i2=>
  hy.elim λb z=>z.1 i2.fi (q2.rl.rep r1) r2 λs' o3=>zO (m5 z.2 (o2.trans o3))) (Hb _ _)
noncomputable abbrev SK (Q:Bool->aa->Prop):Bool->aa->Prop:=λb σ=>Q (!b) σ
theorem A_ {Q:Bool->aa->Prop} (h:T c m ρ σ (SK Q) X):T c (.no m) ρ σ Q X:=.intro λw A env _ s hc i=>
 isTrue_not (h.run (here i) hc i λb σ₁ s₁ hq o1 _=>m5 hq o1)
theorem my {Q:Bool->aa->Prop} (h:Q true σ):T c (.an []) ρ σ Q X:=.intro λw A env _ s hc i=>isTrue_and_nil (m5 h (here i))
theorem rN {Q:Bool->aa->Prop} (h:Q false σ):T c (.or []) ρ σ Q X:=.intro λw A env _ s hc i=>isTrue_or_nil (m5 h (here i))
noncomputable def Bx (o:wG) (es:List Expr) (pos:Pos):Expr:=.BoolOp o es pos
noncomputable abbrev SW (c:Cx) (X:Ex->aa->Prop) (ρ:af) (ms:List ME) (Q:Bool->aa->Prop):Bool->aa->Prop:=λb σ=>Br b (T c (.an ms) ρ σ Q X) (Q false σ)
theorem fj {Q:Bool->aa->Prop} (h:T c m ρ σ (SW c X ρ ms Q) X):T c (.an (m::ms)) ρ σ Q X:=.intro λw A env e s hc i=>
 isTrue_and (h.run (here i) (ak (show(_&&_)=true from hc)).1 i λb σ₁ s₁ hq o1 i1=>match b,hq with
  |false,hq=>m5 (hq.2 rfl) o1
  |true,hq=>(hq.1 rfl).run (m:=.an ms) (e:=Bx .And (kids e).tail e.pos) o1 (ak (show(_&&_)=true from hc)).2 i1 λb bY aU q o2 _=>m5 q o2)
noncomputable abbrev SX (c:Cx) (X:Ex->aa->Prop) (ρ:af) (ms:List ME) (Q:Bool->aa->Prop):Bool->aa->Prop:=λb σ=>Bn b (T c (.or ms) ρ σ Q X) (Q true σ)
theorem jG {Q:Bool->aa->Prop} (h:T c m ρ σ (SX c X ρ ms Q) X):T c (.or (m::ms)) ρ σ Q X:=.intro λw A env e s hc i=>
 isTrue_or (h.run (here i) (ak (show(_&&_)=true from hc)).1 i λb σ₁ s₁ hq o1 i1=>match b,hq with
  |true,hq=>m5 (hq.2 rfl) o1
  |false,hq=>(hq.1 rfl).run (m:=.or ms) (e:=Bx .Or (kids e).tail e.pos) o1 (ak (show(_&&_)=true from hc)).2 i1 λb bY aU q o2 _=>m5 q o2)
noncomputable abbrev S1 (Q:PV->aa->Prop):PV->aa->Prop:=λp σ=>Ax (C7 p) (qn Q) σ
theorem GO (h:V c m ρ σ (S1 Q) X):V c (.no m) ρ σ Q X:=.intro λw A env _ s hc i=>
 wpAny_UnaryOp (h.run (here i) hc i λp σ₁ v s₁ hq hr _ o1 _=>r8.ok (Q:=qn Q) (P:=λv=>az (aB pw w) A (unaryOp .Not v) _ _ s₁) hq hr λb q=>not_of (zO (dA q (.bool _) o1)))
theorem QG {z:Int} (h:Q (.int (-z)) σ):V c (.neg z) ρ σ Q X:=.intro λw A env _ s hc i=>
 wpAny_UnaryOp (adt (aeh (dA h (.int _ _) (.tok i.fi.cn _))))
theorem Bb (h:V c m ρ σ Q X):V c (.an [m]) ρ σ Q X:=.intro λw A env _ s hc i=>BoolOp_one (h.go (here i) (ak (show(_&&_)=true from hc)).1 i)
noncomputable abbrev Im (c:Cx) (X:Ex->aa->Prop) (ρ:af) (m:ME) (ms:List ME) (Q:PV->aa->Prop):Bool->aa->Prop:=λb σ=>Br b (V c (.an (m::ms)) ρ σ Q X) (Q (.bool false) σ)
noncomputable abbrev S0 (c:Cx) (X:Ex->aa->Prop) (ρ:af) (m:ME) (ms:List ME) (Q:PV->aa->Prop):PV->aa->Prop:=λp σ=>Ax (C7 p) (Im c X ρ m ms Q) σ
theorem xf {m':ME} (h:V c m ρ σ (S0 c X ρ m' ms Q) X):V c (.an (m::m'::ms)) ρ σ Q X:=.intro λw A env e s hc i=>
 BoolOp_and (h.run (here i) (ak (show(_&&_)=true from hc)).1 i λp σ₁ v s₁ hq hr _ o1 i1=>by
  apply r8.ok (Q:=Im c X ρ m' ms Q) hq hr
  intro b q
  refine zO ?_
  cases b
  ·exact dA (q.2 rfl) (.bool _) o1
  ·exact(q.1 rfl).go (m:=.an (m'::ms)) (e:=Bx .And (kids e).tail e.pos) o1 (ak (show(_&&_)=true from hc)).2 i1)
noncomputable abbrev SI (c:Cx) (X:Ex->aa->Prop) (ρ:af) (a b:ME) (Q:PV->aa->Prop):Bool->aa->Prop:=λx σ=>Br x (V c a ρ σ Q X) (V c b ρ σ Q X)
theorem um {t a b:ME} (h:T c t ρ σ (SI c X ρ a b Q) X):V c (.ite t a b) ρ σ Q X:=.intro λw A env _ s hc i=>
 wpAny_IfExp (h.run (here i) (ak (ak hc).1).1 i λx σ₁ s₁ hq o1 i1=>match x,hq with
  |true,hq=>(hq.1 rfl).go o1 (ak (ak hc).1).2 i1
  |false,hq=>(hq.2 rfl).go o1 (ak hc).2 i1)
end
section
noncomputable def xJ:List (Nat×Nat):=[(13,113),(105,120),(75,127),(15,134),(37,141),(110,170),(118,177),(172,184),(31,191),(33,198),(136,565),(148,572),(140,677),(188,894),(190,899),(186,904),(184,911),(219,918),(191,925),(206,932),(221,939),(223,946),(222,953),(224,960),(213,967),(212,972),(220,979),(247,984),(228,991),(248,998),(231,1005),(232,1012),(233,1017),(235,1022),(243,1029),(253,1036),(236,1043),(251,1050),(254,1057),(255,1064)]
noncomputable def pO:List (Nat×Nat×Nat):=[(236,44,212),(271,44,212),(325,44,294),(358,246,355),(407,150,390),(407,80,397),(407,102,404),(519,88,432),(519,87,439),(519,93,446),(519,115,453),(519,154,460),(519,91,467),(519,92,474),(519,163,481),(519,165,488),(519,152,495),(519,95,502),(519,169,509),(519,176,516),(554,130,551),(603,127,600),(631,127,628),(666,130,663),(771,142,698),(771,146,705),(771,155,712),(771,162,719),(771,150,726),(771,238,733),(771,239,740),(771,240,747),(771,241,754),(771,147,761),(771,168,768),(883,93,796),(883,87,803),(883,115,810),(883,154,817),(883,174,824),(883,175,831),(883,177,838),(883,178,845),(883,163,852),(883,165,859),(883,152,866),(883,169,873),(883,176,880)]
noncomputable def fq:List (Nat×List Nat):=[(236,[]),(271,[]),(325,[41]),(358,[47,48,49,50,51,52,53,54,55,56,57,58,59,60,61,62,63,64,65,66,67]),(407,[0,68,70,71]),(519,[81,68,82,83,7,84,85]),(554,[104,23]),(603,[112,113]),(631,[122,0,123,89,69]),(666,[128,129]),(771,[0,138,68,139,141,129,144]),(883,[160,173,161,72])]
noncomputable def BD:List (Nat×Nat):=[(42,271),(249,325),(245,358),(143,407),(73,519),(106,554),(156,603),(157,631),(137,666),(250,771),(158,883)]
noncomputable def C3:List (Nat×Option Nat):=[(236,none),(271,none),(325,some 287),(358,some 341),(407,some 376),(519,some 425),(554,some 537),(603,some 586),(631,some 621),(666,some 649),(771,some 691),(883,some 789)]
noncomputable def JG (K:Frag) (C:Nat):Bool:=kI K (.ref C) "__getattribute__"==some (some (.builtin "object.__getattribute__"))&&kI K (.ref C) "__getattr__"==some none
noncomputable def uH (K:Frag) (C:Nat):Bool:=JG K C&&kI K (.ref C) "__setattr__"==some (some (.builtin "object.__setattr__"))&&plainOver K C&&hasDictIn K C&&makesIn K C&&yu K (.ref C)
noncomputable def S3 (K:Frag) (C:Nat) (x:Nat):Bool:=kI K (.ref C) (nm x)==some none&&decide (x<cT)
theorem Hw (P:aV):(fq.all λ(C,l)=>uH (KF P) C&&l.all (S3 (KF P) C))=true:=by fin2
theorem Tc (P:aV):(xJ.all λ(n,f)=>nsIn (KF P) fA (nm n)==some (some (.ref f))&&fnIn (KF P) f&&isFn (KF P) (.ref f))=true:=by fin2
theorem abq (P:aV):(pO.all λ(C,m,f)=>kI (KF P) (.ref C) (nm m)==some (some (.ref f))&&fnIn (KF P) f&&isFn (KF P) (.ref f)&&decide (m<cT))=true:=by fin2
theorem Hr (P:aV):(BD.all λ(n,f)=>nsIn (KF P) fA (nm n)==some (some (.ref f)))=true:=by fin2
theorem JE (P:aV):(C3.all λ(C,f)=>match f with|some f=>kI (KF P) (.ref C) "__init__"==some (some (.ref f))&&isFn (KF P) (.ref f)|none=>kI (KF P) (.ref C) "__init__"==some (some (.builtin "object.__init__")))=true:=by fin2
noncomputable def nK:List (Nat×Nat)->Nat->Option Nat
 |[],_=>none
 |(k,f)::r,x=>bif bh k x then some f else nK r x
theorem S5 {f:Nat} {r:List (Nat×Nat)}:nK ((k,f)::r) x=bif bh k x then some f else nK r x:=rfl
theorem B5:∀{l:List (Nat×Nat)} {x f:Nat},nK l x=some f->(x,f)∈l:=λ{l}=>by
 induction l with
 |nil=>intro x f e;cases e
 |cons a r ih=>
  obtain⟨k,g⟩:=a
  intro x f e
  rw[S5]at e
  cases h:bh k x with
  |true=>rw[h]at e;have:=fG h;subst this;cases e;exact .head _
  |false=>rw[h]at e;exact .tail _ (ih e)
noncomputable def find3:List (Nat×Nat×Nat)->Nat->Nat->Option Nat
 |[],_,_=>none
 |(k,m,f)::r,x,y=>bif bh k x&&bh m y then some f else find3 r x y
theorem S6 {m f y:Nat} {r:List (Nat×Nat×Nat)}:find3 ((k,m,f)::r) x y=bif bh k x&&bh m y then some f else find3 r x y:=rfl
theorem S7:∀{l:List (Nat×Nat×Nat)} {x y f:Nat},find3 l x y=some f->(x,y,f)∈l:=λ{l}=>by
 induction l with
 |nil=>intro x y f e;cases e
 |cons a r ih=>
  obtain⟨k,m,g⟩:=a
  intro x y f e
  rw[S6]at e
  cases h:(bh k x&&bh m y)with
  |true=>
   rw[h]at e
   obtain⟨h1,h2⟩:=gO.mp h
   have:=fG h1;subst this
   have:=fG h2;subst this
   cases e;exact .head _
  |false=>rw[h]at e;exact .tail _ (ih e)
noncomputable def iw:List (Nat×List Nat)->Nat->Nat->Bool
 |[],_,_=>false
 |(k,l)::r,x,y=>bif bh k x then l.any (bh y)else iw r x y
theorem VI {y:Nat} {l:List Nat} {r:List (Nat×List Nat)}:iw ((k,l)::r) x y=bif bh k x then l.any (bh y)else iw r x y:=rfl
theorem VJ:∀{l:List (Nat×List Nat)} {x y:Nat},iw l x y=true->∃l',(x,l')∈l/\y∈l':=λ{l}=>by
 induction l with
 |nil=>intro x y e;cases e
 |cons a r ih=>
  obtain⟨k,l⟩:=a
  intro x y e
  rw[VI]at e
  cases h:bh k x with
  |true=>
   rw[h]at e
   have:=fG h;subst this
   obtain⟨z,hz,q⟩:=List.any_eq_true.mp e
   have:=fG q;subst this
   exact⟨l,.head _,hz⟩
  |false=>
   rw[h]at e
   obtain⟨l',a,b⟩:=ih e
   exact⟨l',.tail _ a,b⟩
noncomputable def kO:List (Nat×List Nat)->Nat->Bool
 |[],_=>false
 |(k,_)::r,x=>bif bh k x then true else kO r x
theorem Xo {l:List Nat} {r:List (Nat×List Nat)}:kO ((k,l)::r) x=bif bh k x then true else kO r x:=rfl
theorem Xp:∀{l:List (Nat×List Nat)} {x:Nat},kO l x=true->∃l',(x,l')∈l:=λ{l}=>by
 induction l with
 |nil=>intro x e;cases e
 |cons a r ih=>
  obtain⟨k,l⟩:=a
  intro x e
  rw[Xo]at e
  cases h:bh k x with
  |true=>have:=fG h;subst this;exact⟨l,.head _⟩
  |false=>rw[h]at e;obtain⟨l',a⟩:=ih e;exact⟨l',.tail _ a⟩
end
section
variable{c:Cx}
noncomputable def fe (σ:aa) (x y p:PV):Prop:=∀{d nh w A s v1 v2 value slice} {P:ae->au->Prop} {E:ae->au->Prop},cI d nh w A σ s->Rep s.heap (ao σ) v1 x->Rep s.heap (ao σ) v2 y->(∀o i,subscripted slice false o i=operate [o,i] (getItem o i))->
 (∀v s',Rep s'.heap (ao σ) v p->aF w A σ s σ s'->P v s')->az (aB pw w) A (subscriptTail value slice v1 v2) P E s
noncomputable abbrev Ih (Q:PV->aa->Prop) (x:PV):PV->aa->Prop:=λy σ=>Ax (fe σ x y) Q σ
noncomputable abbrev SH (c:Cx) (X:Ex->aa->Prop) (ρ:af) (r:ME) (Q:PV->aa->Prop):PV->aa->Prop:=λx σ=>V c r ρ σ (Ih Q x) X
theorem b8 {o i:ME} (h:V c o ρ σ (SH c X ρ i Q) X):V c (.idx o i) ρ σ Q X:=.intro λw A env _ s hc j=>
 Subscript_ (h.run (here j) (ak hc).1 j λx σ₁ zS s₁ hx r1 _ o1 j1=>hx.run o1 (ak hc).2 j1 λy bY E0 aU hy r2 q2 o2 j2=>
  hy.elim λp z=>z.1 j2.fi (q2.rl.rep r1) r2 (abj i _) λv s' hv o3=>dA z.2 hv (o2.trans o3))
theorem acu {i:Int} (h0:0<=i) (h1:i<n):seqIndex? i n=some i.toNat:=by
 have hn:¬i<0:=by exact gQ.mpr h0
 simp[seqIndex?,hn,h0,h1]
theorem zr {vs:Array ae} (r:aJ h O vs.toList l) {i:Nat} {p:PV} (e:l[i]?=some p):∃v,vs[i]?=some v/\Rep h O v p:=by
 obtain⟨v,hv,r⟩:=r.get i p e
 exact⟨v,by rw[<-wF];exact hv,r⟩
theorem sQ {i:Int} (h0:0<=i) (h1:i<1000000) (e:l[i.toNat]?=some p):fe σ (.tup l) (.int i) p:=λci r1 r2 hs h=>by
 apply r2.cInt;intro t
 apply r1.jO;intro a vs ht no r
 obtain⟨v,hv,r'⟩:=zr r e
 have br:i.toNat<l.length:=(eh.mp e).1
 have hlen:=r.length
 rw[fc]at hlen
 exact zJ ht.typeIs slot_tuple_getitem.lookup (getItem_tuple ht (by lia) (zw h1 rfl) (acu h0 (aau br hlen)) hv (h _ _ r' (.refl ci.cn))) (hs _ _)
theorem gk {i:Int} (h0:0<=i) (h1:i<1000000) (e:l[i.toNat]?=some p):fe σ (.lst l) (.int i) p:=λci r1 r2 hs h=>by
 apply r2.cInt;intro t
 apply r1.nF;intro a vs ht no r
 obtain⟨v,hv,r'⟩:=zr r e
 exact zJ ht.typeIs Nj.lookup (ady ht h0 (zw h1 rfl) hv (h _ _ r' (.refl ci.cn))) (hs _ _)
theorem i6 {i:Int} (ha:σ a=some (.av l)) (h0:0<=i) (h1:i<1000000) (e:l[i.toNat]?=some p):fe σ (.ref a) (.int i) p:=λci r1 r2 hs h=>by
 apply r2.cInt;intro t
 apply r1.nG
 obtain⟨vs,ht,r⟩:=ci.cn.at_ _ _ ha
 have ht:=ht.isList
 obtain⟨v,hv,r⟩:=zr r e
 exact zJ ht.typeIs Nj.lookup (ady ht h0 (zw h1 rfl) hv (h _ _ r (.refl ci.cn))) (hs _ _)
theorem qM {l:List UInt8} {i:Int} (h0:0<=i) (h1:i<l.length) (hz:l.length<=16777216):fe σ (.bytes l) (.int i) (.int ((l.getD i.toNat 0).toNat:Nat)):=λci r1 r2 hs h=>by
 apply r2.cInt;intro u
 obtain⟨b,t,rfl,rfl⟩:=r1.aQ
 refine zJ (m6 _ b t) FJ.lookup ?_ (hs _ _)
 obtain⟨l⟩:=b
 exact PySem.W.getItem_bytes (l:=l) (by have:l.length<=16777216:=hz;exact Lk hz) h0 h1 (h _ _ (.int _ _) (.tok ci.cn _))
noncomputable abbrev Io (Q:Option Int->aa->Prop):PV->aa->Prop:=λp σ=>∃i,p=.int i/\0<=i/\Q (some i) σ
noncomputable def VO (c:Cx) (m:Option ME) (ρ:af) (σ:aa) (Q:Option Int->aa->Prop) (X:Ex->aa->Prop):Prop:=match m with
 |none=>Q none σ
 |some m=>V c m ρ σ (Io Q) X
theorem QD {Q:Option Int->aa->Prop} (h:Q none σ):VO c none ρ σ Q X:=h
theorem GL {Q:Option Int->aa->Prop} (h:V c m ρ σ (Io Q) X):VO c (some m) ρ σ Q X:=h
theorem NS {m:Option ME} {Q:Option Int->aa->Prop} {w A env e s} (h:VO c m ρ σ Q X) (o:aF w A σ₀ s₀ σ s) (hc:ze m c.sc e=true) (hi:In c w A env ρ σ s) {P:ae->au->Prop}
  (k:∀i σ' v s',Q i σ'->(∀j,i=some j->0<=j)->IsPart v i->aF w A σ s σ' s'->aF w A σ₀ s₀ σ' s'->In c w A env ρ σ' s'->P v s'):
  az (aB pw w) A (evalPart (yW m e) env) P (d8 w A σ₀ s₀ X) s:=by
 cases m with
 |none=>exact bj (k none σ _ _ h (λ_ e=>(nn e)) .none (here hi) o hi)
 |some m=>
  refine V.run h o hc hi λp σ₁ v s₁ hq r q1 o1 i1=>?_
  obtain⟨i,rfl,h0,hq⟩:=hq
  apply r.cInt;intro t
  exact k (some i) σ₁ _ _ hq (λj e=>by cases e;exact h0) (.int _ _) q1 o1 i1
noncomputable def cut {α:Type} (l:List α) (lo hi:Option Int):List α:=(l.drop (lo.elim 0 oE)).take ((hi.elim l.length oE)-lo.elim 0 oE)
theorem HJ {α:Type} (l:List α) {lo hi:Option Int} (h1:∀j,lo=some j->0<=j) (h2:∀j,hi=some j->0<=j):
  (l.drop (lo.elim 0 (rX l.length))).take (hi.elim l.length (rX l.length)-lo.elim 0 (rX l.length))=cut l lo hi:=by
 have cl:∀j:Int,0<=j->rX l.length j=min j.toNat l.length:=λj h=>by
  unfold rX
  rw[if_neg (gQ.mpr h),Int.max_eq_right (Int.le_min.mpr ⟨h,aT _⟩)]
  obtain⟨k,rfl⟩:=p8 h
  rcases Nat.le_total k l.length with e|e
  ·rw[Int.min_eq_left (d6.mpr e)];exact(w3 e).symm
  ·rw[Int.min_eq_right (d6.mpr e)];exact(Gr e).symm
 have vN:lo.elim 0 (rX l.length)=min (lo.elim 0 oE) l.length:=by
  cases lo with
  |none=>simp
  |some j=>exact cl j (h1 j rfl)
 have fz:hi.elim l.length (rX l.length)=min (hi.elim l.length oE) l.length:=by
  cases hi with
  |none=>simp
  |some j=>exact cl j (h2 j rfl)
 rw[vN,fz]
 unfold cut
 generalize lo.elim 0 oE=a
 generalize hi.elim l.length oE=b
 by_cases ha:a<=l.length
 ·rw[w3 ha]
  by_cases hb:b<=l.length
  ·rw[w3 hb]
  ·rw[Gr (DV hb),wX (by simp),wX (by simp;exact aav hb)]
 ·rw[Gr (DV ha:l.length<=a),List.drop_length,AR (DV ha)];simp
noncomputable def A8 (x:PV) (lo hi:Option Int) (p:PV):Prop:=∀{d nh w A σ s v1 value vl vh vN fz pos} {P:ae->au->Prop} {E:ae->au->Prop},cI d nh w A σ s->Rep s.heap (ao σ) v1 x->IsPart vl lo->IsPart vh hi->(∀j,lo=some j->0<=j)->(∀j,hi=some j->0<=j)->
 (∀v s',Rep s'.heap (ao σ) v p->aF w A σ s σ s'->P v s')->az (aB pw w) A (subscriptTail value (.Slice vN fz none pos) v1 (.ref s.heap.objs.size)) P E {s with heap:=s.heap.push {cls:=.type "slice",data:=.fields #[vl,vh,.none]}}
noncomputable abbrev SR (Q:PV->aa->Prop) (x:PV) (a:Option Int):Option Int->aa->Prop:=λb σ=>Ax (A8 x a b) Q σ
noncomputable abbrev SQ (c:Cx) (X:Ex->aa->Prop) (ρ:af) (hi:Option ME) (Q:PV->aa->Prop) (x:PV):Option Int->aa->Prop:=λa σ=>VO c hi ρ σ (SR Q x a) X
noncomputable abbrev SP (c:Cx) (X:Ex->aa->Prop) (ρ:af) (lo hi:Option ME) (Q:PV->aa->Prop):PV->aa->Prop:=λx σ=>VO c lo ρ σ (SQ c X ρ hi Q x) X
theorem QH {o:ME} {lo hi:Option ME} (h:V c o ρ σ (SP c X ρ lo hi Q) X):V c (.e9 o lo hi) ρ σ Q X:=.intro λw A env _ s hc i=>
 Subscript_ (h.run (here i) (ak (ak hc).1).1 i λx σ₁ zS s₁ hx r1 _ o1 i1=>
  wpAny_Slice (NS hx o1 (ak (ak hc).1).2 i1 λa bY vl aU i5 ha pa q2 o2 i2=>NS i5 o2 (ak hc).2 i2 λb As vh fZ hb VM pb q3 o3 i3=>
   bj (hb.elim λp z=>z.1 i3.fi (q3.rl.rep (q2.rl.rep r1)) pa pb ha VM λv s' hv o4=>dA z.2 hv (o3.trans o4))))
theorem gK {l:List UInt8} {lo hi:Option Int} (hz:l.length<=16777216):A8 (.bytes l) lo hi (.bytes (cut l lo hi)):=λ{d nh w A σ s v1 value vl vh vN fz pos P E} ci r1 pl ph h1 h2 h=>by
 obtain⟨b,t,rfl,rfl⟩:=r1.aQ
 have hk:=fY (h:=s.heap) {cls:=.type "slice",data:=.fields #[vl,vh,.none]}
 refine tail_of_ItemOn (ops:=[.ref s.heap.objs.size,.bytes b t]) ⟨"bytes",_,FJ.lookup,m6 _ _ _,getItem_meets (m6 _ _ _) (by decide) FJ FB.entry_bytes_getitem (FB.args_bytes_getitem_2 _ _) (KBc.meets_slice2 b t _ pl ph)
  ⟨Pb _ _ _ _,ai (KBc.size_picked_le b lo hi) (by rw[g9];simpa using hz),λt' k=>?_⟩⟩ rfl (λ_=>by cases value<;>rfl)
 have e:(Pm b lo hi).toList=cut b.toList lo hi:=by
  rw[KBc.picked_eq,<-HJ b.toList h1 h2,<-fc]
 exact h _ _ (e▸Rep.bytes (Pm b lo hi) t') (.keeps ci.cn hk)
theorem EJ {lo hi:Option Int} (hz:l.length<=1000000):A8 (.lst l) lo hi (.lst (cut l lo hi)):=λ{d nh w A σ s v1 value vl vh vN fz pos P E} ci r1 pl ph h1 h2 h=>by
 apply r1.nF;intro a vs hl no r
 have hk:=fY (h:=s.heap) {cls:=.type "slice",data:=.fields #[vl,vh,.none]}
 have hlen:=r.length
 rw[fc]at hlen
 have eW:(s.heap.push {cls:=.type "slice",data:=.fields #[vl,vh,.none]}).IsList a vs:=by obtain⟨o,ho,x⟩:=hl;exact⟨o,hk _ _ ho,x⟩
 refine zJ (adV (s:={s with heap:=s.heap.push {cls:=.type "slice",data:=.fields #[vl,vh,.none]}}) eW) Nj.lookup ?_ rfl
 refine wpAny_getItem_list_slice eW (Pb ..) pl ph .none (by simp) ?_ (by rw[g9];exact Lm hz hlen)
 have sF:∀b o,s.heap.get? b=some o->((s.heap.push {cls:=.type "slice",data:=.fields #[vl,vh,.none]}).push {cls:=.type "list",data:=.seq (EK vs lo hi none)}).get? b=some o:=λb o e=>fY _ _ _ (hk b o e)
 have o1:aF w A σ s σ {s with heap:=(s.heap.push {cls:=.type "slice",data:=.fields #[vl,vh,.none]}).push {cls:=.type "list",data:=.seq (EK vs lo hi none)}}:=.keeps ci.cn sF
 refine h _ _ (.lst (vs:=EK vs lo hi none) ⟨_,jg _ rfl,rfl,_,rfl⟩ (λz=>?_) ?_) o1
 ·obtain⟨x,e⟩:=k_ ci.cn z
  have q:s.heap.objs.size+1<s.heap.objs.size:=by have:=hU e;rwa[rz]at this
  exact absurd q (by lia)
 ·have e:(EK vs lo hi none).toList=cut vs.toList lo hi:=by
   rw[slicePick_plain,<-HJ vs.toList h1 h2,<-fc]
  rw[e]
  unfold cut
  rw[fc,hlen]
  exact((o1.rl.jb r).drop _).take _
end
section
open Builtin.ObjectAttr
variable{c:Cx}
theorem Km {e:jf} {t:Tok} (he:e.key=.str (nm k) t) (hk:k<cT) (hx:x<cT):e.key.isStr (nm x)=bh k x:=by
 rw[he]
 show(nm k==nm x)=_
 cases h:bh k x with
 |true=>have:=fG h;subst this;simp
 |false=>exact beq_eq_false_iff_ne.mpr λe=>by have:=D8 hk hx e;subst this;simp at h
theorem xI (hx:x<cT):∀{es:List jf} {fs:List (Nat×PV)},FieldsAt h O es fs->
  (∀p,get fs x=some p->∃e,es.find? (·.key.isStr (nm x))=some e/\Rep h O e.val p)/\(get fs x=none->es.find? (·.key.isStr (nm x))=none)/\es.any (·.refKey)=false
 |[],[],_=>⟨λ_ e=>(nn e),λ_=>rfl,rfl⟩
 |e::es,(k,q)::fs,⟨⟨t,he⟩,hk,hr,hf⟩=>by
  obtain⟨i1,i2,i3⟩:=xI hx hf
  have vm:=Km he hk hx
  refine⟨λp hp=>?_,λhp=>?_,?_⟩
  ·simp only[mH]at hp
   rw[Pz,vm]
   cases hb:bh k x with
   |true=>replace hp:=hb▸hp;cases hp;exact⟨e,rfl,hr⟩
   |false=>replace hp:=hb▸hp;exact i1 p hp
  ·simp only[mH]at hp
   rw[Pz,vm]
   cases hb:bh k x with
   |true=>replace hp:=hb▸hp;cases hp
   |false=>replace hp:=hb▸hp;exact i2 hp
  ·rw[Ga,i3,Bool.or_false]
   simp[DictEntry.refKey,he]
theorem Ir (hx:x<cT) {hs:Int} {t:Tok} {v:ae} {p:PV} (hv:Rep h O v p):∀{es:List jf} {fs:List (Nat×PV)},FieldsAt h O es fs->
  FieldsAt h O (putIn (·.key.isStr (nm x)) (λe=>{e with val:=v}) ⟨hs,.str (nm x) t,v⟩ es) (put fs x p)
 |[],[],_=>⟨⟨t,rfl⟩,hx,hv,trivial⟩
 |e::es,(k,q)::fs,⟨⟨t',he⟩,hk,hr,hf⟩=>by
  have vm:=Km he hk hx
  simp only[M4,Eo]
  cases hb:bh k x with
  |true=>
   rw[putIn_hit (λy:jf=>y.key.isStr (nm x)) _ _ _ _ (vm.trans hb)]
   exact⟨⟨t',he⟩,hk,hv,hf⟩
  |false=>
   rw[putIn_miss (λy:jf=>y.key.isStr (nm x)) _ _ _ _ (vm.trans hb)]
   exact⟨⟨t',he⟩,hk,hr,Ir hx hv hf⟩
theorem C5 {C:Nat} (c:Cn w σ h) (e:σ a=some (.inst C fs)):
  ∃ox od,InstAt h a ox C (some od)/\ox.dict=some (a-1)/\od.cls=.type "dict"/\∃es n sl,od=⟨.type "dict",none,.dict es n,sl⟩/\FieldsAt h (ao σ) es.toList fs:=by
 obtain⟨_,sl,e1,es,n,fB,e2,f⟩:=c.at_ _ _ e
 exact⟨_,_,⟨e1,rfl,rfl,e2⟩,rfl,rfl,es,n,fB,rfl,f⟩
theorem BK {C:Nat} (h:kO fq C=true) (P:aV):uH (KF P) C=true:=by
 obtain⟨l,m⟩:=Xp h
 exact(gO.mp (eO.mp (Hw P) _ m)).1
theorem Ip {C:Nat} (h:iw fq C x=true) (P:aV):uH (KF P) C=true/\kI (KF P) (.ref C) (nm x)=some none/\x<cT:=by
 obtain⟨l,m,hx⟩:=VJ h
 obtain⟨h1,h2⟩:=gO.mp (eO.mp (Hw P) _ m)
 obtain⟨h3,h4⟩:=gO.mp (eO.mp h2 _ hx)
 exact⟨h1,beq_iff_eq.mp h3,of_decide_eq_true h4⟩
structure OW (K:Frag) (C:Nat):Prop where
 ga:kI K (.ref C) "__getattribute__"=some (some (.builtin "object.__getattribute__"))
 Vc:kI K (.ref C) "__getattr__"=some none
 sa:kI K (.ref C) "__setattr__"=some (some (.builtin "object.__setattr__"))
 over:plainOver K C=true
 dict:hasDictIn K C=true
 makes:makesIn K C=true
 keep:yu K (.ref C)=true
theorem uI {C:Nat} (h:uH K C=true):OW K C:=by
 simp only[uH,JG,tR,beq_iff_eq]at h
 obtain⟨⟨⟨⟨⟨⟨h1,h2⟩,h3⟩,h4⟩,h5⟩,h6⟩,h7⟩:=h
 exact⟨h1,h2,h3,h4,h5,h6,h7⟩
theorem ab9 (r:Rep h O v p):handedIn v=true:=by cases r<;>rfl
theorem G4 {C:Nat} {P:ae->au->Prop} {E:ae->au->Prop} {ex:Bool} (cn:Cn w σ s.heap) (e:σ a=some (.inst C fs)) (hp:get fs x=some p) (hf:iw fq C x=true)
  (h:∀v,Rep s.heap (ao σ) v p->P v {s with toks:=s.toks+1}):az (aB pw w) A (IT (.ref a) (nm x) ex) P E s:=by
 obtain⟨h1,h2,hx⟩:=Ip hf w.params
 have CF:=uI h1
 obtain⟨ox,od,I,_,_,es,n,sl,rfl,F⟩:=C5 cn e
 obtain⟨i1,_,_⟩:=xI hx F
 obtain⟨en,he,hr⟩:=i1 p hp
 obtain⟨cd,hc,hd⟩:=uu CF.dict
 refine get_value (v:=en.val) cn.base I CF.ga ?_ (ab9 hr) (h _ hr)
 unfold findObj
 rw[hc,w8,h2,w8]
 dsimp only
 rw[w8,w8]
 dsimp only
 unfold W.ownOf
 rw[hd,if_pos rfl]
 unfold lookIn
 dsimp only
 rw[he,w8]
theorem Nr (h:tv m=true) (e:Expr) {attr:Str} {env:Env} {whole:Sem ae}:xi (mk m e) attr env whole=whole:=by
 have key:∀(f:Nat) (p:Pos) (as:List Expr) (q:Pos),(nm f !=("super":Str))=true->xi (.Call (.Name (nm f) p) as [] q) attr env whole=whole:=λf p as q h=>by
  unfold xi
  rcases as with _|⟨_,_⟩<;>first|rfl|(dsimp only;refine aj (h)▸?_;rfl)
 cases m<;>first|rfl|exact key _ _ _ _ h
theorem Sr {e:Expr} {attr:Str} {pos:Pos} (h:tv m=true):eval (.Attribute (mk m e) attr pos) env=(do
   let o<-eval (mk m e) env
   tG pos.atName
   let r<-sL [o] (IT o attr true)
   YM (mk m e) o r
   pure r):=by
 have:eval (.Attribute (mk m e) attr pos) env=(do
   let o<-xi (mk m e) attr env (eval (mk m e) env)
   tG pos.atName
   let r<-sL [o] (IT o attr true)
   YM (mk m e) o r
   pure r):=rfl
 rw[this,Nr h]
inductive Ic (f:Nat) (Q:PV->aa->Prop) (y:PV) (σ:aa):Prop where
 |intro(a C:Nat) (fs:af) (p:PV):y=.ref a->σ a=some (.inst C fs)->iw fq C f=true->get fs f=some p->Q p σ->Ic f Q y σ
theorem V_at {o:ME} (h:V c o ρ σ (Ic x Q) X):V c (.at o x) ρ σ Q X:=.intro λw A env _ s hc i=>by
 refine Attribute_any_ (h.run (here i) (ak (ak hc).1).2 i λy σ₁ v s₁ hy r _ o1 _=>?_) (Sr (ak hc).2)
 obtain⟨a,C,fs,p,rfl,ha,hf,hp,hq⟩:=hy
 apply r.nG
 exact G4 o1.cn ha hp hf λv hv=>dA hq hv (o1.trans (.tok o1.cn _))
theorem abU {C:Nat} {nM:List (Nat×PV)} (e:σ a=some (.inst C fs)) {b:Nat}:ao (upd σ a (.inst C nM)) b↔ao σ b:=by
 have key:∀b,((upd σ a (.inst C nM) b).isSome=true↔(σ b).isSome=true)/\((∃D gs,upd σ a (.inst C nM) b=some (.inst D gs))↔∃D gs,σ b=some (.inst D gs)):=λb=>by
  by_cases q:b=a
  ·subst q;rw[ay,e];exact⟨tW,⟨λ_=>⟨_,_,rfl⟩,λ_=>⟨_,_,rfl⟩⟩⟩
  ·rw[aw _ _ q];exact⟨tW,tW⟩
 unfold ao
 rw[(key b).1,(key (b+1)).2]
theorem MY (h:∀b,ao σ' b↔ao σ b):ao σ'=ao σ:=funext λb=>propext (h b)
theorem acK {C:Nat} {nM:List (Nat×PV)} {tk:Nat} (cn:Cn w σ s.heap) (e:σ a=some (.inst C fs)) (hs:∀b,b≠a-1->h'.get? b=s.heap.get? b)
  (hd:∃es n sl,h'.get? (a-1)=some ⟨.type "dict",none,.dict es n,sl⟩/\FieldsAt s.heap (ao σ) es.toList nM):aF w A σ s (upd σ a (.inst C nM)) {s with heap:=h',toks:=tk}:=by
 have ho:ao (upd σ a (.inst C nM))=ao σ:=MY λb=>abU e
 have h0:=(cn.at_ _ _ e).1
 have vq:ao σ (a-1):=.inr ⟨C,fs,by(refine aj (jF h0)▸?_;exact e)⟩
 have rl:Rl (bG A) σ s.heap (upd σ a (.inst C nM)) h':=⟨Kp.y9 λb o q n=>hJ (hs b λz=>n (z▸vq)) q,λb z=>.inl (ho▸z),λb z=>ho▸z⟩
 have q:ew (ao σ) s.heap h':=rl.kp.seq λ_ _ _ _ _ _ z=>z
 have n1:=cn.apart _ _ _ e
 obtain⟨es,n,sl,u_,hd2⟩:=hd
 have base:(KF w.params).In h':=Bm cn.base (cn.lo _ vq) hs
 refine⟨⟨_,_,rfl⟩,⟨base,λb o eb=>?_,λb z=>cn.lo b (ho▸z),λb C' U1 eb=>?_⟩,rl⟩
 ·refine aj (ho)▸?_
  by_cases qa:b=a
  ·subst qa
   rw[ay]at eb;(cases eb)
   obtain⟨_,pT,e1,_⟩:=cn.at_ _ _ e
   exact⟨h0,pT,hJ (hs b (by lia)) e1,es,n,sl,u_,hd2.mono q λ_ _ _ z=>z⟩
  ·rw[aw _ _ qa]at eb
   have nb:b≠a-1:=λz=>by rw[z,n1]at eb;(exact nn eb)
   exact(cn.at_ _ _ eb).mv (λ_ z=>(hs b nb).trans z) (λ_ _ e ob z=>(hs (b-1) (by subst e;have:=(cn.at_ _ _ eb).pos;exact aaw this h0 qa)).trans z) q λ_ _ _ z=>z
 ·by_cases qa:b=a
  ·subst qa
   exact hJ (aw _ _ (by lia)) n1
  ·rw[aw _ _ qa]at eb
   have:=cn.apart _ _ _ eb
   have g0:=(cn.at_ _ _ eb).pos
   by_cases qb:b-1=a
   ·rw[qb,e]at this;(cases this)
   ·exact hJ (aw _ _ qb) this
theorem G5 {C:Nat} {P:Unit->au->Prop} {E:ae->au->Prop} (cn:Cn w σ s.heap) (e:σ a=some (.inst C fs)) (hv:Rep s.heap (ao σ) v p) (hf:iw fq C x=true) (hz:fs.length<=1000)
  (h:∀s',aF w A σ s (upd σ a (.inst C (put fs x p))) s'->P () s'):az (aB pw w) A (Nh (.ref a) (nm x) v) P E s:=by
 obtain⟨h1,h2,hx⟩:=Ip hf w.params
 have CF:=uI h1
 obtain⟨ox,od,I,vb,_,es,n,sl,rfl,F⟩:=C5 cn e
 obtain⟨_,_,i3⟩:=xI hx F
 obtain⟨cd,hc,gW⟩:=uu CF.dict
 refine set_plain cn.base I CF.sa ?_
 have ht:takerIn (KF w.params) C (nm x)=some none:=by unfold takerIn;refine aj (h2)▸?_;rfl
 refine osa_open (s:={s with toks:=s.toks+1}) cn.base I CF.over ht λb=>?_
 have D:=I.dict
 have gZ:=I.at_
 have iY:=I.cls
 obtain⟨oc,odi,oda,osl⟩:=ox
 dsimp only at iY vb
 subst iY vb
 dsimp only at D
 have hlen:es.toList.length=fs.length:=by
  have:∀{es:List jf} {fs:List (Nat×PV)},FieldsAt s.heap (ao σ) es fs->es.length=fs.length:=λ{es}=>by
   induction es with
   |nil=>intro fs;cases fs with|nil=>intro _;rfl|cons _ _=>intro z;exact z.elim
   |cons y ys ih=>intro fs;cases fs with|nil=>intro z;exact z.elim|cons z zs=>obtain⟨k,q⟩:=z;intro⟨_,_,_,f⟩;rw[ej,ej,ih f]
  exact this F
 rw[fc]at hlen
 refine ax (bj (ax (ax (zX gZ (ax (looks_clsIn (M:=aB pw w) cn.base hc _ _ _ _ (λ_ _ e=>e) ?_))))))
 refine aj (gW)▸?_
 refine bj (a:=some (a-1)) (ax (bj (ax ?_)))
 unfold nsSet
 refine ax (ax (wpAny_askSetting (bj (ax (wpAny_mkText (ax (zX D ?_)))))))
 dsimp only
 have cc:(!es.any (·.key.isStr (nm x))&&es.any (·.refKey))=false:=by
  have:es.any (·.refKey)=false:=by refine(Fv)▸?_;exact i3
  rw[this,Bool.and_false]
 rw[aRefKeyMayBeTheName_at,cc]
 refine wpAny_updatePart D ?_
 have pe:=putName_eq (nm x) (A5 w.params (nm x)) (.str (nm x) (s.toks+1)) v (.type "dict") none es.toList n sl
 rw[Au]at pe
 have D':=FU (Obj.putName (nm x) (A5 w.params (nm x)) (.str (nm x) (s.toks+1)) v) D (by refine aj (pe)▸?_;rfl)
 rw[pe]at D'
 refine ax (wpAny_lookBehind D' (pastItsLine_dict ?_) ?_)
 ·rw[rC,g9]
  have:∀(l:List jf) (p:jf->Bool) f y,(Qq p f y l).length<=l.length+1:=λl p f y=>by
   unfold Qq;split<;>simp
  have:=this es.toList (·.key.isStr (nm x)) (λe=>{e with val:=v}) ⟨A5 w.params (nm x),.str (nm x) (s.toks+1),v⟩
  have l2:es.toList.length=es.size:=fc
  exact aax this hz hlen
 ·refine bj ?_
  refine h _ (acK cn e (λb hb=>FT _ _ (cN hb)) ⟨_,_,sl,D',?_⟩)
  exact Ir hx hv F
end
section
open Builtin.ObjectAttr
variable{c:Cx}
theorem q_:∀{ms:List ME} {es:List Expr},(fE (ct ms es) env).any (·.1)=false:=by
 intro bD
 induction bD with
 |nil=>
  intro _
  exact rfl
 |cons m ms ih=>
  intro es
  show(fE (mk m (hd es)::ct ms es.tail) env).any (·.1)=false
  rw[D0,Ga,ih];rfl
theorem abl:∀(ms:List ME) (es:List Expr),(ct ms es).length=ms.length:=by
 intro bD
 induction bD with
 |nil=>
  intro _
  exact rfl
 |cons _ ms ih=>
  intro es
  exact congrArg (· +1) (ih es.tail)
theorem qq (pos:Pos) (l:List (Bool×Sem ae)):(fJ pos l).any (·.1)=l.any (·.1):=by
 unfold fJ;rw[List.any_map];rfl
theorem uV {E:ae->au->Prop} {f:ae} {args:List (Bool×Sem ae)} {P:Args->au->Prop} (hp:args.any (·.1)=false)
  (h:az M A (q9 args) (λvs s'=>P ⟨vs,[]⟩ s') E s):az M A (evalArgs f true args []) P E s:=by
 cases args with
 |nil=>
  unfold evalArgs
  show az M A (q9 []>>=_) P E s
  exact ax (bg h (λvs s' h'=>pX (ax (bj (ax (bj (bj h')))))) λ_ _ x=>x)
 |cons a r=>
  obtain⟨b,t⟩:=a
  cases b with
  |true=>exact absurd hp (by simp)
  |false=>exact evalArgs_plain h
theorem xr {f:ae} {first:List ae} {pos:Pos} {P:ae->au->Prop} {E:ae->au->Prop} (hk:yu K f=true)
  (h:az (aB pw w) A (q9 (fJ pos (fE (ct ms es) env))) (λvs s₁=>K.In s₁.heap/\az (aB pw w) A (call f (first++vs)) P E s₁) E s):
  az (aB pw w) A (xq pos f first (fJ pos (fE (ct ms es) env)) []) P E s:=
 callWith_of (P:=K.In) (by rw[qq,q_];rfl) (keeps_K hk) (uV (by rw[qq,q_]) h)
theorem Kl {f:Nat} (h:fnIn K f=true):yu K (.ref f)=true:=by
 rcases e:K.lookup f with _|⟨c,dd,d,sl⟩
 ·delta fnIn at h;rw[e]at h;exact ff h
 ·delta fnIn at h;delta yu;rw[e]at h;dsimp only;refine aj (e)▸?_
  cases d<;>first|rfl|exact ff h
structure adT (K:Frag) (f:Nat):Prop where
 fn:fnIn K f=true
 ty:typeIn K (.ref f)=some (.type "function")
theorem fnAt {f:Nat} (hf:nK xJ n=some f) (P:aV):nsIn (KF P) fA (nm n)=some (some (.ref f))/\fnIn (KF P) f=true:=by
 have F:=ak (eO.mp (Tc P) _ (B5 hf))
 exact⟨beq_iff_eq.mp (ak F.1).1,(ak F.1).2⟩
noncomputable abbrev SG (c:Cx) (X:Ex->aa->Prop) (f:Nat) (Q:PV->aa->Prop):List PV->aa->Prop:=λps σ=>Call c.d c.nh f ps σ Q X
theorem dX {f:Nat} (hf:nK xJ n=some f) (h:VA c ms ρ σ (SG c X f Q) X):V c (.cf n ms) ρ σ Q X:=.intro λw A env _ s hc i=>
 tS (sy i (ak hc).1 (fnAt hf w.params).1 (xr (Kl (fnAt hf w.params).2) (h.run (here i) (ak hc).2 i λps σ₁ vs s₁ u9 hr _ o1 i1=>⟨o1.cn.base,u9.go o1 i1.fi hr⟩)))
theorem Rt:(Manifest.canonical "object.__getattribute__"!="object.__getattribute__")=false:=by fin2
theorem Ve {C m f:Nat} {pl:Sem Bool} {P:ae×List ae->au->Prop} {E:ae->au->Prop} (cn:Cn w σ s.heap) (e:σ a=some (.inst C fs)) (hC:kO fq C=true)
  (hf:kI (KF w.params) (.ref C) (nm m)=some (some (.ref f))) (ht:typeIn (KF w.params) (.ref f)=some (.type "function")) (hm:m<cT) (hn:get fs m=none) (h:P (.ref f,[.ref a]) s):az (aB pw w) A (IU (.ref a) (nm m) pl) P E s:=by
 have CF:=uI (BK hC w.params)
 obtain⟨ox,od,I,vb,_,es,n,sl,rfl,F⟩:=C5 cn e
 obtain⟨_,i2,i3⟩:=xI hm F
 have Wi:=i2 hn
 obtain⟨hh,g,d,tk,os⟩:=s
 have L1:=yF (M:=aB pw w) cn.base CF.ga
 have L2:=yF (M:=aB pw w) cn.base CF.Vc
 have L3:=yF (M:=aB pw w) cn.base hf
 have L4:=looks_typeIn (M:=aB pw w) cn.base ht
 have LT:=I.type (M:=aB pw w)
 have D:=I.dict
 have gZ:=I.at_
 have iY:=I.cls
 obtain⟨oc,odi,oda,osl⟩:=ox
 dsimp only at iY vb
 subst iY vb
 dsimp only at D
 unfold IU
 refine ax (ax (LT.at (L1.at ?_)))
 dsimp only
 rw[if_neg (by rw[Rt];exact hH)]
 refine ax (ax (LT.at (L2.at ?_)))
 rw[if_neg (by simp)]
 refine ax (ax (LT.at (L3.at ?_)))
 dsimp only
 refine ax (L4.at ?_)
 rw[if_neg (by simp)]
 refine ax (zX gZ ?_)
 dsimp only
 refine ax ?_
 unfold nsGet
 refine ax (zX D ?_)
 have hl:nsLook (nm m) ⟨.type "dict",none,.dict es n,sl⟩=pure none:=nsLook_of (by
  unfold lookIn
  dsimp only
  rw[Wi,i3];rfl)
 rw[hl]
 refine bj ?_
 rw[if_neg (by simp)]
 exact ax (m7 (bj h))
theorem Ho {o:ME} {eo:Expr} {name:Str} {apos pos:Pos} {P:ae->au->Prop} {E:ae->au->Prop} (hs:tv o=true) (hl:(apos.endLine==pos.line)=true) (hn:iU ms.length 30=true)
  (h:az (aB pw w) A (eval (mk o eo) env) (λov s₁=>az (aB pw w) A (IU ov name (do return(<-importBound (mk o eo) env).getD true)) (λfx aU=>az (aB pw w) A (xq pos fx.1 fx.2 (fJ pos (fE (ct ms es) env)) []) P E aU) E s₁) E s):
  az (aB pw w) A (eval (.Call (.Attribute (mk o eo) name apos) (ct ms es) [] pos) env) P E s:=by
 have e0:eval (.Call (.Attribute (mk o eo) name apos) (ct ms es) [] pos) env=(do
  let ov<-xi (mk o eo) name env (eval (mk o eo) env)
  tG apos.atName
  methodCall (mk o eo) name apos pos env ov ((ct ms es).length+([]:List wL).length) (fJ pos (fE (ct ms es) env)) (Bk pos (Dn [] env))):=rfl
 rw[e0,Nr hs]
 have V4:abc ((ct ms es).length+([]:List wL).length) (fJ pos (fE (ct ms es) env)) (Bk pos (Dn [] env))=true:=by
  have h1:(fJ pos (fE (ct ms es) env)).all (λx=>!x.1)=true:=by
   have:=q_ (env:=env) (ms:=ms) (es:=es)
   rw[<-qq pos,List.any_eq_false]at this
   exact eO.mpr λx hx=>by have:=this x hx;simpa using this
  unfold abc
  refine aj (h1)▸?_
  have vo:ms.length<30:=aG hn
  rw[show Bk pos (Dn [] env)=[] from rfl]
  simp[abl,vo]
 have CP:methodCallPos true (mk o eo) env apos pos=pure pos:=by unfold methodCallPos;refine aj (hl)▸?_;rfl
 refine ax (bg h (λov s₁ dT=>ax (wB ?_)) λ_ _ z=>z)
 unfold methodCall
 rw[V4,CP]
 unfold calleeOf
 refine aj (if_pos rfl)▸?_
 refine ax (pX (bg dT (λfx aU vz=>?_) λ_ _ z=>z))
 exact ax (bj vz)
theorem abp {C m f:Nat} (hf:find3 pO C m=some f) (P:aV):kI (KF P) (.ref C) (nm m)=some (some (.ref f))/\fnIn (KF P) f=true/\typeIn (KF P) (.ref f)=some (.type "function"):=by
 have F:=ak (eO.mp (abq P) _ (S7 hf))
 exact⟨beq_iff_eq.mp (ak (ak F.1).1).1,(ak (ak F.1).1).2,beq_iff_eq.mp (ak F.1).2⟩
noncomputable abbrev Ie (c:Cx) (X:Ex->aa->Prop) (f a:Nat) (Q:PV->aa->Prop):List PV->aa->Prop:=λps σ=>Call c.d c.nh f (.ref a::ps) σ Q X
inductive Ik (c:Cx) (X:Ex->aa->Prop) (ρ:af) (m:Nat) (ms:List ME) (Q:PV->aa->Prop) (x:PV) (σ:aa):Prop where
 |intro(a C:Nat) (fs:af) (f:Nat):x=.ref a->σ a=some (.inst C fs)->find3 pO C m=some f->kO fq C=true->get fs m=none->VA c ms ρ σ (Ie c X f a Q) X->Ik c X ρ m ms Q x σ
theorem Bc {o:ME} {m:Nat} (h:V c o ρ σ (Ik c X ρ m ms Q) X):V c (.cm o m ms) ρ σ Q X:=.intro λw A env _ s hc i=>by
 obtain⟨hc,g6⟩:=ak hc
 obtain⟨hc,g5⟩:=ak hc
 obtain⟨hc,g4⟩:=ak hc
 obtain⟨hc,g3⟩:=ak hc
 obtain⟨g1,g2⟩:=ak hc
 refine Ho g6 g1 g2 (h.run (here i) g4 i λx σ₁ v s₁ hx hr _ o1 i1=>?_)
 obtain⟨a,C,fs,f,rfl,ha,hf,hC,hn,sP⟩:=hx
 apply hr.nG
 obtain⟨F1,F2,F3⟩:=abp hf w.params
 refine Ve o1.cn ha hC F1 F3 (mU g3) hn (xr (Kl F2) (sP.run o1 g5 i1 λps bY vs aU u9 CR q2 o2 i2=>⟨o2.cn.base,u9.go o2 i2.fi (.cons (.ref a) CR)⟩))
end
section
structure qj (env:Env) (l:List Env) (σ:aa) (h:Heap) (σ':aa) (h':Heap):Prop where
 kp:Kp (λb=>ao σ b\/FO env b) l h h'
 new:∀b,ao σ' b->ao σ b\/h.get? b=none
 old:∀b,ao σ b->ao σ' b
 fo:∀b,FO env b->h'.get? b=none->h.get? b=none
structure bw (c:Cx) (w:bF) (A:dn) (env:Env) (σ:aa) (s:au) (ρ':af) (σ':aa) (s':au):Prop where
 same:∃h' tk,s'={s with heap:=h',toks:=tk}
 cn:Cn w σ' s'.heap
 en:cA c.sc env ρ' σ' s'.heap
 ok:mh (bG A) σ' s'.heap
 rl:qj env (bG A) σ s.heap σ' s'.heap
section
variable{c:Cx} {ot:af}
theorem qj.back {l:List Env} (x:qj env l σ h σ' h'):∀b,ao σ' b\/h'.get? b=none->ao σ b\/h.get? b=none:=λb z=>by
 rcases z with z|z
 ·exact x.new b z
 ·by_cases q:ao σ b
  ·exact .inl q
  ·by_cases f:FO env b
   ·exact .inr (x.fo b f z)
   ·refine .inr ?_
    cases e:h.get? b with
    |none=>rfl
    |some o=>obtain⟨_,e',_⟩:=x.kp b o e λz=>z.elim q f;rw[z]at e';(exact nn e')
theorem qj.trans {l:List Env} (x:qj env l σ h σ' h') (y:qj env l σ' h' oy o_):qj env l σ h oy o_:=by
 refine⟨x.kp.trans y.kp (λb o e z=>?_) λ_ _ _ z=>z,λb z=>x.back b (y.new b z),λb z=>y.old b (x.old b z),λb f z=>x.fo b f (y.fo b f z)⟩
 rcases z with z|z
 ·rcases x.new b z with q|q
  ·exact .inl q
  ·replace q:=e▸q;cases q
 ·exact .inr z
theorem aF.dh (i:In c w A env ρ σ s) (o:aF w A σ s σ' s'):bw c w A env σ s ρ σ' s':=by
 refine⟨o.same,o.cn,i.en.rl o.rl,i.fi.ok.rl o.rl.kp o.rl.new,⟨o.rl.kp.mono λ_ z=>.inl z,o.rl.new,o.rl.old,λb f z=>?_⟩⟩
 obtain⟨ob,hb,_⟩:=i.en.gg b f
 obtain⟨_,e,_⟩:=o.rl.kp b ob hb (i.en.i9 b f)
 rw[z]at e;(exact nn e)
theorem bw.refl (i:In c w A env ρ σ s):bw c w A env σ s ρ σ s:=(aF.refl i.fi.cn).dh i
theorem bw.trans (x:bw c w A env σ s ρ' σ' s') (y:bw c w A env σ' s' ot oy cu):bw c w A env σ s ot oy cu:=
 ⟨EH x.same y.same,y.cn,y.en,y.ok,x.rl.trans y.rl⟩
theorem In.dh (i:In c w A env ρ σ s) (o:bw c w A env σ s ρ' σ' s'):In c w A env ρ' σ' s':=
 ⟨⟨i.fi.lv,i.fi.hd,o.cn,i.fi.fr,o.ok,(tC o.same).trans i.fi.gens⟩,o.en⟩
structure Top (A:dn) (env:Env):Prop where
 fr:env.frame=some env.locals
 hd:∃outer,bG A=env::outer
inductive uh (c0:Cx) (w0:bF) (A0:dn) (e0:Env) (t0:aa) (s0:au) (N0:af->aa->Prop) (s1:au):Prop
 |mk (m8 d0) (q:N0 m8 d0) (o:bw c0 w0 A0 e0 t0 s0 m8 d0 s1)
inductive w_ (c0:Cx) (w0:bF) (A0:dn) (e0:Env) (t0:aa) (s0:au) (R0:PV->aa->Prop) (v0:ae) (s1:au):Prop
 |mk (p1 m8 d0) (q:R0 p1 d0) (r:Rep s1.heap (ao d0) v0 p1) (o:bw c0 w0 A0 e0 t0 s0 m8 d0 s1)
noncomputable def eu (c:Cx) (w:bF) (A:dn) (env:Env) (σ:aa) (s:au) (N:af->aa->Prop) (R:PV->aa->Prop) (f:Flow) (s':au):Prop:=match f with
 |.next=>uh c w A env σ s N s'
 |.ret v=>w_ c w A env σ s R v s'
 |_=>False
noncomputable def GS (env:Env) (st:ur):Prop:=match st with
 |.fresh=>True
 |.tr fl=>fl=.none\/fl=lj env.locals
inductive cW (c0:Cx) (w0:bF) (A0:dn) (e0:Env) (t0:aa) (s0:au) (X0:Ex->af->aa->Prop) (x:ae) (s1:au):Prop
 |mk (ex m8 d0 e st:_) (a:x=.ref e) (q:X0 ex m8 d0) (o:bw c0 w0 A0 e0 t0 s0 m8 d0 s1) (f:GS e0 st) (z:gq st s0.heap e ex d0 s1.heap)
structure SV (c:Cx) (m:MS) (ρ:af) (σ:aa) (N:af->aa->Prop) (R:PV->aa->Prop) (X:Ex->af->aa->Prop):Prop where
 intro::
 out:∀w A env e s,MR m c.sc e=true->In c w A env ρ σ s->Top A env->az (aB pw w) A (exec (Mm m e) env) (eu c w A env σ s N R) (cW c w A env σ s X) s
structure aD (c:Cx) (ms:List MS) (ρ:af) (σ:aa) (N:af->aa->Prop) (R:PV->aa->Prop) (X:Ex->af->aa->Prop):Prop where
 intro::
 out:∀w A env es s,k9 ms c.sc es=true->In c w A env ρ σ s->Top A env->az (aB pw w) A (execs (jt ms es) env) (eu c w A env σ s N R) (cW c w A env σ s X) s
noncomputable abbrev xa (X:Ex->af->aa->Prop) (ρ:af):Ex->aa->Prop:=λex σ=>X ex ρ σ
variable{N:af->aa->Prop} {X:Ex->af->aa->Prop} {afl:af} {e:Expr}
theorem eu.back (o:bw c w A env σ s ρ' σ' s') {f:Flow} (h:eu c w A env σ' s' N R f cu):eu c w A env σ s N R f cu:=by
 cases f with
 |next=>exact uh.rec (λtP bY h1 h2=>⟨tP,bY,h1,o.trans h2⟩) h
 |ret v=>exact w_.rec (λp tP bY h1 h2 h3=>⟨p,tP,bY,h1,h2,o.trans h3⟩) h
 |brk=>exact h.elim
 |cont=>exact h.elim
theorem eu.el {f:Flow} (h:eu c w A env σ s N R f cu) {P:Flow->Prop} (k:∀bJ σ₁,N bJ σ₁->bw c w A env σ s bJ σ₁ cu->P .next) (kr:∀v,w_ c w A env σ s R v cu->P (.ret v)):P f:=by
 cases f with
 |next=>exact uh.rec k h
 |ret v=>exact kr v h
 |brk=>exact h.elim
 |cont=>exact h.elim
theorem cW.back (o:bw c w A env σ s ρ' σ' s') {x:ae} (h:cW c w A env σ' s' X x cu):cW c w A env σ s X x cu:=
 h.rec λex tP bY e st h1 h2 h3 h4 h5=>⟨ex,tP,bY,e,st,h1,h2,o.trans h3,h4,h5.back (λb z=>o.rl.back b (.inr z)) λb z=>h3.rl.old b (o.rl.old b z)⟩
theorem d8.sx (i:In c w A env ρ σ s) {x:ae} (h:d8 w A σ s (xa X ρ) x s'):cW c w A env σ s X x s':=
 h.rec λex σ₁ e h1 h2 h3 h4=>⟨ex,ρ,σ₁,e,.tr .none,h1,h2,h3.dh i,Or.inl rfl,h4⟩
theorem lq (h:N ρ' σ') (o:bw c w A env σ s ρ' σ' s'):eu c w A env σ s N R .next s':=⟨ρ',σ',h,o⟩
theorem Nn (h:R p σ') (r:Rep s'.heap (ao σ') v p) (o:bw c w A env σ s ρ' σ' s'):eu c w A env σ s N R (.ret v) s':=⟨p,ρ',σ',h,r,o⟩
theorem V.st (h:V c m ρ σ Q (xa X ρ)) (nX:In c w A env ρ σ₀ s₀) (o:aF w A σ₀ s₀ σ s) (hc:ok m c.sc e=true) (i:In c w A env ρ σ s) {P:ae->au->Prop}
  (k:∀p σ' v s',Q p σ'->Rep s'.heap (ao σ') v p->aF w A σ s σ' s'->aF w A σ₀ s₀ σ' s'->In c w A env ρ σ' s'->P v s'):az (aB pw w) A (eval (mk m e) env) P (cW c w A env σ₀ s₀ X) s:=
 bg (h.run o hc i k) (λ_ _ z=>z) λ_ _ z=>z.sx nX
theorem VA.st {pos:Pos} {Q:List PV->aa->Prop} (h:VA c ms ρ σ Q (xa X ρ)) (i:In c w A env ρ σ s) (hc:gG ms c.sc es=true) {P:List ae->au->Prop}
  (k:∀ps σ' vs s',Q ps σ'->aJ s'.heap (ao σ') vs ps->aF w A σ s σ' s'->In c w A env ρ σ' s'->P vs s'):az (aB pw w) A (q9 (fJ pos (fE (ct ms es) env))) P (cW c w A env σ s X) s:=
 bg (h.run (here i) hc i λps σ' vs s' a b c _ d=>k ps σ' vs s' a b c d) (λ_ _ z=>z) λ_ _ z=>z.sx i
theorem T.st {Q:Bool->aa->Prop} (h:T c m ρ σ Q (xa X ρ)) (i:In c w A env ρ σ s) (hc:ok m c.sc e=true) {P:Bool->au->Prop}
  (k:∀b σ' s',Q b σ'->aF w A σ s σ' s'->In c w A env ρ σ' s'->P b s'):az (aB pw w) A (vC (mk m e) env (eval (mk m e) env)) P (cW c w A env σ s X) s:=
 bg (h.run (here i) hc i k) (λ_ _ z=>z) λ_ _ z=>z.sx i
theorem aD.go {ms:List MS} {es:List Stmt} (h:aD c ms ρ σ N R X) (o:bw c w A env σ₀ s₀ ρ σ s) (hc:k9 ms c.sc es=true) (i:In c w A env ρ σ s) (tp:Top A env):az (aB pw w) A (execs (jt ms es) env) (eu c w A env σ₀ s₀ N R) (cW c w A env σ₀ s₀ X) s:=
 bg (h.out w A env es s hc i tp) (λ_ _ z=>z.back o) λ_ _ z=>z.back o
theorem Nl {tk:Nat} (i:In c w A env ρ σ s) (f:FO env b) (hs:∀a,a≠b->h'.get? a=s.heap.get? a)
  (en:cA c.sc env ρ' σ h') (hk:∀o,s.heap.get? b=some o->(∃es n,o.data=.dict es n)->∃o',h'.get? b=some o'/\∃es n,o'.data=.dict es n):bw c w A env σ s ρ' σ {s with heap:=h',toks:=tk}:=by
 have nb:=i.en.i9 b f
 have kp:Kp (λa=>ao σ a\/FO env a) (bG A) s.heap h':=Kp.y9 λa o e n=>by rw[hs a λz=>n (.inr (z▸f))];exact e
 have q:ew (ao σ) s.heap h':=λa o xs n e d no=>⟨o.slots,by
  rw[hs a λz=>?_]; · exact e
  obtain⟨ob,hb,hd⟩:=i.en.gg b f
  rw[z,hb]at e;cases e
  rcases hd with⟨_,_,hd⟩|⟨_,hd⟩<;>replace d:=hd▸d<;>cases d⟩
 refine⟨⟨_,_,rfl⟩,i.fi.cn.keep (λa o e=>?_) (λa o e z=>⟨o.slots,by refine aj (hs a λy=>nb (y▸z))▸?_;exact e⟩) q,en,λeK m=>?_,⟨kp,λ_ z=>.inl z,λ_ z=>z,λa fa z=>?_⟩⟩
 ·exact Bm (h':=h') i.fi.cn.base (i.en.nL b f) hs a o e
 ·obtain⟨h1,L,o,h2,h3,h4,h5,h6⟩:=i.fi.ok eK m
  by_cases qb:L=b
  ·subst qb
   obtain⟨o',e',d'⟩:=hk o h3 h4
   exact⟨h1,L,o',h2,e',d',h5,h6⟩
  ·exact⟨h1,L,o,h2,(hs L qb).trans h3,h4,h5,h6⟩
 ·obtain⟨o,ho,_⟩:=en.gg a fa
  exact absurd z (by show h'.get? a≠none;refine aj (ho)▸?_;exact λy=>(nn (aj y)))
theorem vL (i:cA c.sc env ρ σ s.heap) (x:Str):env.kindOf x=c.sc.names.lookup x:=by
 show env.scope.names.lookup x=_;rw[i.names]
theorem abK {m:Str->Option ae} (e:h'.get? a=h.get? a) (x:h.Ns a m):h'.Ns a m:=x.imp λ_ u=>u.imp λ_ u=>u.imp λ_ u=>u.imp_left e.trans
theorem BF {v:Option ae} (e:h'.get? a=h.get? a) (x:h.IsCell a v):h'.IsCell a v:=x.imp λ_ u=>u.imp_left e.trans
theorem abI {m m':Str->Option ae} (x:h.Ns a m) (y:h.Ns a m'):m=m':=by
 obtain⟨o1,Sk,Sf,e1,d1,_,f1⟩:=x
 obtain⟨o2,es2,ep2,e2,d2,_,f2⟩:=y
 replace e2:=e1▸e2;cases e2
 replace d2:=d1▸d2;cases d2
 exact funext λn=>(f1 n).symm.trans (f2 n)
theorem Hs {m:Str->Option ae} {v:Option ae} (x:h.Ns a m) (y:h.IsCell b v):b≠a:=λz=>by
 obtain⟨o1,Sk,Sf,e1,d1,_⟩:=x
 obtain⟨o,g3,g4⟩:=y
 rw[z,e1]at g3;cases g3
 exact nomatch d1.symm.trans g4
theorem acv (i:cA c.sc env ρ σ h) (f:FO env b) (hs:∀a,a≠b->h'.get? a=h.get? a):ew (ao σ) h h':=λa o xs n e d no=>⟨o.slots,by
 rw[hs a λz=>?_]; · exact e
 obtain⟨ob,hb,hd⟩:=i.gg b f
 rw[z,hb]at e;cases e
 rcases hd with⟨_,_,hd⟩|⟨_,hd⟩<;>exact nomatch d.symm.trans hd⟩
theorem cA.put (i:cA c.sc env ρ σ h) (hx:x<cT) (f:FO env b) (hs:∀a,a≠b->h'.get? a=h.get? a) (r:Rep h (ao σ) v p) (new:uo env h' (nm x) v)
  (old:∀y v',y≠nm x->uo env h y v'->uo env h' y v') (ns:∃m,h'.Ns env.locals m) (cl:∀a v,h.IsCell a v->∃v',h'.IsCell a v') (fd:∃o,h'.get? b=some o/\((∃es n,o.data=.dict es n)\/∃v,o.data=.cell v)):cA c.sc env (put ρ x p) σ h':=by
 have q:=acv i f hs
 refine⟨i.names,i.kind,i.glob,i.blt,λk p' e iA=>?_,ns,λy e=>(i.cells y e).elim λa u=>u.elim λv' u=>(cl a v' u.2).elim λv2 w=>⟨a,v2,u.1,w⟩,i.rT,i.i9,i.nL,λa f=>?_⟩
 ·rw[cJ]at e
  by_cases qk:k=x
  ·rw[if_pos qk]at e
   exact⟨qk▸hx,v,qk▸new,bN e▸r.mono q λ_ _ _ z=>z⟩
  ·rw[if_neg qk]at e
   obtain⟨h1,v',h2,h3⟩:=i.vars k p' e iA
   exact⟨h1,v',old _ _ (λz=>qk (D8 h1 hx z)) h2,h3.mono q λ_ _ _ z=>z⟩
 ·by_cases qb:a=b
  ·exact qb▸fd
  ·exact(i.gg a f).imp λo u=>u.imp_left (hs a qb).trans
theorem EP {P:Unit->au->Prop} {E:ae->au->Prop} (i:In c w A env ρ σ s) (hx:x<cT) (hl:c.sc.names.lookup (nm x)=some .local) (r:Rep s.heap (ao σ) v p)
  (h:∀s',bw c w A env σ s (put ρ x p) σ s'->AE env.locals s.heap s'.heap->P () s'):az (aB pw w) A (storeName env (nm x) v) P E s:=by
 obtain⟨m0,pv⟩:=i.en.ns
 refine wpAny_storeName_local ((vL i.en _).trans hl) pv (λh' hn jn=>h _ ?_ jn) (by refine aj (i.en.kind)▸?_;rfl)
 have fd:∃o,h'.get? env.locals=some o/\∃es n,o.data=.dict es n:=hn.imp λ_ u=>u.elim λ_ u=>u.elim λ_ u=>⟨u.1,_,_,u.2.1⟩
 have cl:∀a v,s.heap.IsCell a v->h'.IsCell a v:=λa v y=>BF (jn.2 a (Hs pv y)) y
 exact Nl i (.inl rfl) jn.2 (i.en.put hx (.inl rfl) jn.2 r (.inl ⟨(vL i.en _).trans hl,_,hn,if_pos rfl⟩) (λy v' hy z=>z.imp (λu=>⟨u.1,_,hn,u.2.elim λm u=>(if_neg hy).trans (abI pv u.1▸u.2)⟩) λu=>u.imp_right λu=>u.imp λa u=>u.imp_right (cl _ _))
  ⟨_,hn⟩ (λa v y=>⟨v,cl a v y⟩) (fd.imp λ_ u=>u.imp_right .inl)) λ_ _ _=>fd
theorem tF {P:Unit->au->Prop} {E:ae->au->Prop} (i:In c w A env ρ σ s) (hx:x<cT) (hv:sT c.sc (nm x)=true) (r:Rep s.heap (ao σ) v p)
  (h:∀s',bw c w A env σ s (put ρ x p) σ s'->P () s'):az (aB pw w) A (storeName env (nm x) v) P E s:=by
 rcases(OO.mp (ak hv).1).imp beq_iff_eq.mp beq_iff_eq.mp with hl|hl
 ·exact EP i hx hl r λs' o _=>h s' o
 ·obtain⟨m0,pv⟩:=i.en.ns
  obtain⟨cc,v0,jU,nP⟩:=i.en.cells _ hl
  refine wpAny_storeName_cell i.en.kind ((vL i.en _).trans hl) jU nP λh' hn jn=>h _ ?_
  have ns:∀m,s.heap.Ns env.locals m->h'.Ns env.locals m:=λm=>abK (jn.2 _ (Hs pv nP).symm)
  exact Nl (tk:=s.toks) i (.inr ⟨_,jU⟩) jn.2 (i.en.put hx (.inr ⟨_,jU⟩) jn.2 r (.inr ⟨(vL i.en _).trans hl,cc,jU,hn⟩) (λy v' hy z=>z.imp (λu=>u.imp_right λu=>u.imp λm u=>u.imp_left (ns m)) λu=>u.imp_right λu=>u.imp λa u=>⟨u.1,BF (jn.2 a λz=>hy (i.en.rT _ _ _ u.1 (z▸jU))) u.2⟩)
   ⟨m0,ns m0 pv⟩ (λa v y=>by
    by_cases qc:a=cc
    ·exact⟨_,qc▸hn⟩
    ·exact⟨v,BF (jn.2 a qc) y⟩) (hn.imp λ_ u=>u.imp_right λd=>.inr ⟨_,d⟩)) λo e d=>by
    obtain⟨o2,g3,g4⟩:=nP
    obtain⟨es,n,d⟩:=d
    replace e:=g3▸e;cases e
    exact nomatch d.symm.trans g4
end
end
section
def gj (l:List Env):List Nat:=l.filterMap (·.frame)
section
variable{c:Cx}
def Bf (e:Nat) (Ts:List Nat) (l:List Env) (h h':Heap):Prop:=∀b o,h.get? b=some o->b≠e->b∉Ts->∃sl,h'.get? b=some {o with slots:=sl}/\((∀env∈l,env.frame≠some b)->sl=o.slots)
theorem EM {Ts:List Nat} (o:bw c w A env σ s ρ' σ' s') (k:Bf e Ts (bG A) s'.heap h') (he:s.heap.get? e=none/\¬ao σ' e/\∃oe vs,s'.heap.get? e=some oe/\oe.data=.fields vs)
  (hT:∀T∈Ts,s.heap.get? T=none/\¬ao σ' T/\∃oe vs,s'.heap.get? T=some oe/\oe.data=.fields vs) (hs:∀b,b<1070->b≠e/\b∉Ts):bw c w A env σ s ρ' σ' {s' with heap:=h',toks:=t}:=by
 have nf:∀b o,s'.heap.get? b=some o->(∀vs,o.data≠.fields vs)->b≠e/\b∉Ts:=λb o hb hd=>⟨λq=>by
  obtain⟨_,_,oe,vs,h1,h2⟩:=he
  simp only[q,h1]at hb;(cases hb);exact hd vs h2,λq=>by
  obtain⟨_,_,oe,vs,h1,h2⟩:=hT b q
  replace hb:=h1▸hb;(cases hb);exact hd vs h2⟩
 have own:∀b,ao σ' b->b≠e/\b∉Ts:=λb z=>⟨λq=>he.2.1 (q▸z),λq=>(hT b q).2.1 z⟩
 have fo:∀b,FO env b->b≠e/\b∉Ts:=λb f=>by
  obtain⟨ob,hb,hd⟩:=o.en.gg b f
  exact nf b ob hb (by rcases hd with⟨_,_,hd⟩|⟨_,hd⟩<;>(intro vs q;replace q:=hd▸q;(cases q)))
 have q:ew (ao σ') s'.heap h':=λa ob xs n hb d no=>by
  obtain⟨n1,n2⟩:=nf a ob hb (λvs q=>by replace q:=d▸q;(cases q))
  obtain⟨sl,h1,_⟩:=k a ob hb n1 n2
  exact⟨sl,h1⟩
 have UX:∀eK∈bG A,∀b,b<1070->eK.frame≠some b:=λeK m b hb z=>by
  obtain⟨_,L,_,hf,_,_,_,CB⟩:=o.ok eK m
  replace z:=hf▸z;(cases z);exact absurd hb (w4.mpr CB)
 have RV:Cn w σ' h':=by
  refine o.cn.keep (λa ob hb=>?_) (λa ob hb z=>?_) q
  ·have br:=G8 hb
   obtain⟨n1,n2⟩:=hs a br
   obtain⟨sl,h1,h2⟩:=k a ob (o.cn.base a ob hb) n1 n2
   rw[h1,h2 λeK m=>UX eK m a br]
  ·obtain⟨n1,n2⟩:=own a z
   obtain⟨sl,h1,_⟩:=k a ob hb n1 n2
   exact⟨sl,h1⟩
 have same:∃o_ tk,({s' with heap:=h',toks:=t}:au)={s with heap:=o_,toks:=tk}:=tD o.same
 refine⟨same,RV,o.en.mv (λb ob f hb hd=>(k b ob hb (fo b f).1 (fo b f).2).elim λsl z=>⟨_,z.1,rfl⟩) (λ_ _ r=>r.mono q λ_ _ _ z=>z) o.en.i9,λeK m=>?_,⟨?_,o.rl.new,o.rl.old,λb f z=>?_⟩⟩
 ·obtain⟨h1,L,ob,h2,h3,⟨es,ep,h4⟩,h5,h6⟩:=o.ok eK m
  obtain⟨n1,n2⟩:=nf L ob h3 (λvs q=>by replace q:=h4▸q;(cases q))
  obtain⟨sl,e1,_⟩:=k _ _ h3 n1 n2
  exact⟨h1,L,_,h2,e1,⟨es,ep,h4⟩,h5,h6⟩
 ·intro b ob hb n
  obtain⟨sl,e1,x1⟩:=o.rl.kp b ob hb n
  have n1:b≠e:=λz=>by simp only[z,he.1]at hb;(exact nn hb)
  have n2:b∉Ts:=λz=>by replace hb:=(hT b z).1▸hb;(exact nn hb)
  obtain⟨pT,e2,x2⟩:=k _ _ e1 n1 n2
  exact⟨pT,e2,λz=>(x2 z).trans (x1 z)⟩
 ·obtain⟨ob,ho,_⟩:=o.en.gg b f
  obtain⟨n1,n2⟩:=fo b f
  obtain⟨sl,e1,_⟩:=k _ _ ho n1 n2
  simp only[show({s' with heap:=h',toks:=t}:au).heap.get? b=h'.get? b from rfl,e1]at z;(cases z)
theorem Bl (b:(KF w.params).In s.heap) (h:a<1070):s.heap.get? a≠none:=by
 have e2:=G7 w.params
 have:∀(l:List Obj) (n a:Nat),n<=a->a<n+l.length->∃o,(sf n l).lookup a=some o:=λl=>by
  induction l with
  |nil=>intro n a h1 h2;simp at h2;lia
  |cons x r ih=>
   intro n a h1 h2
   simp only[IE,mq]
   by_cases q:a=n
   ·subst q;exact⟨x,by simp⟩
   ·refine aj (beq_eq_false_iff_ne.mpr q)▸?_
    exact ih (n+1) a (aaz h1 q) (by simp only[ej]at h2;exact aaA h2)
 obtain⟨o,ho⟩:=this (Head.K w.params) 0 a (eQ _) (by refine aj (e2)▸?_;exact ai h (aG rfl))
 have:=b a o ho
 refine aj (this)▸?_;exact λy=>(nn (aj y))
theorem II {base:Heap}:∀{l:List Env},mh l σ h->(∀L∈gj l,base.get? L=none)->h.FunFrames base l:=by
 intro bD
 induction bD with
 |nil=>
  intro _ _
  exact trivial
 |cons env r ih=>
  intro k b
  obtain⟨h1,L,o,h2,h3,⟨es,ep,h4⟩,_⟩:=k env (.head _)
  refine⟨h1,⟨L,o,h2,b L ?_,h3,λvs q=>by replace q:=h4▸q;cases q⟩,ih (λe m=>k e (.tail _ m)) λL m=>b L ?_⟩
  ·unfold gj;rw[Pw,h2];exact .head _
  ·unfold gj at m⊢;rw[Pw,h2];exact .tail _ m
theorem DX {l:List Env}:b∈gj l↔∃env∈l,env.frame=some b:=by
 unfold gj;rw[List.mem_filterMap]
theorem adD {Ts:List Nat} {l:List Env} (ok:mh l σ' h) (k1:(nQ h (e::Ts++gj l)).StaysIn h') (k2:h.UpToSlots h'):Bf e Ts l h h':=λb o hb n1 n2=>by
 by_cases q:b∈gj l
 ·obtain⟨eK,m,hf⟩:=DX.mp q
  obtain⟨_,L,oL,iZ,hL,⟨es,ep,hd⟩,_⟩:=ok eK m
  replace iZ:=hf▸iZ;cases iZ
  replace hL:=hb▸hL;cases hL
  obtain⟨sl,hs⟩:=k2 b o hb λvs z=>by replace z:=hd▸z;cases z
  exact⟨sl,hs,λz=>absurd hf (z eK m)⟩
 ·refine⟨o.slots,k1 b o (I9 _ hb λz=>?_),λ_=>rfl⟩
  rcases lA.mp z with z|z
  ·rcases eP.mp z with z|z
   ·exact n1 z
   ·exact n2 z
  ·exact q z
theorem note {st:ur} {E:ae->au->Prop} (hA:A.frames=some (bG A)) (tp:Top A env) (o:bw c w A env σ s ρ' σ' s') (b0:(KF w.params).In s.heap) (hx:GS env st) (x:gq st s.heap e ex σ' s'.heap):
  az (aB pw w) A (MF (.ref e) env) (λ_ cu=>bw c w A env σ s ρ' σ' cu/\gq (.tr (lj env.locals)) s.heap e ex σ' cu.heap) E s':=by
 obtain⟨outer,fM⟩:=tp.hd
 replace hA:=fM▸hA
 obtain⟨x1,x2,oe,vs,a0,x3,x4,x5,x6,x7⟩:=x
 have lo:∀b,s.heap.get? b=none->∀a,a<1070->a≠b:=λb hb a ha z=>Bl b0 ha (z▸hb)
 have fin:∀(Ts:List Nat) (h':Heap),(∀T∈Ts,s.heap.get? T=none/\¬ao σ' T/\∃oe vs,s'.heap.get? T=some oe/\oe.data=.fields vs)->
   (nQ s'.heap (e::Ts++gj (bG A))).StaysIn h'->s'.heap.UpToSlots h'->h'.TracedAtW (nQ s'.heap (e::Ts++gj (bG A))) e oe.cls a0 (lj env.locals)->
   bw c w A env σ s ρ' σ' {s' with heap:=h'}/\gq (.tr (lj env.locals)) s.heap e ex σ' h':=λTs h' hT k1 k2 k3=>by
  have k:=adD o.ok k1 k2
  have o':=EM (t:=s'.toks) o k ⟨x1,x2,oe,vs,x3,x5⟩ hT λb hb=>⟨lo e x1 b hb,λz=>lo b (hT b z).1 b hb rfl⟩
  refine⟨o',?_⟩
  obtain⟨oe',zR,T,oT,ts,h1,⟨h2,h3⟩,h4,h5,h6,h7,h8,h9,sA⟩:=k3
  refine⟨x1,x2,oe',zR,a0,h1,h2.trans x4,h4,h3,T,oT,ts,h5,?_,λz=>?_,h7,h8,h9,sA⟩
  ·
   by_cases q:T∈Ts
   ·exact(hT T q).1
   ·have hn:s'.heap.get? T=none:=by
     cases q2:s'.heap.get? T with
     |none=>rfl
     |some oo=>
      by_cases q3:T∈gj (bG A)
      ·obtain⟨eK,m,hf⟩:=DX.mp q3
       obtain⟨_,L,oL,iZ,hL,⟨es,ep,hd⟩,_⟩:=o.ok eK m
       replace iZ:=hf▸iZ;(cases iZ)
       obtain⟨sl,hs⟩:=k2 T oL hL λvs z=>by replace z:=hd▸z;(cases z)
       replace hs:=h8▸hs;(cases hs)
       have gW:oL.data=.fields ts:=h9
       replace gW:=hd▸gW;(cases gW)
      ·have:=I9 (e::Ts++gj (bG A)) q2 λz=>by
        rcases lA.mp z with z|z
        ·rcases eP.mp z with z|z
         ·exact h7 z
         ·exact q z
        ·exact q3 z
       replace this:=h6▸this;(exact nn this)
    have:=o.rl.back T (.inr hn)
    rcases this with z|z
    ·obtain⟨ox,uW⟩:=k_ o.cn (o.rl.old T z)
     replace uW:=hn▸uW;(exact nn uW)
    ·exact z
  ·obtain⟨ox,uW⟩:=k_ o.cn z
   by_cases q:T∈Ts
   ·exact(hT T q).2.1 z
   ·by_cases q3:T∈gj (bG A)
    ·obtain⟨eK,m,hf⟩:=DX.mp q3
     obtain⟨_,L,oL,iZ,_,_,hn,_⟩:=o.ok eK m
     replace iZ:=hf▸iZ;(cases iZ);exact hn z
    ·have:=I9 (e::Ts++gj (bG A)) uW λz=>by
      rcases lA.mp z with z|z
      ·rcases eP.mp z with z|z
       ·exact h7 z
       ·exact q z
      ·exact q3 z
     replace this:=h6▸this;(exact nn this)
 cases st with
 |fresh=>
  have Bo:(nQ s'.heap (e::[]++gj (bG A))).StaysIn s'.heap:=λb o hb=>of_hideAll _ hb
  have ff:=II (base:=nQ s'.heap (e::[]++gj (bG A))) o.ok λL m=>vg _ (PK _ m)
  unfold MF
  simp only[tp.fr]
  refine ax (NU x3 x5 x7 ?_)
  rw[if_neg (by decide)]
  have ff:s'.heap.FunFrames (nQ s'.heap (e::[]++gj (bG A))) (env::outer):=by refine(fM)▸?_;exact ff
  refine wpAny_entryW hA ff tp.fr x3 Bo (vg _ (.head _)) x5 (OF.mp x7).1 x6 λh' hN=>?_
  obtain⟨k1,_,k3,k4⟩:=hN
  exact fin [] h' (λT m=>((lB m).elim)) k1 k4 k3
 |tr fl=>
  obtain⟨T,oT,ts,y1,y2,y3,y4,y5,y6,y7⟩:=x7
  rcases hx with rfl|rfl
  ·have Bo:(nQ s'.heap (e::[T]++gj (bG A))).StaysIn s'.heap:=λb o hb=>of_hideAll _ hb
   have ff:=II (base:=nQ s'.heap (e::[T]++gj (bG A))) o.ok λL m=>vg _ (PK _ m)
   have ff:s'.heap.FunFrames (nQ s'.heap (e::[T]++gj (bG A))) (env::outer):=by refine(fM)▸?_;exact ff
   refine wpAny_noteFrame_onW hA ff tp.fr ⟨oe,vs,T,oT,ts,x3,⟨rfl,x6⟩,x5,y1,vg _ (.tail _ (.head _)),y4,y5,y6,y7⟩ Bo (vg _ (.head _)) λh' hN=>?_
   obtain⟨k1,_,k3,k4⟩:=hN
   exact fin [T] h' (λT' m=>by refine aj (oG.mp m)▸?_;exact⟨y2,y3,oT,ts,y5,y6⟩) k1 k4 k3
  ·refine wpAny_noteFrame_againW (base:=nQ s'.heap [T]) (cls:=oe.cls) (a0:=a0) tp.fr ⟨oe,vs,T,oT,ts,x3,⟨rfl,x6⟩,x5,y1,vg _ (.head _),y4,y5,y6,y7⟩ ⟨o,x1,x2,oe,vs,a0,x3,x4,x5,x6,T,oT,ts,y1,y2,y3,y4,y5,y6,y7⟩
theorem r_ {fr:Option Addr} {E:ae->au->Prop} (o:bw c w A env σ s ρ' σ' s') (b0:(KF w.params).In s.heap) (x:gq (.tr fl) s.heap e ex σ' s'.heap):
  az (aB pw w) A (setFlight (.ref e) fr) (λ_ cu=>bw c w A env σ s ρ' σ' cu/\gq (.tr (fr.elim .none λf=>lj f)) s.heap e ex σ' cu.heap) E s':=by
 obtain⟨x1,x2,oe,vs,a0,x3,x4,x5,x6,T,oT,ts,y1,y2,y3,y4,y5,y6,y7⟩:=x
 have lo:∀b,s.heap.get? b=none->∀a,a<1070->a≠b:=λb hb a ha z=>Bl b0 ha (z▸hb)
 have Jr:3<ts.size:=(OF.mp y7).1
 have other:∀b,b≠T->(s'.heap.update T (Qg (·.setIfInBounds 3 (fr.elim xg λf=>lj f)))).get? b=s'.heap.get? b:=
  λb hb=>FT _ _ (cN hb)
 unfold setFlight
 refine ax (NU x3 x5 y1 ?_)
 refine aj (if_pos (show(QK T !=xg)=true from by simp))▸?_
 refine wpAny_setField y5 y6 Jr ?_
 have k:Bf e [T] (bG A) s'.heap (s'.heap.update T (Qg (·.setIfInBounds 3 (fr.elim xg λf=>lj f)))):=λb ob hb n1 n2=>⟨ob.slots,by refine aj (other b λz=>n2 (z▸.head _))▸?_;exact hb,λ_=>rfl⟩
 refine⟨EM (t:=s'.toks) o k ⟨x1,x2,oe,vs,x3,x5⟩ (λT' m=>by refine aj (oG.mp m)▸?_;exact⟨y2,y3,oT,ts,y5,y6⟩) λb hb=>⟨lo e x1 b hb,λz=>lo b (by refine aj (oG.mp z)▸?_;exact y2) b hb rfl⟩,
  x1,x2,oe,vs,a0,(other e (cN y4)).trans x3,x4,x5,x6,T,_,_,y1,y2,y3,y4,FU _ y5 (Obj.isFreed_of_fields (Qf y6 _)),Qf y6 _,by simp[Jr]⟩
end
end
section
variable{c:Cx} {N:af->aa->Prop} {X:Ex->af->aa->Prop}
noncomputable abbrev Ca (c:Cx) (R:PV->aa->Prop) (X:Ex->af->aa->Prop) (ms:List MS) (N:af->aa->Prop):af->aa->Prop:=λρ σ=>aD c ms ρ σ N R X
theorem aE (h:N ρ σ):aD c [] ρ σ N R X:=.intro λw A env es s hc i tp=>zW (lq h (.refl i))
theorem aA {m:MS} {ms:List MS} (h:SV c m ρ σ (Ca c R X ms N) R X):aD c (m::ms) ρ σ N R X:=.intro λw A env es s hc i tp=>
 zV (bg (h.out w A env _ s (ak hc).1 i tp) (λf s₁ hf=>hf.el (P:=λf=>match f with|.next=>az _ _ _ _ _ s₁|f=>eu c w A env σ s N R f s₁) (λbJ σ₁ q o=>aD.go q o (ak hc).2 (i.dh o) tp) λ_ z=>z) λ_ _ z=>z)
theorem aes (h:R .none σ):SV c (.ret none) ρ σ N R X:=.intro λw A env _ s hc i tp=>wpAny_Return_none (Nn h .none (.refl i))
theorem gT (h:V c m ρ σ R (xa X ρ)):SV c (.ret (some m)) ρ σ N R X:=.intro λw A env _ s hc i tp=>
 wpAny_Return_some (h.st i (here i) hc i λp σ₁ v s₁ hp hr _ o1 _=>Nn hp hr (o1.dh i))
noncomputable abbrev B9 (ρ:af) (x:Nat) (N:af->aa->Prop):PV->aa->Prop:=λp σ=>N (put ρ x p) σ
theorem cv (h:V c m ρ σ (B9 ρ x N) (xa X ρ)) (hm:n_ m=true):SV c (.asg (.nm x) m) ρ σ N R X:=.intro λw A env _ s hc i tp=>
 adq (h.st i (here i) (ak hc).2 i λp σ₁ v s₁ hp hr _ o1 i1=>tF i1 (mU (ak (ak hc).1).1) (ak (ak hc).1).2 hr λs' o2=>lq hp ((o1.dh i).trans o2)) (vX hm _)
theorem Sv {o:ME} {eo:Expr} {em:Expr} {attr:Str} {md pos:Pos} {E:ae->au->Prop} {Q:Flow->au->Prop}
  (h:az M A (eval (mk m em) env) (λv s₁=>az M A (eval (mk o eo) env) (λov aU=>az M A (Nh ov attr v) (λ_=>Q .next) E aU) E s₁) E s) (hs:n_ m=true):
  az M A (exec (.Assign [.Attribute (mk o eo) attr md] (mk m em) pos) env) Q E s:=by
 have e0:exec (.Assign [.Attribute (mk o eo) attr md] (mk m em) pos) env=(do
  tG pos
  if<-swapsWithSole [.Attribute (mk o eo) attr md] (mk m em) pos.line env then do
   evalThenUse (mk m em) env λv=>assignAll v ((ny [.Attribute (mk o eo) attr md] env).map (·.2))
   pure .next
  else do
   let v<-eval (mk m em) env
   assignStores env v (<-ND [.Attribute (mk o eo) attr md] (mk m em) env) ((ny [.Attribute (mk o eo) attr md] env).map (·.2))):=rfl
 rw[e0]
 have sw:swapsWithSole [.Attribute (mk o eo) attr md] (mk m em) pos.line env=pure false:=(vX hs em:EU (mk m em) (some (.Attribute (mk o eo) attr md)) pos.line env=pure false)
 have ss:ND [.Attribute (mk o eo) attr md] (mk m em) env=pure none:=rfl
 rw[sw,ss]
 refine ax (wB (ax (bj ?_)))
 rw[if_neg hH]
 refine ax (bg h (λv s₁ dT=>?_) λ_ _ z=>z)
 refine ax (bj ?_)
 show az M A ((lH (.Attribute (mk o eo) attr md) env v)>>=λ_=>pure .next) Q E s₁
 refine ax ?_
 show az M A (do
  let ov<-sL [v] (eval (mk o eo) env)
  tG md.atName
  sL [v,ov] (Nh ov attr v)
  release [v,ov] []) _ E s₁
 refine ax (pX (bg dT (λov aU vz=>ax (wB (ax (pX (bg vz (λ_ fZ yg=>?_) λ_ _ z=>z))))) λ_ _ z=>z))
 exact λΓ p _=>by rw[Sem.wp_release];exact bj yg
inductive IJ (ρ:af) (x:Nat) (N:af->aa->Prop) (p:PV) (y:PV) (σ:aa):Prop where
 |intro(a C:Nat) (fs:af):y=.ref a->σ a=some (.inst C fs)->iw fq C x=true->fs.length<=1000->N ρ (upd σ a (.inst C (put fs x p)))->IJ ρ x N p y σ
noncomputable abbrev U2 (c:Cx) (X:Ex->af->aa->Prop) (ρ:af) (o:ME) (x:Nat) (N:af->aa->Prop):PV->aa->Prop:=λp σ=>V c o ρ σ (IJ ρ x N p) (xa X ρ)
theorem w' {o:ME} (h:V c m ρ σ (U2 c X ρ o x N) (xa X ρ)) (hm:n_ m=true):SV c (.asg (.at o x) m) ρ σ N R X:=.intro λw A env _ s hc i tp=>by
 refine Sv (h.st i (here i) (ak hc).2 i λp σ₁ v s₁ hp hr _ o1 i1=>hp.st i o1 (ak (ak hc).1).2 i1 λy bY ov aU hy r2 q2 o2 i2=>?_) hm
 obtain⟨a,C,fs,rfl,ha,hf,hz,hn⟩:=hy
 apply r2.nG
 exact G5 o2.cn ha (q2.rl.rep hr) hf hz λs' o3=>lq hn ((o2.trans o3).dh i)
theorem abV {l':List PV} (e:σ a=some (.av l)) {b:Nat}:ao (upd σ a (.av l')) b↔ao σ b:=by
 have key:∀b,((upd σ a (.av l') b).isSome=true↔(σ b).isSome=true)/\((∃D gs,upd σ a (.av l') b=some (.inst D gs))↔∃D gs,σ b=some (.inst D gs)):=λb=>by
  by_cases q:b=a
  ·subst q;rw[ay,e];exact⟨tW,⟨λz=>z.elim λ_ z=>z.elim λ_ z=>(nomatch z),λz=>z.elim λ_ z=>z.elim λ_ z=>(nomatch z)⟩⟩
  ·rw[aw _ _ q];exact⟨tW,tW⟩
 unfold ao
 rw[(key b).1,(key (b+1)).2]
theorem ER {l':List PV} {tk:Nat} (cn:Cn w σ s.heap) (e:σ a=some (.av l)) (hs:∀b,b≠a->h'.get? b=s.heap.get? b)
  (hd:∃vs,jC h' a vs/\aJ s.heap (ao σ) vs.toList l'):aF w A σ s (upd σ a (.av l')) {s with heap:=h',toks:=tk}:=by
 have ho:ao (upd σ a (.av l'))=ao σ:=MY λb=>abV e
 have vq:ao σ a:=.inl (by rw[e];rfl)
 have rl:Rl (bG A) σ s.heap (upd σ a (.av l')) h':=⟨Kp.y9 λb o q n=>by rw[hs b λz=>n (z▸vq)];exact q,λb z=>.inl (ho▸z),λb z=>ho▸z⟩
 have q:ew (ao σ) s.heap h':=rl.kp.seq λ_ _ _ _ _ _ z=>z
 obtain⟨vs,u_,hd2⟩:=hd
 have base:(KF w.params).In h':=Bm cn.base (cn.lo _ vq) hs
 refine⟨⟨_,_,rfl⟩,⟨base,λb o eb=>?_,λb z=>cn.lo b (ho▸z),λb C' U1 eb=>?_⟩,rl⟩
 ·rw[ho]
  by_cases qa:b=a
  ·subst qa
   rw[ay]at eb;cases eb
   exact⟨vs,u_,hd2.mono q λ_ _ _ z=>z⟩
  ·rw[aw _ _ qa]at eb
   exact(cn.at_ _ _ eb).mv (λ_ z=>(hs b qa).trans z) (λ_ _ e' ob z=>(hs _ λy=>by subst e';have:=cn.apart _ _ _ eb;rw[y,e]at this;cases this).trans z) q λ_ _ _ z=>z
 ·by_cases qa:b=a
  ·subst qa;rw[ay]at eb;cases eb
  ·rw[aw _ _ qa]at eb
   have:=cn.apart _ _ _ eb
   by_cases qb:b-1=a
   ·rw[qb,e]at this;cases this
   ·rw[aw _ _ qb];exact this
theorem Mn {vs:Array ae} (x:jC h a vs) (f:Array ae->Array ae):jC (h.update a (gx f)) a (f vs):=by
 obtain⟨o,ho,hc,vc,n,hd⟩:=x
 obtain⟨n',gW⟩:=Obj.data_mapSeq hd f
 refine⟨_,FU _ ho (Obj.isFreed_of_seq gW),(Obj.cls_mapSeq ..).trans hc,?_,n',gW⟩
 obtain⟨c,dd,d,sl⟩:=o
 cases d<;>exact vc
theorem acw {E:ae->au->Prop} {l:Nat} {k:Int} {t:Tok} {Q:Unit->au->Prop} (hl:jC s.heap l items) (h0:0<=k) (Cs:k<2^63) (hn:k<items.size)
  (hQ:∀h',jC h' l (items.setIfInBounds k.toNat v)->AE l s.heap h'->Q () {s with heap:=h'}):az (aB pw w) A (setItem (.ref l) (.int k t) v) Q E s:=by
 have qE:=hl.isList
 obtain⟨o,ho,hc,ne,hd⟩:=id qE
 unfold setItem
 try with_reducible refine pX ?_
 skip
 refine ax (wpAny_sequenceKey qE.typeIs (by decide) ?_)
 refine ax (wpAny_callSpecial?_slot (name:=ie "__setitem__") qE.typeIs acB
  (adw acB qE.typeIs entry_list_setitem ?_ (args_list_setitem _ _ _)))
 show az _ _ (adO (.int k t)>>=_) _ _ s
 refine ax (wpAny_listSubscript_int (fitsIndex_of h0 Cs) ?_)
 clear Cs
 obtain⟨j,rfl⟩:=p8 h0
 have hj:j<items.size:=by exact a_.mp hn
 have gZ:items[j]?=some items[j]:=Fw hj
 show az _ _ ((seqItemAt l j>>=λr=>pure (r.map (j, ·)))>>=_) _ _ s
 refine ax (ax (wpAny_seqItemAt ho hd (bj ?_)))
 rw[gZ]
 show az _ _ (setSeqItemAt l j v>>=_) _ _ s
 have I5:=Mn hl (·.setIfInBounds j v)
 refine ax (wpAny_setSeqItemAt ho hd ?_)
 first
  |exact ax (bj (bj ⟨.none,rfl,bj (hQ _ I5 (FR ..))⟩))
  |exact bj ⟨.none,rfl,bj (hQ _ I5 (FR ..))⟩
inductive IK (ρ:af) (N:af->aa->Prop) (p y:PV) (z:PV) (σ:aa):Prop where
 |intro(a:Nat) (l:List PV) (k:Int):y=.ref a->z=.int k->σ a=some (.av l)->0<=k->k<l.length->l.length<=1000000->N ρ (upd σ a (.av (l.set k.toNat p)))->IK ρ N p y z σ
noncomputable abbrev U7 (c:Cx) (X:Ex->af->aa->Prop) (ρ:af) (i:ME) (N:af->aa->Prop) (p:PV):PV->aa->Prop:=λy σ=>V c i ρ σ (IK ρ N p y) (xa X ρ)
noncomputable abbrev U6 (c:Cx) (X:Ex->af->aa->Prop) (ρ:af) (o i:ME) (N:af->aa->Prop):PV->aa->Prop:=λp σ=>V c o ρ σ (U7 c X ρ i N p) (xa X ρ)
theorem Qv {o j:ME} (h:V c m ρ σ (U6 c X ρ o j N) (xa X ρ)) (hm:n_ m=true):SV c (.asg (.idx o j) m) ρ σ N R X:=.intro λw A env _ s hc i tp=>by
 refine wpAny_Assign_Subscript (h.st i (here i) (ak hc).2 i λp σ₁ v s₁ hp hr _ o1 i1=>hp.st i o1 (ak (ak hc).1).1 i1 λy bY ov aU hy r2 q2 o2 i2=>hy.st i o2 (ak (ak hc).1).2 i2 λz As iv fZ hz r3 q3 o3 i3=>?_) (vX hm _)
 obtain⟨a,l,k,rfl,rfl,ha,k0,k1,kz,hn⟩:=hz
 apply r2.nG
 apply r3.cInt;intro t
 obtain⟨vs,hl,iF⟩:=o3.cn.at_ _ _ ha
 have hlen:=iF.length
 rw[fc]at hlen
 refine acw hl k0 (zv kz k1 rfl) (by lia) λh' eW jn=>lq hn ((o3.trans (ER o3.cn ha jn.2 ⟨_,eW,?_⟩)).dh i)
 rw[Array.toList_setIfInBounds]
 exact iF.set _ (q3.rl.rep (q2.rl.rep hr))
end
section
variable{c:Cx} {N:af->aa->Prop} {X:Ex->af->aa->Prop}
noncomputable def gH:af->List Nat->List PV->af
 |ρ,x::xs,p::ps=>gH (put ρ x p) xs ps
 |ρ,_,_=>ρ
theorem xh {env:Env}:∀(l:List Nat) (es:List Expr),(ny (lW l es) env).length=l.length/\(ny (lW l es) env).findIdx? (·.1)=none
 |[],_=>⟨rfl,rfl⟩
 |x::r,es=>by
  obtain⟨h1,h2⟩:=xh (env:=env) r es.tail
  have e:ny (lW (x::r) es) env=(false,lH (.Name (nm x) (hd es).pos) env)::ny (lW r es.tail) env:=rfl
  rw[e]
  exact⟨congrArg (· +1) h1,by rw[List.findIdx?_cons,h2];rfl⟩
theorem aJ.names (i:In c w A env ρ σ s) (o:bw c w A env σ s ρ' σ s') (r:aJ s.heap (ao σ) vs ps):aJ s'.heap (ao σ) vs ps:=
 r.mono (o.rl.kp.seq λb ob xs n eb d z=>z.elim id λf=>by
  obtain⟨o2,cy,hd⟩:=i.en.gg b f
  replace cy:=eb▸cy;cases cy
  rcases hd with⟨_,_,hd⟩|⟨_,hd⟩<;>replace d:=hd▸d<;>cases d) λ_ _ _ z=>z
theorem GY {E:ae->au->Prop} {P:Unit->au->Prop}:∀{l:List Nat} {es:List Expr} {vs:List ae} {ps:List PV} {ρ:af} {s:au},okN c.sc l=true->In c w A env ρ σ s->aJ s.heap (ao σ) vs ps->ps.length=l.length->
  (∀s',bw c w A env σ s (gH ρ l ps) σ s'->P () s')->az (aB pw w) A (Bi ((ny (lW l es) env).map (·.2)) vs) P E s:=by
 intro l
 induction l with
 |nil=>
  intro es vs ps ρ s _ i hr hl h
  rw[AS.mp hl]at hr
  rw[AS.mp hl]at h
  apply hr.eS
  exact bj (h s (.refl i))
 |cons x r ih=>
  intro es vs ps ρ s hc i hr hl h
  cases ps with
  |nil=>exact absurd hl (rK _).symm
  |cons p ps=>
   apply hr.dJ;intro v vs a b
   show az _ _ (sL vs (lH (.Name (nm x) (hd es).pos) env v)>>=λ_=>Bi ((ny (lW r es.tail) env).map (·.2)) vs) _ _ _
   exact ax (pX (zU (tF i (mU (ak (ak hc).1).1) (ak (ak hc).1).2 a λs₁ o1=>ih (ak hc).2 (i.dh o1) (b.names i o1) (nq hl) λs' o2=>h s' (o1.trans o2))))
theorem abk (h:MD m=true) (h2:n_ m=true) (t:List Expr) (k:Nat) (p:Pos) (e:Expr) (env:Env):ND [.Tuple t k p] (mk m e) env=pure none:=by
 cases m<;>first|rfl|exact absurd h hH|exact absurd h2 hH
noncomputable abbrev Va (ρ:af) (l:List Nat) (N:af->aa->Prop):PV->aa->Prop:=λp σ=>∃ps,p=.tup ps/\ps.length=l.length/\N (gH ρ l ps) σ
theorem rM {l:List Nat} (hn:c.nh=true) (h:V c m ρ σ (Va ρ l N) (xa X ρ)) (hm:(n_ m&&MD m)=true):SV c (.asg (.tup l) m) ρ σ N R X:=.intro λw A env e s hc i tp=>by
 refine Assign_Tuple (h.st i (here i) (ak hc).2 i λp σ₁ v s₁ hp hr _ o1 i1=>?_) (vX (ak hm).1 _:EU (mk m (b5 e)) (some (pL (.tup l) (kg e))) e.pos.line env=pure false) (abk (ak hm).2 (ak hm).1 _ _ _ _ _)
 obtain⟨ps,rfl,hl,hN⟩:=hp
 apply hr.jO;intro a vs ht no iF
 obtain⟨g1,g2⟩:=xh (env:=env) l (kids (kg e))
 have hlen:=iF.length
 rw[fc]at hlen
 refine GX ((i.fi.hd hn)) ht (by rw[g1,hlen,hl]) g2 λh' he=>?_
 have o2:aF w A σ₁ s₁ σ₁ {s₁ with heap:=h',toks:=s₁.toks}:=.keeps o1.cn λb o e=>he b o (jE (hU e)) e
 exact GY (ak hc).1 (i1.out o2) (o2.rl.jb iF) hl λs' o3=>lq hN (((o1.trans o2).dh i).trans o3)
noncomputable abbrev U5 (ρ:af) (N:af->aa->Prop):PV->aa->Prop:=λ_ σ=>N ρ σ
theorem aer (h:V c m ρ σ (U5 ρ N) (xa X ρ)):SV c (.ex m) ρ σ N R X:=.intro λw A env _ s hc i tp=>
 wpAny_Expr_any (h.st i (here i) (ak hc).1 i λp σ₁ v s₁ hN hr _ o1 _=>lq hN (o1.dh i)) (by unfold interactive;rw[i.en.kind];rfl) (vX (ak hc).2 _)
noncomputable def oC (o:eR) (x y p:PV):Prop:=∀{d nh w A σ s v1 v2} {P:ae->au->Prop} {E:ae->au->Prop},cI d nh w A σ s->Rep s.heap (ao σ) v1 x->Rep s.heap (ao σ) v2 y->
 (∀v s',Rep s'.heap (ao σ) v p->aF w A σ s σ s'->P v s')->az (aB pw w) A (inplaceOp o v1 v2) P E s
theorem Xi {a b:Int}:oC .Add (.int a) (.int b) (.int (a+b)):=λi r1 r2 h=>by apply r1.ints r2;intro _ _;exact ad_ (h _ _ (.int _ _) (.tok i.cn _))
theorem Xk {a b:Int}:oC .Sub (.int a) (.int b) (.int (a-b)):=λi r1 r2 h=>by apply r1.ints r2;intro _ _;exact aeb (h _ _ (.int _ _) (.tok i.cn _))
theorem Xj {a b:Int}:oC .BitOr (.int a) (.int b) (.int (ko a b)):=λi r1 r2 h=>by apply r1.ints r2;intro _ _;exact aea (h _ _ (.int _ _) (.tok i.cn _))
theorem Xl {a b:Int}:oC .BitXor (.int a) (.int b) (.int (jA a b)):=λi r1 r2 h=>by apply r1.ints r2;intro _ _;exact aec (h _ _ (.int _ _) (.tok i.cn _))
noncomputable abbrev U3 (ρ:af) (x:Nat) (o:eR) (p:PV) (N:af->aa->Prop):PV->aa->Prop:=λq σ=>Ax (oC o p q) (B9 ρ x N) σ
theorem Qw {o:eR} (e:get ρ x=some p) (h:V c m ρ σ (U3 ρ x o p N) (xa X ρ)):SV c (.aug (.nm x) o m) ρ σ N R X:=.intro λw A env _ s hc i tp=>by
 obtain⟨_,v0,vw,Wy⟩:=i.en.vars x p e (JI (ak (ak hc).1).2)
 refine wpAny_AugAssign_Name (KD i.en.kind vw (h.st i (here i) (ak hc).2 i λq σ₁ v s₁ hq hr _ o1 i1=>?_))
 obtain⟨r,hb,hN⟩:=hq
 exact hb i1.fi (o1.rl.rep Wy) hr λv' aU dY o2=>tF (i1.out o2) (mU (ak (ak hc).1).1) (ak (ak hc).1).2 dY λs' o3=>lq hN (((o1.trans o2).dh i).trans o3)
inductive IP (ρ:af) (x:Nat) (o:eR) (N:af->aa->Prop) (b C:Nat) (p q:PV) (σ:aa):Prop where
 |intro(r:PV) (fs:af):oC o p q r->σ b=some (.inst C fs)->fs.length<=1000->N ρ (upd σ b (.inst C (put fs x r)))->IP ρ x o N b C p q σ
inductive IM (c:Cx) (X:Ex->af->aa->Prop) (ρ:af) (x:Nat) (o:eR) (m:ME) (N:af->aa->Prop) (y:PV) (σ:aa):Prop where
 |intro(b C:Nat) (fs:af) (p:PV):y=.ref b->σ b=some (.inst C fs)->iw fq C x=true->get fs x=some p->V c m ρ σ (IP ρ x o N b C p) (xa X ρ)->IM c X ρ x o m N y σ
theorem aeq {a:ME} {o:eR} (h:V c a ρ σ (IM c X ρ x o m N) (xa X ρ)):SV c (.aug (.at a x) o m) ρ σ N R X:=.intro λw A env _ s hc i tp=>by
 refine wpAny_AugAssign_AttributeAny (h.st i (here i) (ak (ak hc).1).2 i λy σ₁ ov s₁ hy hr _ o1 i1=>?_)
 obtain⟨b,C,fs,p,rfl,hb,hf,hp,hm⟩:=hy
 apply hr.nG
 refine G4 o1.cn hb hp hf λv0 vw=>?_
 have k8:=o1.trans (.tok o1.cn (s₁.toks+1))
 refine hm.st i k8 (s:={s₁ with toks:=s₁.toks+1}) (ak hc).2 (i.out k8) λq bY v aU hq cw q2 o2 i2=>?_
 obtain⟨r,nM,sC,mI,hz,hN⟩:=hq
 exact sC i2.fi (q2.rl.rep vw) cw λv' fZ dY o3=>G5 o3.cn mI dY hf hz λs' o4=>lq hN (((o2.trans o3).trans o4).dh i)
noncomputable abbrev U8 (c:Cx) (R:PV->aa->Prop) (X:Ex->af->aa->Prop) (ρ:af) (a b:List MS) (N:af->aa->Prop):Bool->aa->Prop:=λx σ=>Br x (aD c a ρ σ N R X) (aD c b ρ σ N R X)
theorem bR {a b:List MS} (h:T c m ρ σ (U8 c R X ρ a b N) (xa X ρ)):SV c (.ite m a b) ρ σ N R X:=.intro λw A env _ s hc i tp=>
 wpAny_If (h.st i (ak (ak hc).1).1 λx σ₁ s₁ hq o1 i1=>match x,hq with
  |true,hq=>(hq.1 rfl).go (o1.dh i) (ak (ak hc).1).2 i1 tp
  |false,hq=>(hq.2 rfl).go (o1.dh i) (ak hc).2 i1 tp)
end
section
variable{c:Cx} {N:af->aa->Prop} {X:Ex->af->aa->Prop}
section
theorem B4 {P:ae->au->Prop} {E:ae->au->Prop} (x:gq (.tr fl) h₀ e ex σ' s'.heap) (h:∀T:Nat,P (.ref T) s'):az M A (field (.ref e) 1) P E s':=by
 obtain⟨x1,x2,oe,vs,a0,x3,x4,x5,x6,T,oT,ts,y1,_⟩:=x
 exact NU x3 x5 y1 (h T)
theorem Rr (tp:Top A env) (o:bw c w A env σ s ρ' σ' s') (b0:(KF w.params).In s.heap) (x:gq (.tr fl) s.heap e ex σ' s'.heap) (hX:X ex ρ' σ'):
  xt (aB pw w) A env (cW c w A env σ s X) (.ref e) s':=by
 show az _ _ _ _ _ _
 refine ax (B4 x λT=>?_)
 rw[if_neg (by simp)]
 refine bg (r_ (fr:=env.frame) (E:=λ_ _=>False) o b0 x) (λ_ cu z=>?_) λ_ _ z=>z.elim
 refine⟨ex,ρ',σ',e,_,rfl,hX,z.1,?_,z.2⟩
 rw[tp.fr];exact GB rfl
theorem MH (hA:A'.frames=some (bG A')) (fM:bG A'=bG A) (tp:Top A env) (b0:(KF w.params).In s.heap) {x:ae} (h:cW c w A env σ s X x s'):D_ (aB pw w) A' env (xt (aB pw w) A env (cW c w A env σ s X)) x s':=by
 obtain⟨ex,ρ',σ',e,st,rfl,hX,o,hx,hs⟩:=h
 have o':bw c w A' env σ s ρ' σ' s':=⟨o.same,o.cn,o.en,fM▸o.ok,fM▸o.rl⟩
 have tp':Top A' env:=⟨tp.fr,fM▸tp.hd⟩
 refine bg (note (E:=λ_ _=>False) hA tp' o' b0 hx hs) (λ_ cu z=>?_) λ_ _ z=>z.elim
 have o'':bw c w A env σ s ρ' σ' cu:=⟨z.1.same,z.1.cn,z.1.en,fM▸z.1.ok,fM▸z.1.rl⟩
 exact Rr tp o'' b0 z.2 hX
theorem MG (hA:A.frames=some (bG A)) (tp:Top A env) (b0:(KF w.params).In s.heap) {x:ae} (h:cW c w A env σ s X x s'):D_ (aB pw w) A env (xt (aB pw w) A env (cW c w A env σ s X)) x s':=
 MH hA rfl tp b0 h
end
noncomputable abbrev IQ (c:Cx) (b:List MS) (R:PV->aa->Prop) (X:Ex->af->aa->Prop) (W N:af->aa->Prop) (ρ:af):Bool->aa->Prop:=λx σ=>Br x (aD c b ρ σ W R X) (N ρ σ)
noncomputable def dQ (c:Cx) (m:ME) (b:List MS) (N:af->aa->Prop) (R:PV->aa->Prop) (X:Ex->af->aa->Prop):Nat->af->aa->Prop
 |0,_,_=>False
 |n+1,ρ,σ=>T c m ρ σ (IQ c b R X (dQ c m b N R X n) N ρ) (xa X ρ)
theorem gf {b:List MS} (n:Nat) (h:dQ c m b N R X n ρ σ):SV c (.dj m b) ρ σ N R X:=.intro λw A env e s hc i tp=>by
 have back:∀{s' x},cW c w A env σ s X x s'->D_ (aB pw w) A env (xt (aB pw w) A env (cW c w A env σ s X)) x s':=MG i.fi.fr tp i.fi.cn.base
 refine wpAny_While (codeAny_whileLoop (λn s'=>∃ρ' σ',dQ c m b N R X n ρ' σ'/\bw c w A env σ s ρ' σ' s') (λn s₁ hI=>?_) n ⟨ρ,σ,h,.refl i⟩)
 obtain⟨bJ,σ₁,hw,o⟩:=hI
 have i1:=i.dh o
 cases n with
 |zero=>exact hw.elim
 |succ n=>
  refine bg (hw.out w A env (b5 e) s₁ (ak hc).1 i1) (λx aU hx=>?_) λ_ _ z=>back ((z.sx i1).back o)
  obtain⟨bY,hq,o2⟩:=hx
  have i2:=i1.out o2
  have y8:=o.trans (o2.dh i1)
  cases x with
  |true=>
   rw[if_pos rfl]
   refine bg ((hq.1 rfl).out w A env (aS e) aU (ak hc).2 i2 tp) (λf fZ hf=>?_) λ_ _ z=>back (z.back y8)
   cases f with
   |next=>exact uh.rec (λadE As h1 h2=>⟨n,A2 n,adE,As,h1,y8.trans h2⟩) hf
   |ret v=>exact hf.back y8
   |brk=>exact hf.elim
   |cont=>exact hf.elim
  |false=>
   rw[if_neg hH]
   exact zW (lq (hq.2 rfl) y8)
inductive cM (σ₀:aa) (h:Heap) (it:Nat) (xs:List PV):Prop
 |ls (n:¬ao σ₀ it) (l i vs ps:_) (a:h.IsListIter it l i) (b:h.IsList l vs) (c:¬ao σ₀ l) (r:aJ h (ao σ₀) vs.toList ps) (e:xs=ps.drop i)
 |rg (n:¬ao σ₀ it) (x:Int) (m:Nat) (a:IsRangeIter h it x m 1) (e:xs=(aW m).map λ(k:Nat)=>PV.int (x+k))
theorem cM.fields {it:Nat} (x:cM σ h it xs):¬ao σ it/\∃oe vs,h.get? it=some oe/\oe.data=.fields vs:=by
 rcases x with⟨h1,l,i,vs,ps,⟨o,ho,_,hd⟩,_⟩|⟨h1,x,n,hr,_⟩
 ·exact⟨h1,o,_,ho,hd⟩
 ·exact⟨h1,_,_,hr,rfl⟩
theorem uZ {l:List Env} (ok:mh l σ h) {b:Nat} {o:Obj} (ho:h.get? b=some o) (hd:∀es n,o.data≠.dict es n):∀env∈l,env.frame≠some b:=λenv m z=>by
 obtain⟨_,L,oL,hf,hL,⟨es,n,gW⟩,_⟩:=ok env m
 replace z:=hf▸z;cases z
 replace hL:=ho▸hL;cases hL
 exact hd es n gW
theorem cM.kp {l:List Env} {it:Nat} (x:cM σ h it xs) (k:Kp S l h h') (hS:∀b o,h.get? b=some o->(∀es n,o.data≠.dict es n)->(∀v,o.data≠.cell v)->S b->ao σ b) (ok:mh l σ h) (new:∀b,ao σ' b->ao σ b\/h.get? b=none):cM σ' h' it xs:=by
 obtain⟨h1,oe,vsf,Wn,hdf⟩:=x.fields
 have v5:¬ao σ' it:=λz=>(new it z).elim h1 λq=>by replace q:=Wn▸q;cases q
 have q:ew (ao σ) h h':=k.seq λb o xs n hb d z=>hS b o hb (λes n q=>by replace q:=d▸q;cases q) (λv q=>by replace q:=d▸q;cases q) z
 rcases x with⟨_,l',i,vs,ps,⟨o,ho,iY,hd⟩,hl,sJ,hr,hx⟩|⟨_,y,n,hr,hx⟩
 ·obtain⟨sl,e,_⟩:=k it o ho λz=>h1 (hS it o ho (λes n q=>by replace q:=hd▸q;cases q) (λv q=>by replace q:=hd▸q;cases q) z)
  refine .ls v5 l' i vs ps ⟨_,e,iY,hd⟩ (IsList.wi q hl sJ) (λz=>?_) (hr.mono q (λa o e n z=>(new a z).elim n λq=>by replace q:=e▸q;cases q)) hx
  obtain⟨ol,lO⟩:=IsList.alive hl
  exact(new l' z).elim sJ λq=>by replace q:=lO▸q;cases q
 ·refine .rg v5 y n ?_ hx
  have nd:∀es n',(Data.fields #[lj y,lj (n:Int),lj 1])≠.dict es n':=λes n q=>by cases q
  obtain⟨sl,e,ex⟩:=k it _ hr λz=>h1 (hS it _ hr nd (λv q=>by cases q) z)
  have:=ex (uZ ok hr nd)
  replace e:=this▸e
  exact e
theorem Mx {it:Nat} {P:Option ae->au->Prop} {E:ae->au->Prop} (hh:A.handled=none) (x:cM σ s.heap it xs)
  (h0:xs=[]->∀h',AD it s.heap h'->P none {s with heap:=h',toks:=s.toks})
  (h1:∀p r,xs=p::r->∀v h' t,AD it s.heap h'->Rep h' (ao σ) v p->cM σ h' it r->P (some v) {s with heap:=h',toks:=t}):az (aB pw w) A (pyNext (.ref it)) P E s:=by
 have q:∀{h':Heap},AD it s.heap h'->ew (ao σ) s.heap h':=λ{h'} hs a ob ys n hb d no=>by
  obtain⟨_,oe,vs,h1,h2⟩:=x.fields
  exact⟨ob.slots,hs a ob (λz=>by rw[z,h1]at hb;cases hb;replace h2:=d▸h2;cases h2) hb⟩
 have x':=x
 rcases x' with⟨sJ,l,i,vs,ps,hit,hl,xY,hr,rfl⟩|⟨sJ,y,n,hr,rfl⟩
 ·cases hd:ps.drop i with
  |nil=>
   have hlen:=hr.length
   replace hlen:=fc▸hlen
   have:vs[i]?=none:=by
    rw[Array.getElem?_eq_none_iff,hlen]
    have:=congrArg PF hd
    simp at this;exact aay this.symm
   exact wpAny_pyNext_list_end hh hit hl this λh' hs=>h0 hd h' hs
  |cons p r=>
   have hp:ps[i]?=some p:=by
    have:=congrArg (·[0]?) hd
    simpa using this
   obtain⟨v,hv,CS⟩:=zr hr hp
   refine wpAny_pyNext_list_item hit hl hv λh' vi hs=>?_
   have lP:=hs.extBut
   refine h1 p r hd v h' s.toks lP (CS.mono (q lP) λ_ _ _ z=>z) (.ls sJ l (i+1) vs ps vi (IsList.wi (q lP) hl xY) xY (hr.mono (q lP) λ_ _ _ z=>z) ?_)
   rw[<-List.tail_drop,hd];rfl
 ·cases n with
  |zero=>exact wpAny_pyNext_range_end hh hr (by simp) λh' hs=>h0 (by simp) h' hs
  |succ n=>
   refine wpAny_pyNext_range_item hr (by lia) λh' vi hs=>?_
   have lP:=hs.extBut
   have WU:(aW (n+1)).map (λ(k:Nat)=>PV.int (y+k))=.int y::(aW n).map λ(k:Nat)=>PV.int (y+1+k):=by
    rw[AW,qf,ng]
    congr 1
    ·simp
    ·refine qd λk _=>?_
     simp only[Function.comp]
     congr 1
     lia
   refine h1 _ _ WU _ h' _ lP (.int _ _) (.rg sJ (y+1) n ?_ rfl)
   have:(((n+1:Nat):Int)-1)=(n:Int):=by exact K1
   replace vi:=this▸vi
   exact vi
theorem abu {it:Nat} {P:Option ae->au->Prop} {E:ae->au->Prop} (hh:A.handled=none) (o:bw c w A env σ₀ s₀ ρ σ s) (b0:(KF w.params).In s₀.heap) (h0:s₀.heap.get? it=none) (x:cM σ s.heap it xs)
  (k0:xs=[]->∀s',bw c w A env σ₀ s₀ ρ σ s'->P none s') (k1:∀p r,xs=p::r->∀v s',Rep s'.heap (ao σ) v p->cM σ s'.heap it r->bw c w A env σ₀ s₀ ρ σ s'->P (some v) s'):az (aB pw w) A (pyNext (.ref it)) P E s:=by
 have lo:∀b,b<1070->b≠it/\b∉([]:List Nat):=λb hb=>⟨λz=>Bl b0 hb (z▸h0),λz=>((lB z).elim)⟩
 have stays:∀{h':Heap} {t:Nat},AD it s.heap h'->bw c w A env σ₀ s₀ ρ σ {s with heap:=h',toks:=t}:=λ{h' t} hs=>
  EM (Ts:=[]) (t:=t) o (λb ob hb n1 _=>⟨ob.slots,hs b ob n1 hb,λ_=>rfl⟩) ⟨h0,x.fields⟩ (λT m=>((lB m).elim)) lo
 exact Mx hh x (λe h' hs=>k0 e _ (stays hs)) λp r e v h' t hs hr hx=>k1 p r e v _ hr hx (stays hs)
end
section
variable{c:Cx} {X:Ex->af->aa->Prop}
noncomputable def uv:List (Nat×ae):=[(9,.builtin "len"),(36,.type "bytes"),(8,.type "range"),(214,.builtin "max"),(207,.builtin "min"),(21,.builtin "sum")]
noncomputable def findB:List (Nat×ae)->Nat->Option ae
 |[],_=>none
 |(k,f)::r,x=>bif bh k x then some f else findB r x
theorem S8 {l:List (Nat×ae)} {f:ae}:findB l x=some f->(x,f)∈l:=by
 induction l with
 |nil=>exact λe=>nn e
 |cons a r ih=>
  intro e
  have e:(bif bh a.1 x then some a.2 else findB r x)=some f:=e
  cases h:bh a.1 x with
  |true=>rw[h]at e;exact eP.mpr (.inl (uf (fG h).symm (bN e).symm))
  |false=>rw[h]at e;exact .tail _ (ih e)
noncomputable def C8:ae->Bool
 |.builtin _=>true
 |.type _=>true
 |_=>false
theorem QW (P:aV):(uv.all λ(n,v)=>nsIn (KF P) fA (nm n)==some none&&nsIn (KF P) oW (nm n)==some (some v)&&C8 v)=true:=by fin2
theorem BC {f:ae} {pos:Pos} {P:ae->au->Prop} {E:ae->au->Prop} (hk:C8 f=true)
  (h:az (aB pw w) A (q9 (fJ pos (fE (ct ms es) env))) (λvs s₁=>az (aB pw w) A (call f vs) P E s₁) E s):
  az (aB pw w) A (xq pos f [] (fJ pos (fE (ct ms es) env)) []) P E s:=by
 have hp:(fJ pos (fE (ct ms es) env)).any (·.1)=false:=by rw[qq,q_]
 cases f<;>first|exact absurd hk hH|skip
 ·exact ad7 hp (uV hp h)
 ·exact Rk hp (uV hp h)
noncomputable def kq (f:ae) (σ:aa) (ps:List PV) (p:PV):Prop:=∀{d nh w A s vals} {P:ae->au->Prop} {E:ae->au->Prop},cI d nh w A σ s->nh=true->aJ s.heap (ao σ) vals ps->
 (∀r s',Rep s'.heap (ao σ) r p->aF w A σ s σ s'->P r s')->az (aB pw w) A (call f vals) P E s
theorem Bj {f:ae} (hf:findB uv b=some f) (P:aV):nsIn (KF P) fA (nm b)=some none/\nsIn (KF P) oW (nm b)=some (some f)/\C8 f=true:=by
 have F:=ak (eO.mp (QW P) _ (S8 hf))
 exact⟨beq_iff_eq.mp (ak F.1).1,beq_iff_eq.mp (ak F.1).2,F.2⟩
noncomputable abbrev SE (v:ae) (Q:PV->aa->Prop):List PV->aa->Prop:=λps σ=>Ax (kq v σ ps) Q σ
theorem jH {b:Nat} {f:ae} {ms:List ME} {Q:PV->aa->Prop} {X:Ex->aa->Prop} (hf:findB uv b=some f) (hn:c.nh=true) (h:VA c ms ρ σ (SE f Q) X):V c (.cb b ms) ρ σ Q X:=.intro λw A env _ s hc i=>
 have F:=Bj hf w.params
 tS (BB i (ak hc).1 F.1 F.2.1 (BC F.2.2 (h.run (here i) (ak hc).2 i λps σ₁ vs s₁ VS hr _ o1 i1=>VS.elim λp z=>z.1 i1.fi hn hr λr s' dY o2=>dA z.2 dY (o1.trans o2))))
theorem Rv {l:List UInt8} (hz:l.length<=16777216):kq (.builtin "len") σ [.bytes l] (.int l.length):=λi _ r h=>by
 apply r.dJ;intro v vs a b
 apply b.eS
 cases a;rename_i b t
 exact PySem.W.len_bytes (by have:b.toList.length<=16777216:=hz;rw[fc]at this;exact Lk this) (h (.int (b.toList.length:Nat) _) _ (.int _ _) (.tok i.cn _))
theorem dD (hz:l.length<=1000000):kq (.builtin "len") σ [.lst l] (.int l.length):=λi _ r h=>by
 apply r.dJ;intro v vs a b
 apply b.eS
 apply a.nF;intro a vs hl no hr
 have hlen:=hr.length
 rw[fc]at hlen
 refine Rq hl (Ll hz hlen) ?_
 rw[hlen]
 exact h (.int l.length _) _ (.int _ _) (.tok i.cn _)
theorem rV (e:σ a=some (.av l)) (hz:l.length<=1000000):kq (.builtin "len") σ [.ref a] (.int l.length):=λi _ r h=>by
 apply r.dJ;intro v vs x b
 apply b.eS
 apply x.nG
 obtain⟨vs,hl,hr⟩:=i.cn.at_ _ _ e
 have hlen:=hr.length
 rw[fc]at hlen
 refine Rq hl.isList (Ll hz hlen) ?_
 refine aj (hlen)▸?_
 exact h (.int l.length _) _ (.int _ _) (.tok i.cn _)
inductive F9 (w:bF) (A:dn) (σ₀:aa) (s:au) (xs:List PV) (v:ae) (s':au):Prop
 |mk (it) (e:v=.ref it) (n:s.heap.get? it=none) (x:cM σ₀ s'.heap it xs) (o:aF w A σ₀ s σ₀ s')
theorem JK {E:ae->au->Prop} (cn:Cn w σ s.heap) (r:Rep s.heap (ao σ) v (.lst xs)):az (aB pw w) A (Ep v) (F9 w A σ s xs) E s:=by
 apply r.nF;intro l vs hl no hr
 have o1:aF w A σ s σ {s with heap:=s.heap.push {cls:=.type "list_iterator",data:=.fields #[.ref l,.int 0 0]}}:=.keeps cn (fY _)
 refine wpAny_pyIter_list hl ⟨_,rfl,tU (aP _),.ls (kZ cn) l 0 vs xs ⟨_,jg _ rfl,rfl,rfl⟩ ?_ no (o1.rl.jb hr) rfl,o1⟩
 obtain⟨o,ho,x⟩:=hl
 exact⟨o,fY _ _ _ ho,x⟩
theorem JL {n:Int} {E:ae->au->Prop} (cn:Cn w σ s.heap) (hz:n<=1000000000) (hl:-1000000000<=n) (r:Rep s.heap (ao σ) v (.int n)):az (aB pw w) A (call (.type "range") [v]) (λv' s'=>az (aB pw w) A (Ep v') (F9 w A σ s ((aW n.toNat).map λ(k:Nat)=>PV.int k)) E s') E s:=by
 apply r.cInt;intro t
 refine call_range_1 ?_
 have o1:aF w A σ s σ {s with heap:=s.heap.push {cls:=.type "range",data:=.fields #[.int 0 s.toks,.int n t,.int 1 (s.toks+1)]},toks:=s.toks+1+1}:=.keeps cn (fY _)
 have qK:FA 0 n 1=((n.toNat:Nat):Int):=by
  unfold FA
  simp
  lia
 have WI:OQ 0 n 1=true:=by
  unfold OQ
  refine aj (qK)▸?_
  simp[adQ]
  have a:-9223372036854775808<=n:=wK (by decide) hl
  have b:n<9223372036854775808:=AK hz (by decide)
  exact⟨⟨⟨a,b⟩,wK (by decide) (Int.le_max_right n 0),Int.max_lt.mpr ⟨b,by decide⟩⟩,.inr ⟨a,b⟩⟩
 have o2:aF w A σ {s with heap:=s.heap.push {cls:=.type "range",data:=.fields #[.int 0 s.toks,.int n t,.int 1 (s.toks+1)]},toks:=s.toks+1+1} σ {s with heap:=(s.heap.push {cls:=.type "range",data:=.fields #[.int 0 s.toks,.int n t,.int 1 (s.toks+1)]}).push {cls:=.type "range_iterator",data:=.fields #[lj 0,lj (FA 0 n 1),lj 1]},toks:=s.toks+1+1}:=.keeps o1.cn (fY _)
 refine wpAny_pyIter_range (IsRange.new ..) WI ⟨_,rfl,tU (by show s.heap.objs.size<=(s.heap.push _).objs.size;rw[rz];exact b6 _ _),.rg (kZ o1.cn) 0 n.toNat ?_ (by simp),o1.trans o2⟩
 refine aj (qK)▸?_
 exact jg _ rfl
end
section
variable{c:Cx} {X:Ex->af->aa->Prop}
noncomputable def xo (t:ML) (p:PV) (ρ:af):Option af:=match t,p with
 |.nm x,p=>some (put ρ x p)
 |.tup l,.tup ps=>if ps.length=l.length then some (gH ρ l ps)else none
 |_,_=>none
noncomputable def dP (c:Cx) (t:ML) (b:List MS) (N':af->aa->Prop) (R:PV->aa->Prop) (X:Ex->af->aa->Prop):List PV->af->aa->Prop
 |[],ρ,σ=>N' ρ σ
 |p::xs,ρ,σ=>∃bJ,xo t p ρ=some bJ/\aD c b bJ σ (dP c t b N' R X xs) R X
theorem cM.dh {it:Nat} (i:In c w A env ρ σ s) (o:bw c w A env σ s ρ' σ' s') (x:cM σ s.heap it xs):cM σ' s'.heap it xs:=
 x.kp o.rl.kp (λb ob hb nd nc z=>z.elim id λf=>by
  obtain⟨o2,cy,hd⟩:=i.en.gg b f
  replace cy:=hb▸cy;cases cy
  rcases hd with⟨_,_,hd⟩|⟨_,hd⟩
  ·exact absurd hd (nd _ _)
  ·exact absurd hd (nc _)) i.fi.ok o.rl.new
theorem Q7 {t:ML} {it:Nat} {E:ae->au->Prop} {P:Unit->au->Prop}
  (ht:v_ t c.sc te=true) (hb:xo t p ρ=some bJ) (i:In c w A env ρ σ s) (hh:A.handled=none) (r:Rep s.heap (ao σ) v p) (x:cM σ s.heap it xs)
  (h:∀s',bw c w A env σ s bJ σ s'->P () s'):az (aB pw w) A (yB (pL t te) (.ref it) v) (λ_ s'=>az (aB pw w) A (lH (pL t te) env v) P E s') E s:=by
 cases t with
 |nm x=>
  (cases hb)
  exact bj (zU (tF i (mU (ak ht).1) (ak ht).2 r h))
 |tup l=>
  cases p<;>first|cases hb|skip
  rename_i ps
  by_cases hl:ps.length=l.length
  ·rw[show xo (.tup l) (.tup ps) ρ=some (gH ρ l ps) from if_pos hl]at hb
   (cases hb)
   revert h
   apply r.jO;intro a vs WK no hr h
   obtain⟨g1,g2⟩:=xh (env:=env) l (kids te)
   have hlen:=hr.length
   rw[fc]at hlen
   have go:az (aB pw w) A (lH (pL (.tup l) te) env (.ref a)) P E s:=by
    refine GX hh WK (by rw[g1,hlen,hl]) g2 λh' he=>?_
    have o2:aF w A σ s σ {s with heap:=h',toks:=s.toks}:=.keeps i.fi.cn λb o e=>he b o (jE (hU e)) e
    exact GY ht (i.out o2) (o2.rl.jb hr) hl λs' o3=>h s' ((o2.dh i).trans o3)
   rcases x with⟨_,l',i,zR,ps',hit,_⟩|⟨_,y,n,hit,_⟩
   ·exact adz hit go
   ·unfold yB
    exact ax (wpAny_load hit (bj go))
  ·rw[show xo (.tup l) (.tup ps) ρ=none from if_neg hl]at hb;(exact nn hb)
 |«at» o x=>(exact nn hb)
 |idx o x=>(exact nn hb)
inductive O9 (c0:Cx) (w:bF) (A:dn) (env:Env) (t:ML) (b:List MS) (N0:af->aa->Prop) (R0:PV->aa->Prop) (X0:Ex->af->aa->Prop) (σ₀:aa) (s₀:au) (it:Nat) (n:Nat) (s1:au):Prop
 |mk (m8 d0 xs:_) (l:n=xs.length) (f:dP c0 t b N0 R0 X0 xs m8 d0) (x:cM d0 s1.heap it xs) (o:bw c0 w A env σ₀ s₀ m8 d0 s1)
theorem Iw {t:ML} {b:List MS} {eb:List Stmt} {it:Nat} (hh:A.handled=none) (nX:cI c.d c.nh w A σ₀ s₀) (tp:Top A env) (hb:k9 b c.sc eb=true)
  (ht:v_ t c.sc te=true) (hf:dP c t b N' R X xs ρ σ) (h0:s₀.heap.get? it=none) (x:cM σ s.heap it xs) (o:bw c w A env σ₀ s₀ ρ σ s):
  uM (aB pw w) A (.forLoop (pL t te) (.ref it) (jt b eb) [] env) (λr s'=>match r with|.ok f=>eu c w A env σ₀ s₀ N' R f s'|.error e=>xt (aB pw w) A env (cW c w A env σ₀ s₀ X) e s') s:=by
 refine codeAny_forLoop_any (O9 c w A env t b N' R X σ₀ s₀ it) (λn s₁ hI=>?_) xs.length ⟨ρ,σ,xs,rfl,hf,x,o⟩
 obtain⟨bJ,σ₁,xs,e,hf,x,o⟩:=hI
 have mQ:∀{ρ' σ' s'},bw c w A env σ₀ s₀ ρ' σ' s'->In c w A env ρ' σ' s':=λo=>⟨⟨nX.lv,nX.hd,o.cn,nX.fr,o.ok,(tC o.same).trans nX.gens⟩,o.en⟩
 refine abu hh o nX.cn.base h0 x (λex aU o2=>?_) λp r ex v aU hv x2 o2=>?_
 ·rw[ex]at hf
  exact zW (lq hf o2)
 ·rw[ex]at hf
  obtain⟨tP,mI,VQ⟩:=hf
  have i2:=mQ o2
  refine Q7 ht mI i2 hh hv x2 λfZ o3=>?_
  have i3:=i2.dh o3
  refine bg (VQ.out w A env eb fZ hb i3 tp) (λf tI hf=>?_) λ_ _ z=>MG nX.fr tp nX.cn.base (z.back (o2.trans o3))
  cases f with
  |next=>
   obtain⟨adF,OC,hn,o4⟩:=hf
   exact⟨r.length,by rw[e,ex];exact A2 _,adF,OC,r,rfl,hn,(x2.dh i2 o3).dh i3 o4,(o2.trans o3).trans o4⟩
  |ret v=>exact hf.back (o2.trans o3)
  |brk=>exact hf.elim
  |cont=>exact hf.elim
theorem yV (m:ME) (e:Expr) (env:Env) (x:ae):foldedSetIterable (mk m e) env x=pure x:=by cases m<;>rfl
theorem xb {t:ML} {b:List MS} (hn:c.nh=true) (h:V c m ρ σ (λp σ₁=>∃xs,p=.lst xs/\dP c t b N' R X xs ρ σ₁) (xa X ρ)):SV c (.fw t m b) ρ σ N' R X:=.intro λw A env e s hc i tp=>by
 refine wpAny_For (h.st i (here i) (ak (ak hc).1).2 i λp σ₁ v s₁ hp hr _ o1 _=>?_) (yV m _ env)
 obtain⟨xs,rfl,hf⟩:=hp
 refine bg (JK (E:=λ_ _=>False) o1.cn hr) (λv' aU pC=>?_) λ_ _ z=>z.elim
 obtain⟨it,rfl,hit,x,o2⟩:=pC
 exact Iw (i.fi.hd hn) i.fi tp (ak hc).2 (ak (ak hc).1).1 hf ((o1.rl.back it (.inr hit)).resolve_left λz=>x.fields.1 (o2.rl.old it (o1.rl.old it z))) x ((o1.trans o2).dh i)
theorem oP {t:ML} {b:List MS} (hn:c.nh=true) (h:V c m ρ σ (λp σ₁=>∃n,p=.int n/\n<=1000000000/\-1000000000<=n/\dP c t b N' R X ((aW n.toNat).map λ(k:Nat)=>PV.int k) ρ σ₁) (xa X ρ)):SV c (.fw t (.cb 8 [m]) b) ρ σ N' R X:=.intro λw A env e s hc i tp=>by
 have h0:=(ak (ak hc).1).2
 have F:=Bj (show findB uv 8=some (.type "range") from rfl) w.params
 have sP:VA c [m] ρ σ (λps σ₁=>∃p,ps=[p]/\∃n,p=.int n/\n<=1000000000/\-1000000000<=n/\dP c t b N' R X ((aW n.toNat).map λ(k:Nat)=>PV.int k) ρ σ₁) (xa X ρ):=
  aO (V_mono h λp σ' hp=>bc ⟨p,rfl,hp⟩)
 refine wpAny_For (tS (BB i (ak h0).1 F.1 F.2.1 (BC F.2.2 (sP.st i (ak h0).2 λps σ₁ vs s₁ gE hr o1 _=>?_)))) (yV (.cb 8 [m]) (b5 e) env)
 obtain⟨p,rfl,n,rfl,hz,hl,hf⟩:=gE
 apply hr.dJ;intro v vs a b'
 apply b'.eS
 refine bg (JL (E:=λ_ _=>False) o1.cn hz hl a) (λv' aU pC=>?_) λ_ _ z=>z.elim
 refine bg pC (λv'' fZ CY=>?_) λ_ _ z=>z.elim
 obtain⟨it,rfl,hit,x,o2⟩:=CY
 exact Iw (i.fi.hd hn) i.fi tp (ak hc).2 (ak (ak hc).1).1 hf ((o1.rl.back it (.inr hit)).resolve_left λz=>x.fields.1 (o2.rl.old it (o1.rl.old it z))) x ((o1.trans o2).dh i)
end
section
variable{c:Cx} {X:Ex->af->aa->Prop}
noncomputable def BZ (n:Nat):Option Ex:=bif bh n 11 then some .b_ else bif bh n 4 then some .short else bif bh n 164 then some .j_ else bif bh n 22 then some .rP else bif bh n 86 then some .ja else none
noncomputable def tq:Ex->Nat
 |.b_=>11|.short=>4|.j_=>164|.rP=>22|.ja=>86
theorem H9:BZ n=some ex->n=tq ex:=by
 have step:∀{k:Nat} {d:Ex} {r:Option Ex},(r=some ex->n=tq ex)->tq d=k->(bif bh n k then some d else r)=some ex->n=tq ex:=λ{k d r} hr hd h=>by
  cases hb:bh n k with
  |true=>replace h:=hb▸h;cases h;refine aj (hd)▸?_;exact fG hb
  |false=>replace h:=hb▸h;exact hr h
 exact step (step (step (step (step (λh=>(nn h)) rfl) rfl) rfl) rfl) rfl
noncomputable abbrev Hg:List ae:=[.type "Exception",.type "BaseException",.type "object"]
noncomputable def xE:List Ex:=[.short,.b_,.j_,.rP,.ja]
noncomputable def wk:Ex->Ex->Bool
 |.short,.short=>true|.short,.b_=>true|.b_,.b_=>true|.j_,.j_=>true|.rP,.rP=>true|.ja,.ja=>true
 |_,_=>false
noncomputable def Hv:Data->Option FC
 |.cls k=>some k
 |_=>none
noncomputable def BY (K:Frag) (C:Nat) (rS:List ae) (newId:String):Bool:=(K.lookup C).any λo=>o.cls==.type "type"&&(Hv o.data).any λcd=>
 cd.mro.head?==some (.ref C)&&(K.lookup cd.ns).isSome&&tailIn K rS cd.mro.tail&&!cd.hasDel&&nsOkIn K cd.ns&&nsIn K cd.ns "__init__"==some none&&(o.slots.toList.length==6&&o.slots.toList[4]?==some (some (.builtin newId)))
theorem B0 (P:aV):(xE.all λe=>BY (KF P) (iq e) Hg "Exception.__new__"&&nsIn (KF P) fA (nm (tq e))==some (some (.ref (iq e)))&&mroIn (KF P) (iq e) (.type "BaseException")==some true&&
  instIn (KF P) (.ref (iq e)) (.type "tuple")==some false&&isClsIn (KF P) (iq e)&&xE.all λd=>mroIn (KF P) (iq e) (.ref (iq d))==some (wk e d))=true:=by fin2
theorem xF (e:Ex):e∈xE:=by cases e<;>simp[xE]
theorem RK {d:Data} {k:FC} (h:Hv d=some k):d=.cls k:=by
 cases d<;>first|exact congrArg _ (bN h)|exact nn h
theorem pI {α:Type} {l:List α} (h:l.length=n+1):∃a r,l=a::r/\r.length=n:=by
 cases l with
 |nil=>exact Nat.noConfusion h
 |cons a r=>exact⟨a,r,rfl,nq h⟩
inductive Qx {α:Type} (l:List α):Prop
 |mk (a b c d e f:_) (h:l=[a,b,c,d,e,f])
theorem six {α:Type} {l:List α} (h:l.length=6):Qx l:=by
 obtain⟨a,l1,e1,h⟩:=pI h
 obtain⟨b,l2,e2,h⟩:=pI h
 obtain⟨c,l3,e3,h⟩:=pI h
 obtain⟨d,l4,e4,h⟩:=pI h
 obtain⟨e,l5,e5,h⟩:=pI h
 obtain⟨f,l6,e6,h⟩:=pI h
 exact⟨a,b,c,d,e,f,by rw[e1,e2,e3,e4,e5,e6,Pt h]⟩
inductive ExcAt (K:Frag) (C:Nat) (rS:List ae) (newId:String):Prop
 |mk (bm N nm q bs hdct sn sub ab col dd k0 k1 k2 k3 k5:_) (l:(K.lookup N).isSome=true) (a:∀h:Heap,K.In h->h.get? C=some (Ss nm q C N bs bm hdct sn sub ab col dd k0 k1 k2 k3 k5 newId)/\(∃mN,h.Ns N mN/\mN "__init__"=none)/\OwnTail h rS bm)
theorem Su {o:Obj} {cd:FC} {C:Nat} {bm:List ae} {k0 k1 k2 k3 k4 k5:Option ae} (e1:o.cls=.type "type") (e2:o.data=.cls cd) (e3:o.slots.toList=[k0,k1,k2,k3,k4,k5])
  (e4:k4=some (.builtin newId)) (e5:cd.hasDel=false) (e6:cd.mro=.ref C::bm):o=Ss cd.name cd.qualname C cd.ns cd.bases bm cd.hasDict cd.slotNames cd.subclasses cd.abstract cd.collection o.dict k0 k1 k2 k3 k5 newId:=by
 cases o;cases cd
 have e1:_=_:=e1;have e2:_=_:=e2;have e5:_=_:=e5;have e6:_=_:=e6
 have e3:_=m9 _:=congrArg m9 e3
 subst e1 e2 e4 e5 e6
 exact congrArg (Obj.mk _ _ _) e3
inductive OD (a b c d e f g:Bool):Prop
 |mk (a:a=true) (b:b=true) (c:c=true) (d:d=true) (e:e=true) (f:f=true) (g:g=true)
theorem QO {a b c d e f g:Bool} (h:(a&&b&&c&&d&&e&&f&&g)=true):OD a b c d e f g:=by
 have h6:=ak h
 have h5:=ak h6.1
 have h4:=ak h5.1
 have h3:=ak h4.1
 have h2:=ak h3.1
 have h1:=ak h2.1
 exact⟨h1.1,h1.2,h2.2,h3.2,h4.2,h5.2,h6.2⟩
theorem VY {α:Type} {l:List α} {a:α} (h:l.head?=some a):l=a::l.tail:=by
 cases l with
 |nil=>exact nn h
 |cons b r=>exact congrArg (· ::r) (bN h)
theorem H_ {C:Nat} {rS:List ae} (q:BY K C rS newId=true):ExcAt K C rS newId:=by
 obtain⟨o,ho,q⟩:=uu q
 obtain⟨cd,hd,q'⟩:=uu (ak q).2
 obtain⟨q1,q2,q3,q4,q5,q6,q7⟩:=QO q'
 obtain⟨k0,k1,k2,k3,k4,k5,hs⟩:=six (beq_iff_eq.mp (ak q7).1)
 exact⟨cd.mro.tail,cd.ns,_,_,_,_,_,_,_,_,_,_,_,_,_,_,q2,λh X=>⟨(X _ _ ho).trans (congrArg some (Su (beq_iff_eq.mp (ak q).1) (RK hd) hs (bN ((congrArg (·[4]?) hs).symm.trans (beq_iff_eq.mp (ak q7).2))) (by cases e:cd.hasDel with|false=>rfl|true=>rw[e]at q4;exact ff q4) (VY (beq_iff_eq.mp q1)))),
  ⟨_,.of_isNs (isNs_of_in X q5),abH X q5 (beq_iff_eq.mp q6)⟩,tail_of_in X q3⟩⟩
theorem abJ {N:Nat} {m:Str->Option ae} {oN:Obj} (e:K.lookup N=some oN) (X:K.In h) (X':K.In h') (x:h.Ns N m):h'.Ns N m:=by
 obtain⟨o,es,ep,ho,r⟩:=x
 replace ho:=X _ _ e▸ho;cases ho
 exact⟨oN,es,ep,X' _ _ e,r⟩
theorem H8 (ex:Ex) (P:aV):BY (KF P) (iq ex) Hg "Exception.__new__"=true/\nsIn (KF P) fA (nm (tq ex))=some (some (.ref (iq ex))):=by
 have F:=ak (ak (ak (ak (ak (eO.mp (B0 P) _ (xF ex))).1).1).1).1
 exact⟨F.1,beq_iff_eq.mp F.2⟩
noncomputable abbrev U9 (ex:Ex) (X:Ex->af->aa->Prop) (ρ:af):List PV->aa->Prop:=λps σ=>ps.length<=100/\X ex ρ σ
theorem aet (hn:c.nh=true) (he:BZ n=some ex) (h:VA c ms ρ σ (U9 ex X ρ) (xa X ρ)):SV c (.rs n ms) ρ σ N' R X:=.intro λw A env e s hc i tp=>by
 obtain rfl:=H9 he
 obtain⟨F1,F2⟩:=H8 ex w.params
 have hp:(fJ (b5 e).pos (fE (ct ms (kids (b5 e)).tail) env)).any (·.1)=false:=by rw[qq,q_]
 obtain⟨bm,NN,MC,q,bs,hdct,sn,sub,ab,col,dd,k0,k1,k2,k3,k5,Cj,xO⟩:=H_ F1
 obtain⟨hC,⟨mN,hN,Wh⟩,T⟩:=xO _ i.fi.cn.base
 have FE:=PySem.F.excBase_Exception
 refine wpAny_Raise_call_subU (C:=iq ex) (nm:=MC) (q:=q) (N:=NN) (bs:=bs) (bm:=bm) (hdct:=hdct) (sn:=sn) (sub:=sub) (ab:=ab) (col:=col) (dd:=dd) (k0:=k0) (k1:=k1) (k2:=k2) (k3:=k3) (k5:=k5)
  FE (by decide) FE (mN:=mN) (T.hasType FE.hasBase) (i.fi.hd hn) hp Wh (sy i (ak hc).1 F2 ⟨rfl,uV hp (h.st i (ak hc).2 λps σ₁ vs s₁ gE hr o1 _=>?_)⟩)
 obtain⟨Vn,_,T'⟩:=xO _ o1.cn.base
 obtain⟨oN,Cj⟩:=GA.mp Cj
 refine⟨rfl,room (hr.length▸ai gE.1 (by decide)),Vn,abJ Cj i.fi.cn.base o1.cn.base hN,T',λh' e hm=>?_⟩
 obtain⟨t,ht,_⟩:=hm.there
 have no:¬ao σ₁ e:=λz=>(k_ o1.cn z).elim λx hx=>nomatch hm.new.symm.trans hx
 exact⟨ex,ρ,σ₁,e,.fresh,rfl,gE.2,(o1.trans (.keeps (t:=s₁.toks) o1.cn hm.keeps)).dh i,trivial,(o1.rl.back e (.inr hm.new)).resolve_left λz=>no (o1.rl.old e z),no,_,_,_,ht,rfl,rfl,rfl,rfl⟩
structure ql (c:Cx) (ex:Ex) (ms:List MS) (ρ:af) (σ:aa) (N':af->aa->Prop) (R:PV->aa->Prop) (X:Ex->af->aa->Prop):Prop where
 intro::
 out:∀w A env es s₀ σ₀ s e,k9 ms c.sc es=true->In {c with nh:=false} w A env ρ σ s->Top A env->A.handled=some (.ref e)->bw c w A env σ₀ s₀ ρ σ s->(KF w.params).In s₀.heap->gq (.tr .none) s₀.heap e ex σ s.heap->
  az (aB pw w) A (execs (jt ms es) env) (eu c w A env σ₀ s₀ N' R) (cW c w A env σ₀ s₀ X) s
theorem bw.cx {d nh w A env σ s ρ' σ' s'} (o:bw ⟨c.sc,d,nh⟩ w A env σ s ρ' σ' s'):bw c w A env σ s ρ' σ' s':=⟨o.same,o.cn,o.en,o.ok,o.rl⟩
theorem eu.cx {d nh w A env σ s f s'} (o:eu ⟨c.sc,d,nh⟩ w A env σ s N' R f s'):eu c w A env σ s N' R f s':=by
 cases f with
 |next=>obtain⟨a,b,x,y⟩:=o;exact⟨a,b,x,y.cx⟩
 |ret v=>obtain⟨a,b,d,x,z,y⟩:=o;exact⟨a,b,d,x,z,y.cx⟩
 |brk=>exact o.elim
 |cont=>exact o.elim
theorem cW.cx {d nh w A env σ s x s'} (o:cW ⟨c.sc,d,nh⟩ w A env σ s X x s'):cW c w A env σ s X x s':=by
 obtain⟨a,b,d,e,f,g,i,y,r,t⟩:=o;exact⟨a,b,d,e,f,g,i,y.cx,r,t⟩
theorem oO {ms:List MS} (h:aD {c with nh:=false} ms ρ σ N' R X):ql c ex ms ρ σ N' R X:=.intro λw A env es s₀ σ₀ s e hc hi tp hA o b0 hx=>
 bg (h.out w A env es s hc hi tp) (λ_ _ z=>(eu.cx (c:=c) z).back o) λ_ _ z=>(cW.cx (c:=c) z).back o
theorem gq.keep {w A env s s'} (i:In c w A env ρ σ s) (o:bw c w A env σ s ρ' σ' s') (x:gq (.tr fl) h₀ e ex σ s.heap):gq (.tr fl) h₀ e ex σ' s'.heap:=by
 obtain⟨x1,x2,oe,vs,a0,x3,x4,x5,x6,T,oT,ts,y1,y2,y3,y4,y5,y6,y7⟩:=x
 have key:∀b ob,s.heap.get? b=some ob->(∃vs,ob.data=.fields vs)->¬ao σ b->s'.heap.get? b=some ob/\¬ao σ' b:=λb ob hb ⟨vs,hd⟩ n=>by
  refine⟨o.rl.kp.exact hb (λz=>z.elim n λf=>?_) (uZ i.fi.ok hb λes n q=>by replace q:=hd▸q;cases q),λz=>(o.rl.new b z).elim n λq=>by replace q:=hb▸q;cases q⟩
  obtain⟨o2,cy,hd2⟩:=i.en.gg b f
  replace cy:=hb▸cy;cases cy
  rcases hd2 with⟨_,_,hd2⟩|⟨_,hd2⟩<;>replace hd2:=hd▸hd2<;>cases hd2
 obtain⟨k1,k2⟩:=key e oe x3 ⟨_,x5⟩ x2
 obtain⟨k3,k4⟩:=key T oT y5 ⟨_,y6⟩ y3
 exact⟨x1,k2,oe,vs,a0,k1,x4,x5,x6,T,oT,ts,y1,y2,k4,y4,k3,y6,y7⟩
theorem Qs {m:MS} {ms:List MS} (h:SV {c with nh:=false} m ρ σ (λρ' σ'=>ql c ex ms ρ' σ' N' R X) R X):ql c ex (m::ms) ρ σ N' R X:=.intro λw A env es s₀ σ₀ s e hc hi tp hA o b0 hx=>by
 refine zV (bg (h.out w A env _ s (ak hc).1 hi tp) (λf s₁ hf=>?_) λ_ _ z=>(cW.cx (c:=c) z).back o)
 cases f with
 |next=>
  obtain⟨bJ,σ₁,hn,o1⟩:=hf
  exact hn.out w A env es.tail s₀ σ₀ s₁ e (ak hc).2 (hi.dh o1) tp hA (o.trans (bw.cx (c:=c) o1)) b0 (hx.keep hi o1)
 |ret v=>exact(eu.cx (c:=c) (f:=.ret v) hf).back o
 |brk=>exact hf.elim
 |cont=>exact hf.elim
theorem M8 {w A env s₀ σ₀ s e} {pos:Pos} {P:Flow->au->Prop} (tp:Top A env) (hA:A.handled=some (.ref e)) (o:bw c w A env σ₀ s₀ ρ σ s) (b0:(KF w.params).In s₀.heap) (hx:gq (.tr .none) s₀.heap e ex σ s.heap) (hX:X ex ρ σ):
  az (aB pw w) A (exec (.Raise none none pos) env) P (cW c w A env σ₀ s₀ X) s:=by
 have e0:exec (.Raise none none pos) env=(do tG pos;raiseStmt env none none):=rfl
 refine aj (e0)▸?_
 refine ax (wB ?_)
 unfold raiseStmt
 refine ax (wpAny_handled ?_)
 refine aj (hA)▸?_
 refine ax (m7 (ax (B4 hx λT=>?_)))
 rw[if_neg (by simp)]
 refine ax (bg (r_ (fr:=env.frame) (E:=λ_ _=>False) o b0 hx) (λ_ cu z=>wpAny_throw ?_) λ_ _ z=>z.elim)
 refine⟨ex,ρ,σ,e,_,rfl,hX,z.1,?_,z.2⟩
 refine aj (tp.fr)▸?_;exact GB rfl
theorem Qu {ms:List MS} (h:X ex ρ σ):ql c ex (.rr::ms) ρ σ N' R X:=.intro λw A env es s₀ σ₀ s e hc hi tp hA o b0 hx=>zV (M8 tp hA o b0 hx h)
noncomputable abbrev IL (c:Cx) (ex:Ex) (ms:List MS) (ρ:af) (N':af->aa->Prop) (R:PV->aa->Prop) (X:Ex->af->aa->Prop):Bool->aa->Prop:=λx σ=>Br x (X ex ρ σ) (ql c ex ms ρ σ N' R X)
theorem Qt {ms:List MS} (h:T {c with nh:=false} m ρ σ (IL c ex ms ρ N' R X) (xa X ρ)):ql c ex (.ite m [.rr] []::ms) ρ σ N' R X:=.intro λw A env es s₀ σ₀ s e hc hi tp hA o b0 hx=>by
 have g1:=(ak (ak (ak hc).1).1).1
 refine zV (wpAny_If (bg (h.st hi g1 (P:=λx s₁=>∃σ₁,IL c ex ms ρ N' R X x σ₁/\aF w A σ s σ₁ s₁) λx σ₁ s₁ hq o1 _=>⟨σ₁,hq,o1⟩) (λx s₁ gZ=>?_) λ_ _ z=>(cW.cx (c:=c) z).back o))
 obtain⟨σ₁,hq,o1⟩:=gZ
 have k8:=o1.dh hi
 have MK:=o.trans (bw.cx (c:=c) k8)
 cases x with
 |true=>
  rw[if_pos rfl]
  exact zV (M8 tp hA MK b0 (hx.keep hi k8) (hq.1 rfl))
 |false=>
  rw[if_neg hH]
  exact zW ((hq.2 rfl).out w A env es.tail s₀ σ₀ s₁ e (ak hc).2 (hi.dh k8) tp hA MK b0 (hx.keep hi k8))
end
section
variable{c:Cx} {X:Ex->af->aa->Prop}
noncomputable def nv (c:Cx) (N':af->aa->Prop) (R:PV->aa->Prop) (X:Ex->af->aa->Prop) (ex:Ex):List (Nat×List MS)->af->aa->Prop
 |[],ρ,σ=>X ex ρ σ
 |(d,b)::hs,ρ,σ=>∃D,BZ d=some D/\Br (wk ex D) (ql c ex b ρ σ N' R X) (nv c N' R X ex hs ρ σ)
theorem abb {D:Ex} {P:Bool->au->Prop} {E:ae->au->Prop} (b0:(KF w.params).In s.heap) (he:∃oe,s.heap.get? e=some oe/\oe.cls=.ref (iq ex)) (h:P (wk ex D) s):
  az (aB pw w) A (excMatches (.ref e) (.ref (iq D))) P E s:=by
 have F:=eO.mp (B0 w.params) _ (xF D)
 simp only[tR,beq_iff_eq]at F
 obtain⟨⟨⟨⟨⟨F1,F2⟩,F3⟩,F4⟩,F5⟩,F6⟩:=F
 have G:=eO.mp (B0 w.params) _ (xF ex)
 simp only[tR,beq_iff_eq]at G
 have G6:=beq_iff_eq.mp (eO.mp G.2 _ (xF D))
 obtain⟨bm,NN,MC,q,bs,hdct,sn,sub,ab,col,dd,k0,k1,k2,k3,k5,_,xO⟩:=H_ F1
 obtain⟨hC,_,_⟩:=xO _ b0
 obtain⟨oe,ho,VT⟩:=he
 obtain⟨hh,g,d,t,os⟩:=s
 have L1:=looks_instIn (M:=aB pw w) b0 F4
 have L2:=Y1 (M:=aB pw w) b0 F3
 have L3:=Y1 (M:=aB pw w) b0 G6
 have LT:AY (aB pw w) hh (typeOf (.ref e)) (.ref (iq ex)):=VT▸(PT ho).andThen .now
 have LI:AY (aB pw w) hh (isExcClass (.ref (iq D))) true:=by
  unfold isExcClass
  refine Looks.andThen (a:=true) ?_ L2
  intro A Q E s k q
  simp only[PySem.isType,loadHead]
  refine ax (zX (k _ _ hC) ?_)
  exact bj q
 unfold excMatches
 refine ax (L1.at ?_)
 rw[if_neg hH]
 refine ax (bj ?_)
 dsimp only
 refine ax ?_
 rw[wN]
 refine ax (ax (LI.at ?_))
 simp only[Bool.not_true,OL,if_false]
 refine bj ?_
 dsimp only
 rw[Ge]
 refine bj ?_
 refine ax (LT.at ?_)
 refine ax ?_
 rw[wN]
 refine ax (ax (L3.at ?_))
 cases hb:wk ex D with
 |true=>
  rw[if_pos rfl]
  refine bj ?_
  dsimp only
  refine bj ?_
  dsimp only
  rw[hb]at h
  exact bj h
 |false=>
  rw[if_neg hH]
  refine bj ?_
  dsimp only
  rw[Ge]
  refine bj ?_
  dsimp only
  rw[hb]at h
  exact bj h
theorem bw.an (e:bG A'=bG A) (o:bw ⟨c.sc,d,nh⟩ w A' env σ s ρ' σ' s'):bw c w A env σ s ρ' σ' s':=⟨o.same,o.cn,o.en,e▸o.ok,e▸o.rl⟩
theorem eu.an {f:Flow} (e:bG A'=bG A) (o:eu ⟨c.sc,d,nh⟩ w A' env σ s N' R f s'):eu c w A env σ s N' R f s':=by
 cases f with
 |next=>exact uh.rec (λa b q o=>⟨a,b,q,o.an e⟩) o
 |ret v=>exact w_.rec (λa b d q r o=>⟨a,b,d,q,r,o.an e⟩) o
 |brk=>exact o.elim
 |cont=>exact o.elim
theorem cW.an {x:ae} (e:bG A'=bG A) (o:cW ⟨c.sc,d,nh⟩ w A' env σ s X x s'):cW c w A env σ s X x s':=
 o.rec λa b d f g h1 h2 h3 h4 h5=>⟨a,b,d,f,g,h1,h2,h3.an e,h4,h5⟩
theorem VE (hi:cI c.d c.nh w A σ s) (tp:Top A env):∀{hs:List (Nat×List MS)} {es:List hO} {ρ':af} {σ':aa} {s₁:au},Eg hs c.sc es=true->nv c N' R X ex hs ρ' σ'->
  bw c w A env σ s ρ' σ' s₁->gq (.tr .none) s.heap e ex σ' s₁.heap->az (aB pw w) A (handleBy (.ref e) env (D1 hs es)) (eu c w A env σ s N' R) (cW c w A env σ s X) s₁:=λ{hs}=>by
 induction hs with
 |nil=>
  intro es ρ' σ' s₁ _ ht o hx
  refine wpAny_handleBy_nil ?_
  unfold PySem.passOn
  refine ax (B4 hx λT=>?_)
  rw[if_neg (by simp)]
  refine ax (bg (r_ (fr:=env.frame) (E:=λ_ _=>False) o hi.cn.base hx) (λ_ cu z=>wpAny_throw ?_) λ_ _ z=>z.elim)
  refine⟨ex,ρ',σ',e,_,rfl,ht,z.1,?_,z.2⟩
  rw[tp.fr];exact GB rfl
 |cons y hs cD=>
  obtain⟨d,b0⟩:=y
  intro es ρ' σ' s₁ hc ht o hx
  cases b0 with
  |nil=>exact ff (ak (ak hc).1).2
  |cons m b=>
   obtain⟨hc,h4⟩:=ak hc
   obtain⟨hc,_⟩:=ak hc
   obtain⟨h1,h2⟩:=ak hc
   obtain⟨D,hD,hy,hn⟩:=ht
   obtain rfl:=H9 hD
   refine wpAny_handleBy_cons (codeAny_handlers_test (zT (KC o.cn.base o.en.kind o.en.glob ((vL o.en _).trans (C9 h1)) (H8 D w.params).2 ?_) (yi h1))) (by intro q;cases q)
   have he:∃oe,s₁.heap.get? e=some oe/\oe.cls=.ref (iq ex):=by
    obtain⟨_,_,oe,_,_,g1,g2,_⟩:=hx;exact⟨oe,g1,g2⟩
   refine abb (ex:=ex) (D:=D) o.cn.base he ?_
   cases hb:wk ex D with
   |false=>exact cD h4 (hn hb) o hx
   |true=>
    refine codeAny_handlers_suite ?_
    refine bg (r_ (A:=A.mark (some (.ref e))) (fr:=none) (E:=λ_ _=>False) (c:=c) (env:=env) (s:=s) (σ:=σ) ⟨o.same,o.cn,o.en,o.ok,o.rl⟩ hi.cn.base hx) (λ_ aU z=>?_) λ_ _ z=>z.elim
    have i2:In {c with nh:=false} w (A.mark (some (.ref e))) env ρ' σ' aU:=
     ⟨⟨⟨hi.lv.depth,hi.lv.units⟩,λq=>(ff q),z.1.cn,hi.fr,z.1.ok,(tC z.1.same).trans hi.gens⟩,z.1.en⟩
    exact bg ((hy hb).out w (A.mark (some (.ref e))) env (bH (va es)) s σ aU e h2 i2 ⟨tp.fr,tp.hd⟩ rfl z.1 hi.cn.base z.2) (λf fZ hf=>eu.an (d:=c.d) (nh:=c.nh) (A':=A.mark (some (.ref e))) rfl hf) λx fZ z=>MH (A:=A) (A':=A.mark (some (.ref e))) hi.fr rfl tp hi.cn.base (cW.an (d:=c.d) (nh:=c.nh) (A':=A.mark (some (.ref e))) rfl z)
theorem qm {b:List MS} {hs:List (Nat×List MS)} (jW:hs≠[]) (h:aD c b ρ σ N' R λex ρ' σ'=>nv c N' R X ex hs ρ' σ'):SV c (.tr b hs) ρ σ N' R X:=.intro λw A env e s hc hi tp=>by
 rcases hs with _|⟨h₀,lP⟩
 ·exact absurd rfl jW
 refine wpAny_Try_except (bg (h.out w A env _ s (ak hc).1 hi tp) (λf s₁ hf=>?_) λx s₁ z=>?_)
 ·cases f with
  |next=>exact zW hf
  |ret v=>exact hf
  |brk=>exact hf.elim
  |cont=>exact hf.elim
 ·obtain⟨ex,ρ',σ',e',st,rfl,hT,o,qC,hx⟩:=z
  refine bg (note (E:=λ_ _=>False) hi.fi.fr tp o hi.fi.cn.base qC hx) (λ_ aU z=>?_) λ_ _ z=>z.elim
  refine bg (r_ (fr:=none) (E:=λ_ _=>False) z.1 hi.fi.cn.base z.2) (λ_ fZ z=>?_) λ_ _ z=>z.elim
  exact VE hi.fi tp (ak hc).2 hT z.1 z.2
end
section
variable{c:Cx}
theorem nolimit (X:(KF w.params).In h):h.NoLimit:=by
 have k:(nsOkIn (KF w.params) cStatics&&nsIn (KF w.params) cStatics "sys.recursionlimit"==some none)=true:=by fin2
 obtain⟨k1,k2⟩:=gO.mp k
 exact⟨_,.of_isNs (isNs_of_in X k1),abH X k1 (beq_iff_eq.mp k2)⟩
noncomputable def p5:List Nat->List PV->af
 |x::xs,p::ps=>(x,p)::p5 xs ps
 |_,_=>[]
noncomputable def fdOf (st:Stmt) (qual:String) (d m cd:ae):FuncData:=
 {name:=Head.Mt st,qualname:=.ofString qual,params:=Head.El st,body:=.stmts (Head.jL st),scope:=Head.dG st,globals:=3,closure:=[],defaults:=d,kwdefaults:=.none,doc:=.none,pyModule:=m,annotations:=none,code:=cd,closureTuple:=.none,builtins:=0}
noncomputable def Nc (sc:b7) (ps:List Nat):Bool:=sc.kind==.function&&!sc.isCoroutine&&!sc.isGenerator&&distinct (ps.map nm)&&distinct (sc.names.map (·.1))&&ps.all λp=>decide (p<cT)&&(sc.names.lookup (nm p)==some .local||sc.names.lookup (nm p)==some .cell)
noncomputable def YQ (f:Nat) (P:aV):Option Obj:=(KF P).lookup f
noncomputable def xH (st:Stmt) (q m:String) (i k:Nat):FuncData:=fdOf st q .none (Head.S m i) (Head.R k)
noncomputable def Ta (st:Stmt) (q m:String) (i k:Nat):Option Obj:=some (Head.fu (.func (xH st q m i k)))
noncomputable def Rz (q:String) (k:Nat) (P:aV):Bool:=codeIn (KF P) (Head.R k) (.ofString q)
noncomputable def bA (st:Stmt) (q m:String) (i k:Nat) (l:List ae):Sem (List (Str×ae)):=bindArgs (xH st q m i k) ⟨l,[]⟩
noncomputable def bO (ps:List Nat) (l:List ae):Sem (List (Str×ae)):=pure ((ps.map nm).zip l)
noncomputable def tab:Nat->(Nat->ae)->List ae
 |0,_=>[]
 |n+1,a=>a 0::tab n λi=>a (i+1)
theorem acV (l:List ae):tab l.length (λi=>l.getD i .none)=l:=by
 induction l with
 |nil=>rfl
 |cons x l ih=>exact congrArg (x:: ·) ih
noncomputable def Tf (f:Nat) (st:Stmt) (ps:List Nat) (b:List MS) (q m:String) (i k:Nat):((aV->Option Obj)×(aV->Bool))×((Nat->ae)->Sem (List (Str×ae)))×(Bool×Bool)×List Stmt:=
 ((YQ f,Rz q k),λa=>bA st q m i k (tab ps.length a),(Nc (Head.dG st) ps,Rd b st),jt b (Head.jL st))
noncomputable def Tg (st:Stmt) (ps:List Nat) (q m:String) (i k:Nat):((aV->Option Obj)×(aV->Bool))×((Nat->ae)->Sem (List (Str×ae)))×(Bool×Bool)×List Stmt:=
 ((λ_=>Ta st q m i k,λ_=>true),λa=>bO ps (tab ps.length a),(true,true),Head.jL st)
inductive aN (f:Nat) (st:Stmt) (ps:List Nat) (b:List MS):Prop
 |mk (q m:String) (i k:Nat) (h:Tf f st ps b q m i k=Tg st ps q m i k)
theorem He {x:Str}:∀{l:List (Str×ae)} {m:Str->Option ae},x∉l.map (·.1)->xn kind l m x=m x
 |[],_,_=>rfl
 |(n,v)::r,m,h=>by
  simp only[qf,eP,not_or]at h
  rw[xn,He h.2]
  split
  ·exact if_neg h.1
  ·rfl
theorem Q5 {x:Str}:∀{l:List (Str×ae)} {m:Str->Option ae},x∉l.map (·.1)->xm kind l m x=m x:=λ{l}=>by
 induction l with
 |nil=>
  intro _ _
  exact rfl
 |cons y r cD=>
  obtain⟨n,v⟩:=y
  intro m h
  simp only[qf,eP,not_or]at h
  rw[xm,cD h.2]
  split
  ·rfl
  ·exact if_neg h.1
theorem An {x:Str}:∀{a:List Str} {b:List ae},x∈(a.zip b).map (·.1)->x∈a
 |[],_,h=>by simp at h
 |_::_,[],h=>by simp at h
 |y::a,v::b,h=>by
  simp only[List.zip_cons_cons,qf,eP]at h
  rcases h with h|h
  ·exact h▸.head _
  ·exact .tail _ (An h)
theorem Q6:∀{ps:List Nat} {vals:List ae} {args:List PV} {m cm:Str->Option ae},aJ h O vals args->distinct (ps.map nm)=true->(∀x∈ps,x<cT)->get (p5 ps args) k=some p->
  k∈ps/\∃v,Rep h O v p/\(kind (nm k)=some .local->xn kind ((ps.map nm).zip vals) m (nm k)=some v)/\(kind (nm k)≠some .local->xm kind ((ps.map nm).zip vals) cm (nm k)=some v):=by
 intro ps
 induction ps with
 |nil=>exact λ{vals args m cm} _ _ _ e=>nn e
 |cons x xs ih=>
  intro vals args m cm hr hd br e
  cases args with
  |nil=>exact nn e
  |cons q args=>
   apply hr.dJ;intro v vals r rs
   have hd2:=ak hd
   have e:(bif bh x k then some q else get (p5 xs args) k)=some p:=e
   have hx:nm x∉xs.map nm:=by simpa using hd2.1
   cases hb:bh x k with
   |true=>
    rw[hb]at e
    have ex:=fG hb
    refine⟨ex▸.head _,v,bN e▸r,λhk=>?_,λhk=>?_⟩
    ·rw[<-ex]at hk⊢
     show xn kind ((xs.map nm).zip vals) (if kind (nm x)=some .local then λy=>if y=nm x then some v else m y else m) (nm x)=some v
     rw[He λz=>hx (An z),if_pos hk,if_pos rfl]
    ·rw[<-ex]at hk⊢
     show xm kind ((xs.map nm).zip vals) (if kind (nm x)=some .local then cm else λy=>if y=nm x then some v else cm y) (nm x)=some v
     rw[Q5 λz=>hx (An z),if_neg hk,if_pos rfl]
   |false=>
    rw[hb]at e
    obtain⟨h1,v',h2,h3,h4⟩:=ih (m:=if kind (nm x)=some .local then λy=>if y=nm x then some v else m y else m) (cm:=if kind (nm x)=some .local then cm else λy=>if y=nm x then some v else cm y) rs hd2.2 (λy hy=>br y (.tail _ hy)) e
    exact⟨.tail _ h1,v',h2,h3,h4⟩
theorem RA {x:Str}:∀{l:List (Str×h_)} {n:Nat} {acc:List (Str×Addr)},((x,NameKind.cell)∈l\/∃c,(x,c)∈acc)->∃c,(x,c)∈rW n l acc:=by
 intro l
 induction l with
 |nil=>exact λ{n acc} h=>h.elim (λh=>absurd h lB) id
 |cons a r ih=>
  intro n acc h
  obtain⟨y,k⟩:=a
  by_cases hk:k=.cell
  ·have e:rW n ((y,k)::r) acc=rW (n+1) r ((y,n)::acc):=if_pos (by refine aj (hk)▸?_;rfl)
   refine aj (e)▸?_
   refine ih (h.elim (λh=>(eP.mp h).elim (λh=>.inr ⟨n,by refine aj (show x=y from congrArg oK h)▸?_;exact .head _⟩) .inl) λh=>.inr (h.imp λc z=>.tail _ z))
  ·have e:rW n ((y,k)::r) acc=rW n r acc:=if_neg (by simpa using hk)
   refine aj (e)▸?_
   exact ih (h.elim (λh=>(eP.mp h).elim (λh=>absurd (congrArg Qj h).symm hk) .inl) .inr)
theorem tm {α:Type} {x:Str} {v:α} {l:List (Str×α)}:l.lookup x=some v->(x,v)∈l:=by
 induction l with
 |nil=>exact λe=>nn e
 |cons a r ih=>
  intro h
  rw[mq]at h
  cases hb:x==a.1 with
  |true=>rw[hb]at h;exact eP.mpr (.inl (uf (eq_of_beq hb) (bN h).symm))
  |false=>rw[hb]at h;exact .tail _ (ih h)
theorem Y3 {α:Type} {x:Str} {v:α} {l:List (Str×α)}:(x,v)∈l->∃v',l.lookup x=some v':=by
 induction l with
 |nil=>exact λe=>absurd e lB
 |cons a r ih=>
  intro h
  rw[mq]
  cases hb:x==a.1 with
  |true=>exact⟨a.2,rfl⟩
  |false=>exact(eP.mp h).elim (λe=>absurd (beq_iff_eq.mpr (congrArg oK e)) (ne_true_of_eq_false hb)) ih
theorem BG {x:Str} {l:List (Str×h_)} (h:l.lookup x=some .cell):∃c,(rW n l []).lookup x=some c:=by
 obtain⟨c,m⟩:=RA (n:=n) (acc:=[]) (.inl (tm h))
 exact Y3 m
noncomputable abbrev fN (Q:PV->aa->Prop):af->aa->Prop:=λ_ σ=>Q .none σ
noncomputable abbrev fX (X:Ex->aa->Prop):Ex->af->aa->Prop:=λex _ σ=>X ex σ
theorem abF (k:∀b o,h.get? b=some o->h'.get? b=some o) {b:Nat} (e:h'.get? b=none):h.get? b=none:=by
 cases hq:h.get? b with
 |none=>rfl
 |some ob=>exact nn (e.symm.trans (k b ob hq))
structure GG (sc:b7) (ps:List Nat):Prop where
 kind:sc.kind=.function
 co:sc.isCoroutine=false
 gen:sc.isGenerator=false
 ds:distinct (ps.map nm)=true
 ps:∀p∈ps,p<cT/\(sc.names.lookup (nm p)=some .local\/sc.names.lookup (nm p)=some .cell)
theorem acq {ps:List Nat} (h:Nc sc ps=true):GG sc ps:=by
 have h5:=ak h
 have h4:=ak h5.1
 have h3:=ak h4.1
 have h2:=ak h3.1
 have h1:=ak h2.1
 have nt:∀{b:Bool},(!b)=true->b=false:=λ{b} e=>by cases b with|false=>rfl|true=>exact ff e
 exact⟨beq_iff_eq.mp h1.1,nt h1.2,nt h2.2,h3.2,λp hp=>(ak (eO.mp h5.2 p hp)).imp of_decide_eq_true λz=>(OO.mp z).imp beq_iff_eq.mp beq_iff_eq.mp⟩
structure OU (d:Nat) (nh:Bool) (w:bF) (A:dn) (env:Env) (st:Stmt) (σ₀:aa) (s s₁:au) (ps:List Nat) (args:List PV):Prop where
 i1:In ⟨Head.dG st,d,nh⟩ w (A.deeper env) env (p5 ps args) σ₀ s₁
 tp:Top (A.deeper env) env
 out:∀ρ' σ' s',bw ⟨Head.dG st,d,nh⟩ w (A.deeper env) env σ₀ s₁ ρ' σ' s'->aF w A σ₀ s σ' s'
theorem Rp {st:Stmt} {ps:List Nat} {vals:List ae} (hi:cI (d+1) nh w A σ s) (hr:aJ s.heap (ao σ) vals args) (S:GG (Head.dG st) ps)
  (e1:env.scope=Head.dG st) (e2:env.globals=fA) (e3:env.builtins=oW) (e4:env.frame=some env.locals) (e5:env.cells=rW (s.heap.objs.size+1) (Head.dG st).names [])
  (Y:InCallC s env.locals (xn env.kindOf ((ps.map nm).zip vals) λ_=>none) env.cells (xm env.kindOf ((ps.map nm).zip vals) λ_=>none) s₁):OU d nh w A env st σ s s₁ ps args:=by
 obtain⟨⟨same,px,xU,I7⟩,nP,VH,VC⟩:=Y
 have xR:∀b,FO env b->s.heap.objs.size<=b:=λb fb=>by
  rcases fb with rfl|⟨x,hx⟩
  ·exact I7
  ·exact ai I7 (bx (VC _ _ (tm hx)))
 have I6:∀b,FO env b->s.heap.get? b=none:=λb fb=>tU (xR b fb)
 have i9:∀b,FO env b->¬ao σ b:=λb fb z=>by obtain⟨o,ho⟩:=k_ hi.cn z;rw[I6 b fb]at ho;(exact nn ho)
 have nL:∀b,FO env b->1070<=b:=λb fb=>ai (xj hi.cn.base) (xR b fb)
 have gg:∀b,FO env b->∃o,s₁.heap.get? b=some o/\((∃es n,o.data=.dict es n)\/∃v,o.data=.cell v):=λb fb=>by
  rcases fb with rfl|⟨x,hx⟩
  ·obtain⟨o,es,ep,ho,hd,_⟩:=px;exact⟨o,ho,.inl ⟨_,_,hd⟩⟩
  ·obtain⟨o,ho,hd⟩:=nP _ _ hx;exact⟨o,ho,.inr ⟨_,hd⟩⟩
 have RW:=hi.cn.keeps xU
 have Eu:Rl (bG A) σ s.heap σ s₁.heap:=Rl.of_keeps xU
 have yv:∀x,env.kindOf x=(Head.dG st).names.lookup x:=λx=>by show env.scope.names.lookup x=_;rw[e1]
 have en:cA (Head.dG st) env (p5 ps args) σ s₁.heap:=by
  refine⟨by rw[e1],by refine aj (e1)▸?_;exact S.kind,e2,e3,λk p e _=>?_,⟨_,px⟩,λx hx=>?_,λx y cc h1 h2=>name_of_addr VH (tm h1) (tm h2),i9,nL,gg⟩
  ·obtain⟨hk,v,hv,hL,hC⟩:=Q6 (kind:=env.kindOf) (m:=λ_=>none) (cm:=λ_=>none) hr S.ds (λx hx=>(S.ps x hx).1) e
   obtain⟨br,pg⟩:=S.ps k hk
   refine⟨br,v,?_,Eu.rep hv⟩
   rcases pg with pg|pg
   ·exact .inl ⟨(yv _).trans pg,_,px,hL ((yv _).trans pg)⟩
   ·have jW:env.kindOf (nm k)≠some .local:=by rw[yv,pg];exact λz=>nomatch z
    obtain⟨cc,jU⟩:=BG (n:=s.heap.objs.size+1) pg
    rw[<-e5]at jU
    have:=nP _ _ jU
    rw[hC jW]at this
    exact .inr ⟨(yv _).trans pg,cc,jU,this⟩
  ·obtain⟨cc,jU⟩:=BG (n:=s.heap.objs.size+1) hx
   rw[<-e5]at jU
   exact⟨cc,_,jU,nP _ _ jU⟩
 have Cu:(A.deeper env).frames=some (env::bG A):=by show A.frames.map _=_;refine aj (hi.fr)▸?_;rfl
 have xS:bG (A.deeper env)=env::bG A:=by unfold bG at Cu⊢;refine aj (Cu)▸?_;rfl
 have ok1:mh (env::bG A) σ s₁.heap:=λeK m=>by
  rcases eP.mp m with rfl|m
  ·obtain⟨o,es,ep,ho,hd,_⟩:=px
   exact⟨by rw[e1,S.kind];exact(λz=>nomatch z),_,o,e4,ho,⟨_,_,hd⟩,i9 _ (.inl rfl),nL _ (.inl rfl)⟩
  ·exact hi.ok.rl Eu.kp Eu.new eK m
 have Vd:s₁.gens=#[]:=(tC same).trans hi.gens
 refine⟨
  ⟨⟨⟨by show A.depth+1+d<=900;have:=hi.lv.depth;exact om this,by show A.units+3+6*d<=9000;have:=hi.lv.units;lia⟩,hi.hd,RW,by refine aj (xS)▸?_;exact Cu,by refine aj (xS)▸?_;exact ok1,Vd⟩,en⟩,⟨e4,_,xS⟩,λρ' σ' s' o=>?_⟩
 ·refine⟨?_,o.cn,⟨λb ob hb nb=>?_,λb z=>?_,o.rl.old⟩⟩
  ·exact EH same o.same
  ·have vZ:¬FO env b:=λz=>by rw[I6 b z]at hb;(exact nn hb)
   obtain⟨sl,g1,g2⟩:=o.rl.kp b ob (xU b ob hb) λz=>z.elim nb vZ
   refine⟨sl,g1,λhf=>g2 ?_⟩
   refine aj (xS)▸?_
   intro eK m
   rcases eP.mp m with rfl|m
   ·refine aj (e4)▸?_;exact λz=>vZ (.inl (bN z).symm)
   ·exact hf eK m
  ·rcases o.rl.new b z with q|q
   ·exact .inl q
   ·refine .inr ?_
    cases hq:s.heap.get? b with
    |none=>rfl
    |some ob=>rw[xU b ob hq]at q;(cases q)
theorem aK {f:Nat} {st:Stmt} {ps:List Nat} {b:List MS} (F:aN f st ps b) (hl:args.length=ps.length)
  (h:aD ⟨Head.dG st,d,nh⟩ b (p5 ps args) σ (fN Q) Q (fX X)):Call (d+1) nh f args σ Q X:=.intro λw A s vals hi hr=>by
 obtain⟨q,m,j,k,F⟩:=F
 have h3:∀l:List ae,l.length=ps.length->bA st q m j k l=bO ps l:=λl e=>acV l▸e▸congrFun (congrArg (·.2.1) F) _
 have S:=acq (congrArg (·.2.2.1.1) F)
 refine codeAny_call_cells (fd:=xH st q m j k) (body:=Head.jL st) (binds:=(ps.map nm).zip vals) (show A.depth<1000 by have:=hi.lv.depth;exact aaW this) (hi.cn.base _ _ (congrFun (congrArg (·.1.1) F) w.params)) rfl (nolimit hi.cn.base) (codeRec_of hi.cn.base (congrFun (congrArg (·.1.2) F) w.params)) rfl (h3 vals (hr.length.trans hl)) rfl (λx hx=>?_) (λs₁ Y=>?_) S.co S.gen S.kind
 ·obtain⟨p,hp,e⟩:=gS.mp (An (gS.mpr ⟨x,hx,rfl⟩))
  exact(S.ps p hp).2.imp (λhk=>e▸hk) λhk=>⟨e▸hk,(BG (n:=s.heap.objs.size+1) (e▸hk)).elim λcc z=>(congrArg Option.isSome z).trans rfl⟩
 ·have C:=Rp (d:=d) (env:=callEnvC (xH st q m j k) s.heap.objs.size f) hi hr S rfl rfl rfl rfl rfl Y
  have run:=h.out w _ _ (Head.jL st) s₁ (congrArg (·.2.2.1.2) F) C.i1 C.tp
  rw[show jt b (Head.jL st)=Head.jL st from congrArg (·.2.2.2) F]at run
  refine bg run (λfl s' hf=>hf.el (P:=λfl=>lE w A σ s Q (match fl with|.ret v=>v|_=>.none) s') (λρ' σ' hq o=>⟨.none,σ',hq,.none,C.out _ _ _ o⟩) λv z=>z.rec λp ρ' σ' hq nT o=>⟨p,σ',hq,nT,C.out _ _ _ o⟩) λx s' hx=>?_
  obtain⟨ex,ρ',σ',e,stt,rfl,hX,o,qC,hex⟩:=hx
  have cb:=C.i1.fi.cn.base
  refine ax (bg (note (E:=λ_ _=>False) C.i1.fi.fr C.tp o cb qC hex) (λ_ aU z=>?_) λ_ _ z=>z.elim)
  refine bg (r_ (fr:=none) (E:=λ_ _=>False) z.1 cb z.2) (λ_ fZ z=>?_) λ_ _ z=>z.elim
  exact⟨ex,σ',e,rfl,hX,C.out _ _ _ z.1,z.2.back (λb hb=>.inr (abF Y.toInCall.keep hb)) λb hb=>z.1.rl.old b hb⟩
end
section
variable{c:Cx}
theorem abW {C:Nat} (h1:σ a=none) (h0:0<a) (h3:∀D gs,σ a≠some (.inst D gs)) {b:Nat}:ao (upd σ a (.inst C fs)) b↔ao σ b\/b=a\/b=a-1:=by
 constructor
 ·rintro(h|⟨D,gs,h⟩)
  ·by_cases e:b=a
   ·exact .inr (.inl e)
   ·rw[aw _ _ e]at h;exact .inl (.inl h)
  ·by_cases e:b+1=a
   ·exact .inr (.inr (LR e))
   ·rw[aw _ _ e]at h;exact .inl (.inr ⟨D,gs,h⟩)
 ·rintro((h|⟨D,gs,h⟩)|rfl|rfl)
  ·by_cases e:b=a
   ·exact .inl (by rw[e,ay];rfl)
   ·exact .inl (by rw[aw _ _ e];exact h)
  ·by_cases e:b+1=a
   ·exact absurd (e▸h) (h3 D gs)
   ·exact .inr ⟨D,gs,by rw[aw _ _ e];exact h⟩
  ·exact .inl (by rw[ay];rfl)
  ·exact .inr ⟨C,fs,by rw[jF h0,ay]⟩
theorem Mw {C:Nat} {g d t os} (hs:s=⟨s.heap,g,d,t,os⟩) (cn:Cn w σ s.heap):
  aF w A σ s (upd σ (s.heap.objs.size+1) (.inst C [])) ⟨(s.heap.push kH).push (jY C s.heap.objs.size),g,d,t,os⟩:=by
 have hk:∀b o,s.heap.get? b=some o->((s.heap.push kH).push (jY C s.heap.objs.size)).get? b=some o:=λb o e=>fY _ _ _ (fY _ _ _ e)
 have none_of:∀b,s.heap.objs.size<=b->s.heap.get? b=none:=λb hb=>tU hb
 have Ea:∀b,s.heap.objs.size<=b->¬ao σ b:=λb hb z=>by obtain⟨o,ho⟩:=k_ cn z;rw[none_of b hb]at ho;(exact nn ho)
 have h1:σ (s.heap.objs.size+1)=none:=qU (Ea _ (b6 _ _))
 have ow:∀b,ao (upd σ (s.heap.objs.size+1) (.inst C [])) b↔ao σ b\/b=s.heap.objs.size+1\/b=s.heap.objs.size:=λb=>abW h1 (cV _ _) (λD gs z=>by rw[h1]at z;(exact nn z))
 have hx:((s.heap.push kH).push (jY C s.heap.objs.size)).get? (s.heap.objs.size+1)=some (jY C s.heap.objs.size):=by
  have:=jg (s.heap.push kH) (o:=jY C s.heap.objs.size) rfl
  rwa[rz]at this
 have hd:((s.heap.push kH).push (jY C s.heap.objs.size)).get? s.heap.objs.size=some kH:=fY _ _ _ (jg _ rfl)
 have rl:Rl (bG A) σ s.heap (upd σ (s.heap.objs.size+1) (.inst C [])) ((s.heap.push kH).push (jY C s.heap.objs.size)):=by
  refine⟨Kp.of_keeps hk,λb z=>?_,λb z=>(ow b).mpr (.inl z)⟩
  rcases(ow b).mp z with z|rfl|rfl
  ·exact .inl z
  ·exact .inr (none_of _ (b6 _ _))
  ·exact .inr (none_of _ (aP _))
 have c':=cn.keeps hk
 refine⟨⟨_,t,by rw[hs]⟩,⟨c'.base,λa o e=>?_,λb z=>?_,λa D gs e=>?_⟩,rl⟩
 ·have q:ew (ao σ) s.heap ((s.heap.push kH).push (jY C s.heap.objs.size)):=rl.kp.seq λ_ _ _ _ _ _ z=>z
  have nw:∀a o,s.heap.get? a=some o->¬ao σ a->¬ao (upd σ (s.heap.objs.size+1) (.inst C [])) a:=λa o e n z=>(rl.new a z).elim n λq=>by rw[e]at q;(cases q)
  by_cases ea:a=s.heap.objs.size+1
  ·subst ea;rw[ay]at e;(cases e)
   exact⟨cV _ _,_,hx,#[],_,_,hd,trivial⟩
  ·rw[aw _ _ ea]at e
   exact(cn.at_ a o e).mv (λ_=>hk _ _) (λ_ _ _ _=>hk _ _) q nw
 ·have:=xj cn.base
  rcases(ow b).mp z with z|rfl|rfl
  ·exact cn.lo b z
  ·exact Gp this
  ·exact this
 ·by_cases ea:a=s.heap.objs.size+1
  ·subst ea
   rw[aw _ _ (by exact(Qd _).symm)]
   exact qU (Ea _ (aP _))
  ·rw[aw _ _ ea]at e
   have h2:=cn.apart a D gs e
   have h0:=(cn.at_ _ _ e).pos
   by_cases eb:a-1=s.heap.objs.size+1
   ·have:ao σ (a-1):=.inr ⟨D,gs,by rw[jF h0];exact e⟩
    exact absurd (eb▸this) (Ea _ (b6 _ _))
   ·rw[aw _ _ eb];exact h2
noncomputable def r9:List (Nat×Option Nat)->Nat->Option (Option Nat)
 |[],_=>none
 |(k,f)::r,x=>bif bh k x then some f else r9 r x
theorem S9 {f:Option Nat} {r:List (Nat×Option Nat)}:r9 ((k,f)::r) x=bif bh k x then some f else r9 r x:=rfl
theorem Iu:∀{l:List (Nat×Option Nat)} {x:Nat} {f:Option Nat},r9 l x=some f->(x,f)∈l:=λ{l}=>by
 induction l with
 |nil=>intro x f e;exact nn e
 |cons a r ih=>
  obtain⟨k,g⟩:=a
  intro x f e
  rw[S9]at e
  cases h:bh k x with
  |true=>replace e:=h▸e;have:=fG h;subst this;cases e;exact .head _
  |false=>replace e:=h▸e;exact .tail _ (ih e)
theorem IH {rest:List ae} {C:Nat}:bG (A.under (.builtin "type.__call__" ⟨.ref C::rest,[]⟩))=bG A:=rfl
theorem aF.fr (e:bG A'=bG A) (o:aF w A' σ s σ' s'):aF w A σ s σ' s':=⟨o.same,o.cn,e▸o.rl⟩
theorem d8.fr {x:ae} (e:bG A'=bG A) (o:d8 w A' σ s X x s'):d8 w A σ s X x s':=let⟨a,b,c,d,f,g,i⟩:=o;⟨a,b,c,d,f,g.fr e,i⟩
noncomputable abbrev SF (sc:b7) (X:Ex->aa->Prop) (d:Nat) (nh:Bool) (C f:Nat) (Q:PV->aa->Prop):List PV->aa->Prop:=λps σ=>∀a,σ a=none->Call d nh f (.ref a::ps) (upd σ a (.inst C [])) (λr σ=>r=.none/\Q (.ref a) σ) X
theorem kF {C f:Nat} (hC:nK BD n=some C) (iY:kO fq C=true) (hf:r9 C3 C=some (some f))
  (h:VA ⟨sc,d+1,nh⟩ ms ρ σ (SF sc X d nh C f Q) X):V ⟨sc,d+1,nh⟩ (.cc n ms) ρ σ Q X:=.intro λw A env _ s hc i=>by
 have F1:=beq_iff_eq.mp (eO.mp (Hr w.params) _ (B5 hC))
 have CF:=uI (BK iY w.params)
 have I:=ak (eO.mp (JE w.params) _ (Iu hf))
 refine tS (sy i (ak hc).1 F1 (xr CF.keep (h.run (here i) (ak hc).2 i λps σ₁ vs s₁ u9 hr _ o1 i1=>⟨o1.cn.base,NT ?_⟩)))
 obtain⟨hh,g,dr,t,os⟩:=s₁
 have o2:=Mw (A:=A) (C:=C) (s:=⟨hh,g,dr,t,os⟩) rfl o1.cn
 have nn:σ₁ (hh.objs.size+1)=none:=qU λz=>(k_ o1.cn z).elim λo ho=>absurd (hU ho) (w4.mpr (t_ _))
 refine make_core (makes_of o1.cn.base CF.makes) (yF o1.cn.base (beq_iff_eq.mp I.1)) (λself=>bind_fn o1.cn.base self (beq_iff_eq.mp I.2)) (.inl rfl) ?_
 have i2:=i1.fi.out o2
 have hA:cI d nh w (A.under (.builtin "type.__call__" ⟨.ref C::([]++vs),[]⟩)) (upd σ₁ (hh.objs.size+1) (.inst C [])) ⟨(hh.push kH).push (jY C hh.objs.size),g,dr,t,os⟩:=
  ⟨⟨by
     have q:A.depth+(d+1)<=900:=i2.lv.depth
     show A.depth+_+d<=900;have:(Code.builtin "type.__call__" ⟨.ref C::([]++vs),[]⟩).weight=1:=rfl;lia,by
     have q:A.units+6*(d+1)<=9000:=i2.lv.units
     show A.units+1+6*d<=9000;lia⟩,i2.hd,i2.cn,i2.fr,i2.ok,i2.gens⟩
 refine RX ((u9 _ nn).out w _ _ (.ref (hh.objs.size+1)::vs) hA (.cons (.ref _) (o2.rl.jb hr))) λr fZ z=>?_
 rcases r with e|fl
 ·exact d8.back (o1.trans o2) (d8.fr IH z)
 ·cases fl with
  |ret v=>
   obtain⟨p,bY,⟨rfl,hq⟩,nT,o3⟩:=z
   exact⟨nT.uE (P:=λv=>v=.none) rfl,dA hq (.ref _) ((o1.trans o2).trans (o3.fr IH))⟩
  |next=>exact z.elim
  |brk=>exact z.elim
  |cont=>exact z.elim
end
section
variable{c:Cx}
noncomputable def aZ (ns:List Int):List PV:=ns.map PV.int
noncomputable def dO (ns:List Int):List UInt8:=ns.map λn=>n.toNat.toUInt8
theorem C6:∀{ns:List Int} {vs:List ae},aJ h O vs (aZ ns)->IntsAre vs ns
 |[],_,r=>by apply r.eS;exact .nil
 |n::ns,vs,r=>by
  apply aJ.dJ (p:=.int n) (ps:=aZ ns) r;intro v vs a b
  apply a.cInt;intro t
  exact .cons _ _ (C6 b)
theorem nH (h0:∀n∈ns,0<=n/\n<256) (hz:ns.length<=16777216):kq (.type "bytes") σ [.lst (aZ ns)] (.bytes (dO ns)):=λi hn r h=>by
 apply r.dJ;intro v vs a b
 apply b.eS
 apply a.nF;intro a vs hl no hr
 have hi:=C6 hr
 exact Qp (vs:=vs.toList) (by rw[Au];exact hl) hi h0 (by rw[hi.length,g9];exact hz) (i.hd hn) λh' t k hk=>h _ _ (.bytes (byteArr ns) t) (.keeps i.cn hk)
theorem Ru (e:σ a=some (.av (aZ ns))) (h0:∀n∈ns,0<=n/\n<256) (hz:ns.length<=16777216):kq (.type "bytes") σ [.ref a] (.bytes (dO ns)):=λi hn r h=>by
 apply r.dJ;intro v vs x b
 apply b.eS
 apply x.nG
 obtain⟨vs,hl,hr⟩:=i.cn.at_ _ _ e
 have hi:=C6 hr
 exact Qp (vs:=vs.toList) (by refine aj (Au)▸?_;exact hl.isList) hi h0 (by rw[hi.length,g9];exact hz) (i.hd hn) λh' t k hk=>h _ _ (.bytes (byteArr ns) t) (.keeps i.cn hk)
theorem YT:typeLookup (.type "bytes") "__bytes__"=pure (some (.builtin "bytes.__bytes__")):=by rw[rh,qr];fin2
theorem YU:typeLookup (.type "int") "__bytes__"=pure none:=by rw[rh,qr];fin2
section
variable{E:ae->au->Prop}
theorem Hh {x:ae} {Q:ae->au->Prop} (h:az (aB prog w) A.in1.in1 (Builtin.«bytes.__new__» ⟨[.type "bytes",x],[]⟩)
   (λfin s'=>match fin with|.done (.ret v)=>v=v/\s'.TypeIs v "bytes"/\Q v s'|_=>False) E s):az (aB prog w) A (call (.type "bytes") [x]) Q E s:=by
 refine callType_codes (Q₁:=λobj s₁=>s₁.TypeIs obj "bytes"/\Q obj s₁) FH (F.bm_typeCall _) F.entry_object_init ?_ λobj s₁ dT=>?_
 ·refine codeAny_of_tree ?_
  show az _ A.in1.in1 (do checkBuiltinCall "bytes.__new__" ⟨[.type "bytes",x],[]⟩;again (.builtin "bytes.__new__" ⟨[.type "bytes",x],[]⟩)) _ _ s
  refine ax (ki (F.bm_newCall _) (bj ⟨plainId_quiet O3 _,codeAny_builtin F.bm_entry ?_⟩))
  refine aj (Around.under_plainId O3 _)▸?_
  refine bg h (λfin s' z=>?_) λ_ _ z=>z
  rcases fin with f|_
  ·cases f with
   |ret v=>exact⟨z.2.1,z.2.2⟩
   |next=>exact z.elim
   |brk=>exact z.elim
   |cont=>exact z.elim
  ·exact z.elim
 ·exact⟨dT.1,F.args_object_init_2 obj _,object_init_meets FH.init.lookup FH.made (by decide) prog w A.in1 _ s₁ ⟨dT.1,rfl,dT.2⟩⟩
theorem Rn {b:Array UInt8} {t:Tok} {Q:ae->au->Prop} (h:Q (.bytes b t) s):az (aB prog w) A (call (.type "bytes") [.bytes b t]) Q E s:=by
 refine Hh ?_
 unfold Builtin.«bytes.__new__»
 refine ax (ki (a:=true) rfl ?_)
 refine nB rfl ?_
 refine ax (ki F.bm_sub ?_)
 refine nB rfl ?_
 refine ax (ki (O2 _) ?_)
 refine ax (ki (a:=()) rfl ?_)
 refine ax (ki (a:=()) rfl ?_)
 refine nB rfl ?_
 refine ax (NW (m6 s b t) YT ?_)
 refine ax (m7 ?_)
 refine ax (ki (a:=.type "bytes") rfl ?_)
 refine bm_if_true (by decide) ?_
 exact bj ⟨rfl,rfl,h⟩
theorem Ro {n:Int} {t:Tok} {Q:ae->au->Prop} (h0:0<=n) (h1:n<=16777216) (h:∀t' k,Q (.bytes (OG n.toNat 0) t') {s with toks:=k}):az (aB prog w) A (call (.type "bytes") [.int n t]) Q E s:=by
 refine Hh ?_
 unfold Builtin.«bytes.__new__»
 refine ax (ki (a:=true) rfl ?_)
 refine nB rfl ?_
 refine ax (ki F.bm_sub ?_)
 refine nB rfl ?_
 refine ax (ki (O2 _) ?_)
 refine ax (ki (a:=()) rfl ?_)
 refine ax (ki (a:=()) rfl ?_)
 refine nB rfl ?_
 refine ax (NW (EY s n t) YU ?_)
 refine ax (ax ?_)
 refine ki (a:=none) rfl (bj ?_)
 refine nB rfl ?_
 refine ax (NW (EY s n t) O4.lookup ?_)
 refine nB rfl ?_
 refine ax (wpAny_attempt (ki (rfl:asIndex (.int n t)=pure n) ?_))
 dsimp only
 refine nB (by simp[adL];lia) ?_
 rw[if_neg (gQ.mpr h0),if_neg (by lia)]
 refine nB (by simp[adM,g9];exact h1) ?_
 refine ax (m7 (ax (wpAny_mkBytes ?_ (by rw[g9,Array.size_replicate];lia))))
 refine bm_if_true (by decide) ?_
 exact bj ⟨rfl,rfl,h _ _⟩
end
theorem rU {l:List UInt8}:kq (.type "bytes") σ [.bytes l] (.bytes l):=λi hn r h=>by
 apply r.dJ;intro v vs a b
 apply b.eS
 cases a
 exact Rn (h _ _ (.bytes _ _) (.refl i.cn))
theorem xu {n:Int} (h0:0<=n) (h1:n<=16777216):kq (.type "bytes") σ [.int n] (.bytes (bV n.toNat 0)):=λi hn r h=>by
 apply r.dJ;intro v vs a b
 apply b.eS
 apply a.cInt;intro t
 exact Ro h0 h1 λt' k=>h _ _ ((Array.toList_replicate (n:=n.toNat) (a:=(0:UInt8)))▸Rep.bytes (OG n.toNat 0) t') (.tok i.cn _)
theorem Ry {a b:Int}:kq (.builtin "min") σ [.int a,.int b] (.int (if b<a then b else a)):=λi hn r h=>by
 apply r.dJ;intro v vs x r
 apply r.dJ;intro v' vs y r
 apply r.eS
 apply x.ints y;intro _ _
 refine PySem.min_two_ints (i.hd hn) λh' tk hk=>?_
 by_cases q:b<a
 ·rw[if_pos q]at h⊢;exact h _ _ (.int _ _) (.keeps i.cn hk)
 ·rw[if_neg q]at h⊢;exact h _ _ (.int _ _) (.keeps i.cn hk)
theorem Rx {a b:Int}:kq (.builtin "max") σ [.int a,.int b] (.int (if b>a then b else a)):=λi hn r h=>by
 apply r.dJ;intro v vs x r
 apply r.dJ;intro v' vs y r
 apply r.eS
 apply x.ints y;intro _ _
 refine PySem.max_two_ints (i.hd hn) λh' tk hk=>?_
 by_cases q:b>a
 ·rw[if_pos q]at h⊢;exact h _ _ (.int _ _) (.keeps i.cn hk)
 ·rw[if_neg q]at h⊢;exact h _ _ (.int _ _) (.keeps i.cn hk)
noncomputable def jw (l:List UInt8):Int:=((l.map (·.toNat)).sum:Nat)
theorem M3 (b:List UInt8):∀j,j<=b.length->preSum (λi=>((b.getD i 0).toNat:Int)) j=jw (b.take j):=by
 intro j
 induction j with
 |zero=>
  intro _
  exact rfl
 |succ j cD=>
  intro h
  rw[preSum,cD (bx h)]
  have e:b.take (j+1)=b.take j++[b.getD j 0]:=by
   rw[wU,be,bQ (show j<b.length by exact h)];rfl
  rw[e]
  simp[jw]
theorem acO (l:List UInt8):0<=jw l/\jw l<=255*l.length:=by
 induction l with
 |nil=>simp[jw]
 |cons a r ih=>
  have ha:=a.toNat_lt
  have e:jw (a::r)=a.toNat+jw r:=by simp[jw]
  rw[e,ej];exact aap ha ih
theorem Hq {l:List UInt8} (hz:l.length<=16777216):kq (.builtin "sum") σ [.bytes l] (.int (jw l)):=λ{d nh w A s vals P E} i hn r h=>by
 apply r.dJ;intro v vs x r
 apply r.eS
 obtain⟨b,t,rfl,rfl⟩:=x.aQ
 refine PySem.call_sum_walk (KBw.pyIter_bytes ?_)
 refine⟨s.heap.objs.size,_,_,b.size,_,_,λi=>((b.toList.getD i 0).toNat:Int),rfl,KBw.walks (A:=A.in1) (i.hd hn) s.heap.objs.size b t,⟨_,jg _ rfl,rfl,rfl⟩,λa ha=>?_,λj v hv=>?_,λj hj=>?_,λh' tk t' hk=>?_⟩
 ·rw[oG.mp ha];show _<(s.heap.push _).objs.size;rw[rz];exact A2 _
 ·obtain⟨x,u,hx,rfl⟩:=hv
  refine⟨u,?_⟩
  dsimp only
  rw[be,wF,hx];rfl
 ·have mO:j<b.toList.length:=by rw[fc];exact hj
  have h1:=(b.toList.getD j 0).toNat_lt
  refine⟨⟨by dsimp only;exact aT _,by dsimp only;exact pZ h1 rfl⟩,?_⟩
  rw[M3 _ _ (mO)]
  have:=acO (b.toList.take (j+1))
  rw[gu]at this
  exact⟨by lia,aaq hz this⟩
 ·rw[M3 _ _ (by rw[fc];exact aP _),wX (by rw[fc];exact aP _)]
  exact h _ _ (.int _ _) (.keeps i.cn λa o e=>hk a o (λz=>by rw[oG.mp z]at e;exact absurd (hU e) (eI _)) (fY _ _ _ e))
end
section
variable{c:Cx}
theorem GN {C:Nat} (hC:nK BD n=some C) (iY:kO fq C=true) (hf:r9 C3 C=some none)
  (h:∀a,σ a=none->Q (.ref a) (upd σ a (.inst C []))):V c (.cc n []) ρ σ Q X:=.intro λw A env _ s hc i=>by
 have F1:=beq_iff_eq.mp (eO.mp (Hr w.params) _ (B5 hC))
 have CF:=uI (BK iY w.params)
 have I:=beq_iff_eq.mp (eO.mp (JE w.params) _ (Iu hf))
 have vw:VA c [] ρ σ (λps σ₁=>ps=[]/\σ₁=σ) X:=bc ⟨rfl,rfl⟩
 refine tS (sy i (ak hc).1 F1 (xr (ms:=[]) CF.keep (vw.run (here i) (ak hc).2 i λps σ₁ vs s₁ hq hr _ o1 i1=>⟨o1.cn.base,NT ?_⟩)))
 obtain⟨rfl,rfl⟩:=hq
 apply hr.eS
 obtain⟨hh,g,dr,t,os⟩:=s₁
 have o2:=Mw (A:=A) (C:=C) (s:=⟨hh,g,dr,t,os⟩) rfl o1.cn
 have nn:σ₁ (hh.objs.size+1)=none:=qU λz=>(k_ o1.cn z).elim λo ho=>absurd (hU ho) (w4.mpr (t_ _))
 have Y:=makes_of (M:=aB pw w) o1.cn.base CF.makes
 refine make_core Y (yF o1.cn.base I) (λself=>PU (oi_bind self)) (.inr ⟨rfl,rfl⟩) ?_
 have hx:((hh.push kH).push (jY C hh.objs.size)).get? (hh.objs.size+1)=some (jY C hh.objs.size):=by
  have:=jg (hh.push kH) (o:=jY C hh.objs.size) rfl
  rwa[rz]at this
 have t1:AY (aB pw w) ((hh.push kH).push (jY C hh.objs.size)) (typeOf (.ref (hh.objs.size+1))) (.ref C):=(PT hx).andThen .now
 have t2:AY (aB pw w) ((hh.push kH).push (jY C hh.objs.size)) (C_ (.ref (hh.objs.size+1)) (.type "object")) true:=t1.andThen (Y.top.keeps λb o e=>tV _ (tV _ e))
 refine codeAny_call_builtin oi_plain entry_oi (@check_slot (aB pw w) _ _ _ "object.__init__" "object" "__init__" (.ref (hh.objs.size+1)) [] [] _ oi_kind oi_split t2 (oi_args (.ref (hh.objs.size+1))) ?_)
 rw[ly,oi_run]
 exact bj ⟨rfl,dA (h _ nn) (.ref _) (o1.trans o2)⟩
theorem nz {a b:List PV} (hz:a.length+b.length<=1000000):eN .Add (.lst a) (.lst b) (.lst (a++b)):=λ{d nh w A σ s v1 v2 P E} i r1 r2 h=>by
 apply r1.nF;intro x vs hl no hr
 apply r2.nF;intro y us i4 D9 cw
 obtain⟨⟨cls,dd,data,sl⟩,ho,hc,n,hd⟩:=id hl
 obtain⟨⟨aeY,jj,data2,fB⟩,cy,bB,n2,hd2⟩:=id i4
 simp only at hc hd bB hd2
 subst hc hd bB hd2
 have e1:=hr.length
 have e2:=cw.length
 rw[fc]at e1 e2
 refine concat_meets ⟨_,ho,rfl⟩ ⟨_,cy,rfl⟩ noFill_list_add seq_list_add PySem.F.slot_list_add PySem.F.entry_list_add (PySem.F.args_list_add_2 _ _) (list_addW x y vs us n n2 dd jj sl fB (by rw[g9];exact aar hz e1 e2)) ⟨ho,cy,?_⟩
 have o2:aF w A σ s σ {s with heap:=s.heap.push {cls:=.type "list",data:=.seq (vs++us)},toks:=s.toks}:=.keeps i.cn (fY _)
 refine h _ _ (.lst (vs:=vs++us) ⟨_,jg _ rfl,rfl,_,rfl⟩ (kZ i.cn) ?_) o2
 rw[OH]
 exact(o2.rl.jb hr).append (o2.rl.jb cw)
theorem Td (v:ae):∀(n:Nat) (acc:Array ae),PA (λx1 x2=>x1++x2) acc (bV n #[v])=acc++(bV n v).toArray:=by
 intro n
 induction n with
 |zero=>
  intro acc
  simp
 |succ n cD=>
  intro acc
  rw[AX,List.foldl_cons,cD,AX]
  apply Array.ext'
  simp
theorem Es (r:Rep h O v p):∀n,aJ h O (bV n v) (bV n p)
 |0=>.nil
 |n+1=>.cons r (Es r n)
theorem abr {l:Nat} {x:Int} {u:Tok} {P:ae->au->Prop} {E:ae->au->Prop}
  (hl:s.heap.get? l=some {cls:=.type "list",dict:=none,data:=.seq #[v] k,slots:=#[]}) (h0:0<=x) (h1:x<=1000000)
  (h:P (.ref s.heap.objs.size) {s with heap:=s.heap.push {cls:=.type "list",data:=.seq (bV x.toNat v).toArray}}):az (aB pw w) A (binaryOp .Mult (.ref l) (.int x u)) P E s:=by
 refine wpAny_binaryOp_repeat_ref (T:="list") (U:="int") (by decide) ⟨_,hl,rfl⟩ (λs'=>EY s' x u) noFill_list_mul F.fills_int_mul O5 repeat_list O4.lookup
  (call_meets O5 (EY s x u) F.entry_int_rmul (F.args_int_rmul_2 _ _) (int___rmul___int_list x u l #[v] k)
   ⟨hl,rfl,⟨_,hl,rfl⟩,call_meets F.slot_list_mul ⟨_,hl,rfl⟩ F.entry_list_mul (F.args_list_mul_2 _ _)
    (AutoListH.list___mul___list_int_3 l #[v] k x u (by simp[adN];lia) (by simp;exact zw h1 rfl) (by simp[adP,EI];exact zw h1 rfl))
    ⟨hl,?_⟩⟩)
 have e:PA (λx1 x2=>x1++x2) #[] (bV (if(#[v]:Array ae).isEmpty=true then 0 else x.toNat) #[v])=(bV x.toNat v).toArray:=by
  rw[if_neg (by simp),Td];simp
 show wants P E _ _
 rw[e]
 exact h
theorem xe (h:V c m ρ σ Q X):VA c [m] ρ σ (λps σ=>∃p,ps=[p]/\Q p σ) X:=aO (V_mono h λp σ₁ hp=>bc ⟨p,rfl,hp⟩)
noncomputable abbrev SO (Q':PV->Int->aa->Prop) (p:PV):PV->aa->Prop:=λy σ=>∃k:Int,y=.int k/\0<=k/\k<=1000000/\Q' p k σ
noncomputable abbrev B3 (c:Cx) (X:Ex->aa->Prop) (ρ:af) (n:ME) (Q':PV->Int->aa->Prop):PV->aa->Prop:=λp σ=>V c n ρ σ (SO Q' p) X
theorem M6 {n:ME} {e:Expr} {Y_ pos:Pos} {Q':PV->Int->aa->Prop} {P:ae->au->Prop} (i:In c w A env ρ σ s) (hl:gG [m] c.sc es=true) (hr:ok n c.sc e=true)
  (h:V c m ρ σ (B3 c X ρ n Q') X)
  (fin:∀p k bY aU (v:ae),Q' p k bY->Rep aU.heap (ao bY) v p->aF w A σ s bY aU->P (.ref aU.heap.objs.size) {aU with heap:=aU.heap.push {cls:=.type "list",data:=.seq (bV k.toNat v).toArray}}):
  az (aB pw w) A (eval (.BinOp (.List (ct [m] es) Y_) .Mult (mk n e) pos) env) P (d8 w A σ s X) s:=by
 refine wpAny_BinOp (List_ ((xe h).run (here i) hl i λps σ₁ vs s₁ gE WC _ o1 i1=>?_))
 obtain⟨p,rfl,hn⟩:=gE
 apply WC.dJ;intro v vs nT rest
 apply rest.eS
 refine wA ?_ (room (by decide:1<=1000000))
 have hk:({s₁ with heap:=s₁.heap.push {cls:=.type "list",data:=.seq [v].toArray}}:au).heap.get? s₁.heap.objs.size=some {cls:=.type "list",data:=.seq [v].toArray}:=jg _ rfl
 have o2:aF w A σ₁ s₁ σ₁ {s₁ with heap:=s₁.heap.push {cls:=.type "list",data:=.seq [v].toArray}}:=.keeps o1.cn (fY _)
 have i2:=i1.out o2
 refine hn.run (o1.trans o2) hr i2 λyp bY y aU hy WY q3 o3 _=>?_
 obtain⟨k,rfl,h0,h1,hq⟩:=hy
 apply WY.cInt;intro t
 exact abr (q3.rl.kp.exact hk (kZ o1.cn) (uZ i2.fi.ok hk λes n q=>by cases q)) h0 h1 (fin p k bY aU v hq (q3.rl.rep (o2.rl.rep nT)) o3)
theorem aeE {n:ME} (h:V c m ρ σ (B3 c X ρ n λp k σ=>Q (.lst (bV k.toNat p)) σ) X):V c (.rep [m] n) ρ σ Q X:=.intro λw A env _ s hc i=>
 M6 i (ak hc).1 (ak hc).2 h λp k bY aU v hq hr o=>
  have o4:aF w A bY aU bY {aU with heap:=aU.heap.push {cls:=.type "list",data:=.seq (bV k.toNat v).toArray}}:=.keeps o.cn (fY _)
  dA hq (.lst (vs:=(bV k.toNat v).toArray) ⟨_,jg _ rfl,rfl,_,rfl⟩ (kZ o.cn) (Es (o4.rl.rep hr) k.toNat)) (o.trans o4)
theorem aeD {n:ME} (h:V c m ρ σ (B3 c X ρ n (λp k σ=>∀a,σ a=none->Q (.ref a) (upd σ a (.av (bV k.toNat p))))) X):V c (.pM [m] n) ρ σ Q X:=.intro λw A env _ s hc i=>
 M6 i (ak hc).1 (ak hc).2 h λp k bY aU v hq hr o=>dA (hq _ (qU (kZ o.cn))) (.ref _) (o.trans (yY o.cn (Es hr k.toNat)))
theorem Kw {E:ae->au->Prop} {l:Nat} {x:ae} {Q:ae->au->Prop} (hl:jC s.heap l items)
  (hQ:∀h',jC h' l (items.push x)->AE l s.heap h'->Q .none {s with heap:=h'}) (qK:items.size<=EI):
  az (aB pw w) A (call (.builtin "list.append") [.ref l,x]) Q E s:=by
 have qE:=hl.isList
 obtain⟨o,ho,hc,n,hd⟩:=id qE
 refine adw slot_list_append qE.typeIs entry_list_append ?_ (args_list_append _ _)
 show az _ _ (updateSeq l (·.push x)>>=λ_=>ret .none) _ _ s
 refine ax ?_
 exact wpAny_updateSeq ho hd (bj ⟨.none,rfl,hQ _ (Mn hl (·.push x)) (FR ..)⟩)
theorem Rm {id:String} {self:List ae} {pos:Pos} {P:ae->au->Prop} {E:ae->au->Prop}
  (h:az (aB pw w) A (q9 (fJ pos (fE (ct ms es) env))) (λvs s₁=>az (aB pw w) A (call (.builtin id) (self++vs)) P E s₁) E s):
  az (aB pw w) A (xq pos (.builtin id) self (fJ pos (fE (ct ms es) env)) []) P E s:=by
 have hp:(fJ pos (fE (ct ms es) env)).any (·.1)=false:=by rw[qq,q_]
 exact Rk hp (uV hp h)
noncomputable abbrev SN (a:Nat) (Q:PV->aa->Prop):PV->aa->Prop:=λp σ=>∃l,σ a=some (.av l)/\l.length<=1000000/\Q .none (upd σ a (.av (l++[p])))
noncomputable abbrev SM (c:Cx) (X:Ex->aa->Prop) (ρ:af) (x:ME) (Q:PV->aa->Prop):PV->aa->Prop:=λy σ=>∃a,y=.ref a/\(∃l',σ a=some (.av l'))/\V c x ρ σ (SN a Q) X
theorem aeA {o x:ME} (h:V c o ρ σ (SM c X ρ x Q) X):V c (.app o x) ρ σ Q X:=.intro λw A env e s hc i=>by
 obtain⟨hc,g6⟩:=ak hc
 obtain⟨hc,g5⟩:=ak hc
 obtain⟨g1,g4⟩:=ak hc
 refine Ho (ms:=[x]) (es:=(kids e).tail) g6 g1 rfl (h.run (here i) g4 i λy σ₁ v s₁ hy hr _ o1 i1=>?_)
 obtain⟨a,rfl,⟨l',eW⟩,hx⟩:=hy
 apply hr.nG
 obtain⟨zR,⟨ob,gX,iY,vc,n',gW⟩,_⟩:=o1.cn.at_ _ _ eW
 refine getMethod_list_append gX iY vc (Rm ((xe hx).run o1 (gO.mpr ⟨g5,rfl⟩) i1 λps bY vs aU gE CR _ o2 _=>?_))
 obtain⟨p,rfl,l,hl,hz,hq⟩:=gE
 apply CR.dJ;intro v vs hp rest
 apply rest.eS
 obtain⟨vs,eM,iF⟩:=o2.cn.at_ _ _ hl
 have hlen:=iF.length
 rw[fc]at hlen
 refine Kw eM (λh' hm hs=>dA hq .none (o2.trans (ER (tk:=aU.toks) o2.cn hl hs.2 ⟨_,hm,?_⟩))) (room (hlen▸hz))
 rw[OI]
 exact iF.append (.cons hp .nil)
end
section
variable{c:Cx}
structure VF (c:Cx) (ms:List ME) (ρ:af) (σ:aa) (Q:aa->Prop) (X:Ex->aa->Prop):Prop where
 intro::
 out:∀w A env es s (out:Str),Ef ms c.sc es=true->In c w A env ρ σ s->out.length+2000*ms.length<=1000000->
  az (aB pw w) A (joinParts out (evalEach (vY ms es) env)) (lE w A σ s λp σ'=>p=.str/\Q σ') (d8 w A σ s X) s
theorem aey {Q:aa->Prop} (h:Q σ):VF c [] ρ σ Q X:=.intro λw A env es s out hc i hz=>
 joinParts_nil (dA ⟨rfl,h⟩ (.str _ _) (.tok i.fi.cn _)) (room hz)
theorem NR (h:a+2000*(n+1)<=1000000) (hb:b<=a+1921):b+2000*n<=1000000:=by lia
theorem NQ (h:a+2000*(n+1)<=1000000) (hb:b<=a+1921):b<=EI:=room (by lia)
theorem aez {Q:aa->Prop} (h:VF c ms ρ σ Q X):VF c (.str::ms) ρ σ Q X:=.intro λw A env es s out hc i hz=>by
 have o1:aF w A σ s σ {s with toks:=s.toks+1}:=.tok i.fi.cn _
 have hx:(strOf (hd es)).length<=1000:=aG (ak hc).1
 have hlen:(out++strOf (hd es)).length<=out.length+1921:=by rw[strLen_append];lia
 exact Xy (OX ⟨NQ hz hlen,bg (h.out w A env es.tail _ (out++strOf (hd es)) (ak hc).2 (i.out o1) (NR hz hlen)) (λ_ _ z=>z.back o1) λ_ _ z=>z.back o1⟩)
theorem aex {Q:aa->Prop} (hm:v9 m=true) (h:V c m ρ σ (λp σ₁=>∃i,p=.int i/\i.natAbs<2^64/\VF c ms ρ σ₁ Q X) X):VF c (m::ms) ρ σ Q X:=.intro λw A env es s out hc i hz=>by
 have e0:vY (m::ms) es=.FormattedValue (mk m (bE (hd es))) (-1) none (hd es).pos::vY ms es.tail:=by
  show(bif v9 m then _ else _)::_=_;refine aj (hm)▸?_;rfl
 have kJ:(bif v9 m then ok m c.sc (bE (hd es))else bW (strOf (hd es)).length 1000)=true:=(ak hc).1
 replace kJ:=hm▸kJ
 refine aj (e0)▸?_
 refine Xy (ad4 (h.run (here i) kJ i λp σ₁ v s₁ hp hr _ o1 i1=>?_))
 obtain⟨z,rfl,hb,hf⟩:=hp
 apply hr.cInt;intro t
 have Je:z.natAbs.log2<1920:=by
  by_cases h0:z.natAbs=0
  ·refine aj (h0)▸?_;decide
  ·exact rI ((P1 h0).mpr hb) (by decide)
 refine wpAny_formatField_int Je ?_
 have hl:=ad' Je
 have hlen:(out++PySem.Str.ofString (toString z)).length<=out.length+1921:=by rw[strLen_append];exact kB hl _
 have o2:aF w A σ₁ s₁ σ₁ {s₁ with toks:=s₁.toks+1+1}:=.tok o1.cn _
 exact⟨NQ hz hlen,bg (hf.out w A env es.tail _ _ (ak hc).2 (i1.out o2) (NR hz hlen)) (λ_ _ z=>z.back (o1.trans o2)) λ_ _ z=>z.back (o1.trans o2)⟩
theorem aeC (hl:2<=ms.length) (hu:ms.length<=100) (h:VF c ms ρ σ (λσ'=>Q .str σ') X):V c (.fs ms) ρ σ Q X:=.intro λw A env e s hc i=>by
 rcases ms with _|⟨m1,_|⟨m2,ms⟩⟩
 ·exact nomatch hl
 ·exact nomatch hl
 ·exact JoinedStr_many (bg (h.out w A env (kids e) s Str.empty hc i (ai (kB (bT _ hu) _) (by decide))) (λv s' hv=>hv.rec λp σ' h1 h2 h3=>dA h1.2 (h1.1▸h2) h3) λ_ _ z=>z)
end
section
open PySem.SeqAt
open AutoSeq1 (wpAny_loadPart')
variable{c:Cx}
noncomputable def eT (f:PV->PV->Option Bool):List PV->List PV->Option Bool
 |[],m=>match m with|[]=>some true|_::_=>none
 |a::l,m=>match m with|[]=>none|b::m=>(f a b).bind λx=>(eT f l m).bind λy=>some (x&&y)
noncomputable def eqB (f:List PV->List PV->Option Bool):PV->PV->Option Bool
 |.int a,q=>match q with|.int b=>some (decide (a=b))|_=>none
 |.none,q=>match q with|.none=>some true|_=>none
 |.bytes a,q=>match q with|.bytes b=>some (decide (a=b))|_=>none
 |.tup l,q=>match q with|.tup m=>f l m|_=>none
 |_,_=>none
noncomputable def eqv:Nat->PV->PV->Option Bool
 |0=>eqB λ_ _=>none
 |n+1=>eqB (eT (eqv n))
section
variable{f:List PV->List PV->Option Bool} {b:Bool}
theorem HW {c:Int} (h:eqB f q (.int c)=some b):∃a,q=.int a/\decide (a=c)=b:=by
 cases q<;>first|exact⟨_,rfl,bN h⟩|exact nn h
theorem HX (h:eqB f q .none=some b):q=.none/\true=b:=by
 cases q<;>first|exact⟨rfl,bN h⟩|exact nn h
theorem HV {c:List UInt8} (h:eqB f q (.bytes c)=some b):∃a,q=.bytes a/\decide (a=c)=b:=by
 cases q<;>first|exact⟨_,rfl,bN h⟩|exact nn h
theorem HY {c:List PV} (h:eqB f q (.tup c)=some b):∃a,q=.tup a/\f a c=some b:=by
 cases q<;>first|exact⟨_,rfl,h⟩|exact nn h
theorem xB (h:eqB f p q=some b) {P:PV->PV->Bool->Prop} (h1:∀a c,P (.int a) (.int c) (decide (a=c))) (h2:P .none .none true) (h3:∀a c,P (.bytes a) (.bytes c) (decide (a=c)))
  (h4:∀l m b,f l m=some b->P (.tup l) (.tup m) b):P p q b:=by
 cases q with
 |int c=>obtain⟨a,e1,e2⟩:=HW h;exact e1▸e2▸h1 a c
 |none=>obtain⟨e1,e2⟩:=HX h;subst e1 e2;exact h2
 |bytes c=>obtain⟨a,e1,e2⟩:=HV h;exact e1▸e2▸h3 a c
 |tup c=>obtain⟨a,e1,e2⟩:=HY h;exact e1▸h4 a c b e2
 |bool _=>cases p<;>exact nn h
 |str=>cases p<;>exact nn h
 |lst _=>cases p<;>exact nn h
 |ref _=>cases p<;>exact nn h
end
theorem uT {f:PV->PV->Option Bool} {x:PV} {m:List PV} {b:Bool} (h:eT f (x::l) (y::m)=some b):∃u v,f x y=some u/\eT f l m=some v/\b=(u&&v):=by
 obtain⟨u,h1,h⟩:=ue.mp h
 obtain⟨v,h2,h⟩:=ue.mp h
 exact⟨u,v,h1,h2,(bN h).symm⟩
theorem H6 {f:PV->PV->Option Bool} (l:List PV):∀{m:List PV} {b:Bool},eT f l m=some b->l.length=m.length:=by
 induction l with
 |nil=>intro m b e;cases m with
  |nil=>rfl
  |cons _ _=>exact nn e
 |cons x l ih=>intro m b e;cases m with
  |nil=>exact nn e
  |cons y m=>obtain⟨_,_,_,h,_⟩:=uT e;exact congrArg (· +1) (ih h)
theorem H5 {f:PV->PV->Option Bool} (l:List PV):∀{m:List PV} {b:Bool},eT f l m=some b->(∀(j:Nat) (p q:PV),l[j]?=some p->m[j]?=some q->∃x,f p q=some x)/\b=(aW l.length).all λj=>((l[j]?.bind λp=>m[j]?.bind λq=>f p q).getD false):=by
 induction l with
 |nil=>intro m b e;cases m with
  |nil=>exact⟨λ_ _ _ e=>nn e,(bN e).symm⟩
  |cons _ _=>exact nn e
 |cons x l ih=>intro m b e;cases m with
  |nil=>exact nn e
  |cons y m=>
   obtain⟨u,v,h1,h2,eb⟩:=uT e
   have i:=ih h2
   refine⟨λj p q e1 e2=>?_,?_⟩
   ·cases j with
    |zero=>exact⟨u,by rw[<-bN e1,<-bN e2];exact h1⟩
    |succ j=>exact i.1 j p q e1 e2
   ·rw[ej,AW,Po,List.all_map,eb,i.2]
    show _=((f x y).getD false&&_)
    rw[h1];rfl
theorem Xs {vs us:Array ae} (x:IsTup h a vs) (y:IsTup h a us):vs=us:=by
 obtain⟨o,ho,_,n,hd⟩:=x
 obtain⟨o',qH,_,n',gW⟩:=y
 replace qH:=ho▸qH;cases qH
 replace gW:=hd▸gW;cases gW;rfl
section
theorem Rep.JU {i j:Int} (r1:Rep h O v (.int i)) (r2:Rep h O v (.int j)):i=j:=by cases r1;cases r2;rfl
theorem Rep.JT {i j:List UInt8} (r1:Rep h O v (.bytes i)) (r2:Rep h O v (.bytes j)):i=j:=by cases r1;cases r2;rfl
theorem Rep.JV {m:List PV} (r1:Rep h O v (.tup l)) (r2:Rep h O v (.tup m)):∃vs:Array ae,aJ h O vs.toList l/\aJ h O vs.toList m:=by
 revert r2
 apply r1.jO;intro a vs ht no hr r2
 cases r2 with
 |tup nU _ cw=>exact⟨vs,hr,Xs ht nU▸cw⟩
end
theorem Sg {f:PV->PV->Option Bool} {m:List PV} {b:Bool} {us:List ae} (e:eT f l m=some b) (hr:aJ h O vs l) (cw:aJ h O us m) {j:Nat} (hj:j<l.length):
  ∃p q v u x,vs[j]?=some v/\us[j]?=some u/\Rep h O v p/\Rep h O u q/\f p q=some x/\(l[j]?.bind λp=>m[j]?.bind λq=>f p q).getD false=x:=by
 have g1:l[j]?=some (l[j]'hj):=bQ hj
 have Jb:j<m.length:=H6 _ e▸hj
 have g2:m[j]?=some (m[j]'Jb):=bQ Jb
 obtain⟨v,f1,r1⟩:=hr.get j _ g1
 obtain⟨u,f2,r2⟩:=cw.get j _ g2
 obtain⟨x,hx⟩:=(H5 _ e).1 j _ _ g1 g2
 refine⟨_,_,v,u,x,f1,f2,r1,r2,hx,?_⟩
 rw[g1,g2]
 show(f _ _).getD false=x
 rw[hx];rfl
theorem aJ.un (r:aJ h O (v::vs) (p::ps)):Rep h O v p/\aJ h O vs ps:=by
 cases r with
 |cons a b=>exact⟨a,b⟩
theorem acn {f:PV->PV->Option Bool} (ih:∀{p q:PV} {b:Bool} {v:ae},f p q=some b->Rep h O v p->Rep h O v q->b=true) (l:List PV):∀{m:List PV} {b:Bool} {vs:List ae},eT f l m=some b->aJ h O vs l->aJ h O vs m->b=true:=by
 induction l with
 |nil=>
  intro m b vs e _ _
  cases m with
  |nil=>exact(bN e).symm
  |cons _ _=>exact nn e
 |cons x l il=>
  intro m b vs e r1 r2
  cases m with
  |nil=>exact nn e
  |cons y m=>
   obtain⟨u,v,h1,h2,eb⟩:=uT e
   revert r2
   apply r1.dJ;intro w ws a1 a2 r2
   rw[eb,ih h1 a1 r2.un.1,il h2 a2 r2.un.2];rfl
theorem Nb {f:List PV->List PV->Option Bool} (hf:∀{l m:List PV} {b:Bool} {vs:List ae},f l m=some b->aJ h O vs l->aJ h O vs m->b=true) {p q:PV} {b:Bool} {v:ae} (e:eqB f p q=some b):Rep h O v p->Rep h O v q->b=true:=
 xB (P:=λp q b=>Rep h O v p->Rep h O v q->b=true) e (λ_ _ r1 r2=>decide_eq_true (r1.JU r2)) (λ_ _=>rfl) (λ_ _ r1 r2=>decide_eq_true (r1.JT r2)) λ_ _ _ e r1 r2=>(r1.JV r2).elim λ_ z=>hf e z.1 z.2
theorem Si (n:Nat):∀{p q:PV} {b:Bool} {v:ae},eqv n p q=some b->Rep h O v p->Rep h O v q->b=true:=by
 induction n with
 |zero=>exact Nb λe=>nn e
 |succ n ih=>exact Nb (acn ih _)
theorem H0 {m:List PV} {b:Bool} {vs us:Array ae} (ih:∀{p q:PV} {b:Bool} {v w:ae},eqv n p q=some b->Rep s.heap O v p->Rep s.heap O w q->EqAt A.in1 s v w b) (h:eT (eqv n) l m=some b) (hr:aJ s.heap O vs.toList l) (cw:aJ s.heap O us.toList m):
  (∀j (h1:j<vs.size) (h2:j<us.size),EqAt A.in1 s vs[j] us[j] ((l[j]?.bind λp=>m[j]?.bind λq=>eqv n p q).getD false))/\
  ((aW (min vs.size us.size)).all (λj=>(l[j]?.bind λp=>m[j]?.bind λq=>eqv n p q).getD false)&&vs.size==us.size)=b:=by
 have l0:=H6 _ h
 have l1:=hr.length
 have l2:=cw.length
 rw[fc]at l1 l2
 refine⟨λj h1 h2=>?_,by rw[(H5 _ h).2,l1,l2,<-l0,Nat.min_self,beq_self_eq_true,Bool.and_true]⟩
 obtain⟨p,q,v,u,x,f1,f2,r1,r2,hx,ex⟩:=Sg h hr cw (l1▸h1)
 simp only[wF,Fw h1]at f1
 simp only[wF,Fw h2]at f2
 cases f1;cases f2
 rw[ex]
 exact ih hx r1 r2
theorem HU:∀(n:Nat) {A:dn} {p q:PV} {b:Bool} {v w:ae},eqv n p q=some b->Rep s.heap O v p->Rep s.heap O w q->A.units+n<9900->EqAt A s v w b:=by
 have base:∀{A:dn} {a b:Int} {v w:ae},Rep s.heap O v (.int a)->Rep s.heap O w (.int b)->EqAt A s v w (decide (a=b)):=λ{A a b v w} r1 r2=>by
  apply r1.ints r2;intro t u
  have:=EqAt.int_int (A:=A) (s:=s) a t b u
  rwa[show(a==b)=decide (a=b) from by rw[oz];simp]at this
 have none_:∀{A:dn} {v w:ae},Rep s.heap O v .none->Rep s.heap O w .none->EqAt A s v w true:=λ{A v w} r1 r2=>by
  apply r1.uE;apply r2.uE;exact EqAt.same _
 have aQ:∀{A:dn} {a b:List UInt8} {v w:ae},Rep s.heap O v (.bytes a)->Rep s.heap O w (.bytes b)->EqAt A s v w (decide (a=b)):=λ{A a b v w} r1 r2=>by
  obtain⟨_,_,rfl,rfl⟩:=r1.aQ
  obtain⟨_,_,rfl,rfl⟩:=r2.aQ
  exact λprog w E Q hq=>xC hq
 intro n
 induction n with
 |zero=>exact λ{A p q b v w} h r1 r2 hu=>xB (P:=λp q b=>Rep s.heap O v p->Rep s.heap O w q->EqAt A s v w b) h (λ_ _=>base) none_ (λ_ _=>aQ) (λ_ _ _ e=>nn e) r1 r2
 |succ n ih=>
  intro A p q b v w h r1 r2 hu
  have same:=λ(z:v=w)=>Si (n+1) h r1 (z▸r2)
  refine xB (P:=λp q b=>Rep s.heap O v p->Rep s.heap O w q->(v=w->b=true)->EqAt A s v w b) h (λ_ _ r1 r2 _=>base r1 r2) (λr1 r2 _=>none_ r1 r2) (λ_ _ r1 r2 _=>aQ r1 r2) (λl m b e r1 r2=>?_) r1 r2 same
  apply r1.jO;intro a vs ht no hr
  apply r2.jO;intro b' us nU D9 cw same
  have key:=H0 (A:=A) (λhx r1 r2=>ih hx r1 r2 (by show A.units+1+n<9900;lia)) e hr cw
  have R:=RcAt.tuples (A:=A) ht nU (jD (b6 _ _) hu:A.units<cLine) key.1
  rw[key.2]at R
  by_cases u5:a=b'
  ·rw[u5,same (congrArg QK u5)];exact EqAt.same _
  ·exact EqAt.of_refs u5 R
theorem HZ {m:List PV} {b:Bool} {vs us:Array ae} (h:eT (eqv n) l m=some b) (hr:aJ s.heap O vs.toList l) (cw:aJ s.heap O us.toList m) (hu:A.units+n<9200):
  (∀j (h1:j<vs.size) (h2:j<us.size),EqAt A.in1 s vs[j] us[j] ((l[j]?.bind λp=>m[j]?.bind λq=>eqv n p q).getD false))/\
  ((aW (min vs.size us.size)).all (λj=>(l[j]?.bind λp=>m[j]?.bind λq=>eqv n p q).getD false)&&vs.size==us.size)=b:=by
 exact H0 (λhx r1 r2=>HU n hx r1 r2 (by show A.units+1+n<9900;lia)) h hr cw
theorem RM {m:List PV} {b:Bool} (h:eT (eqv 50) l m=some b):c9 .Eq (.tup l) (.tup m) b:=λ{d nh w A σ s v1 v2 P E} i r1 r2 hP=>by
 apply r1.jO;intro a vs ht no hr
 apply r2.jO;intro b' us nU D9 cw
 obtain⟨k1,k2⟩:=HZ (A:=A) h hr cw (by have:=i.lv.units;exact yJ this)
 refine RcAt.tuples ht nU (show A.units<9900 by have:=i.lv.units;exact vW this) k1 pw w E P ?_
 refine aj (k2)▸?_;exact hP _ (.refl i.cn)
theorem RS {m:List PV} {b:Bool} (h:eT (eqv 50) l m=some b):c9 .NotEq (.tup l) (.tup m) (!b):=λ{d nh w A σ s v1 v2 P E} i r1 r2 hP=>by
 apply r1.jO;intro a vs ht no hr
 apply r2.jO;intro b' us nU D9 cw
 obtain⟨k1,k2⟩:=HZ (A:=A) h hr cw (by have:=i.lv.units;exact yJ this)
 refine RcNeAt.tuples ht nU (show A.units<9900 by have:=i.lv.units;exact vW this) k1 pw w E P ?_
 refine aj (k2)▸?_;exact hP _ (.refl i.cn)
theorem R4 {f:PV->PV->Option Bool} (ih:∀{p q x:PV} {b b':Bool} {v:ae},Rep h O v p->Rep h O v q->f p x=some b->f q x=some b'->b=b') (y:List PV):∀{l m:List PV} {b b':Bool} {vs:List ae},
  aJ h O vs l->aJ h O vs m->eT f l y=some b->eT f m y=some b'->b=b':=by
 induction y with
 |nil=>
  intro l m b b' vs _ _ e1 e2
  cases l with
  |nil=>cases m with
   |nil=>exact bN (e1.symm.trans e2)
   |cons _ _=>exact nn e2
  |cons _ _=>exact nn e1
 |cons x y il=>
  intro l m b b' vs r1 r2 e1 e2
  cases l with
  |nil=>exact nn e1
  |cons p l=>cases m with
   |nil=>exact nn e2
   |cons q m=>
    obtain⟨u,v,h1,h2,eb⟩:=uT e1
    obtain⟨u',v',g1,g2,uQ⟩:=uT e2
    revert r2
    apply r1.dJ;intro w ws a1 a2 r2
    rw[eb,uQ,ih a1 r2.un.1 h1 g1,il a2 r2.un.2 h2 g2]
theorem HN {f:List PV->List PV->Option Bool} (hf:∀{l m y:List PV} {b b':Bool} {vs:List ae},aJ h O vs l->aJ h O vs m->f l y=some b->f m y=some b'->b=b') {p q x:PV} {b b':Bool} {v:ae} (r1:Rep h O v p) (r2:Rep h O v q)
  (e1:eqB f p x=some b):eqB f q x=some b'->b=b':=by
 refine xB (P:=λp x b=>Rep h O v p->eqB f q x=some b'->b=b') e1 (λa c r1 e2=>?_) (λ_ e2=>(HX e2).2) (λa c r1 e2=>?_) (λl m b e r1 e2=>?_) r1
 ·obtain⟨a',e3,e4⟩:=HW e2
  rw[<-e4,r1.JU (e3▸r2)]
 ·obtain⟨a',e3,e4⟩:=HV e2
  rw[<-e4,r1.JT (e3▸r2)]
 ·obtain⟨a',e3,e4⟩:=HY e2
  exact(r1.JV (e3▸r2)).elim λ_ z=>hf z.1 z.2 e e4
theorem Sh (n:Nat):∀{p q x:PV} {b b':Bool} {v:ae},Rep h O v p->Rep h O v q->eqv n p x=some b->eqv n q x=some b'->b=b':=by
 induction n with
 |zero=>exact HN λ_ _ e=>nn e
 |succ n ih=>exact HN (f:=eT (eqv n)) λ{l m y b b' vs}=>R4 (f:=eqv n) ih y
noncomputable def sR (x:PV):List PV->Option Bool
 |[]=>some false
 |y::l=>(eqv 50 y x).bind λa=>(sR x l).bind λb=>some (a||b)
noncomputable def yh (h:Heap) (O:Nat->Prop) (x:PV) (y:ae):Bool:=@decide (∃p,Rep h O y p/\eqv 50 p x=some true) (OV _)
theorem Xe {x:PV} {y:ae} {a:Bool} (r:Rep h O y p) (e:eqv 50 p x=some a):yh h O x y=a:=by
 rw[oz]
 unfold yh
 rw[@decide_eq_true_iff _ (OV _)]
 exact⟨λz=>z.elim λq z=>Sh 50 r z.1 e z.2,λha=>⟨p,r,ha▸e⟩⟩
theorem JC {x:PV} (rx:Rep s.heap O v x) (hu:A.units+50<9200) (l:List PV):∀{vs:List ae} {b:Bool},aJ s.heap O vs l->sR x l=some b->
  (∀y,y∈vs->EqAt A.in1 s y v (yh s.heap O x y))/\vs.any (yh s.heap O x)=b:=by
 induction l with
 |nil=>intro vs b hr h;apply hr.eS;exact⟨λy hy=>absurd hy lB,bN h⟩
 |cons p l ih=>
  intro vs b hr h
  apply hr.dJ;intro y vs r rs
  obtain⟨a,h1,h⟩:=ue.mp h
  obtain⟨b',h2,h⟩:=ue.mp h
  have i:=ih rs h2
  have e:=Xe r h1
  refine⟨λz hz=>?_,by rw[Ga,e,i.2];exact bN h⟩
  rcases eP.mp hz with hz|hz
  ·rw[hz,e];exact HU 50 h1 r rx (by show A.units+1+50<9900;lia)
  ·exact i.1 z hz
theorem RT {x:PV} {b:Bool} (h:sR x l=some b):c9 .NotIn x (.lst l) (!b):=λ{d nh w A σ s v1 v2 P E} i r1 r2 hP=>by
 apply r2.nF;intro a vs hl no hr
 obtain⟨k1,k2⟩:=JC (A:=A) r1 (by have:=i.lv.units;exact yJ this) _ hr h
 refine notIn_listAt _ hl (λy hy=>k1 y (by simpa using hy)) ?_
 rw[<-Fv,k2];exact hP _ (.refl i.cn)
theorem RU {x:PV} {b:Bool} (h:sR x l=some b):c9 .NotIn x (.tup l) (!b):=λ{d nh w A σ s v1 v2 P E} i r1 r2 hP=>by
 apply r2.jO;intro a vs hl no hr
 obtain⟨k1,k2⟩:=JC (A:=A) r1 (by have:=i.lv.units;exact yJ this) _ hr h
 refine notIn_tupleAt _ hl (λy hy=>k1 y (by simpa using hy)) ?_
 rw[<-Fv,k2];exact hP _ (.refl i.cn)
open Builtin in
theorem Ej:∀a b:List UInt8,(Bytes.order a b==.lt)=decide (a<b):=by
 intro a
 induction a with
 |nil=>
  intro b
  cases b with
  |nil=>rfl
  |cons _ _=>simp[Bytes.order]
 |cons x a cD=>
  intro b
  cases b with
  |nil=>simp[Bytes.order]
  |cons y b=>
   simp only[Bytes.order,Pp]
   by_cases h1:x<y
   ·simp[h1]
   ·by_cases h2:y<x
    ·have:x≠y:=λe=>by subst e;exact absurd h2 (GI _)
     simp[h1,h2,this]
    ·have:x=y:=QB (Ba.mp h2) (Ba.mp h1)
     simp[this,cD b]
open Builtin in
theorem MX:∀a b:List UInt8,(Bytes.order a b==.gt)=decide (b<a):=by
 intro a
 induction a with
 |nil=>
  intro b
  cases b with
  |nil=>rfl
  |cons _ _=>simp[Bytes.order]
 |cons x a cD=>
  intro b
  cases b with
  |nil=>simp[Bytes.order]
  |cons y b=>
   simp only[Bytes.order,Pp]
   by_cases h1:x<y
   ·have:¬y<x:=λz=>absurd (UInt8.lt_trans h1 z) (GI _)
    have h3:x≠y:=λe=>by subst e;exact absurd h1 (GI _)
    simp[h1,this,h3.symm]
   ·by_cases h2:y<x
    ·simp[h1,h2]
    ·have:x=y:=QB (Ba.mp h2) (Ba.mp h1)
     simp[this,cD b]
section
open Builtin
theorem zC:Slot "bytes" (uJ .Lt).2.1 "bytes.__lt__":=
 .of (owner:="bytes") (n:="__lt__") (by rw[rh,qr];fin2) (by decide+kernel) (by decide+kernel) (by decide+kernel)
  (.inl (by decide+kernel)) (by rw[vB];fin2)
theorem BW:uR wt "bytes.__lt__"=some Builtin.«bytes.__lt__»:=uS (by fin2)
theorem Bh (a b:ae):lG "bytes.__lt__" ⟨[a,b],[]⟩:=by unfold lG;fin2
theorem Ni:Slot "bytes" (uJ .Gt).2.1 "bytes.__gt__":=
 .of (owner:="bytes") (n:="__gt__") (by rw[rh,qr];fin2) (by decide+kernel) (by decide+kernel) (by decide+kernel)
  (.inl (by decide+kernel)) (by rw[vB];fin2)
theorem HS:uR wt "bytes.__gt__"=some Builtin.«bytes.__gt__»:=uS (by fin2)
theorem GW (a b:ae):lG "bytes.__gt__" ⟨[a,b],[]⟩:=by unfold lG;fin2
theorem acA:Slot "bytes" (uJ .GtE).2.1 "bytes.__ge__":=
 .of (owner:="bytes") (n:="__ge__") (by rw[rh,qr];fin2) (by decide+kernel) (by decide+kernel) (by decide+kernel)
  (.inl (by decide+kernel)) (by rw[vB];fin2)
theorem Se:uR wt "bytes.__ge__"=some Builtin.«bytes.__ge__»:=uS (by fin2)
theorem QP (a b:ae):lG "bytes.__ge__" ⟨[a,b],[]⟩:=by unfold lG;fin2
theorem Cf (b c:Array UInt8) (t u:Tok):Gives («bytes.__lt__» ⟨[.bytes b t,.bytes c u],[]⟩) (.val (.bool (decide (b.toList<c.toList)))):=by
 refine .of_wp λM A E s Q hq=>?_
 show az M A (C_ (.bytes c u) (.type "bytes")>>=λr=>_) _ E s
 refine ax (NV (m6 s c u) FI ?_)
 exact bj ⟨_,rfl,by rw[<-Ej]at hq;exact hq⟩
theorem IX (b c:Array UInt8) (t u:Tok):Gives («bytes.__gt__» ⟨[.bytes b t,.bytes c u],[]⟩) (.val (.bool (decide (c.toList<b.toList)))):=by
 refine .of_wp λM A E s Q hq=>?_
 show az M A (C_ (.bytes c u) (.type "bytes")>>=λr=>_) _ E s
 refine ax (NV (m6 s c u) FI ?_)
 exact bj ⟨_,rfl,by rw[<-MX]at hq;exact hq⟩
theorem Vi (b c:Array UInt8) (t u:Tok):Gives («bytes.__ge__» ⟨[.bytes b t,.bytes c u],[]⟩) (.val (.bool (!decide (b.toList<c.toList)))):=by
 refine .of_wp λM A E s Q hq=>?_
 show az M A (C_ (.bytes c u) (.type "bytes")>>=λr=>_) _ E s
 refine ax (NV (m6 s c u) FI ?_)
 exact bj ⟨_,rfl,by rw[<-Ej]at hq;exact hq⟩
end
theorem ae2 {a b:List UInt8}:c9 .Lt (.bytes a) (.bytes b) (decide (a<b)):=λ{d nh w A σ s v1 v2 P E} i r1 r2 h=>by
 obtain⟨b1,t1,rfl,rfl⟩:=r1.aQ
 obtain⟨b2,t2,rfl,rfl⟩:=r2.aQ
 exact R1 (op:=.Lt) (m6 s _ _) (m6 s _ _) zC BW (Bh _ _) (Cf _ _ _ _) (λe=>nomatch e) (h _ (.refl i.cn))
theorem aeZ {a b:List UInt8}:c9 .Gt (.bytes a) (.bytes b) (decide (b<a)):=λ{d nh w A σ s v1 v2 P E} i r1 r2 h=>by
 obtain⟨b1,t1,rfl,rfl⟩:=r1.aQ
 obtain⟨b2,t2,rfl,rfl⟩:=r2.aQ
 exact R1 (op:=.Gt) (m6 s _ _) (m6 s _ _) Ni HS (GW _ _) (IX _ _ _ _) (λe=>nomatch e) (h _ (.refl i.cn))
end
section
open PySem.SeqAt
open AutoSeq1 (wpAny_loadPart')
open MeetsSeq MeetsSeq2 MeetsSeq3 SeqRoads2
theorem slot_tuple_lt:Slot "tuple" (uJ .Lt).2.1 "tuple.__lt__":=
 .of (owner:="tuple") (n:="__lt__") (by rw[rh,qr];fin2) (by decide+kernel) (by decide+kernel) (by decide+kernel)
  (.inl (by decide+kernel)) (by rw[vB];fin2)
theorem entry_tuple_lt:uR wt "tuple.__lt__"=some Builtin.«tuple.__lt__»:=uS (by fin2)
theorem QS (a b:ae):lG "tuple.__lt__" ⟨[a,b],[]⟩:=by unfold lG;fin2
theorem slot_tuple_gt:Slot "tuple" (uJ .Gt).2.1 "tuple.__gt__":=
 .of (owner:="tuple") (n:="__gt__") (by rw[rh,qr];fin2) (by decide+kernel) (by decide+kernel) (by decide+kernel)
  (.inl (by decide+kernel)) (by rw[vB];fin2)
theorem entry_tuple_gt:uR wt "tuple.__gt__"=some Builtin.«tuple.__gt__»:=uS (by fin2)
theorem QR (a b:ae):lG "tuple.__gt__" ⟨[a,b],[]⟩:=by unfold lG;fin2
theorem slot_tuple_ge:Slot "tuple" (uJ .GtE).2.1 "tuple.__ge__":=
 .of (owner:="tuple") (n:="__ge__") (by rw[rh,qr];fin2) (by decide+kernel) (by decide+kernel) (by decide+kernel)
  (.inl (by decide+kernel)) (by rw[vB];fin2)
theorem entry_tuple_ge:uR wt "tuple.__ge__"=some Builtin.«tuple.__ge__»:=uS (by fin2)
theorem QQ (a b:ae):lG "tuple.__ge__" ⟨[a,b],[]⟩:=by unfold lG;fin2
noncomputable def rL (op:f_) (A:dn) (s:au) (y x:ae) (b:Bool):Prop:=
 ∀(prog:qi) (w:bF) (E:ae->au->Prop) (Q:ae->au->Prop),Q (.bool b) s->az (aB prog w) A (richCompare op y x) Q E s
theorem EX {x0 x1 y0 y1:ae} {e0 e1:Bool} {f:ae×ae->Option oM×Unit->Sem (ForInStep (Option oM×Unit))} {N:ae->ae->Sem (ForInStep (Option oM×Unit))} {Q:Option oM×Unit->au->Prop} {E:ae->au->Prop} {l:List (ae×ae)}
  (h0:EqAt A s x0 y0 e0) (h1:EqAt A s x1 y1 e1) (hl:l=[(x0,y0),(x1,y1)]) (hf:∀x y b,f (x,y) b=(eqBool x y>>=λr=>if(!r)=true then N x y else pure (.yield (none,()))))
  (n0:e0=false->az (aB prog w) A (N x0 y0) (λr s'=>∃b,r=.done b/\Q b s') E s) (n1:e0=true->e1=false->az (aB prog w) A (N x1 y1) (λr s'=>∃b,r=.done b/\Q b s') E s)
  (fin:e0=true->e1=true->Q (none,()) s):az (aB prog w) A (forIn l (none,()) f) Q E s:=by
 subst hl
 have go:∀{x y e r l} {Q':Option oM×Unit->au->Prop},EqAt A s x y e->(e=false->az (aB prog w) A (N x y) (λr s'=>∃b,r=.done b/\Q' b s') E s)->(e=true->az (aB prog w) A (forIn l (none,()) f) Q' E s)->az (aB prog w) A (forIn ((x,y)::l) r f) Q' E s:=λ{x y e r l Q'} h k g=>by
  rw[wN,hf]
  refine ax (ax (h prog w _ _ ?_))
  cases e with
  |true=>exact bj (g rfl)
  |false=>exact bg (k rfl) (λ_ _ z=>z.elim λb z=>z.1▸bj z.2) λ_ _ z=>z
 exact go h0 n0 λa=>go h1 (n1 a) λb=>bj (fin a b)
theorem ac6 (l b:Addr) (x0 x1 y0 y1:ae) (n n2:Nat) (dd jj:Option Addr) (sl fB:Array (Option ae)) (e0 e1 r0 r1:Bool):
  Meets (Builtin.«tuple.__lt__» ⟨[.ref l,.ref b],[]⟩)
   (λA R s=>s.heap.get? l=some {cls:=.type "tuple",dict:=dd,data:=.seq #[x0,x1] n,slots:=sl}/\s.heap.get? b=some {cls:=.type "tuple",dict:=jj,data:=.seq #[y0,y1] n2,slots:=fB}/\
    EqAt A.in1 s x0 y0 e0/\EqAt A.in1 s x1 y1 e1/\(e0=false->rL .Lt A.in1 s x0 y0 r0)/\(e0=true->e1=false->rL .Lt A.in1 s x1 y1 r1)/\
    R (.ok (.ret (.bool (bif e0 then(bif e1 then false else r1)else r0)))) s):=
 .of_wp λprog w A R s h=>by
  obtain⟨hl,hb,h0,h1,k0,k1,h⟩:=h
  have f2:=Fx
  wp_walk using wpAny_loadPart' hl,wpAny_loadPart' hb,EX h0 h1
  case hl=>rfl
  case hf=>exact λ_ _ _=>rfl
  case n0=>
   intro e
   replace h:=e▸h
   refine ax (m7 (ax (k0 e prog w _ _ ?_)))
   wp_walk
   refine⟨_,rfl,?_⟩
   wp_walk
   exact⟨_,rfl,h⟩
  case n1=>
   intro e e'
   rw[e,e']at h
   refine ax (m7 (ax (k1 e e' prog w _ _ ?_)))
   wp_walk
   refine⟨_,rfl,?_⟩
   wp_walk
   exact⟨_,rfl,h⟩
  case fin=>
   intro e e'
   rw[e,e']at h
   wp_walk
   exact⟨_,rfl,h⟩
theorem ac5 (l b:Addr) (x0 x1 y0 y1:ae) (n n2:Nat) (dd jj:Option Addr) (sl fB:Array (Option ae)) (e0 e1 r0 r1:Bool):
  Meets (Builtin.«tuple.__gt__» ⟨[.ref l,.ref b],[]⟩)
   (λA R s=>s.heap.get? l=some {cls:=.type "tuple",dict:=dd,data:=.seq #[x0,x1] n,slots:=sl}/\s.heap.get? b=some {cls:=.type "tuple",dict:=jj,data:=.seq #[y0,y1] n2,slots:=fB}/\
    EqAt A.in1 s x0 y0 e0/\EqAt A.in1 s x1 y1 e1/\(e0=false->rL .Gt A.in1 s x0 y0 r0)/\(e0=true->e1=false->rL .Gt A.in1 s x1 y1 r1)/\
    R (.ok (.ret (.bool (bif e0 then(bif e1 then false else r1)else r0)))) s):=
 .of_wp λprog w A R s h=>by
  obtain⟨hl,hb,h0,h1,k0,k1,h⟩:=h
  have f2:=Fx
  wp_walk using wpAny_loadPart' hl,wpAny_loadPart' hb,EX h0 h1
  case hl=>rfl
  case hf=>exact λ_ _ _=>rfl
  case n0=>
   intro e
   replace h:=e▸h
   refine ax (m7 (ax (k0 e prog w _ _ ?_)))
   wp_walk
   refine⟨_,rfl,?_⟩
   wp_walk
   exact⟨_,rfl,h⟩
  case n1=>
   intro e e'
   rw[e,e']at h
   refine ax (m7 (ax (k1 e e' prog w _ _ ?_)))
   wp_walk
   refine⟨_,rfl,?_⟩
   wp_walk
   exact⟨_,rfl,h⟩
  case fin=>
   intro e e'
   rw[e,e']at h
   wp_walk
   exact⟨_,rfl,h⟩
theorem ac4 (l b:Addr) (x0 x1 y0 y1:ae) (n n2:Nat) (dd jj:Option Addr) (sl fB:Array (Option ae)) (e0 e1 r0 r1:Bool):
  Meets (Builtin.«tuple.__ge__» ⟨[.ref l,.ref b],[]⟩)
   (λA R s=>s.heap.get? l=some {cls:=.type "tuple",dict:=dd,data:=.seq #[x0,x1] n,slots:=sl}/\s.heap.get? b=some {cls:=.type "tuple",dict:=jj,data:=.seq #[y0,y1] n2,slots:=fB}/\
    EqAt A.in1 s x0 y0 e0/\EqAt A.in1 s x1 y1 e1/\(e0=false->rL .GtE A.in1 s x0 y0 r0)/\(e0=true->e1=false->rL .GtE A.in1 s x1 y1 r1)/\
    R (.ok (.ret (.bool (bif e0 then(bif e1 then true else r1)else r0)))) s):=
 .of_wp λprog w A R s h=>by
  obtain⟨hl,hb,h0,h1,k0,k1,h⟩:=h
  have f2:=Fx
  wp_walk using wpAny_loadPart' hl,wpAny_loadPart' hb,EX h0 h1
  case hl=>rfl
  case hf=>exact λ_ _ _=>rfl
  case n0=>
   intro e
   replace h:=e▸h
   refine ax (m7 (ax (k0 e prog w _ _ ?_)))
   wp_walk
   refine⟨_,rfl,?_⟩
   wp_walk
   exact⟨_,rfl,h⟩
  case n1=>
   intro e e'
   rw[e,e']at h
   refine ax (m7 (ax (k1 e e' prog w _ _ ?_)))
   wp_walk
   refine⟨_,rfl,?_⟩
   wp_walk
   exact⟨_,rfl,h⟩
  case fin=>
   intro e e'
   rw[e,e']at h
   wp_walk
   exact⟨_,rfl,h⟩
noncomputable abbrev BI (a:List UInt8) (i:Int):PV:=.tup [.bytes a,.int i]
noncomputable def df (a:List UInt8) (i:Int) (b:List UInt8) (j:Int):Bool:=decide (a<b)||(decide (a=b)&&decide (i<j))
inductive Av (h:Heap) (O:Nat->Prop) (v:ae) (a:List UInt8) (i:Int):Prop
 |mk (x ba t t2 n dd sl:_) (e:v=.ref x) (g:h.get? x=some ⟨.type "tuple",dd,.seq #[.bytes ba t,.int i t2] n,sl⟩) (ea:ba.toList=a)
theorem two {vs:Array ae} (r:aJ h O vs.toList [p,q]):∃x y,vs=#[x,y]/\Rep h O x p/\Rep h O y q:=by
 obtain⟨l⟩:=vs
 refine r.dJ (P:=λl=>∃x y,m9 l=#[x,y]/\Rep h O x p/\Rep h O y q) λv vs a r=>?_
 refine r.dJ (P:=λl=>∃x y,m9 (v::l)=#[x,y]/\Rep h O x p/\Rep h O y q) λv2 vs2 b r=>?_
 exact r.eS (P:=λl=>∃x y,m9 (v::v2::l)=#[x,y]/\Rep h O x p/\Rep h O y q) ⟨v,v2,rfl,a,b⟩
theorem ac3 {vs:Array ae} (t:IsTup h x vs):∃dd n sl,h.get? x=some ⟨.type "tuple",dd,.seq vs n,sl⟩:=by
 obtain⟨⟨cls,dd,data,sl⟩,ho,hc,n,hd⟩:=t
 have hc:cls=_:=hc
 have hd:data=_:=hd
 subst hc hd
 exact⟨dd,n,sl,ho⟩
theorem mW {a:List UInt8} {i:Int} (r:Rep h O v (BI a i)):Av h O v a i:=by
 apply r.jO;intro x vs ht no hr
 obtain⟨u,u2,e,ra,ri⟩:=two hr
 obtain⟨dd,n,sl,ho⟩:=ac3 ht
 subst e
 revert ho
 refine ra.Hn (P:=λu a=>h.get? x=some ⟨.type "tuple",dd,.seq #[u,u2] n,sl⟩->Av h O (.ref x) a i) λb t=>?_
 exact ri.cInt (P:=λu2=>h.get? x=some ⟨.type "tuple",dd,.seq #[.bytes b t,u2] n,sl⟩->Av h O (.ref x) b.toList i) λt2 ho=>⟨x,b,t,t2,n,dd,sl,rfl,ho,rfl⟩
section
variable{a b:List UInt8} {i j:Int}
theorem BM:c9 .Lt (BI a i) (BI b j) (df a i b j):=λ{d nh w A σ s v1 v2 P E} ci r1 r2 hP=>by
 obtain⟨x,ba,t1,t3,n,dd,sl,e1,ho,e3⟩:=mW r1
 obtain⟨y,bb,t2,t4,n2,jj,fB,e2,cy,e4⟩:=mW r2
 subst e1 e2 e3 e4
 refine M_ (op:=.Lt) ⟨_,ho,rfl⟩ ⟨_,cy,rfl⟩ slot_tuple_lt entry_tuple_lt (QS _ _) (ac6 x y _ _ _ _ n n2 dd jj sl fB (decide (ba.toList=bb.toList)) (decide (i=j)) (decide (ba.toList<bb.toList)) (decide (i<j)))
  ⟨ho,cy,λprog w E Q hq=>xC hq,?_,λ_ prog w E Q hq=>?_,λ_ _ prog w E Q hq=>?_,?_⟩ (show A.units<9900 by have:=ci.lv.units;exact vW this)
 ·have:=EqAt.int_int (A:=A.in1) (s:=s) i t3 j t4
  rwa[show(i==j)=decide (i=j) from by rw[oz];simp]at this
 ·exact M9 (op:=.Lt) (T:="bytes") rfl rfl zC BW (Bh _ _) (Cf _ _ _ _) (λe=>nomatch e) hq
 ·exact GC hq
 ·refine⟨λe=>(nomatch e),?_⟩
  have e:(bif decide (ba.toList=bb.toList)then(bif decide (i=j)then false else decide (i<j))else decide (ba.toList<bb.toList))=df ba.toList i bb.toList j:=by
   unfold df
   by_cases h1:ba.toList=bb.toList
   ·have h2:¬bb.toList<bb.toList:=mu _
    by_cases h3:i=j
    ·subst h3;simp[h1,h2]
    ·simp[h1,h2,h3]
   ·simp[h1]
  rw[e];exact hP _ (.refl ci.cn)
theorem RO:c9 .Gt (BI a i) (BI b j) (df b j a i):=λ{d nh w A σ s v1 v2 P E} ci r1 r2 hP=>by
 obtain⟨x,ba,t1,t3,n,dd,sl,e1,ho,e3⟩:=mW r1
 obtain⟨y,bb,t2,t4,n2,jj,fB,e2,cy,e4⟩:=mW r2
 subst e1 e2 e3 e4
 refine M_ (op:=.Gt) ⟨_,ho,rfl⟩ ⟨_,cy,rfl⟩ slot_tuple_gt entry_tuple_gt (QR _ _) (ac5 x y _ _ _ _ n n2 dd jj sl fB (decide (ba.toList=bb.toList)) (decide (i=j)) (decide (bb.toList<ba.toList)) (decide (j<i)))
  ⟨ho,cy,λprog w E Q hq=>xC hq,?_,λ_ prog w E Q hq=>?_,λ_ _ prog w E Q hq=>?_,?_⟩ (show A.units<9900 by have:=ci.lv.units;exact vW this)
 ·have:=EqAt.int_int (A:=A.in1) (s:=s) i t3 j t4
  rwa[show(i==j)=decide (i=j) from by rw[oz];simp]at this
 ·exact M9 (op:=.Gt) (T:="bytes") rfl rfl Ni HS (GW _ _) (IX _ _ _ _) (λe=>nomatch e) hq
 ·exact Ql hq
 ·refine⟨λe=>(nomatch e),?_⟩
  have e:(bif decide (ba.toList=bb.toList)then(bif decide (i=j)then false else decide (j<i))else decide (bb.toList<ba.toList))=df bb.toList j ba.toList i:=by
   unfold df
   by_cases h1:ba.toList=bb.toList
   ·have h2:¬bb.toList<bb.toList:=mu _
    by_cases h3:i=j
    ·subst h3;simp[h1,h2]
    ·simp[h1,h2,h3]
   ·have Cg:¬bb.toList=ba.toList:=λe=>h1 e.symm
    simp[h1,Cg]
  rw[e];exact hP _ (.refl ci.cn)
theorem RN:c9 .GtE (BI a i) (BI b j) (!df a i b j):=λ{d nh w A σ s v1 v2 P E} ci r1 r2 hP=>by
 obtain⟨x,ba,t1,t3,n,dd,sl,e1,ho,e3⟩:=mW r1
 obtain⟨y,bb,t2,t4,n2,jj,fB,e2,cy,e4⟩:=mW r2
 subst e1 e2 e3 e4
 refine M_ (op:=.GtE) ⟨_,ho,rfl⟩ ⟨_,cy,rfl⟩ slot_tuple_ge entry_tuple_ge (QQ _ _) (ac4 x y _ _ _ _ n n2 dd jj sl fB (decide (ba.toList=bb.toList)) (decide (i=j)) (!decide (ba.toList<bb.toList)) (decide (j<=i)))
  ⟨ho,cy,λprog w E Q hq=>xC hq,?_,λ_ prog w E Q hq=>?_,λ_ _ prog w E Q hq=>?_,?_⟩ (show A.units<9900 by have:=ci.lv.units;exact vW this)
 ·have:=EqAt.int_int (A:=A.in1) (s:=s) i t3 j t4
  rwa[show(i==j)=decide (i=j) from by rw[oz];simp]at this
 ·exact M9 (op:=.GtE) (T:="bytes") rfl rfl acA Se (QP _ _) (Vi _ _ _ _) (λe=>nomatch e) hq
 ·exact Qk hq
 ·refine⟨λe=>(nomatch e),?_⟩
  have e:(bif decide (ba.toList=bb.toList)then(bif decide (i=j)then true else decide (j<=i))else !decide (ba.toList<bb.toList))=!df ba.toList i bb.toList j:=by
   unfold df
   by_cases h1:ba.toList=bb.toList
   ·have h2:¬bb.toList<bb.toList:=mu _
    by_cases h3:i=j
    ·subst h3;simp[h1,h2]
    ·simp only[h1,h2,h3,decide_true,decide_false,cond_true,cond_false,Bool.false_or,rt];rw[<-decide_not];exact decide_eq_decide.mpr gQ.symm
   ·simp[h1]
  rw[e];exact hP _ (.refl ci.cn)
end
end
section
open PySem PySem.W
noncomputable def runC {α:Type} (lt:Nat->Nat->Bool) (n:Nat):KasT α->Option α
 |.ret a=>some a
 |.ask i j k=>bif iU i n&&iU j n then runC lt n (k (lt i j))else none
theorem EG {α:Type} {lt:Nat->Nat->Bool} {k:Bool->KasT α}:runC lt n (.ask i j k)=bif iU i n&&iU j n then runC lt n (k (lt i j))else none:=rfl
noncomputable def tK (n:Nat):Nat->List (List Nat)
 |0=>[[]]
 |k+1=>(tK n k).flatMap λl=>(aW n).map (· ::l)
theorem ac7:tK n (k+1)=(tK n k).flatMap λl=>(aW n).map (· ::l):=rfl
noncomputable def v8:List Nat->Bool
 |[]=>true
 |x::r=>!r.contains x&&v8 r
theorem abD {r:List Nat}:v8 (x::r)=(!r.contains x&&v8 r):=rfl
noncomputable def Ee (n:Nat) (π:List Nat):Bool:=match runC (λi j=>iU (π.getD i 0) (π.getD j 0)) n (Ki n)with
 |some p=>p.toList.map (π.getD · 0)==aW n&&p.toList.all (iU · n)
 |none=>false
noncomputable def uG (n:Nat):Bool:=(tK n n).all λπ=>!v8 π||Ee n π
theorem RD:uG 2=true:=by fin2
theorem RE:uG 3=true:=by fin2
theorem RF:uG 4=true:=by fin2
theorem RG:uG 5=true:=by fin2
theorem Mj:∀{k:Nat} {l:List Nat},l.length=k->(∀x∈l,x<n)->l∈tK n k
 |0,[],_,_=>.head _
 |k+1,x::l,hl,h=>by
  simp only[ac7,List.mem_flatMap,gS,hZ]
  exact⟨l,Mj (by simpa using hl) λy hy=>h y (.tail _ hy),x,h x (.head _),rfl⟩
theorem abE {l:List Nat} (h:l.Nodup):v8 l=true:=by
 induction l with
 |nil=>rfl
 |cons x r ih=>
  obtain⟨h1,h2⟩:=List.nodup_cons.mp h
  simp[abD,h1,ih h2]
theorem acm {α:Type} {lt lt':Nat->Nat->Bool} (h:∀i j,i<n->j<n->lt i j=lt' i j):∀t:KasT α,runC lt n t=runC lt' n t:=by
 intro t
 induction t with
 |ret _=>
  exact rfl
 |ask i j k cD=>
  rw[EG,EG]
  cases hb:iU i n&&iU j n with
  |false=>rfl
  |true=>
   obtain⟨h1,h2⟩:=gO.mp hb
   simp only[rF]at h1 h2
   rw[cond_true,cond_true,h i j h1 h2,cD]
theorem RC (h2:2<=n) (h5:n<=5):uG n=true:=by
 have:n=2\/n=3\/n=4\/n=5:=by lia
 rcases this with rfl|rfl|rfl|rfl
 ·exact RD
 ·exact RE
 ·exact RF
 ·exact RG
theorem ac2 {lt:Nat->Nat->Bool} (h2:2<=n) (h5:n<=5) (ir:∀i<n,lt i i=false) (tr:∀i<n,∀j<n,∀k<n,lt i j=true->lt j k=true->lt i k=true) (to:∀i<n,∀j<n,i≠j->lt i j=true\/lt j i=true):
  ∃p:Array Nat,runC lt n (Ki n)=some p/\p.toList.length=n/\p.toList.Perm (aW n)/\p.toList.Pairwise (λi j=>lt i j=true):=by
 let cnt:=λi=>(aW n).countP λk=>lt k i
 have xx:∀i<n,∀j<n,lt i j=true->cnt i<cnt j:=λi hi j hj h=>by
  have hp:(aW n).Perm (i::(aW n).erase i):=PO (hZ.mpr hi)
  show(aW n).countP _<(aW n).countP _
  rw[hp.countP_eq,hp.countP_eq,AQ,AQ,ir i hi,h]
  have:((aW n).erase i).countP (λk=>lt k i)<=((aW n).erase i).countP (λk=>lt k j):=List.countP_mono_left λk hk Wc=>tr k (hZ.mp (List.mem_of_mem_erase hk)) i hi j hj Wc h
  simp;exact oJ this
 have Mh:∀i<n,∀j<n,iU (cnt i) (cnt j)=lt i j:=λi hi j hj=>by
  cases h:lt i j with
  |true=>exact rF.mpr (xx i hi j hj h)
  |false=>
   by_cases e:i=j
   ·subst e
    cases hb:iU (cnt i) (cnt i)with
    |false=>rfl
    |true=>have:=rF.mp hb;exact vP this
   ·have sD:=(to i hi j hj e).resolve_left (by refine aj (h)▸?_;exact hH)
    have:=xx j hj i hi sD
    cases hb:iU (cnt i) (cnt j)with
    |false=>rfl
    |true=>have:=rF.mp hb;exact Fj this ‹_›
 have HD:∀i<n,cnt i<n:=λi hi=>by
  have hp:(aW n).Perm (i::(aW n).erase i):=PO (hZ.mpr hi)
  show(aW n).countP _<n
  rw[hp.countP_eq,AQ,ir i hi]
  have h1:=Gb (p:=λk=>lt k i) (l:=(aW n).erase i)
  have h3:((aW n).erase i).length=n-1:=by rw[List.length_erase_of_mem (hZ.mpr hi),AU]
  simp;exact aas h2 h1 h3.symm
 have inj:∀i<n,∀j<n,cnt i=cnt j->i=j:=λi hi j hj e=>by
  rcases OY (i=j)with h|h
  ·exact h
  ·rcases to i hi j hj h with q|q
   ·have:=xx i hi j hj q;exact js this e
   ·have:=xx j hj i hi q;exact js this e.symm
 let π:=(aW n).map cnt
 have Ce:∀i<n,π.getD i 0=cnt i:=λi hi=>by simp[π,be,hi]
 have W5:π∈tK n n:=Mj (by simp[π]) λx hx=>by
  obtain⟨i,hi,rfl⟩:=gS.mp hx
  exact HD i (hZ.mp hi)
 have gD:π.Nodup:=by
  show((aW n).map cnt).Nodup
  rw[Pn,wR]
  exact Gi.imp_of_mem λ{i j} hi hj eA e=>eA (inj i (hZ.mp hi) j (hZ.mp hj) e)
 have ok:Ee n π=true:=by
  have:=eO.mp (RC h2 h5) π W5
  rw[abE gD]at this
  exact this
 unfold Ee at ok
 rw[acm (lt':=lt) λi j hi hj=>by rw[Ce i hi,Ce j hj,Mh i hi j hj]]at ok
 split at ok
 ·rename_i p hp
  simp only[tR,beq_iff_eq,eO,rF]at ok
  obtain⟨o1,o2⟩:=ok
  have k8:p.toList.map cnt=aW n:=by refine(o1)▸?_;exact qd λi hi=>(Ce i (o2 i hi)).symm
  have hl:p.toList.length=n:=by rw[<-f' (f:=cnt),k8,AU]
  have Wv:p.toList.Nodup:=by
   have h:(p.toList.map cnt).Nodup:=by refine aj (k8)▸?_;exact Gi
   rw[Pn,wR]at h
   exact h.imp λ{a b} u5 e=>u5 (by rw[e])
  refine⟨p,hp,hl,?_,?_⟩
  ·refine(List.perm_ext_iff_of_nodup Wv Gi).mpr λx=>⟨λhx=>hZ.mpr (o2 x hx),λhx=>?_⟩
   have hx:=hZ.mp hx
   have:cnt x∈p.toList.map cnt:=by refine aj (k8)▸?_;exact hZ.mpr (HD x hx)
   obtain⟨y,hy,e⟩:=gS.mp this
   refine(inj y (o2 y hy) x hx e)▸?_;exact hy
  ·have h:(p.toList.map cnt).Pairwise (· < ·):=by refine aj (k8)▸?_;exact List.pairwise_lt_range
   rw[wR]at h
   exact h.imp_of_mem λ{i j} hi hj eA=>by refine(Mh i (o2 i hi) j (o2 j hj))▸?_;exact rF.mpr eA
 ·(exact ff ok)
theorem ac1 {α:Type} {cmp:Nat->Nat->(Bool->au->Prop)->au->Prop} {lt:Nat->Nat->Bool} {G:α->au->Prop} (hc:∀i j C,i<n->j<n->C (lt i j) s->cmp i j C s):∀{t:KasT α} {a:α},runC lt n t=some a->G a s->t.kasWp cmp G s:=λ{t}=>by
 induction t with
 |ret _=>
  intro a e h
  (cases e);exact h
 |ask i j k cD=>
  intro a e h
  rw[EG]at e
  cases hb:iU i n&&iU j n with
  |false=>rw[hb]at e;(exact nn e)
  |true=>
   rw[hb,cond_true]at e
   obtain⟨h1,h2⟩:=gO.mp hb
   simp only[rF]at h1 h2
   exact hc i j _ h1 h2 (cD _ e h)
open Builtin in
theorem Hl (a b:List UInt8):a<b\/a=b\/b<a:=by
 cases h:Bytes.order a b with
 |lt=>exact .inl (by have:=Ej a b;rw[h]at this;simpa using this)
 |eq=>exact .inr (.inl (by have:=order_eq a b;rw[h]at this;simpa using this))
 |gt=>exact .inr (.inr (by have:=MX a b;rw[h]at this;simpa using this))
theorem kc {a b:List UInt8} {i j:Int}:df a i b j=true↔a<b\/(a=b/\i<j):=by simp[df]
theorem Ew {a:List UInt8} {i:Int}:df a i a i=false:=by
 cases h:df a i a i with
 |false=>rfl
 |true=>
  rcases kc.mp h with h|⟨_,h⟩
  ·exact absurd h (mu a)
  ·exact absurd h (Ph _)
theorem M' {a b c:List UInt8} {i j k:Int} (h1:df a i b j=true) (h2:df b j c k=true):df a i c k=true:=by
 rw[kc]at*
 rcases h1 with h1|⟨rfl,h1⟩<;>rcases h2 with h2|⟨rfl,h2⟩
 ·exact .inl (PH h1 h2)
 ·exact .inl h1
 ·exact .inl h2
 ·exact .inr ⟨rfl,aaX h1 h2⟩
theorem Ey {a b:List UInt8} {i j:Int} (h:a≠b\/i≠j):df a i b j=true\/df b j a i=true:=by
 rw[kc,kc]
 rcases Hl a b with q|rfl|q
 ·exact .inl (.inl q)
 ·have eA:i≠j:=h.resolve_left λz=>z rfl
  rcases Int.lt_or_gt_of_ne eA with q|q
  ·exact .inl (.inr ⟨rfl,q⟩)
  ·exact .inr (.inr ⟨rfl,q⟩)
 ·exact .inr (.inl q)
end
section
noncomputable def no:aa:=λ_=>none
theorem fV:¬ao no b:=λh=>by rcases h with h|⟨_,_,h⟩<;>(first|exact nn h|exact ff h|cases h)
theorem xw (b:(KF w.params).In h):Cn w no h:=⟨b,λ_ _ e=>(nn e),λ_ o=>(fV o).elim,λ_ _ _ e=>(nn e)⟩
theorem aJ.EW {v p} (r:aJ h O v p):aJ h (ao no) v p:=r.mono (λa o xs n e d x=>⟨o.slots,e⟩) λ_ _ _ _=>fV
theorem cI.EW {d nh w A σ s} (i:cI d nh w A σ s):cI d nh w A no s:=⟨i.lv,i.hd,xw i.cn.base,i.fr,λenv m=>let⟨a,L,o,b,c,d,_,e⟩:=i.ok env m;⟨a,L,o,b,c,d,fV,e⟩,i.gens⟩
theorem aF.grow {w A σ s s'} (o:aF w A no s no s') (c:Cn w σ s.heap):aF w A σ s σ s':=by
 refine⟨o.same,c.keep o.cn.base (λa ob e _=>let⟨sl,q,_⟩:=o.rl.kp a ob e fV;⟨sl,q⟩) λa ob _ _ e _ _=>let⟨sl,q,_⟩:=o.rl.kp a ob e fV;⟨sl,q⟩,⟨o.rl.kp.mono λb z=>(fV z).elim,λb z=>.inl z,λb z=>z⟩⟩
theorem aF.fresh {w A s s₁} (o:aF w A no s no s₁) (b:(KF w.params).In s.heap) {a:Nat} (ha:s.heap.get? a=none) {h':Heap} (hs:∀b,b≠a->∀o,s₁.heap.get? b=some o->h'.get? b=some o) {t:Nat}:aF w A no s no {s₁ with heap:=h',toks:=t}:=by
 have ne:∀b ob,s.heap.get? b=some ob->b≠a:=λb ob e z=>by rw[z,ha]at e;(exact nn e)
 refine⟨tD o.same,xw λx ob e=>?_,⟨λx ob e n=>?_,λx z=>(fV z).elim,λx z=>(fV z).elim⟩⟩
 ·obtain⟨sl,q,_⟩:=o.rl.kp x ob (b x ob e) fV
  exact hs x (ne x ob (b x ob e)) _ (o.cn.base x ob e)
 ·obtain⟨sl,q,r⟩:=o.rl.kp x ob e n
  exact⟨sl,hs x (ne x ob e) _ q,r⟩
section
variable{E:ae->au->Prop}
theorem abQ {b c:Array UInt8} {t u:Tok} {Q:Bool->au->Prop} (h:Q (decide (b.toList<c.toList)) s):az (aB pw w) A (oneLt' true (.bytes b t) (.bytes c u)) Q E s:=by
 rw[oneLt'_eq]
 simp only[if_true]
 refine ax (wpAny_cRoomFor_byValue rfl ?_)
 refine ax (wpAny_callSpecialIfBound?_slot (Qn s b t) zC (call_gives zC (Qn s b t) BW (Bh _ _) (Cf b c t u) ?_))
 exact adC h
theorem QT {a b:List UInt8} {x y:Int} {u:ae} {Q:Bool->au->Prop} (r1:Rep s.heap O v (BI a x)) (r2:Rep s.heap O u (BI b y)) (h:Q (df a x b y) s):az (aB pw w) A (keyLt' (tuples' true) v u) Q E s:=by
 obtain⟨p,ba,t1,t3,n,dd,sl,e1,ho,e3⟩:=mW r1
 obtain⟨q,bb,t2,t4,n2,jj,fB,e2,cy,e4⟩:=mW r2
 subst e1 e2 e3 e4
 refine kat_lt ho rfl cy rfl ?_
 show KatLex pw w A true false Q [(.bytes ba t1,.bytes bb t2),(.int x t3,.int y t4)] 0 s
 refine kat_cons (xC ?_)
 by_cases e:ba.toList=bb.toList
 ·refine aj (decide_eq_true e)▸?_
  refine kat_yes (kat_cons ?_)
  refine PySem.wpAny_eqBool_int ?_
  by_cases e2:x=y
  ·subst e2
   rw[beq_self_eq_true]
   refine kat_yes (kat_nil ?_)
   rw[e,Ew]at h;exact h
  ·refine aj (beq_eq_false_iff_ne.mpr e2)▸?_
   refine kat_no ?_
   refine kat_one _ _ (GC ?_)
   have:df ba.toList x bb.toList y=decide (x<y):=by
    unfold df;refine aj (e)▸?_;simp[mu]
   rw[this]at h;exact h
 ·refine aj (decide_eq_false e)▸?_
  refine kat_no (abQ ?_)
  have:df ba.toList x bb.toList y=decide (ba.toList<bb.toList):=by
   unfold df;simp[e]
  rw[this]at h;exact h
end
end
section
noncomputable abbrev Key:=List UInt8×Int
noncomputable def bi (x:Key):PV:=BI x.1 x.2
noncomputable def rk (x:Key):PV:=BI x.1 (0-x.2)
noncomputable def klt (x y:Key):Bool:=df x.1 (0-x.2) y.1 (0-y.2)
noncomputable def tY (d:Nat) (nh:Bool) (F:Nat) (x:Key):Prop:=Call d nh F [bi x] no (λr σ'=>σ'=no/\r=rk x) λ_ _=>False
section
variable{E:ae->au->Prop} {kS F:Nat} {e1:Nat}
theorem Yp {x:Key} (hc:tY d nh F x) (i:cI d nh w A no s) (r:Rep s.heap (ao no) v (bi x)):
  az (aB pw w) A (call (.ref F) [v]) (λr s'=>Rep s'.heap (ao no) r (rk x)/\aF w A no s no s') (λ_ _=>False) s:=
 bg (hc.run w A s [v] i (.cons r .nil)) (λr s' hv=>by obtain⟨p,σ',⟨rfl,rfl⟩,hr,o⟩:=hv;exact⟨hr,o⟩) λx s' hx=>by
  obtain⟨_,_,_,_,hf,_⟩:=hx;exact hf
theorem oj {f:Obj->Obj}:∀x,x≠b->∀o,h.get? x=some o->(h.update b f).get? x=some o:=λx hx o e=>(FT _ _ (cN hx)).trans e
theorem NI {st:SortSt} {ks:Array ae} {out:List ae} {P:oM->au->Prop} (hk:s.heap.get? kS=some (dz "list" ks e)) (ha:s.heap.get? a=some (dz "list" #[] e1)) (jW:a≠kS) (Wd:ks.size<64) (hz:out.length<64)
  (x_:(arrOf st).map (·.2)=out.toArray) (hf:failedOf st=none)
  (h:∀h',(∀x,x≠a->x≠kS->∀o,s.heap.get? x=some o->h'.get? x=some o)->h'.IsList a out.toArray->P (.done (.ret .none)) {s with heap:=h'}):
  az (aB pw w) A (ksk_tail a false e1 (.ref kS) st) P E s:=by
 have iu:(s.heap.update kS (gx λ_=>(#[]:Array ae))).get? a=some (dz "list" #[] e1):=oj a jW _ ha
 unfold ksk_tail
 try dsimp only
 rw[x_]
 refine ax (Dv hk rfl ?_ (by rw[g9];exact aaY Wd) (eQ _))
 refine ax (wpAny_letGo ?_)
 refine ax (seqEpoch_at iu rfl ?_)
 refine ax (Dv iu rfl ?_ (eQ _) (by rw[if_neg hH,rC,g9];exact aaZ hz))
 rw[hf]
 simp only[bne_self_eq_false,OL,if_false]
 refine bj (h _ (λx h1 h2 o q=>oj x h1 o (oj x h2 o q)) ?_)
 exact⟨_,IS iu λ_=>out.toArray,rfl,_,rfl⟩
theorem ab' {xs:List Key}:∀{ks:List ae},aJ h O ks (xs.map rk)->∃fs,KatTups h ks fs/\fs.length=xs.length/\∀v∈fs,∃b t,v=.bytes b t:=by
 induction xs with
 |nil=>
  intro ks r
  apply r.eS
  exact⟨[],.nil,rfl,λv hv=>absurd hv lB⟩
 |cons x xs ih=>
  intro ks r
  apply r.dJ;intro v vs r1 rs
  obtain⟨fs,h1,h2,h3⟩:=ih rs
  obtain⟨p,ba,t1,t3,n,dd,sl,e1,ho,e3⟩:=mW r1
  refine aj (e1)▸?_
  exact⟨.bytes ba t1::fs,KatTups.cons ho rfl rfl rfl h1,congrArg (· +1) h2,λv hv=>(eP.mp hv).elim (λe=>⟨_,_,e⟩) (h3 v)⟩
theorem Sd {xs:List Key} {ks:List ae} {P:oM->au->Prop} (h5:xs.length<=5) (gD:xs.Nodup) (jo:vs.length=xs.length) (mP:aJ s.heap (ao no) ks (xs.map rk)) (hk:s.heap.get? kS=some (dz "list" ks.toArray e)) (ha:s.heap.get? a=some (dz "list" #[] e1)) (jW:a≠kS)
  (h:∀(ix:List Nat) h',ix.Perm (aW xs.length)->ix.Pairwise (λi j=>klt (xs.getD i ([],0)) (xs.getD j ([],0))=true)->(∀x,x≠a->x≠kS->∀o,s.heap.get? x=some o->h'.get? x=some o)->h'.IsList a (ix.map λi=>vs.getD i .none).toArray->P (.done (.ret .none)) {s with heap:=h'}):
  az (aB pw w) A (ksk_end a false vs.toArray e1 (.ref kS) ks.toArray) P E s:=by
 have CA:ks.length=xs.length:=by rw[mP.length,f']
 have hl:ks.length=vs.length:=by exact K_ CA jo
 unfold ksk_end
 try dsimp only
 refine aj (if_neg hH)▸?_
 by_cases h2:vs.length<2
 ·have qy:vs.toArray.size<2:=h2
  rw[if_pos qy,if_pos qy]
  refine ax (bj ?_)
  refine aj (if_neg hH)▸?_
  refine ax (bj ?_)
  try dsimp only
  have e0:vs=(aW xs.length).map λi=>vs.getD i .none:=by
   refine(jo)▸?_
   refine Pu (by simp) λi h1 h2=>?_
   simp[h1]
  refine NI hk ha jW (by refine aj (rC)▸?_;exact aat h2 CA jo) (out:=vs) (ai h2 (aG rfl)) ?_ rfl λh' k1 k2=>h (aW xs.length) h' (.refl _) ?_ k1 (by refine(e0)▸?_;exact k2)
  ·show(ks.toArray.zip vs.toArray).map (·.2)=vs.toArray
   apply Array.toList_inj.mp
   rw[Array.toList_map,ksk_zip]
   show(ks.zip vs).map Qj=vs
   exact List.map_snd_zip (by lia)
  ·have:xs.length=0\/xs.length=1:=by lia
   rcases this with q|q<;>refine aj (q)▸?_
   ·exact .nil
   ·exact List.pairwise_singleton _ _
 ·have Jg:¬vs.toArray.size<2:=h2
  have h2:2<=xs.length:=by lia
  rw[if_neg Jg,if_neg Jg]
  obtain⟨fs,t1,t2,t3⟩:=ab' mP
  refine ax (kat_kind (T:=.type "bytes") t1 (by lia) (λv hv=>?_) (by decide) ?_)
  ·obtain⟨b,t,rfl⟩:=t3 v hv
   exact PU rfl
  refine aj (if_neg hH)▸?_
  have hK:(Be "bytes"!=Be "tuple")=true:=by decide
  refine aj (hK)▸?_
  obtain⟨p,hp,pl,pp,ps⟩:=ac2 (n:=xs.length) (lt:=λi j=>klt (xs.getD i ([],0)) (xs.getD j ([],0))) h2 h5 (λi _=>Ew) (λi _ j _ k _ q1 q2=>M' q1 q2) (λi hi j hj eA=>by
   refine Ey ?_
   have e1:xs.getD i ([],0)=xs[i]:=by simp[be,hi]
   have e2:xs.getD j ([],0)=xs[j]:=by simp[be,hj]
   rw[e1,e2]
   by_cases q:xs[i].1=xs[j].1
   ·refine .inr λz=>eA ?_
    have:xs[i]=xs[j]:=uf q (by lia)
    exact(List.getElem_inj gD).mp this
   ·exact .inl q)
  have ask:(Ki vs.length).kasWp (kas_ask pw w A (tuples' true) ks) (λp' s'=>p'=p/\s'=s) s:=by
   refine aj (jo)▸?_
   refine ac1 (n:=xs.length) (lt:=λi j=>klt (xs.getD i ([],0)) (xs.getD j ([],0))) (λi j C hi hj hC=>?_) hp ⟨rfl,rfl⟩
   have g1:(xs.map rk)[i]?=some (rk (xs.getD i ([],0))):=by simp[be,hi]
   have g2:(xs.map rk)[j]?=some (rk (xs.getD j ([],0))):=by simp[be,hj]
   obtain⟨v1,f1,r1⟩:=mP.get i _ g1
   obtain⟨v2,f2,r2⟩:=mP.get j _ g2
   show az _ _ (keyLt' _ (ks.getD i xg) (ks.getD j xg)) C _ s
   rw[be,be,f1,f2]
   exact QT r1 r2 hC
  refine ax (bg (kat_run (Q:=λzG s'=>s'=s/\arrOf zG=p.map (kas_item (ks.toArray.zip vs.toArray))/\failedOf zG=none)
   hl (aa0 ‹_›) (Dx h5 jo) (λp' zG s' a1 a2 a3 a4=>⟨a4.2,by rw[a2,a4.1],a3⟩) ask) ?_ λ_ _ x=>x)
  rintro⟨⟨⟩,zG⟩ s' ⟨rfl,u6,hf⟩
  try dsimp only
  refine NI hk ha jW (by rw[rC];exact Dx h5 CA) (out:=p.toList.map λi=>vs.getD i .none) (by rw[f'];exact Dx h5 pl) (kat_snds hl u6) hf λh' k1 k2=>h p.toList h' pp ps k1 k2
end
end
section
section
variable{E:ae->au->Prop} {kS F l:Nat} {e1:Nat}
theorem yX {o:Obj} (ha:h.get? a=none) (hb:h.get? b=some o):a≠b:=λz=>by rw[z,hb]at ha;cases ha
theorem Yq {I:List ae->List ae->au->Prop} {body:ae->PUnit->Sem (ForInStep PUnit)} (hb:∀x r ks s,I (x::r) ks s->az (aB pw w) A (body x ⟨⟩) (λq s'=>q=.yield ⟨⟩/\∃k,I r (ks++[k]) s') E s):
  ∀(r ks:List ae) (s:au),I r ks s->az (aB pw w) A (forIn r PUnit.unit body) (λ_ s'=>∃Kq,I [] Kq s') E s:=by
 intro r
 induction r with
 |nil=>
  intro ks s h
  rw[Ge];exact bj ⟨ks,h⟩
 |cons x r cD=>
  intro ks s h
  rw[wN]
  refine ax (bg (hb x r ks s h) (λq s' hq=>?_) λ_ _ x=>x)
  obtain⟨rfl,k,h2⟩:=hq
  exact cD (ks++[k]) s' h2
inductive F_ (d:Nat) (nh:Bool) (w:bF) (A:dn) (s₀:au) (a kS e1:Nat) (xs:List Key) (r ks:List ae) (s:au):Prop
 |mk (i:cI d nh w A no s) (o:aF w A no s₀ no s) (e:_) (hk:s.heap.get? kS=some (dz "list" ks.toArray e)) (ha:s.heap.get? a=some (dz "list" #[] e1)) (done todo) (x:xs=done++todo) (hr:aJ s.heap (ao no) r (todo.map bi)) (mP:aJ s.heap (ao no) ks (done.map rk))
theorem M5 (k:∀x o,h.get? x=some o->o.cls=.type "tuple"->h'.get? x=some o) {v:ae} {a:List UInt8} {x:Int} (r:Rep h (ao no) v (BI a x)):Rep h' (ao no) v (BI a x):=by
 obtain⟨x,ba,t,t2,n,dd,sl,e,g,ea⟩:=mW r
 subst e ea
 exact .tup ⟨_,k _ _ g rfl,rfl,n,rfl⟩ fV (.cons (.bytes _ _) (.cons (.int _ _) .nil))
theorem M7 (k:∀x o,h.get? x=some o->o.cls=.type "tuple"->h'.get? x=some o) {f:Key->Key}:∀{xs:List Key} {vs:List ae},aJ h (ao no) vs (xs.map λx=>BI (f x).1 (f x).2)->aJ h' (ao no) vs (xs.map λx=>BI (f x).1 (f x).2):=λ{xs}=>by
 induction xs with
 |nil=>
  intro vs r
  cases r;exact .nil
 |cons x xs cD=>
  intro vs r
  apply r.dJ;intro v vs r rs;exact .cons (M5 k r) (cD rs)
inductive Qr (h:Heap) (v:ae) (r:List ae) (todo:List Key):Prop
 |mk (y:Key) (t:List Key) (e:todo=y::t) (hx:Rep h (ao no) v (bi y)) (hr:aJ h (ao no) r (t.map bi))
theorem acb {r:List ae} {todo:List Key} (hr:aJ h (ao no) (v::r) (todo.map bi)):Qr h v r todo:=by
 cases todo with
 |nil=>cases hr
 |cons y t=>exact⟨y,t,rfl,hr.un.1,hr.un.2⟩
theorem aca {xs:List Key} {P:oM->au->Prop} (b0:(KF w.params).In s₀.heap) (h5:xs.length<=5) (gD:xs.Nodup) (hc:∀x∈xs,tY d nh F x) (i:cI d nh w A no s) (o:aF w A no s₀ no s)
  (fk:s₀.heap.get? kS=none) (fa:s₀.heap.get? a=none) (jo:aJ s₀.heap (ao no) vs (xs.map bi)) (hk:s.heap.get? kS=some (dz "list" #[] 0)) (ha:s.heap.get? a=some (dz "list" #[] e1)) (jW:a≠kS)
  (h:∀(ix:List Nat) s',ix.Perm (aW xs.length)->ix.Pairwise (λi j=>klt (xs.getD i ([],0)) (xs.getD j ([],0))=true)->aF w A no s₀ no s'->s'.heap.IsList a (ix.map λi=>vs.getD i .none).toArray->P (.done (.ret .none)) s'):
  az (aB pw w) A (ksk_rest a (.ref F) false vs.toArray e1 (.ref kS)) P E s:=by
 unfold ksk_rest
 refine ax (m7 ?_)
 first
  |rw[List.forIn_toArray]
  |(rw[<-OE];simp only[PS])
  |rw[<-OE]
 have I0:F_ d nh w A s₀ a kS e1 xs vs [] s:=⟨i,o,0,hk,ha,[],xs,rfl,o.rl.jb jo,.nil⟩
 refine ax (bg (Yq (I:=F_ d nh w A s₀ a kS e1 xs) (λx r ks s hI=>?_) vs [] s I0) (λ_ s' hd=>?_) λ_ _ x=>x)
 ·obtain⟨i,o,e,hk,ha,done,todo,rfl,hr,mP⟩:=hI
  obtain⟨y,todo,rfl,hx,cw⟩:=acb hr
  refine ax (wpAny_attempt (bg (Yp (hc y (by simp)) i hx) (λk s' xV=>?_) λ_ _ z=>z.elim))
  (have zz:=xV;have rk':=zz.1;have o1:=zz.2;clear zz)
  have o2:=o.trans o1
  have sF:=o1.rl.kp.exact hk fV (uZ i.ok hk λes n q=>by cases q)
  have pd:=o1.rl.kp.exact ha fV (uZ i.ok ha λes n q=>by cases q)
  have ea:ks.toArray.push k=(ks++[k]).toArray:=by simp
  have hlen:ks.length<=5:=by
   have:=mP.length
   rw[f']at this
   rw[bf]at h5;exact KL h5 this
  try dsimp only
  refine ax (Dv sF rfl ?_ (by rw[rC,g9];exact ai hlen (aG rfl)) (ai (bM (Array.size_push ..)) (by rw[rC,g9];exact ai (dW hlen _) (aG rfl))))
  have o3:=o2.fresh b0 fk (h':=s'.heap.update kS (gx (·.push k))) (λb hb ob e=>oj b hb ob e) (t:=s'.toks)
  have mv:∀x ob,s'.heap.get? x=some ob->ob.cls=.type "tuple"->(s'.heap.update kS (gx (·.push k))).get? x=some ob:=λx ob e iY=>oj x (λz=>by subst z;rw[sF]at e;cases e;exact absurd (show Be "list"=Be "tuple" from iY) (by decide)) ob e
  refine bj ⟨rfl,k,⟨⟨i.lv,i.hd,o3.cn,i.fr,?_,?_⟩,o3,_,(by rw[<-ea];exact IS sF (·.push k)),oj a jW _ pd,done++[y],todo,by simp,?_,?_⟩⟩
  ·intro env m
   obtain⟨g1,L,oL,g2,g3,⟨es,n,g4⟩,_,g5⟩:=(i.out o1).ok env m
   exact⟨g1,L,oL,g2,oj L (λz=>by subst z;rw[sF]at g3;cases g3;cases g4) _ g3,⟨es,n,g4⟩,fV,g5⟩
  ·exact(i.out o1).gens
  ·exact M7 (f:=id) mv (o1.rl.jb cw)
  ·rw[t6]
   exact(M7 (f:=λx=>(x.1,0-x.2)) mv (o1.rl.jb mP)).append (.cons (M5 mv rk') .nil)
 ·obtain⟨Kq,i',o',e,qD,Vy,done,todo,rfl,hr,mP⟩:=hd
  have ht:todo=[]:=by cases todo with|nil=>rfl|cons _ _=>cases hr
  subst ht
  rw[ly]at*
  have qL:vs.length=done.length:=by have:=jo.length;rwa[f']at this
  try dsimp only
  refine ax (YO qD rfl ?_)
  refine Sd h5 gD qL mP qD Vy jW λix h' p1 p2 k1 k2=>h ix _ p1 p2 ?_ k2
  refine⟨?_,xw λx ob ex=>?_,⟨λx ob ex n=>?_,λx z=>(fV z).elim,λx z=>(fV z).elim⟩⟩
  ·exact tD o'.same
  ·obtain⟨sl,q,_⟩:=o'.rl.kp x ob (b0 x ob ex) fV
   exact k1 x (λz=>yX fa (b0 x ob ex) z.symm) (λz=>yX fk (b0 x ob ex) z.symm) _ (o'.cn.base x ob ex)
  ·obtain⟨sl,q,r⟩:=o'.rl.kp x ob ex n
   exact⟨sl,k1 x (λz=>yX fa ex z.symm) (λz=>yX fk ex z.symm) _ q,r⟩
theorem acC {xs:List Key} {P:oM->au->Prop} (b0:(KF w.params).In s₀.heap) (h5:xs.length<=5) (gD:xs.Nodup) (hc:∀x∈xs,tY d nh F x) (i:cI d nh w A no s) (o:aF w A no s₀ no s)
  (fa:s₀.heap.get? a=none) (jo:aJ s₀.heap (ao no) vs (xs.map bi)) (ha:s.heap.get? a=some (dz "list" vs.toArray n))
  (h:∀(ix:List Nat) s',ix.Perm (aW xs.length)->ix.Pairwise (λi j=>klt (xs.getD i ([],0)) (xs.getD j ([],0))=true)->aF w A no s₀ no s'->s'.heap.IsList a (ix.map λi=>vs.getD i .none).toArray->P (.done (.ret .none)) s'):
  az (aB pw w) A (ksk_tree a (.ref F) false) P E s:=by
 have qL:vs.length=xs.length:=by have:=jo.length;rwa[f']at this
 have VB:a<s.heap.objs.size:=hU ha
 obtain⟨e1,dS⟩:∃e1,(s.heap.update a (gx λ_=>(#[]:Array ae))).get? a=some (dz "list" #[] e1):=⟨_,IS ha λ_=>#[]⟩
 unfold ksk_tree
 refine ax (YO ha rfl ?_)
 refine ax (Dv ha rfl ?_ (by rw[rC,g9];exact yT h5 qL) (eQ _))
 refine ax (seqEpoch_at dS rfl ?_)
 refine ax (adA ?_ (by show vs.length<=_;rw[g9];exact yT h5 qL))
 refine ax (wA ?_ (eQ _))
 refine pX ?_
 have o1:=o.fresh b0 fa (h':=s.heap.update a (gx λ_=>(#[]:Array ae))) (λb hb ob e=>oj b hb ob e) (t:=s.toks)
 have sz:(s.heap.update a (gx λ_=>(#[]:Array ae))).objs.size=s.heap.objs.size:=Pd ..
 have hk:∀x ob,(s.heap.update a (gx λ_=>(#[]:Array ae))).get? x=some ob->(((s.heap.update a (gx λ_=>(#[]:Array ae))).push (dz "tuple" vs.toArray 0)).push (dz "list" #[] 0)).get? x=some ob:=λx ob e=>tV _ (tV _ e)
 have o2:aF w A no s₀ no {s with heap:=((s.heap.update a (gx λ_=>(#[]:Array ae))).push (dz "tuple" vs.toArray 0)).push (dz "list" #[] 0)}:=o1.trans (.keeps o1.cn hk)
 have JW:((s.heap.update a (gx λ_=>(#[]:Array ae))).push (dz "tuple" vs.toArray 0)).objs.size=s.heap.objs.size+1:=by rw[rz,sz]
 have fk:s₀.heap.get? ((s.heap.update a (gx λ_=>(#[]:Array ae))).push (dz "tuple" vs.toArray 0)).objs.size=none:=by
  rw[JW]
  cases q:s₀.heap.get? (s.heap.objs.size+1)with
  |none=>rfl
  |some ob=>
   obtain⟨_,z⟩:=o.rl.kp.alive q fV
   have:=hU z
   exact absurd this (w4.mpr (t_ _))
 refine aca (s:={s with heap:=((s.heap.update a (gx λ_=>(#[]:Array ae))).push (dz "tuple" vs.toArray 0)).push (dz "list" #[] 0)}) b0 h5 gD hc ⟨i.lv,i.hd,o2.cn,i.fr,?_,i.gens⟩ o2 fk fa jo (jg _ rfl) (hk _ _ dS) (by rw[JW];exact jE (P4 VB)) h
 intro env m
 obtain⟨g1,L,oL,g2,g3,⟨es,en,g4⟩,_,g5⟩:=i.ok env m
 exact⟨g1,L,oL,g2,hk _ _ (oj L (λz=>by subst z;replace g3:=ha▸g3;cases g3;cases g4) _ g3),⟨es,en,g4⟩,fV,g5⟩
theorem acD {xs:List Key} {P:ae->au->Prop} (i:cI (d+1) nh w A no s) (h5:xs.length<=5) (gD:xs.Nodup) (hc:∀x∈xs,tY d nh F x) (hl:s.heap.IsList l vs.toArray) (jo:aJ s.heap (ao no) vs (xs.map bi))
  (h:∀D (ix:List Nat) s',ix.Perm (aW xs.length)->ix.Pairwise (λi j=>klt (xs.getD i ([],0)) (xs.getD j ([],0))=true)->aF w A no s no s'->s.heap.get? D=none->s'.heap.IsList D (ix.map λi=>vs.getD i .none).toArray->P (.ref D) s'):
  az (aB pw w) A (call (.builtin "sorted") [.ref l] [(ie "key",.ref F)]) P E s:=by
 have qL:vs.length=xs.length:=by have:=jo.length;rwa[f']at this
 refine call_function_entry_kw kind_sorted plain_sorted entry_sorted (ksk_s1 _ _) ?_
 unfold Builtin.«sorted»
 refine ax (m:=checkCount "sorted" 1 1 _) (bj ?_)
 refine ax (collect_list hl ?_ (by rw[g9];exact yT h5 qL))
 refine ax (wA ?_ (by rw[g9];exact yT h5 qL))
 have qK:((s.heap.push (dz "list" #[] 0)).update s.heap.objs.size (gx (· ++vs.toArray))).objs.size=s.heap.objs.size+1:=by
  rw[Pd,rz]
 have Ji:(((s.heap.push (dz "list" #[] 0)).update s.heap.objs.size (gx (· ++vs.toArray))).push (dz "list" vs.toArray 0)).get? (s.heap.objs.size+1)=some (dz "list" vs.toArray 0):=by
  rw[<-qK];exact jg _ rfl
 have keep:∀b o,s.heap.get? b=some o->(((s.heap.push (dz "list" #[] 0)).update s.heap.objs.size (gx (· ++vs.toArray))).push (dz "list" vs.toArray 0)).get? b=some o:=λb o q=>by
  have br:b<s.heap.objs.size:=hU q
  rw[Pc _ _ _ (by rw[qK];exact jE (P4 br)),Heap.get?_update_ne _ _ _ _ (jE br),Pc _ _ _ (jE br)]
  exact q
 show az _ _ _ _ _ {s with heap:=((s.heap.push (dz "list" #[] 0)).update s.heap.objs.size (gx (· ++vs.toArray))).push (dz "list" vs.toArray 0)}
 rw[qK]
 have o1:aF w A no s no {s with heap:=((s.heap.push (dz "list" #[] 0)).update s.heap.objs.size (gx (· ++vs.toArray))).push (dz "list" vs.toArray 0)}:=.keeps i.cn keep
 have fa:s.heap.get? (s.heap.objs.size+1)=none:=tU (t_ _)
 have i1:=i.out o1
 have i2:cI d nh w A.in1.in1 no {s with heap:=((s.heap.push (dz "list" #[] 0)).update s.heap.objs.size (gx (· ++vs.toArray))).push (dz "list" vs.toArray 0)}:=
  ⟨⟨by have:=i.lv.depth;show A.depth+d<=900;exact bx this,by have:=i.lv.units;show A.units+1+1+6*d<=9000;lia⟩,i1.hd,i1.cn,i1.fr,i1.ok,i1.gens⟩
 refine ax (pX (wpAny_call_entry_kw slot_list_sort ⟨_,Ji,rfl⟩ entry_list_sort ?body (ksk_l1 _ _)))
 case body=>
  show az (aB pw w) A.in1.in1 (Builtin.«list.sort» ⟨[.ref (s.heap.objs.size+1)],_⟩) _ _ _
  rw[ksk_t1]
  refine acC (s₀:=s) (A:=A.in1.in1) i.cn.base h5 gD hc i2 (aF.fr (A':=A) (A:=A.in1.in1) rfl o1) fa jo Ji λix s' p1 p2 o k=>⟨_,rfl,bj ⟨_,rfl,h _ ix s' p1 p2 (aF.fr (A':=A.in1.in1) (A:=A) rfl o) fa k⟩⟩
end
variable{c:Cx}
theorem ab_ {xs:List Key} (r:aJ h O vs (xs.map bi)):∀(ix:List Nat),(∀i∈ix,i<xs.length)->aJ h O (ix.map λi=>vs.getD i .none) ((ix.map λi=>xs.getD i ([],0)).map bi):=by
 intro bD
 induction bD with
 |nil=>
  intro _
  exact .nil
 |cons i ix ih=>
  intro hi
  have br:=hi i (.head _)
  obtain⟨v,hv,rv⟩:=r.get i (bi (xs.getD i ([],0))) (by simp[be,br])
  refine .cons ?_ (ih λj hj=>hi j (.tail _ hj))
  dsimp only
  rw[be,hv];exact rv
theorem abC (cn:Cn w σ h) {a:Nat} (hn:h.get? a=none):¬ao σ a:=λz=>by obtain⟨o,e⟩:=k_ cn z;rw[hn]at e;(exact nn e)
theorem acJ (P:aV):(nsIn (KF P) fA "sorted"==some none&&nsIn (KF P) oW "sorted"==some (some (.builtin "sorted")))=true:=by fin2
noncomputable abbrev SS (d:Nat) (nh:Bool) (F:Nat) (Q:PV->aa->Prop):PV->aa->Prop:=λp σ=>∃xs:List Key,p=.lst (xs.map bi)/\xs.length<=5/\xs.Nodup/\(∀x∈xs,tY d nh F x)/\∀ys:List Key,ys.Perm xs->ys.Pairwise (λx y=>klt x y=true)->Q (.lst (ys.map bi)) σ
theorem QI {e:ME} {f F:Nat} (hf:nK xJ f=some F)
  (h:V ⟨sc,d+1,nh⟩ e ρ σ (SS d nh F Q) X):V ⟨sc,d+1,nh⟩ (.g' e f) ρ σ Q X:=.intro λw A env ee s hc hi=>by
 obtain⟨hc,g6⟩:=ak hc
 obtain⟨g4,g5⟩:=ak hc
 have K:=ak (acJ w.params)
 have e0:eval (mk (.g' e f) ee) env=(do xq ee.pos (<-eval (.Name "sorted" (bE ee).pos) env) [] (fJ ee.pos (fE (ct [e] (kids ee).tail) env)) (Bk ee.pos (Dn [⟨some "key",.Name (nm f) (yx ee).value.pos,(yx ee).pos⟩] env))):=rfl
 rw[e0]
 refine ax (zT (KA hi.fi.cn.base hi.en.kind hi.en.glob hi.en.blt (by show env.scope.names.lookup _=_;rw[hi.en.names];exact C9 g5) (beq_iff_eq.mp K.1) (beq_iff_eq.mp K.2) ?_) (yi g5))
 have hk:=q_ (env:=env) (ms:=[e]) (es:=(kids ee).tail)
 rw[<-qq ee.pos]at hk
 refine callWith_kw ?_ (congrArg (fJ ee.pos) (D0 e _ [] env):fJ ee.pos (fE (ct [e] (kids ee).tail) env)=_) hk rfl rfl
 refine VA.run (xe h) (here hi) (show gG [e] sc (kids ee).tail=true from gO.mpr ⟨g6,rfl⟩) hi λps σ₁ vs s₁ gE hr _ o1 i1=>?_
 obtain⟨p,rfl,xs,rfl,h5,gD,Wb,hq⟩:=gE
 refine kws_cons (sy i1 g4 (fnAt hf w.params).1 (kws_nil ?_))
 apply hr.dJ;intro v vs r rest
 apply rest.eS
 apply r.nF;intro l us hl nol iF
 show az _ A (call (.builtin "sorted") [.ref l] [(ie "key",.ref F)]) _ _ s₁
 refine acD (xs:=xs) (vs:=us.toList) i1.fi.EW h5 gD Wb (by rw[Au];exact hl) iF.EW λD ix s' p1 p2 o hD Vt=>?_
 have og:=o.grow o1.cn
 have WZ:(ix.map λi=>xs.getD i ([],0)).Perm xs:=
  (p1.map λi=>xs.getD i ([],0)).trans (List.Perm.of_eq (Pu (by simp) λi h1 h2=>by simp[h2]))
 refine dA (hq (ix.map λi=>xs.getD i ([],0)) WZ (wR.mpr p2)) (.lst Vt (abC o1.cn hD) ?_) (o1.trans og)
 rw[PS]
 exact ab_ (og.rl.jb iF) ix λi hm=>hZ.mp (p1.mem_iff.mp hm)
end
section
variable{c:Cx}
theorem aF.chg (o:aF w A σ₁ s₁ σ s) (b:(KF w.params).In s₁.heap) {a:Nat} (fa:s₁.heap.get? a=none) (na:¬ao σ a) (nd:∀ob xs n,s.heap.get? a=some ob->ob.data≠.seq xs n) {h':Heap} {t:Nat}
  (hs:∀b,b≠a->∀o,s.heap.get? b=some o->h'.get? b=some o):aF w A σ₁ s₁ σ {s with heap:=h',toks:=t}/\ew (ao σ) s.heap h':=by
 have q:ew (ao σ) s.heap h':=λx ob xs n e d _=>⟨ob.slots,hs x (λz=>by subst z;exact nd ob xs n e d) ob e⟩
 have ne:∀x ob,s₁.heap.get? x=some ob->x≠a:=λx ob e z=>by rw[z,fa]at e;(exact nn e)
 refine⟨⟨tD o.same,o.cn.keep (λx ob e=>?_) (λx ob e z=>⟨ob.slots,hs x (λy=>na (y▸z)) ob e⟩) q,⟨λx ob e n=>?_,o.rl.new,o.rl.old⟩⟩,q⟩
 ·exact hs x (ne x ob (b x ob e)) ob (o.cn.base x ob e)
 ·obtain⟨sl,g,r⟩:=o.rl.kp x ob e n
  exact⟨sl,hs x (ne x ob e) _ g,r⟩
theorem cA.kept (i:cA sc env ρ σ h) (k:∀b,FO env b->∀o,h.get? b=some o->h'.get? b=some o) (q:ew (ao σ) h h'):cA sc env ρ σ h':=
 i.mv (λb o f ho _=>⟨o,k b f o ho,rfl⟩) (λ_ _ r=>r.mono q λ_ _ _ z=>z) i.i9
theorem cA.weak (i:cA sc env ρ σ h) (k:∀x p,sS sc (nm x)=true->get ρ' x=some p->get ρ x=some p):cA sc env ρ' σ h:=
 ⟨i.names,i.kind,i.glob,i.blt,λx p e hl=>i.vars x p (k x p hl e) hl,i.ns,i.cells,i.rT,i.i9,i.nL,i.gg⟩
noncomputable def jP (env:Env):List (Str×h_)->List (Str×Addr)->List (Str×Addr)
 |[],acc=>acc
 |(n,k)::r,acc=>if k==.free then jP env r ((n,(env.cells.lookup n).getD 0)::acc)else jP env r acc
theorem BJ {n:Str} {k:h_} {r:List (Str×h_)} {acc:List (Str×Addr)}:jP env ((n,k)::r) acc=if k==.free then jP env r ((n,(env.cells.lookup n).getD 0)::acc)else jP env r acc:=rfl
theorem RJ:∀(l:List (Str×h_)) (acc:List (Str×Addr)),(∀n k,(n,k)∈l->k=.free->∃a,env.cells.lookup n=some a)->
  (forIn l acc (λ(x:Str×h_) r=>match x with|(name,kind)=>do
   if kind==.free then pure (tT ((name,<-cellOf env name)::r))else pure (tT r)):Sem (List (Str×Addr)))=pure (jP env l acc):=by
 intro l
 induction l with
 |nil=>
  intro acc _
  exact rfl
 |cons y r cD=>
  obtain⟨n,k⟩:=y
  intro acc h
  rw[wN,BJ]
  by_cases hk:(k==oI)=true
  ·obtain⟨a,ha⟩:=h n k (.head _) (by simpa using hk)
   simp only[hk,if_true]
   have e:cellOf env n=pure a:=by unfold cellOf;rw[ha]
   rw[e,ha]
   exact cD _ λn k m=>h n k (.tail _ m)
  ·simp only[hk,if_false]
   exact cD acc λn k m=>h n k (.tail _ m)
theorem Hu (h:∀n k,(n,k)∈cs.names->k=.free->∃a,env.cells.lookup n=some a):closureFor cs env=pure (jP env cs.names []):=by
 have:=RJ cs.names [] h
 unfold closureFor
 first
  |(rw[this];rfl)
  |exact(congrArg (λx=>x>>=pure) this)
  |(simp only[bind_pure];exact this)
theorem RI {x:Str} {a:Addr}:∀{l:List (Str×h_)} {acc:List (Str×Addr)},(jP env l acc).lookup x=some a->(∃k,(x,k)∈l/\k=.free/\a=(env.cells.lookup x).getD 0)\/acc.lookup x=some a:=λ{l}=>by
 induction l with
 |nil=>
  intro acc h
  exact .inr h
 |cons y r cD=>
  obtain⟨n,k⟩:=y
  intro acc h
  rw[BJ]at h
  by_cases hk:(k==oI)=true
  ·rw[if_pos hk]at h
   rcases cD h with⟨k',m,h1,h2⟩|h
   ·exact .inl ⟨k',.tail _ m,h1,h2⟩
   ·rw[mq]at h
    by_cases hx:(x==n)=true
    ·rw[hx]at h
     have:=eq_of_beq hx
     subst this
     cases h
     exact .inl ⟨k,.head _,by simpa using hk,rfl⟩
    ·rw[OM]at hx
     rw[hx]at h;exact .inr h
  ·rw[if_neg hk]at h
   rcases cD h with⟨k',m,h1,h2⟩|h
   ·exact .inl ⟨k',.tail _ m,h1,h2⟩
   ·exact .inr h
theorem RH {x:Str}:∀{l:List (Str×h_)} {acc:List (Str×Addr)},((x,oI)∈l\/∃a,acc.lookup x=some a)->∃a,(jP env l acc).lookup x=some a:=λ{l}=>by
 induction l with
 |nil=>
  intro acc h
  rcases h with h|h
  ·cases h
  ·exact h
 |cons y r cD=>
  obtain⟨n,k⟩:=y
  intro acc h
  refine aj (BJ)▸?_
  by_cases hk:(k==oI)=true
  ·refine aj (if_pos hk)▸?_
   refine cD ?_
   rcases h with h|⟨a,h⟩
   ·rcases eP.mp h with h|h
    ·cases h;exact .inr ⟨_,by rw[mq,beq_self_eq_true]⟩
    ·exact .inl h
   ·by_cases hx:(x==n)=true
    ·exact .inr ⟨_,by rw[mq,hx]⟩
    ·rw[OM]at hx
     exact .inr ⟨a,by rw[mq,hx];exact h⟩
  ·refine aj (if_neg hk)▸?_
   refine cD ?_
   rcases h with h|h
   ·rcases eP.mp h with h|h
    ·cases h;exact absurd rfl hk
    ·exact .inl h
   ·exact .inr h
end
section
variable{c:Cx}
noncomputable def lI (t:MT) (p:PV) (ρ:af):Option af:=match t,p with
 |.nm x,p=>some (put ρ x p)
 |.tup l,.tup ps=>if ps.length=l.length then some (gH ρ l ps)else none
 |_,_=>none
noncomputable def lx:MT->List Nat
 |.nm x=>[x]
 |.tup l=>l
theorem IV {y:Nat}:∀{l:List Nat} {ps:List PV} {ρ ρ':af},ps.length=l.length->(y∈l->get (gH ρ l ps) y=get (gH ρ' l ps) y)/\(y∉l->get (gH ρ l ps) y=get ρ y):=by
 intro l
 induction l with
 |nil=>exact λ{ps ρ ρ'} _=>⟨λh=>absurd h lB,λ_=>by cases ps<;>rfl⟩
 |cons x l ih=>
  intro ps ρ ρ' h
  cases ps with
  |nil=>exact absurd h (rK _).symm
  |cons p ps=>
   have hl:ps.length=l.length:=nq h
   have h1:=ih (ρ:=put ρ x p) (ρ':=put ρ' x p) hl
   have h3:=(ih (ρ:=put ρ' x p) (ρ':=put ρ x p) hl).2
   show(y∈x::l->get (gH (put ρ x p) l ps) y=get (gH (put ρ' x p) l ps) y)/\(y∉x::l->get (gH (put ρ x p) l ps) y=get ρ y)
   refine⟨λm=>?_,λm=>?_⟩
   ·by_cases hy:y∈l
    ·exact h1.1 hy
    ·have e:y=x:=(eP.mp m).resolve_right hy
     rw[h1.2 hy,h3 hy,cJ,cJ,if_pos e,if_pos e]
   ·rw[h1.2 λe=>m (.tail _ e),cJ,if_neg λ(e:y=x)=>m (e▸.head _)]
theorem Bp {t:MT} (h:lI t p ρ=some bJ):∀ρ',∃OB,lI t p ρ'=some OB/\(∀y,y∈lx t->get bJ y=get OB y)/\(∀y,y∉lx t->get bJ y=get ρ y):=λρ'=>by
 cases t with
 |nm x=>
  (cases h)
  refine⟨_,rfl,λy hy=>?_,λy hy=>?_⟩
  ·have:=oG.mp hy;subst this;rw[cJ,cJ,if_pos rfl,if_pos rfl]
  ·rw[cJ,if_neg λe=>hy (oG.mpr e)]
 |tup l=>
  cases p<;>first|cases h|skip
  rename_i ps
  by_cases hl:ps.length=l.length
  ·rw[show lI (.tup l) (.tup ps) ρ=some (gH ρ l ps) from if_pos hl]at h
   (cases h)
   exact⟨gH ρ' l ps,if_pos hl,λy hy=>(IV hl).1 hy,λy hy=>(IV (ρ':=ρ') hl).2 hy⟩
  ·rw[show lI (.tup l) (.tup ps) ρ=none from if_neg hl]at h;(exact nn h)
noncomputable def del (σ:aa) (a:Nat):aa:=λb=>if b=a then none else σ b
theorem uO {o:AO} (h:σ a=none):del (upd σ a o) a=σ:=by
 funext b
 unfold del
 by_cases e:b=a
 ·rw[if_pos e,e,h]
 ·rw[if_neg e,aw _ _ e]
theorem zh (h:ao (del σ a) b):ao σ b:=by
 rcases h with h|⟨D,gs,h⟩
 ·unfold del at h
  split at h
  ·(exact ff h)
  ·exact .inl h
 ·unfold del at h
  split at h
  ·(exact nn h)
  ·exact .inr ⟨D,gs,h⟩
theorem abT (e:σ a=some (.av l)) (h:ao σ b) (hb:b≠a):ao (del σ a) b:=by
 rcases h with h|⟨D,gs,h⟩
 ·exact .inl (by unfold del;rw[if_neg hb];exact h)
 ·refine .inr ⟨D,gs,?_⟩
  unfold del
  by_cases q:b+1=a
  ·rw[q,e]at h;cases h
  ·rw[if_neg q];exact h
theorem freeze (o:aF w A σ₁ s₁ σ s) (e:σ a=some (.av l)) (h1:¬ao σ₁ a):aF w A σ₁ s₁ (del σ a) s/\Rep s.heap (ao (del σ a)) (.ref a) (.lst l):=by
 have q:ew (ao σ) s.heap s.heap:=λx ob _ _ e _ _=>⟨ob.slots,e⟩
 have nw:∀b o,s.heap.get? b=some o->¬ao σ b->¬ao (del σ a) b:=λb o _ n z=>n (zh z)
 obtain⟨vs,eM,iF⟩:=o.cn.at_ _ _ e
 have na:¬ao (del σ a) a:=λh=>by
  rcases h with h|⟨D,gs,h⟩
  ·unfold del at h;rw[if_pos rfl]at h;(exact ff h)
  ·have h':σ (a+1)=some (.inst D gs):=by unfold del at h;rw[if_neg (Qd _)]at h;exact h
   have:=o.cn.apart _ _ _ h'
   rw[w1,e]at this;(cases this)
 refine⟨⟨o.same,⟨o.cn.base,λb ob eb=>?_,λb z=>o.cn.lo b (zh z),λb C fs eb=>?_⟩,⟨o.rl.kp,λb z=>o.rl.new b (zh z),λb z=>abT e (o.rl.old b z) λz'=>h1 (z'▸z)⟩⟩,.lst eM.isList na (iF.mono q nw)⟩
 ·have uQ:σ b=some ob:=by
   unfold del at eb
   split at eb
   ·(exact nn eb)
   ·exact eb
  exact(o.cn.at_ b ob uQ).mv (λ_ z=>z) (λ_ _ _ _ z=>z) q nw
 ·have uQ:σ b=some (.inst C fs):=by
   unfold del at eb
   split at eb
   ·(exact nn eb)
   ·exact eb
  have:=o.cn.apart b C fs uQ
  unfold del
  split
  ·rfl
  ·exact this
noncomputable def F0:Ex->aa->Prop:=λ_ _=>False
noncomputable def TC (c:Cx) (m:Option ME) (ρ:af) (σ:aa) (Q:Bool->aa->Prop):Prop:=match m with
 |none=>Q true σ
 |some m=>T c m ρ σ Q F0
noncomputable def gP (c:Cx) (t:MT) (e:ME) (bX:Option ME) (D:Nat) (ρ:af) (Q:List PV->aa->Prop):List PV->List PV->aa->Prop
 |[],acc,σ=>Q acc (del σ D)
 |p::xs,acc,σ=>∃bJ,lI t p ρ=some bJ/\TC c bX bJ σ (λb σ₁=>
   (b=true->V c e bJ σ₁ (λq bY=>bY D=some (.av acc)/\acc.length<=1000000/\gP c t e bX D ρ Q xs (acc++[q]) (upd bY D (.av (acc++[q])))) F0)/\
   (b=false->σ₁ D=some (.av acc)/\gP c t e bX D ρ Q xs acc σ₁))
theorem Ol {w A s x s'} {P:Prop} (h:d8 w A σ s F0 x s'):P:=by obtain⟨_,_,_,_,hf,_⟩:=h;exact hf.elim
theorem acX {e:Expr} {Q:Bool->aa->Prop} {E:ae->au->Prop} (hi:In c w A env ρ σ s) (hc:tx bX c.sc e=true) (h:TC c bX ρ σ Q):
  az (aB pw w) A (forIn (lX bX e) true λc r=>if r=true then do let ok<-vC c env (eval c env);pure (tT ok)else pure (tT r)) (A9 w A σ s Q) E s:=by
 cases bX with
 |none=>exact wpAny_tests_nil (m5 h (here hi))
 |some m=>exact wpAny_tests_one (bg (h.out w A env e s hc hi) (λ_ _ z=>z) λ_ _ z=>Ol z)
theorem QU {E:ae->au->Prop} {P:Unit->au->Prop}:∀{l:List Nat} {es:List Expr} {vs:List ae} {ps:List PV} {ρ:af} {s:au},okN c.sc l=true->(l.all λx=>c.sc.names.lookup (nm x)==some .local)=true->In c w A env ρ σ s->aJ s.heap (ao σ) vs ps->ps.length=l.length->
  (∀s',bw c w A env σ s (gH ρ l ps) σ s'->AE env.locals s.heap s'.heap->P () s')->az (aB pw w) A (Bi ((ny (lW l es) env).map (·.2)) vs) P E s:=by
 intro l
 induction l with
 |nil=>
  intro es vs ps ρ s _ _ i hr hl h
  rw[AS.mp hl]at hr
  rw[AS.mp hl]at h
  apply hr.eS
  exact bj (h s (.refl i) (.refl ..))
 |cons x r ih=>
  intro es vs ps ρ s hc Ck i hr hl h
  cases ps with
  |nil=>exact absurd hl (rK _).symm
  |cons p ps=>
   rw[Po]at Ck
   apply hr.dJ;intro v vs a b
   show az _ _ (sL vs (lH (.Name (nm x) (hd es).pos) env v)>>=λ_=>Bi ((ny (lW r es.tail) env).map (·.2)) vs) _ _ _
   exact ax (pX (zU (EP i (mU (ak (ak hc).1).1) (beq_iff_eq.mp (ak Ck).1) a λs₁ o1 jn=>ih (ak hc).2 (ak Ck).2 (i.dh o1) (b.names i o1) (nq hl) λs' o2 pB=>h s' (o1.trans o2) (jn.trans pB))))
end
section
variable{c:Cx}
section
variable{E:ae->au->Prop} {R:ug->au->Prop}
noncomputable def nE (prog:qi) (w:bF) (A:dn) (R:ug->au->Prop) (env:Env):ae->au->Prop:=D_ (aB prog w) A env λe s'=>R (.error e) s'
section
variable(prog:qi) (w:bF) (A:dn) (R:ug->au->Prop) (env:Env) (I:Nat->au->Prop) (acc:ae)
noncomputable def c4 (n:Nat) (x:ae) (tI:au):Prop:=az (aB prog w) A (call (.builtin "list.append") [acc,x]) (λ_ NG=>∃m,m<n/\I m NG) (nE prog w A R env) tI
noncomputable def c3 (elt:Expr) (n:Nat) (ok:Bool) (fZ:au):Prop:=bif ok then az (aB prog w) A (eval elt env) (c4 prog w A R env I acc n) (nE prog w A R env) fZ else∃m,m<n/\I m fZ
noncomputable def c2 (elt:Expr) (ifs:List Expr) (n:Nat) (_:Unit) (aU:au):Prop:=az (aB prog w) A (forIn ifs true λc r=>if r=true then do let ok<-vC c env (eval c env);pure (tT ok)else pure (tT r)) (c3 prog w A R env I acc elt n) (nE prog w A R env) aU
noncomputable def c1 (elt target:Expr) (ifs:List Expr) (Xu:ae) (n:Nat) (r:Option ae) (s₁:au):Prop:=match r with
 |none=>R (.ok .next) s₁
 |some v=>az (aB prog w) A (yB target Xu v) (λ_ NF=>az (aB prog w) A (lH target env v) (c2 prog w A R env I acc elt ifs n) (nE prog w A R env) NF) (nE prog w A R env) s₁
end
theorem RZ {elt target:Expr} {ifs:List Expr} {pos:Pos} {it acc:ae} (I:Nat->au->Prop)
  (turn:∀n s,I n s->az (aB prog w) A (pyNext it) (c1 prog w A R env I acc elt target ifs it n) (nE prog w A R env) s)
  (n:Nat) (h:I n s):
  uM (aB prog w) A (.compLoop (.ListComp elt [⟨target,iter,ifs,0⟩] scope pos) 0 it acc env) R s:=by
 refine codeAny_loop rfl I (λn s hI=>?_) n h
 show az _ A ((compTurn (.ListComp elt [⟨target,iter,ifs,0⟩] scope pos) 0 it acc env).onRaise (λx=>do MF x env;theTreesLotGoes x)) _ _ s
 refine wpAny_noted ?_
 rw[compTurn_list]
 refine ax (wB (ax (bg (turn n s hI) (λr s₁ dT=>?_) λ_ _ h'=>h')))
 cases r with
 |none=>exact bj dT
 |some v=>
  refine ax (bg dT (λ_ NF dT=>?_) λ_ _ h'=>h')
  refine ax (bg dT (λ_ aU vz=>ax (bg vz (λok fZ yg=>?_) λ_ _ h'=>h')) λ_ _ h'=>h')
  cases ok with
  |false=>exact bj ⟨rfl,yg⟩
  |true=>
   exact ax (ax (bg (show az _ _ _ _ _ _ from yg) (λx tI W6=>ax (bg W6 (λ_ NG W7=>bj (bj ⟨rfl,W7⟩)) λ_ _ h'=>h')) λ_ _ h'=>h'))
end
theorem cM.cout {w A s s'} {d nh} {it:Nat} (i:cI d nh w A σ s) (o:aF w A σ s σ' s') (x:cM σ s.heap it xs):cM σ' s'.heap it xs:=
 x.kp o.rl.kp (λb ob hb _ _ z=>z) i.ok o.rl.new
theorem cM.but {w A s} {d nh} {it:Nat} (i:cI d nh w A σ s) (x:cM σ s.heap it xs) {a:Nat} {h':Heap} (ha:∀o,s.heap.get? a=some o->∃es n,o.data=.dict es n) (hs:∀b,b≠a->∀o,s.heap.get? b=some o->h'.get? b=some o):cM σ h' it xs:=
 x.kp (S:=λb=>b=a) (l:=bG A) (Kp.y9 λb o e n=>hs b n o e) (λb ob hb nd _ z=>by subst z;obtain⟨es,n,hd⟩:=ha ob hb;exact absurd hd (nd es n)) i.ok λb z=>.inl z
theorem acW {t:MT} {it:Nat} {E:ae->au->Prop} {P:Unit->au->Prop}
  (hc:tw c.sc t=true) (hb:lI t p ρ=some bJ) (i:In c w A env ρ σ s) (hh:A.handled=none) (r:Rep s.heap (ao σ) v p) (x:cM σ s.heap it xs)
  (h:∀h' tk,cA c.sc env bJ σ h'->(∀b,b≠env.locals->∀o,s.heap.get? b=some o->h'.get? b=some o)->P () {s with heap:=h',toks:=tk}):
  az (aB pw w) A (yB (kU t te) (.ref it) v) (λ_ s'=>az (aB pw w) A (lH (kU t te) env v) P E s') E s:=by
 cases t with
 |nm y=>
  (cases hb)
  refine bj (zU (EP i (mU (ak hc).1) (beq_iff_eq.mp (ak hc).2) r λs' o hs=>?_))
  obtain⟨h',tk,rfl⟩:=o.same
  exact h h' tk o.en λb hb o e=>by rw[hs.2 b hb];exact e
 |tup l=>
  cases p<;>first|cases hb|skip
  rename_i ps
  by_cases hl:ps.length=l.length
  ·rw[show lI (.tup l) (.tup ps) ρ=some (gH ρ l ps) from if_pos hl]at hb
   (cases hb)
   apply r.jO;intro a vs ht no hr
   obtain⟨g1,g2⟩:=xh (env:=env) l (kids te)
   have hlen:=hr.length
   rw[fc]at hlen
   have go:az (aB pw w) A (lH (kU (.tup l) te) env (.ref a)) P E s:=by
    refine GX hh ht (by rw[g1,hlen,hl]) g2 λh' he=>?_
    have o2:aF w A σ s σ {s with heap:=h',toks:=s.toks}:=.keeps i.fi.cn λb o e=>he b o (jE (hU e)) e
    refine QU (ak hc).1 (ak hc).2 (i.out o2) (o2.rl.jb hr) hl λs' o3 WE=>?_
    obtain⟨h3,tk,rfl⟩:=o3.same
    exact h h3 tk o3.en λb hb o e=>by
     rw[WE.2 b hb]
     exact he b o (jE (hU e)) e
   rcases x with⟨_,l',i,zR,ps',hit,_⟩|⟨_,y,n,hit,_⟩
   ·exact adz hit go
   ·unfold yB
    exact ax (wpAny_load hit (bj go))
  ·rw[show lI (.tup l) (.tup ps) ρ=none from if_neg hl]at hb;(exact nn hb)
inductive CI (c0:Cx) (w:bF) (A:dn) (cX:Env) (σ₁:aa) (s₁:au) (t:MT) (e:ME) (bX:Option ME) (D it:Nat) (OA:af) (Q:List PV->aa->Prop) (n:Nat) (s:au):Prop
 |mk (xs acc σ jz:_) (l:n=xs.length) (p:gP c0 t e bX D OA Q xs acc σ) (d:σ D=some (.av acc)) (x:cM σ s.heap it xs) (o:aF w A σ₁ s₁ σ s) (en:cA c0.sc cX jz σ s.heap) (g:∀y,y∉lx t->get jz y=get OA y)
section
variable{cX:Env} {t:MT} {e:ME} {D it:Nat} {Q:List PV->aa->Prop} {R:ug->au->Prop}
inductive LS (c:Cx) (w:bF) (A:dn) (cX:Env) (σ₁:aa) (s₁:au) (t:MT) (it:Nat) (ρ bJ:af) (r:List PV) (σ:aa) (s:au):Prop
 |mk (o:aF w A σ₁ s₁ σ s) (x:cM σ s.heap it r) (en:cA c.sc cX bJ σ s.heap) (rel:∀y,y∉lx t->get bJ y=get ρ y)
theorem LS.mv {r:List PV} (h:LS c w A cX σ₁ s₁ t it ρ bJ r σ s) (fS:cI c.d c.nh w A σ₁ s₁) (o:aF w A σ s σ' s'):LS c w A cX σ₁ s₁ t it ρ bJ r σ' s':=
 ⟨h.1.trans o,h.2.cout (fS.out h.1) o,h.3.rl o.rl,h.4⟩
theorem LS.ci {r:List PV} (h:LS c w A cX σ₁ s₁ t it ρ bJ r σ s) (hP:gP c t e bX D ρ Q r acc σ) (hD:σ D=some (.av acc)):∃m,m<r.length+1/\CI c w A cX σ₁ s₁ t e bX D it ρ Q m s:=
 ⟨_,A2 _,r,acc,σ,bJ,rfl,hP,hD,h.2,h.1,h.3,h.4⟩
theorem Y8 {r:List PV} {y:ae} (fS:cI c.d c.nh w A σ₁ s₁) (h:LS c w A cX σ₁ s₁ t it ρ bJ r σ s) (hD:σ D=some (.av acc)) (hz:acc.length<=1000000)
  (hP:gP c t e bX D ρ Q r (acc++[q]) (upd σ D (.av (acc++[q])))) (hr:Rep s.heap (ao σ) y q):c4 pw w A R cX (CI c w A cX σ₁ s₁ t e bX D it ρ Q) (.ref D) (r.length+1) y s:=by
 obtain⟨us,eM,iF⟩:=h.1.cn.at_ _ _ hD
 have hlen:=iF.length
 replace hlen:=fc▸hlen
 refine Kw eM (λh5 hm WG=>?_) (by rw[g9];exact Lm hz hlen)
 exact(h.mv fS (ER h.1.cn hD WG.2 ⟨_,hm,by
  rw[OI]
  exact iF.append (.cons hr .nil)⟩:aF w A σ s _ {s with heap:=h5,toks:=s.toks})).ci hP (ay ..)
theorem Y7 {r:List PV} {b:Bool} (fS:cI c.d c.nh w A σ₁ s₁) (h2:ok e c.sc ee=true) (h:LS c w A cX σ₁ s₁ t it ρ bJ r σ s)
  (q:(b=true->V c e bJ σ (λq bY=>bY D=some (.av acc)/\acc.length<=1000000/\gP c t e bX D ρ Q r (acc++[q]) (upd bY D (.av (acc++[q])))) F0)/\(b=false->σ D=some (.av acc)/\gP c t e bX D ρ Q r acc σ)):
  c3 pw w A R cX (CI c w A cX σ₁ s₁ t e bX D it ρ Q) (.ref D) (mk e ee) (r.length+1) b s:=by
 cases b with
 |false=>exact h.ci (q.2 rfl).2 (q.2 rfl).1
 |true=>
  refine bg ((q.1 rfl).out w A cX ee s h2 ⟨fS.out h.1,h.3⟩) (λy tI hy=>?_) λ_ _ z=>Ol z
  obtain⟨qv,OC,⟨Vr,hz,Vw⟩,nT,o4⟩:=hy
  exact Y8 fS (h.mv fS o4) Vr hz Vw nT
theorem Y6 {r:List PV} (fS:cI c.d c.nh w A σ₁ s₁) (h2:ok e c.sc ee=true) (h3:tx bX c.sc ce=true) (h:LS c w A cX σ₁ s₁ t it ρ bJ r σ s)
  (hT:TC c bX bJ σ λb σ=>(b=true->V c e bJ σ (λq bY=>bY D=some (.av acc)/\acc.length<=1000000/\gP c t e bX D ρ Q r (acc++[q]) (upd bY D (.av (acc++[q])))) F0)/\(b=false->σ D=some (.av acc)/\gP c t e bX D ρ Q r acc σ)):
  c2 pw w A R cX (CI c w A cX σ₁ s₁ t e bX D it ρ Q) (.ref D) (mk e ee) (lX bX ce) (r.length+1) () s:=by
 refine bg (acX (E:=λ_ _=>False) ⟨fS.out h.1,h.3⟩ h3 hT) (λb fZ qz=>?_) λ_ _ z=>z.elim
 obtain⟨As,hq,o3⟩:=qz
 exact Y7 fS h2 (h.mv fS o3) hq
theorem cA.HL (x:cA sc env ρ σ h):∀ob,h.get? env.locals=some ob->∃es m,ob.data=.dict es m:=λob gX=>by
 obtain⟨_,o2,es,ep,g,gd,_⟩:=x.ns
 exact⟨_,_,(bN (g.symm.trans gX))▸gd⟩
theorem cM.MI {it:Nat} (hx:cM σ h it xs):∀ob ys m,h.get? it=some ob->ob.data≠.seq ys m:=λob ys m hb hd=>by
 obtain⟨_,oe,vs,g1,g2⟩:=hx.fields
 have e:=bN (g1.symm.trans hb)
 rw[<-e,g2]at hd;cases hd
theorem cM.vZ {c:Cx} {jz:af} {it:Nat} (hx:cM σ h it xs) (jl:cA c.sc cX jz σ h):∀b,FO cX b->b≠it:=λb f z=>by
 obtain⟨_,oe,vs,g1,g2⟩:=hx.fields
 obtain⟨ob,hb,hd⟩:=jl.gg b f
 rw[z]at hb
 have e:=bN (g1.symm.trans hb)
 rw[<-e,g2]at hd
 rcases hd with⟨_,_,hd⟩|⟨_,hd⟩<;>cases hd
theorem R9 (d:∀ob,h.get? a=some ob->∃es m,ob.data=.dict es m):∀ob ys m,h.get? a=some ob->ob.data≠.seq ys m:=λob ys m gX hd=>by
 obtain⟨es,k,gW⟩:=d ob gX
 replace hd:=gW▸hd;cases hd
theorem Y5 {jz:af} {r:List PV} (fS:cI c.d c.nh w A σ₁ s₁) (hh:A.handled=none) (h1:tw c.sc t=true) (h2:ok e c.sc ee=true) (h3:tx bX c.sc ce=true) (fC:s₁.heap.get? cX.locals=none)
  (hP:gP c t e bX D ρ Q (p::r) acc σ) (o:aF w A σ₁ s₁ σ s) (hx:cM σ s.heap it r) (jl:cA c.sc cX jz σ s.heap) (Cw:∀y,y∉lx t->get jz y=get ρ y) (hv:Rep s.heap (ao σ) v p):
  c1 pw w A R cX (CI c w A cX σ₁ s₁ t e bX D it ρ Q) (.ref D) (mk e ee) (kU t te) (lX bX ce) (.ref it) (r.length+1) (some v) s:=by
 obtain⟨bJ,hb,hT⟩:=hP
 obtain⟨afk,I1,U_,_⟩:=Bp hb jz
 obtain⟨_,_,_,U'⟩:=Bp I1 jz
 obtain⟨_,_,_,g2⟩:=Bp hb ρ
 refine acW h1 I1 ⟨fS.out o,jl⟩ hh hv hx λqy tk2 VZ pB=>?_
 obtain⟨o2,q2⟩:=o.chg (h':=qy) (t:=tk2) fS.cn.base fC (jl.i9 _ (.inl rfl)) (R9 jl.HL) pB
 refine Y6 fS h2 h3 ⟨o2,hx.but (fS.out o) jl.HL pB,VZ.weak λy p' _ hy=>?_,g2⟩ hT
 by_cases m:y∈lx t
 ·rw[<-U_ y m];exact hy
 ·rw[U' y m,Cw y m,<-g2 y m];exact hy
theorem Y9 {pos:Pos}
  (fS:cI c.d c.nh w A σ₁ s₁) (hh:A.handled=none) (h1:tw c.sc t=true) (h2:ok e c.sc ee=true) (h3:tx bX c.sc ce=true) (lK:s₁.heap.get? it=none) (fC:s₁.heap.get? cX.locals=none)
  (hI:CI c w A cX σ₁ s₁ t e bX D it ρ Q xs.length s)
  (hR:∀acc σ s jz,Q acc (del σ D)->σ D=some (.av acc)->aF w A σ₁ s₁ σ s->cA c.sc cX jz σ s.heap->R (.ok .next) s):
  uM (aB pw w) A (.compLoop (.ListComp (mk e ee) [⟨kU t te,iter,lX bX ce,0⟩] scope pos) 0 (.ref it) (.ref D) cX) R s:=by
 refine RZ (CI c w A cX σ₁ s₁ t e bX D it ρ Q) (λn s hI=>?_) xs.length hI
 obtain⟨xs,acc,σ,jz,rfl,hP,hD,hx,o,jl,Cw⟩:=hI
 refine Mx hh hx (λe0 h' hs=>?_) λp r e0 v h' tk hs hv gZ=>?_
 ·subst e0
  obtain⟨o',q⟩:=o.chg (h':=h') (t:=s.toks) fS.cn.base lK hx.fields.1 hx.MI λb hb ob e=>hs b ob hb e
  exact hR acc σ _ jz hP hD o' (jl.kept (λb f ob e=>hs b ob (hx.vZ jl b f) e) q)
 ·subst e0
  obtain⟨o',q⟩:=o.chg (h':=h') (t:=tk) fS.cn.base lK hx.fields.1 hx.MI λb hb ob e=>hs b ob hb e
  exact Y5 fS hh h1 h2 h3 fC hP o' gZ (jl.kept (λb f ob e=>hs b ob (hx.vZ jl b f) e) q) Cw hv
end
end
section
variable{c:Cx}
theorem abB:((aW cT).all λk=>!(nm k==(ie "":Str)))=true:=by fin2
theorem abA:((aW cT).all λk=>!(nm k==(".0":Str)))=true:=by fin2
noncomputable def nJ (l:List Nat):af->af
 |[]=>[]
 |(k,p)::r=>if l.contains k then nJ l r else(k,p)::nJ l r
theorem R_ {l:List Nat} {r:af}:nJ l ((k,p)::r)=if l.contains k then nJ l r else(k,p)::nJ l r:=rfl
theorem Cd {l:List Nat}:∀{ρ:af} {y:Nat},(y∈l->get (nJ l ρ) y=none)/\(y∉l->get (nJ l ρ) y=get ρ y):=λ{ρ}=>by
 induction ρ with
 |nil=>
  intro y
  exact⟨λ_=>rfl,λ_=>rfl⟩
 |cons z r cD=>
  obtain⟨k,p⟩:=z
  intro y
  obtain⟨h1,h2⟩:=@cD y
  refine aj (R_)▸?_
  by_cases hk:l.contains k=true
  ·refine aj (if_pos hk)▸?_
   refine⟨h1,λm=>?_⟩
   refine aj (h2 m)▸?_
   simp only[u1,mH]
   cases hb:bh k y with
   |true=>have:=fG hb;subst this;exact absurd (by simpa using hk) m
   |false=>rfl
  ·refine aj (if_neg hk)▸?_
   simp only[u1,mH]
   refine⟨λm=>?_,λm=>?_⟩
   ·cases hb:bh k y with
    |true=>have:=fG hb;subst this;exact absurd m (by simpa using hk)
    |false=>exact h1 m
   ·cases hb:bh k y with
    |true=>rfl
    |false=>exact h2 m
noncomputable def pE (x:Str×h_):Str×h_:=match x with|(n,k)=>if k==.free then(n,.cell)else(n,k)
theorem Xg (x:Str×h_):(pE x).1=x.1:=by
 obtain⟨n,k⟩:=x;unfold pE;dsimp only;split<;>rfl
theorem Xh (x:Str×h_):(pE x).2=if x.2==.free then .cell else x.2:=by
 obtain⟨n,k⟩:=x;unfold pE;dsimp only;split<;>rfl
theorem Y2 {x:Str}:∀{l:List (Str×h_)},(l.map pE).lookup x=(l.lookup x).map λk=>if k==.free then .cell else k:=by
 intro bD
 induction bD with
 |nil=>
  exact rfl
 |cons y r ih=>
  have e:pE y=((pE y).1,(pE y).2):=rfl
  obtain⟨n,k⟩:=y
  rw[qf,e,Xg,Xh,mq,mq]
  cases hx:x==n with
  |true=>rfl
  |false=>exact ih
theorem JF {x:Str}:(inner cs).names.lookup x=(cs.names.lookup x).map λk=>if k==.free then .cell else k:=Y2
structure wJ (sc cs:b7) (l:List Str):Prop where
 kind:cs.kind=.function
 dist:distinct (cs.names.map (·.1))=true
 loc:∀n,(n,NameKind.local)∈cs.names->n=(".0":Str)\/n∈l
 Mu:∀x∈cs.names,x.2≠.cell
 free:∀n,(n,oI)∈cs.names->sc.names.lookup n=some .cell
theorem JB {l:List Str} (h:C4 sc cs l=true):wJ sc cs l:=by
 simp only[C4,tR,beq_iff_eq,eO]at h
 obtain⟨⟨⟨h1,h2⟩,h3⟩,h4⟩:=h
 refine⟨h1,h2,λn m=>?_,λx m=>?_,λn m=>?_⟩
 ·have:=h3 _ m
  simpa using this
 ·have:=(h4 _ m).1
  simpa using this
 ·have:=(h4 _ m).2
  simpa using this
noncomputable abbrev uF (env:Env) (cs:b7) (C:Nat):Env:={newEnv cs C env.globals (jP env cs.names []) env.qual none .none (some env) oW with scope:=Er cs env}
theorem si {l:List Str} (en:cA c.sc env ρ σ h) (K:wJ c.sc cs l) {n:Str} (m:(n,oI)∈cs.names):env.kindOf n=some .cell/\∃a v,env.cells.lookup n=some a/\h.IsCell a v:=by
 have:=K.free n m
 exact⟨by show env.scope.names.lookup n=_;rw[en.names];exact this,en.cells n this⟩
theorem RY {t:MT} {dT:Heap} {C:Nat} (ht:∀x∈lx t,x<cT) (en:cA c.sc env ρ σ dT) (K:wJ c.sc cs (EV t)) (hk:∀b o,dT.get? b=some o->h.get? b=some o) (q:ew (ao σ) dT h)
  (hC:h.Ns C λx=>([]:List (Str×ae)).reverse.lookup x) (nC:¬ao σ C) (lC:1070<=C):
  cA (inner cs) (uF env cs C) (nJ (lx t) ρ) σ h:=by
 have Jh:(Er cs env).names=(inner cs).names:=by
  show cs.names.map _=cs.names.map _
  refine qd λ⟨n,k⟩ m=>?_
  by_cases qD:k=.free
  ·subst qD
   have e1:=(si en K m).1
   have e2:env.scope.kind=.function:=en.kind
   simp[e1,e2]
  ·simp[qD]
 have hl:∀x,(uF env cs C).kindOf x=(inner cs).names.lookup x:=λx=>by show(Er cs env).names.lookup x=_;rw[Jh]
 have cl:∀x a,(jP env cs.names []).lookup x=some a->(x,oI)∈cs.names/\env.cells.lookup x=some a:=λx a e=>by
  rcases RI e with⟨k,m,rfl,h2⟩|h2
  ·obtain⟨_,a',v,h3,_⟩:=si en K m
   exact⟨m,by rw[h2,h3];rfl⟩
  ·(exact nn h2)
 have fo:∀b,FO (uF env cs C) b->b=C\/FO env b:=λb f=>by
  rcases f with f|⟨x,f⟩
  ·exact .inl f
  ·exact .inr (.inr ⟨x,(cl x b f).2⟩)
 have JJ:∀x,(inner cs).names.lookup x=some .cell->(x,oI)∈cs.names:=λx e=>by
  replace e:=JF▸e
  cases hx:cs.names.lookup x with
  |none=>replace e:=hx▸e;(exact nn e)
  |some k=>
   replace e:=hx▸e
   have m:=tm hx
   by_cases hf:k=.free
   ·subst hf;exact m
   ·have:k=.cell:=by simpa[hf]using e
    exact absurd this (K.Mu _ m)
 have cellAt:∀x,(x,oI)∈cs.names->∃a v,(jP env cs.names []).lookup x=some a/\env.cells.lookup x=some a/\dT.IsCell a v:=λx m=>by
  obtain⟨a,ha⟩:=RH (env:=env) (acc:=[]) (.inl m)
  obtain⟨_,a',v,h3,h4⟩:=si en K m
  obtain⟨_,h5⟩:=cl x a ha
  replace h5:=h3▸h5;(cases h5)
  exact⟨a,v,ha,h3,h4⟩
 have Kk:∀{a v},dT.IsCell a v->h.IsCell a v:=λ⟨o,g1,g2⟩=>⟨o,hk _ _ g1,g2⟩
 refine⟨Jh,K.kind,en.glob,en.blt,λk p e iA=>?_,⟨_,hC⟩,λx e=>?_,λx y a e1 e2=>en.rT x y a (cl x a e1).2 (cl y a e2).2,λb f=>?_,λb f=>?_,λb f=>?_⟩
 ·have My:k∉lx t:=λm=>by replace e:=Cd.1 m▸e;(exact nn e)
  replace e:=Cd.2 My▸e
  have hc:(inner cs).names.lookup (nm k)=some .cell:=by
   simp only[sS,Bool.or_eq_true,beq_iff_eq]at iA
   rcases iA with iA|iA
   ·exfalso
    replace iA:=JF▸iA
    cases hx:cs.names.lookup (nm k)with
    |none=>replace iA:=hx▸iA;(exact nn iA)
    |some k'=>
     replace iA:=hx▸iA
     have m:=tm hx
     have qD:k'=.local:=by
      by_cases hf:k'=.free
      ·subst hf;simp at iA
      ·simpa[hf]using iA
     subst qD
     have klt:sS c.sc (nm k)=true->k<cT:=λz=>(en.vars k p e z).1
     have Hc:¬k<cT->nm k=ie "":=λbr=>by
      unfold nm
      have h2:qT.length=cT:=beq_iff_eq.mp (gO.mp MB).2
      rw[be,List.getElem?_eq_none (by lia)];rfl
     rcases K.loc _ m with h0|h0
     ·by_cases br:k<cT
      ·have:=eO.mp abA k (hZ.mpr br)
       replace this:=h0▸this;simp at this
      ·replace h0:=Hc br▸h0;exact absurd h0 (by decide)
     ·have hm:∃x∈lx t,nm x=nm k:=by
       cases t with
       |nm x=>exact⟨x,.head _,(oG.mp h0).symm⟩
       |tup l=>exact gS.mp h0
      obtain⟨x,hx,ex⟩:=hm
      by_cases br:k<cT
      ·exact My (D8 (ht x hx) br ex▸hx)
      ·have:=eO.mp abB x (hZ.mpr (ht x hx))
       rw[ex,Hc br]at this;simp at this
   ·exact iA
  have m:=JJ _ hc
  obtain⟨a,v,g1,g2,g3⟩:=cellAt _ m
  obtain⟨h1,v',h2,h3⟩:=en.vars k p e (by simp[sS,K.free _ m])
  refine⟨h1,v',.inr ⟨(hl _).trans hc,a,g1,?_⟩,h3.mono q λ_ _ _ z=>z⟩
  rcases h2 with⟨z,_⟩|⟨_,a',z1,z2⟩
  ·replace z:=(si en K m).1▸z;(cases z)
  ·replace z1:=g2▸z1;(cases z1);exact Kk z2
 ·obtain⟨a,v,g1,g2,g3⟩:=cellAt _ (JJ _ e)
  exact⟨a,v,g1,Kk g3⟩
 ·rcases fo b f with rfl|f
  ·exact nC
  ·exact en.i9 b f
 ·rcases fo b f with rfl|f
  ·exact lC
  ·exact en.nL b f
 ·rcases fo b f with rfl|f
  ·obtain⟨o,es,ep,ho,hd,_⟩:=hC
   exact⟨o,ho,.inl ⟨_,_,hd⟩⟩
  ·obtain⟨o,ho,hd⟩:=en.gg b f
   exact⟨o,hk _ _ ho,hd⟩
end
section
variable{c:Cx}
theorem abP {l:List Nat}:okN sc l=true->∀x∈l,x<cT:=by
 induction l with
 |nil=>intro _ x hx;cases hx
 |cons y r ih=>
  intro h x hx
  rcases eP.mp hx with rfl|hx
  ·exact mU (ak (ak h).1).1
  ·exact ih (ak h).2 x hx
theorem acY {t:MT} (h:tw sc t=true):∀x∈lx t,x<cT:=by
 cases t with
 |nm y=>intro x hx;refine aj (oG.mp hx)▸?_;exact mU (ak h).1
 |tup l=>exact abP (ak h).1
theorem Xv {it:Nat} {P:ae->au->Prop} {E:ae->au->Prop} (x:cM σ s.heap it xs) (h:P (.ref it) s):az (aB pw w) A (Ep (.ref it)) P E s:=by
 rcases x with⟨_,l,i,vs,ps,hit,_⟩|⟨_,y,n,hit,_⟩
 ·exact wpAny_pyIter_listiter hit h
 ·exact wpAny_pyIter_rangeiter hit h
theorem HG {aU:au} {it:Nat} {t:MT} {e:ME} {pos:Pos} {Q:List PV->aa->Prop} {E:ae->au->Prop} {RR:ae->Addr->ug->au->Prop} (hi:In c w A env ρ σ₁ s₁) (hh:A.handled=none) (K:wJ c.sc cs (EV t)) (h1:tw (inner cs) t=true) (h2:ok e (inner cs) ee=true) (h3:tx bX (inner cs) ce=true)
  (o:aF w A σ₁ s₁ σ₁ aU) (hx:cM σ₁ aU.heap it xs) (lK:s₁.heap.get? it=none)
  (hP:∀D,σ₁ D=none->gP ⟨inner cs,c.d,c.nh⟩ t e bX D ρ Q xs [] (upd σ₁ D (.av [])))
  (hR:∀D C l σ' s,Q l σ'->aF w A σ₁ s₁ σ' s->Rep s.heap (ao σ') (.ref D) (.lst l)->s₁.heap.get? C=none->¬ao σ' C->(∃m,s.heap.Ns C m)->RR (.ref D) C (.ok .next) s):
  az (aB pw w) A (newList []) (λacc fZ=>az (aB pw w) A (newFunctionEnv cs env.globals (jP env cs.names []) [] env.qual none .none (some env)) (λcX tI=>
   uM (aB pw w) A (.compStart (.ListComp (mk e ee) [⟨kU t te,iter,lX bX ce,0⟩] cs pos) 0 (.ref it) acc {cX with scope:=Er cs env}) (RR acc cX.locals) tI) E fZ) E aU:=by
 have i2:=hi.out o
 refine wA ?_ (eQ _)
 have o3:=o.trans (yY (A:=A) (vs:=[]) (l:=[]) o.cn .nil)
 have fD:s₁.heap.get? aU.heap.objs.size=none:=by
  cases q:s₁.heap.get? aU.heap.objs.size with
  |none=>rfl
  |some ob=>
   by_cases z:ao σ₁ aU.heap.objs.size
   ·obtain⟨_,y⟩:=k_ o.cn z;exact absurd (hU y) (eI _)
   ·obtain⟨_,y⟩:=o.rl.kp.alive q z;exact absurd (hU y) (eI _)
 have nD:σ₁ aU.heap.objs.size=none:=qU (kZ o.cn)
 have Ju:cM (upd σ₁ aU.heap.objs.size (.av [])) (aU.heap.push {cls:=.type "list",data:=.seq ([]:List ae).toArray}) it xs:=hx.cout i2.fi (yY (A:=A) (vs:=[]) (l:=[]) o.cn .nil)
 refine wpAny_newFunctionEnv K.Mu (by intro y hy;simp at hy) (λdT CG CT=>?_) K.kind
 dsimp only at CG CT⊢
 generalize Vu:aU.heap.push {cls:=.type "list",data:=.seq ([]:List ae).toArray}=H2 at CG CT Ju⊢
 have pP:aF w A σ₁ s₁ (upd σ₁ aU.heap.objs.size (.av [])) {aU with heap:=H2}:=by refine(Vu)▸?_;exact o3
 have keep:∀b ob,H2.get? b=some ob->dT.get? b=some ob:=λb ob eb=>CT.extBut b ob (jE (hU eb)) (tV _ eb)
 have o4:aF w A σ₁ s₁ (upd σ₁ aU.heap.objs.size (.av [])) {aU with heap:=dT,toks:=aU.toks+([]:List (Str×ae)).length}:=pP.trans (.keeps pP.cn keep)
 have i3:=hi.out pP
 have nC:¬ao (upd σ₁ aU.heap.objs.size (.av [])) H2.objs.size:=kZ pP.cn
 have fC:s₁.heap.get? H2.objs.size=none:=by
  cases q:s₁.heap.get? H2.objs.size with
  |none=>rfl
  |some ob=>
   by_cases z:ao σ₁ H2.objs.size
   ·exact absurd (pP.rl.old _ z) nC
   ·obtain⟨_,y⟩:=pP.rl.kp.alive q z;exact absurd (hU y) (eI _)
 have Jv:=Ju.cout i3.fi (.keeps (s:={aU with heap:=H2}) (t:=aU.toks+([]:List (Str×ae)).length) pP.cn keep)
 have q4:ew (ao (upd σ₁ aU.heap.objs.size (.av []))) H2 dT:=λb ob _ _ eb _ _=>⟨ob.slots,keep b ob eb⟩
 have Sb:cA (inner cs) (uF env cs H2.objs.size) (nJ (lx t) ρ) (upd σ₁ aU.heap.objs.size (.av [])) dT:=RY (acY h1) i3.en K keep q4 CG nC (xj pP.cn.base)
 have loop:uM (aB pw w) A (.compLoop (.ListComp (mk e ee) [⟨kU t te,iter,lX bX ce,0⟩] cs pos) 0 (.ref it) (.ref aU.heap.objs.size) (uF env cs H2.objs.size)) (RR (.ref aU.heap.objs.size) H2.objs.size) {aU with heap:=dT,toks:=aU.toks+([]:List (Str×ae)).length}:=by
  refine Y9 (c:=⟨inner cs,c.d,c.nh⟩) (σ₁:=σ₁) (s₁:=s₁) (D:=aU.heap.objs.size) (ρ:=ρ) (Q:=Q) (xs:=xs) hi.fi hh h1 h2 h3 lK fC ⟨xs,[],_,_,rfl,hP _ nD,ay ..,Jv,o4,Sb,λy m=>Cd.2 m⟩ λacc σ' s jz hq hD oo jl=>?_
  obtain⟨of,rf⟩:=freeze oo hD (λz=>by obtain⟨_,y⟩:=k_ hi.fi.cn z;rw[fD]at y;(exact nn y))
  exact hR _ _ acc _ s hq of rf fC (λz=>jl.i9 _ (.inl rfl) (zh z)) jl.ns
 exact codeAny_compStart_list loop (Xv Jv loop)
inductive Qy (w:bF) (A:dn) (σ₀:aa) (s:au) (K:List PV->aa->Prop) (v:ae) (aU:au):Prop
 |mk (it xs σ₁ sb:_) (e:v=.ref it) (k:K xs σ₁) (o1:aF w A σ₀ s σ₁ sb) (o2:aF w A σ₁ sb σ₁ aU) (n:sb.heap.get? it=none) (x:cM σ₁ aU.heap it xs)
structure Src (c:Cx) (m:ME) (ρ:af) (σ:aa) (K:List PV->aa->Prop) (X:Ex->aa->Prop):Prop where
 intro::
 out:∀w A env e s,A.handled=none->ok m c.sc e=true->In c w A env ρ σ s->
 az (aB pw w) A (eval (mk m e) env) (λx s₁=>az (aB pw w) A (Ep x) (Qy w A σ s K) (λ_ _=>False) s₁) (d8 w A σ s X) s
theorem oQ {K:List PV->aa->Prop} (h:V c m ρ σ (λp σ₁=>∃xs,p=.lst xs/\K xs σ₁) X):Src c m ρ σ K X:=.intro λw A env e s hh hc i=>by
 refine h.run (here i) hc i λp σ₁ v s₁ hp hr _ o1 _=>?_
 obtain⟨xs,rfl,hk⟩:=hp
 refine bg (JK (E:=λ_ _=>False) o1.cn hr) (λv' aU pC=>?_) λ_ _ z=>z
 obtain⟨it,rfl,hit,x,o2⟩:=pC
 exact⟨it,xs,σ₁,s₁,rfl,hk,o1,o2,hit,x⟩
theorem xd {K:List PV->aa->Prop} (h:V c m ρ σ (λp σ₁=>∃n,p=.int n/\n<=1000000000/\-1000000000<=n/\K ((aW n.toNat).map λ(k:Nat)=>PV.int k) σ₁) X):Src c (.cb 8 [m]) ρ σ K X:=.intro λw A env e s hh hc i=>by
 have F:=Bj (show findB uv 8=some (.type "range") from rfl) w.params
 refine tS (BB i (ak hc).1 F.1 F.2.1 (BC F.2.2 ((xe h).run (here i) (ak hc).2 i λps σ₁ vs s₁ gE hr _ o1 _=>?_)))
 obtain⟨p,rfl,n,rfl,hz,hl,hk⟩:=gE
 apply hr.dJ;intro v vs a b'
 apply b'.eS
 refine bg (JL (E:=λ_ _=>False) o1.cn hz hl a) (λv' aU pC=>?_) λ_ _ z=>z.elim
 refine bg pC (λv'' fZ CY=>?_) λ_ _ z=>z.elim
 obtain⟨it,rfl,hit,x,o2⟩:=CY
 exact⟨it,_,σ₁,s₁,rfl,hk,o1,o2,hit,x⟩
theorem KG:∀{l:List (Str×h_)},distinct (l.map (·.1))=true->∀{n:Str} {k:h_},(n,k)∈l->l.lookup n=some k:=λ{l}=>by
 induction l with
 |nil=>
  intro _ _ _ m
  exact((lB m).elim)
 |cons y r cD=>
  obtain⟨x,k'⟩:=y
  intro h n k m
  rw[qf,R7,tR,Ay,List.contains_eq_mem,decide_eq_false_iff_not]at h
  rw[mq]
  rcases eP.mp m with e|m'
  ·cases e;rw[beq_self_eq_true]
  ·have jW:(n==x)=false:=by
    rw[beq_eq_false_iff_ne]
    intro e
    subst e
    exact h.1 (gS.mpr ⟨(n,k),m',rfl⟩)
   rw[jW]
   exact cD h.2 m'
noncomputable abbrev Ig (c:Cx) (t:MT) (e:ME) (bX:Option ME) (ρ:af) (Q:PV->aa->Prop):List PV->aa->Prop:=λxs σ₁=>∀D sc,σ₁ D=none->gP ⟨sc,c.d,c.nh⟩ t e bX D ρ (λl σ'=>Q (.lst l) σ') xs [] (upd σ₁ D (.av []))
theorem oR {e:ME} {t:MT} {src:ME} (hn:c.nh=true) (h:Src c src ρ σ (Ig c t e bX ρ Q) X):V c (.cp e t src bX) ρ σ Q X:=.intro λw A env ee s hc hi=>by
 have a5:=ak hc
 have a4:=ak a5.1
 have a3:=ak a4.1
 have a2:=ak a3.1
 have K:=JB a2.1
 have hh:=hi.fi.hd hn
 show az _ _ (eval (.ListComp (mk e (bE ee)) [⟨kU t (dy ee),mk src (n4 ee),lX bX (s8 ee),0⟩] (mE ee) ee.pos) env) _ _ _
 rw[eval_ListComp]
 refine adx (use:=none) rfl (λx=>yV src _ env x) (Hu λn k m hk=>by subst hk;obtain⟨_,a,_,ha,_⟩:=si hi.en K m;exact⟨a,ha⟩) K.kind (λx m hx=>by obtain⟨n,k⟩:=x;cases hx;exact KG K.dist m) ?_
 refine bg (h.out w A env _ s hh a2.2 hi) (λx s₁ hx=>bg hx (λv aU hv=>?_) λ_ _ z=>z.elim) λ_ _ z=>z
 obtain⟨it,xs,σ₁,sb,rfl,hk,o1,o2,lK,hit⟩:=hv
 refine HG (hi.out o1) hh K a3.2 a4.2 a5.2 o2 hit lK (λD hD=>hk D _ hD) λD C l σ' s' hq oo hr fC nC px=>?_
 obtain⟨m,hm⟩:=px
 refine⟨m,hm,λh' hs=>?_⟩
 obtain⟨o3,q3⟩:=oo.chg (h':=h') (t:=s'.toks) (hi.out o1).fi.cn.base fC nC (λob ys n gX hd=>by obtain⟨o9,es,ep,g,gd,_⟩:=hm;replace gX:=g▸gX;cases gX;replace hd:=gd▸hd;cases hd) λb hb ob e=>by rw[hs.2 b hb];exact e
 exact dA hq (hr.mono q3 λ_ _ _ z=>z) (o1.trans o3)
theorem bw.chg {w A env s cu σ'} (o:bw c w A env σ s ρ' σ' cu) (b:(KF w.params).In s.heap) {a:Nat} (fa:s.heap.get? a=none) (na:¬ao σ' a) (nf:¬FO env a) (nd:∀ob xs n,cu.heap.get? a=some ob->ob.data≠.seq xs n) {h':Heap} {t:Nat}
  (hs:∀b,b≠a->∀o,cu.heap.get? b=some o->h'.get? b=some o) (nl:∀e∈bG A,e.frame≠some a):bw c w A env σ s ρ' σ' {cu with heap:=h',toks:=t}:=by
 have q:ew (ao σ') cu.heap h':=λx ob xs n e d _=>⟨ob.slots,hs x (λz=>by subst z;exact nd ob xs n e d) ob e⟩
 have ne:∀x ob,s.heap.get? x=some ob->x≠a:=λx ob e z=>by rw[z,fa]at e;(exact nn e)
 refine⟨?_,o.cn.keep (λx ob e=>hs x (ne x ob (b x ob e)) ob (o.cn.base x ob e)) (λx ob e z=>⟨ob.slots,hs x (λy=>na (y▸z)) ob e⟩) q,o.en.kept (λx f ob e=>hs x (λy=>nf (y▸f)) ob e) q,λeK m=>?_,⟨λx ob e n=>?_,o.rl.new,o.rl.old,λx f z=>o.rl.fo x f (by
  cases q:cu.heap.get? x with
  |none=>rfl
  |some ob=>rw[show h'.get? x=some ob from hs x (λy=>nf (y▸f)) ob q]at z;(cases z))⟩⟩
 ·exact tD o.same
 ·obtain⟨g1,L,oL,g2,g3,g4,g5,g6⟩:=o.ok eK m
  exact⟨g1,L,oL,g2,hs L (λz=>nl eK m (by rw[g2,z])) _ g3,g4,g5,g6⟩
 ·obtain⟨sl,g,r⟩:=o.rl.kp x ob e n
  exact⟨sl,hs x (ne x ob e) _ g,r⟩
theorem ui {e:ME} {t:MT} {src:ME} {X:Ex->af->aa->Prop} (hn:c.nh=true)
  (h:Src c src ρ σ (Ig c t e bX ρ (B9 ρ x N')) (xa X ρ)):SV c (.asg (.nm x) (.cp e t src bX)) ρ σ N' R X:=.intro λw A env st s hc hi tp=>by
 have h3:=(ak hc).2
 have lL:=ak (ak hc).1
 have hx:=mU lL.1
 have h2:=lL.2
 obtain⟨b,hb⟩:∃b,EU (.ListComp (mk e (bE (b5 st))) [⟨kU t (dy (b5 st)),mk src (n4 (b5 st)),lX bX (s8 (b5 st)),0⟩] (mE (b5 st)) (b5 st).pos) (some (.Name (nm x) (kg st).pos)) st.pos.line env=pure b:=⟨_,rfl⟩
 cases b with
 |false=>exact adq ((oR hn h).st hi (here hi) h3 hi λp σ₁ v s₁ hp hr _ o1 i1=>tF i1 hx h2 hr λs' o2=>lq hp ((o1.dh hi).trans o2)) hb
 |true=>
  have a5:=ak h3
  have a4:=ak a5.1
  have a3:=ak a4.1
  have a2:=ak a3.1
  have K:=JB a2.1
  have hh:=hi.fi.hd hn
  show az _ _ (exec (.Assign [.Name (nm x) (kg st).pos] (.ListComp (mk e (bE (b5 st))) [⟨kU t (dy (b5 st)),mk src (n4 (b5 st)),lX bX (s8 (b5 st)),0⟩] (mE (b5 st)) (b5 st).pos) st.pos) env) _ _ _
  refine aj (exec_Assign_Name_used _ _ _ _ hb)▸?_
  refine ax (wB (ax ?_))
  show az _ A (do let _<-comprehension (.ListComp (mk e (bE (b5 st))) [⟨kU t (dy (b5 st)),mk src (n4 (b5 st)),lX bX (s8 (b5 st)),0⟩] (mE (b5 st)) (b5 st).pos) (mE (b5 st)) env _ (newList []) false (eval (mk src (n4 (b5 st))) env) (some (lH (.Name (nm x) (kg st).pos) env))) _ _ s
  refine ax (bg (adx (use:=some (lH (.Name (nm x) (kg st).pos) env)) (Q:=λ_ s'=>eu c w A env σ s N' R .next s') (E:=cW c w A env σ s X) rfl (λx=>yV src _ env x) (Hu λn k m hk=>by subst hk;obtain⟨_,a,_,ha,_⟩:=si hi.en K m;exact⟨a,ha⟩) K.kind (λx m hx=>by obtain⟨n,k⟩:=x;(cases hx);exact KG K.dist m) ?_) ?_ λ_ _ z=>z)
  ·refine bg (h.out w A env _ s hh a2.2 hi) (λy s₁ gZ=>bg gZ (λv aU hv=>?_) λ_ _ z=>z.elim) λ_ _ z=>z.sx hi
   obtain⟨it,xs,σ₁,sb,rfl,hk,o1,o2,lK,hit⟩:=hv
   refine HG (hi.out o1) hh K a3.2 a4.2 a5.2 o2 hit lK (λD hD=>hk D _ hD) λD C l σ' s' hq oo hr fC nC px=>?_
   obtain⟨m,hm⟩:=px
   have Eh:=o1.trans oo
   have B2:s.heap.get? C=none:=by
    cases q:s.heap.get? C with
    |none=>rfl
    |some ob=>
     by_cases z:ao σ C
     ·exact absurd (Eh.rl.old _ z) nC
     ·obtain⟨_,y⟩:=o1.rl.kp.alive q z;replace y:=fC▸y;(exact nn y)
   have nf:¬FO env C:=λf=>by obtain⟨ob,gX,_⟩:=hi.en.gg C f;replace gX:=B2▸gX;(exact nn gX)
   have nl:∀e∈bG A,e.frame≠some C:=λe' m' z=>by
    obtain⟨_,L,oL,g2,g3,_⟩:=hi.fi.ok e' m'
    replace z:=g2▸z;(cases z)
    replace g3:=B2▸g3;(exact nn g3)
   show az (aB pw w) A (lH (.Name (nm x) (kg st).pos) env (.ref D)) _ _ s'
   refine zU (tF (hi.out Eh) hx h2 hr λcu o3=>?_)
   obtain⟨o9,es,ep,g,gd,gr⟩:=hm
   obtain⟨sl,gC,_⟩:=o3.rl.kp C o9 g λz=>z.elim nC nf
   exact⟨m,⟨_,es,ep,gC,gd,gr⟩,λh' hs=>lq hq (((Eh.dh hi).trans o3).chg (h':=h') (t:=cu.toks) hi.fi.cn.base B2 nC nf (λob ys n gX hd=>by replace gX:=gC▸gX;(cases gX);replace hd:=gd▸hd;(cases hd)) (λb hb ob e=>by refine aj (hs.2 b hb)▸?_;exact e) nl)⟩
  ·intro _ s' lP
   exact bj (bj lP)
end
section
theorem UR:aN 113 (Head.top 19) [0,1,2,3] [.ite (.cmp .Lt (.v 1) (.int 0)) [.rs 4 [.fs [.str,.v 1]]] [],.asg (.nm 5) (.int 0),.asg (.nm 6) (.int 0),.fw (.nm 7) (.cb 8 [.v 2]) [.ite (.cmp .GtE (.v 1) (.cb 9 [.v 0])) [.rs 4 [.str]] [],.asg (.nm 10) (.idx (.v 0) (.v 1)),.aug (.nm 1) .Add (.int 1),.aug (.nm 5) .BitOr (.bin .LShift (.bin .BitAnd (.v 10) (.int 127)) (.v 6)),.ite (.cmp .Lt (.v 10) (.int 128)) [.ite (.cmp .Gt (.v 5) (.v 3)) [.rs 11 [.fs [.str,.v 5,.str,.v 3]]] [],.ret (some (.tup [.v 5,.v 1]))] [],.aug (.nm 6) .Add (.int 7)],.rs 11 [.fs [.str,.v 2,.str]]]:=.mk "read_groups" "raftkeep.octets" 312 112 (by fin2)
theorem IC:aN 120 (Head.top 20) [0,1] [.ite (.an [.cmp .GtE (.v 1) (.int 0),.cmp .Lt (.v 1) (.cb 9 [.v 0]),.cmp .Lt (.idx (.v 0) (.v 1)) (.int 128)]) [.ret (some (.tup [.idx (.v 0) (.v 1),.bin .Add (.v 1) (.int 1)]))] [],.ret (some (.cf 13 [.v 0,.v 1,.int 10,.g 12]))]:=.mk "read_varint" "raftkeep.octets" 312 119 (by fin2)
theorem ID:aN 127 (Head.top 21) [0,1] [.ite (.an [.cmp .GtE (.v 1) (.int 0),.cmp .Lt (.v 1) (.cb 9 [.v 0]),.cmp .Lt (.idx (.v 0) (.v 1)) (.int 128)]) [.ret (some (.tup [.idx (.v 0) (.v 1),.bin .Add (.v 1) (.int 1)]))] [],.ret (some (.cf 13 [.v 0,.v 1,.int 5,.g 14]))]:=.mk "read_varint32" "raftkeep.octets" 312 126 (by fin2)
theorem UO:aN 134 (Head.top 22) [0,1] [.ite (.or [.cmp .Lt (.v 1) (.int 0),.cmp .Gt (.bin .Add (.v 1) (.int 4)) (.cb 9 [.v 0])]) [.rs 4 [.fs [.str,.v 1]]] [],.ret (some (.bin .BitOr (.bin .BitOr (.bin .BitOr (.idx (.v 0) (.v 1)) (.bin .LShift (.idx (.v 0) (.bin .Add (.v 1) (.int 1))) (.int 8))) (.bin .LShift (.idx (.v 0) (.bin .Add (.v 1) (.int 2))) (.int 16))) (.bin .LShift (.idx (.v 0) (.bin .Add (.v 1) (.int 3))) (.int 24))))]:=.mk "read_fixed32" "raftkeep.octets" 312 133 (by fin2)
theorem UP:aN 141 (Head.top 23) [0,1] [.ite (.or [.cmp .Lt (.v 1) (.int 0),.cmp .Gt (.bin .Add (.v 1) (.int 8)) (.cb 9 [.v 0])]) [.rs 4 [.fs [.str,.v 1]]] [],.ret (some (.bin .BitOr (.cf 15 [.v 0,.v 1]) (.bin .LShift (.cf 15 [.v 0,.bin .Add (.v 1) (.int 4)]) (.int 32))))]:=.mk "read_fixed64" "raftkeep.octets" 312 140 (by fin2)
theorem Ul:aN 170 (Head.top 27) [16,0] [.ite (.cmp .Eq (.v 16) (.g 17)) [.ret (some (.cf 19 [.cf 18 [.v 0]]))] [],.ite (.cmp .Eq (.v 16) (.g 20)) [.ret (some (.bin .BitAnd (.bin .Add (.bin .Add (.bin .Mult (.cb 21 [.v 0]) (.int 251)) (.bin .Mult (.cb 9 [.v 0]) (.int 65537))) (.int 7)) (.g 14)))] [],.rs 22 [.fs [.str,.v 16]]]:=.mk "checksum" "raftkeep.octets" 312 169 (by fin2)
theorem Uk:aN 177 (Head.top 28) [0] [.asg (.nm 23) (.cb 9 [.v 0]),.asg (.nm 24) (.bin .BitXor (.g 25) (.bin .BitAnd (.bin .Mult (.v 23) (.g 26)) (.g 14))),.asg (.nm 1) (.int 0),.dj (.cmp .LtE (.bin .Add (.v 1) (.int 4)) (.v 23)) [.asg (.nm 24) (.bin .BitAnd (.bin .Mult (.bin .Add (.v 24) (.cf 15 [.v 0,.v 1])) (.g 26)) (.g 14)),.aug (.nm 24) .BitXor (.bin .RShift (.v 24) (.int 16)),.aug (.nm 1) .Add (.int 4)],.asg (.nm 27) (.bin .Sub (.v 23) (.v 1)),.ite (.cmp .Gt (.v 27) (.int 0)) [.ite (.cmp .Eq (.v 27) (.int 3)) [.aug (.nm 24) .Add (.bin .LShift (.idx (.v 0) (.bin .Add (.v 1) (.int 2))) (.int 16))] [],.ite (.cmp .GtE (.v 27) (.int 2)) [.aug (.nm 24) .Add (.bin .LShift (.idx (.v 0) (.bin .Add (.v 1) (.int 1))) (.int 8))] [],.asg (.nm 24) (.bin .BitAnd (.bin .Mult (.bin .Add (.v 24) (.idx (.v 0) (.v 1))) (.g 26)) (.g 14)),.aug (.nm 24) .BitXor (.bin .RShift (.v 24) (.g 28))] [],.ret (some (.v 24))]:=.mk "bloom_hash" "raftkeep.octets" 312 176 (by fin2)
theorem UT:aN 184 (Head.top 32) [29] [.asg (.nm 30) (.cf 31 [.v 29]),.asg (.nm 32) (.cf 33 [.v 29]),.asg (.nm 16) (.bin .BitAnd (.v 32) (.int 255)),.ite (.cmp .Gt (.v 16) (.g 34)) [.rs 11 [.fs [.str,.v 16]]] [],.ret (some (.tup [.v 30,.bin .RShift (.v 32) (.int 8),.v 16]))]:=.mk "split_ikey" "raftkeep.keys" 426 183 (by fin2)
theorem UW:aN 191 (Head.top 33) [29] [.ite (.cmp .Lt (.cb 9 [.v 29]) (.g 35)) [.rs 11 [.fs [.str,.cb 9 [.v 29],.str]]] [],.ret (some (.cb 36 [.e9 (.v 29) none (some (.bin .Sub (.cb 9 [.v 29]) (.g 35)))]))]:=.mk "user_of" "raftkeep.keys" 426 190 (by fin2)
theorem UU:aN 198 (Head.top 34) [29] [.ite (.cmp .Lt (.cb 9 [.v 29]) (.g 35)) [.rs 11 [.fs [.str,.cb 9 [.v 29],.str]]] [],.ret (some (.cf 37 [.v 29,.bin .Sub (.cb 9 [.v 29]) (.g 35)]))]:=.mk "tag_of" "raftkeep.keys" 426 197 (by fin2)
theorem TQ:aN 212 (Head.met 35 0) [38,39,40] [.ite (.cmp .Lt (.v 39) (.v 40)) [.ret (some (.neg 1))] [],.ite (.cmp .Gt (.v 39) (.v 40)) [.ret (some (.int 1))] [],.ret (some (.int 0))]:=.mk "Order.compare" "raftkeep.keys" 426 211 (by fin2)
theorem TM:aN 287 (Head.met 37 0) [38] [.asg (.at (.v 38) 41) (.cc 42 [])]:=.mk "InternalOrder.__init__" "raftkeep.keys" 426 286 (by fin2)
theorem TN:aN 294 (Head.met 37 1) [38,39,40] [.asg (.nm 43) (.cm (.at (.v 38) 41) 44 [.cf 31 [.v 39],.cf 31 [.v 40]]),.ite (.cmp .NotEq (.v 43) (.int 0)) [.ret (some (.v 43))] [],.asg (.nm 45) (.cf 33 [.v 39]),.asg (.nm 46) (.cf 33 [.v 40]),.ite (.cmp .Gt (.v 45) (.v 46)) [.ret (some (.neg 1))] [],.ite (.cmp .Lt (.v 45) (.v 46)) [.ret (some (.int 1))] [],.ret (some (.int 0))]:=.mk "InternalOrder.compare" "raftkeep.keys" 426 293 (by fin2)
theorem TO:aN 341 (Head.met 38 0) [38] [.asg (.at (.v 38) 47) (.g 17),.asg (.at (.v 38) 48) (.int 32768),.asg (.at (.v 38) 49) (.bool true),.asg (.at (.v 38) 50) (.bool true),.asg (.at (.v 38) 51) (.bool false),.asg (.at (.v 38) 52) (.int 4194304),.asg (.at (.v 38) 53) (.int 12),.asg (.at (.v 38) 54) (.tup [.int 1,.int 2,.int 1,.int 3,.int 1,.int 2,.int 1,.int 4]),.asg (.at (.v 38) 55) (.int 4096),.asg (.at (.v 38) 56) (.int 16),.asg (.at (.v 38) 57) (.int 10),.asg (.at (.v 38) 58) (.int 11),.asg (.at (.v 38) 59) (.int 2097152),.asg (.at (.v 38) 60) (.int 7),.asg (.at (.v 38) 61) (.int 4),.asg (.at (.v 38) 62) (.int 12),.asg (.at (.v 38) 63) (.int 10485760),.asg (.at (.v 38) 64) (.int 10),.asg (.at (.v 38) 65) (.int 2),.asg (.at (.v 38) 66) (.int 10),.asg (.at (.v 38) 67) (.int 25)]:=.mk "Options.__init__" "raftkeep.keys" 426 340 (by fin2)
theorem TP:aN 355 (Head.met 38 2) [38] [.asg (.at (.v 38) 47) (.g 20),.asg (.at (.v 38) 48) (.int 32),.asg (.at (.v 38) 52) (.int 96),.asg (.at (.v 38) 53) (.int 4),.asg (.at (.v 38) 55) (.int 48),.asg (.at (.v 38) 56) (.int 2),.asg (.at (.v 38) 57) (.int 4),.asg (.at (.v 38) 58) (.int 5),.asg (.at (.v 38) 59) (.int 128),.asg (.at (.v 38) 60) (.int 4),.asg (.at (.v 38) 61) (.int 2),.asg (.at (.v 38) 62) (.int 4),.asg (.at (.v 38) 63) (.int 256),.asg (.at (.v 38) 64) (.int 2),.ret (some (.v 38))]:=.mk "Options.tiny" "raftkeep.keys" 426 354 (by fin2)
theorem Tz:aN 376 (Head.met 45 0) [38,0,68] [.asg (.at (.v 38) 0) (.cb 36 [.v 0]),.asg (.at (.v 38) 68) (.v 68),.asg (.nm 23) (.cb 9 [.at (.v 38) 0]),.ite (.cmp .Lt (.v 23) (.int 4)) [.rs 4 [.str]] [],.asg (.nm 69) (.cf 15 [.at (.v 38) 0,.bin .Sub (.v 23) (.int 4)]),.ite (.cmp .Lt (.v 69) (.int 1)) [.rs 11 [.str]] [],.ite (.cmp .Gt (.bin .Mult (.int 4) (.bin .Add (.v 69) (.int 1))) (.v 23)) [.rs 11 [.str]] [],.asg (.at (.v 38) 70) (.bin .Sub (.v 23) (.bin .Mult (.int 4) (.bin .Add (.v 69) (.int 1)))),.asg (.at (.v 38) 71) (.n9 []),.fw (.nm 7) (.cb 8 [.v 69]) [.asg (.nm 72) (.cf 15 [.at (.v 38) 0,.bin .Add (.at (.v 38) 70) (.bin .Mult (.int 4) (.v 7))]),.ite (.cmp .Eq (.v 7) (.int 0)) [.ite (.cmp .NotEq (.v 72) (.int 0)) [.rs 11 [.str]] []] [.ite (.or [.cmp .LtE (.v 72) (.idx (.at (.v 38) 71) (.bin .Sub (.v 7) (.int 1))),.cmp .GtE (.v 72) (.at (.v 38) 70)]) [.rs 11 [.str]] []],.ex (.app (.at (.v 38) 71) (.v 72))]]:=.mk "Block.__init__" "raftkeep.blocks" 681 375 (by fin2)
theorem TB:aN 390 (Head.met 45 2) [38] [.ret (some (.cc 73 [.v 38]))]:=.mk "Block.walk" "raftkeep.blocks" 681 389 (by fin2)
theorem Iy:aN 397 (Head.met 45 3) [38,1] [.asg (.tup [74,72]) (.cf 75 [.at (.v 38) 0,.v 1]),.asg (.tup [76,72]) (.cf 75 [.at (.v 38) 0,.v 72]),.asg (.tup [77,72]) (.cf 75 [.at (.v 38) 0,.v 72]),.asg (.nm 78) (.bin .Add (.v 72) (.v 76)),.asg (.nm 79) (.bin .Add (.v 78) (.v 77)),.ite (.cmp .Gt (.v 79) (.at (.v 38) 70)) [.rs 11 [.str]] [],.ret (some (.tup [.v 74,.v 72,.v 78,.v 79]))]:=.mk "Block.entry_at" "raftkeep.blocks" 681 396 (by fin2)
theorem TA:aN 404 (Head.met 45 4) [38,7] [.asg (.tup [74,72,78,79]) (.cm (.v 38) 80 [.idx (.at (.v 38) 71) (.v 7)]),.ite (.cmp .NotEq (.v 74) (.int 0)) [.rs 11 [.str]] [],.ret (some (.e9 (.at (.v 38) 0) (some (.v 72)) (some (.v 78))))]:=.mk "Block.restart_key" "raftkeep.blocks" 681 403 (by fin2)
theorem Th:aN 425 (Head.met 46 0) [38,81] [.asg (.at (.v 38) 81) (.v 81),.asg (.at (.v 38) 68) (.at (.v 81) 68),.asg (.at (.v 38) 82) (.at (.v 81) 70),.asg (.at (.v 38) 83) (.at (.v 81) 70),.asg (.at (.v 38) 7) (.int 0),.asg (.at (.v 38) 84) (.aQ []),.asg (.at (.v 38) 85) (.int 0)]:=.mk "BlockIter.__init__" "raftkeep.blocks" 681 424 (by fin2)
theorem To:aN 432 (Head.met 46 1) [38] [.asg (.at (.v 38) 82) (.at (.at (.v 38) 81) 70),.asg (.at (.v 38) 83) (.at (.at (.v 38) 81) 70),.asg (.at (.v 38) 84) (.aQ [])]:=.mk "BlockIter.lose" "raftkeep.blocks" 681 431 (by fin2)
theorem Tq:aN 439 (Head.met 46 2) [38] [.ite (.cmp .GtE (.at (.v 38) 82) (.at (.at (.v 38) 81) 70)) [.rs 86 [.str]] []]:=.mk "BlockIter.need" "raftkeep.blocks" 681 438 (by fin2)
theorem Tw:aN 446 (Head.met 46 3) [38] [.ret (some (.cmp .Lt (.at (.v 38) 82) (.at (.at (.v 38) 81) 70)))]:=.mk "BlockIter.valid" "raftkeep.blocks" 681 445 (by fin2)
theorem Tn:aN 453 (Head.met 46 4) [38] [.ex (.cm (.v 38) 87 []),.ret (some (.at (.v 38) 84))]:=.mk "BlockIter.key" "raftkeep.blocks" 681 452 (by fin2)
theorem Tx:aN 460 (Head.met 46 5) [38] [.ex (.cm (.v 38) 87 []),.ret (some (.e9 (.at (.at (.v 38) 81) 0) (some (.at (.v 38) 85)) (some (.at (.v 38) 83))))]:=.mk "BlockIter.value" "raftkeep.blocks" 681 459 (by fin2)
theorem Tj:aN 467 (Head.met 46 6) [38,7] [.ex (.cm (.v 38) 88 []),.asg (.at (.v 38) 7) (.v 7),.asg (.at (.v 38) 83) (.idx (.at (.at (.v 38) 81) 71) (.v 7))]:=.mk "BlockIter.go_restart" "raftkeep.blocks" 681 466 (by fin2)
theorem B8:aN 474 (Head.met 46 7) [38] [.asg (.nm 89) (.at (.v 38) 83),.asg (.nm 90) (.at (.v 38) 84),.ex (.cm (.v 38) 88 []),.ite (.cmp .GtE (.v 89) (.at (.at (.v 38) 81) 70)) [.ret (some (.bool false))] [],.asg (.tup [74,72,78,79]) (.cm (.at (.v 38) 81) 80 [.v 89]),.ite (.cmp .Gt (.v 74) (.cb 9 [.v 90])) [.rs 11 [.str]] [],.asg (.nm 71) (.at (.at (.v 38) 81) 71),.dj (.an [.cmp .Lt (.bin .Add (.at (.v 38) 7) (.int 1)) (.cb 9 [.v 71]),.cmp .LtE (.idx (.v 71) (.bin .Add (.at (.v 38) 7) (.int 1))) (.v 89)]) [.aug (.at (.v 38) 7) .Add (.int 1)],.ite (.an [.cmp .Eq (.v 89) (.idx (.v 71) (.at (.v 38) 7)),.cmp .NotEq (.v 74) (.int 0)]) [.rs 11 [.str]] [],.ite (.an [.cmp .Lt (.bin .Add (.at (.v 38) 7) (.int 1)) (.cb 9 [.v 71]),.cmp .Lt (.idx (.v 71) (.bin .Add (.at (.v 38) 7) (.int 1))) (.v 79)]) [.rs 11 [.str]] [],.asg (.at (.v 38) 84) (.bin .Add (.e9 (.v 90) none (some (.v 74))) (.e9 (.at (.at (.v 38) 81) 0) (some (.v 72)) (some (.v 78)))),.asg (.at (.v 38) 85) (.v 78),.asg (.at (.v 38) 82) (.v 89),.asg (.at (.v 38) 83) (.v 79),.ret (some (.bool true))]:=.mk "BlockIter.parse" "raftkeep.blocks" 681 473 (by fin2)
theorem Tt:aN 481 (Head.met 46 8) [38] [.ex (.cm (.v 38) 91 [.int 0]),.ex (.cm (.v 38) 92 [])]:=.mk "BlockIter.seek_first" "raftkeep.blocks" 681 480 (by fin2)
theorem Tu:aN 488 (Head.met 46 9) [38] [.ex (.cm (.v 38) 91 [.bin .Sub (.cb 9 [.at (.at (.v 38) 81) 71]) (.int 1)]),.ex (.cm (.v 38) 92 []),.dj (.an [.cm (.v 38) 93 [],.cmp .Lt (.at (.v 38) 83) (.at (.at (.v 38) 81) 70)]) [.ex (.cm (.v 38) 92 [])]]:=.mk "BlockIter.seek_last" "raftkeep.blocks" 681 487 (by fin2)
theorem Tr:aN 495 (Head.met 46 10) [38,94] [.tr [.ex (.cm (.v 38) 95 [.v 94])] [(11,[.ex (.cm (.v 38) 88 []),.rr])]]:=.mk "BlockIter.seek" "raftkeep.blocks" 681 494 (by fin2)
theorem Tp:aN 502 (Head.met 46 11) [38,94] [.asg (.nm 96) (.int 0),.asg (.nm 97) (.bin .Sub (.cb 9 [.at (.at (.v 38) 81) 71]) (.int 1)),.asg (.nm 98) (.int 0),.asg (.nm 99) (.cm (.v 38) 93 []),.ite (.v 99) [.asg (.nm 98) (.cm (.at (.v 38) 68) 44 [.at (.v 38) 84,.v 94]),.ite (.cmp .Eq (.v 98) (.int 0)) [.ret none] [],.ite (.cmp .Lt (.v 98) (.int 0)) [.asg (.nm 96) (.at (.v 38) 7)] [.asg (.nm 97) (.at (.v 38) 7)]] [],.dj (.cmp .Lt (.v 96) (.v 97)) [.asg (.nm 100) (.bin .FloorDiv (.bin .Add (.bin .Add (.v 96) (.v 97)) (.int 1)) (.int 2)),.asg (.nm 101) (.cm (.at (.v 38) 81) 102 [.v 100]),.ite (.cmp .Lt (.cm (.at (.v 38) 68) 44 [.v 101,.v 94]) (.int 0)) [.asg (.nm 96) (.v 100)] [.asg (.nm 97) (.bin .Sub (.v 100) (.int 1))]],.ite (.no (.an [.v 99,.cmp .Lt (.v 98) (.int 0),.cmp .Eq (.v 96) (.at (.v 38) 7)])) [.ex (.cm (.v 38) 91 [.v 96])] [],.dj (.cm (.v 38) 92 []) [.ite (.cmp .GtE (.cm (.at (.v 38) 68) 44 [.at (.v 38) 84,.v 94]) (.int 0)) [.ret none] []]]:=.mk "BlockIter.narrow" "raftkeep.blocks" 681 501 (by fin2)
theorem Tv:aN 509 (Head.met 46 12) [38] [.ex (.cm (.v 38) 87 []),.ex (.cm (.v 38) 92 [])]:=.mk "BlockIter.step" "raftkeep.blocks" 681 508 (by fin2)
theorem Ti:aN 516 (Head.met 46 13) [38] [.ex (.cm (.v 38) 87 []),.asg (.nm 103) (.at (.v 38) 82),.asg (.nm 7) (.at (.v 38) 7),.dj (.cmp .GtE (.idx (.at (.at (.v 38) 81) 71) (.v 7)) (.v 103)) [.ite (.cmp .Eq (.v 7) (.int 0)) [.ex (.cm (.v 38) 88 []),.ret none] [],.aug (.nm 7) .Sub (.int 1)],.ex (.cm (.v 38) 91 [.v 7]),.ex (.cm (.v 38) 92 []),.dj (.an [.cm (.v 38) 93 [],.cmp .Lt (.at (.v 38) 83) (.v 103)]) [.ex (.cm (.v 38) 92 [])]]:=.mk "BlockIter.back" "raftkeep.blocks" 681 515 (by fin2)
theorem TL:aN 537 (Head.met 47 0) [38,104,23] [.asg (.at (.v 38) 104) (.v 104),.asg (.at (.v 38) 23) (.v 23)]:=.mk "Handle.__init__" "raftkeep.blocks" 681 536 (by fin2)
theorem US:aN 565 (Head.top 48) [0,1] [.asg (.tup [104,1]) (.cf 105 [.v 0,.v 1]),.asg (.tup [23,1]) (.cf 105 [.v 0,.v 1]),.ret (some (.tup [.cc 106 [.v 104,.v 23],.v 1]))]:=.mk "read_handle" "raftkeep.blocks" 681 564 (by fin2)
theorem UN:aN 572 (Head.top 49) [0,107,47] [.asg (.nm 79) (.bin .Add (.at (.v 107) 104) (.at (.v 107) 23)),.ite (.cmp .Gt (.bin .Add (.v 79) (.g 108)) (.cb 9 [.v 0])) [.rs 4 [.str]] [],.asg (.nm 109) (.cb 36 [.e9 (.v 0) (some (.at (.v 107) 104)) (some (.bin .Add (.v 79) (.int 1)))]),.ite (.cmp .NotEq (.cf 15 [.v 0,.bin .Add (.v 79) (.int 1)]) (.cf 110 [.v 47,.v 109])) [.rs 11 [.str]] [],.ite (.cmp .NotEq (.idx (.v 109) (.at (.v 107) 23)) (.g 111)) [.rs 11 [.str]] [],.ret (some (.e9 (.v 109) none (some (.at (.v 107) 23))))]:=.mk "open_block" "raftkeep.blocks" 681 571 (by fin2)
theorem TF:aN 586 (Head.met 50 0) [38,112] [.ite (.cmp .Lt (.v 112) (.int 1)) [.rs 22 [.str]] [],.asg (.at (.v 38) 112) (.v 112),.asg (.nm 113) (.bin .FloorDiv (.bin .Mult (.v 112) (.int 69)) (.int 100)),.ite (.cmp .Lt (.v 113) (.int 1)) [.asg (.nm 113) (.int 1)] [],.ite (.cmp .Gt (.v 113) (.g 114)) [.asg (.nm 113) (.g 114)] [],.asg (.at (.v 38) 113) (.v 113)]:=.mk "Bloom.__init__" "raftkeep.blocks" 681 585 (by fin2)
theorem TG:aN 600 (Head.met 50 2) [38,115,116] [.ite (.cmp .Lt (.cb 9 [.v 116]) (.int 2)) [.ret (some (.bool false))] [],.asg (.nm 113) (.idx (.v 116) (.bin .Sub (.cb 9 [.v 116]) (.int 1))),.ite (.cmp .Gt (.v 113) (.g 114)) [.ret (some (.bool true))] [],.asg (.nm 117) (.bin .Mult (.bin .Sub (.cb 9 [.v 116]) (.int 1)) (.int 8)),.asg (.nm 24) (.cf 118 [.v 115]),.asg (.nm 119) (.bin .BitAnd (.bin .BitOr (.bin .RShift (.v 24) (.int 17)) (.bin .LShift (.v 24) (.int 15))) (.g 120)),.fw (.nm 121) (.cb 8 [.v 113]) [.asg (.nm 72) (.bin .Mod (.v 24) (.v 117)),.ite (.cmp .Eq (.bin .BitAnd (.idx (.v 116) (.bin .FloorDiv (.v 72) (.int 8))) (.bin .LShift (.int 1) (.bin .Mod (.v 72) (.int 8)))) (.int 0)) [.ret (some (.bool false))] [],.asg (.nm 24) (.bin .BitAnd (.bin .Add (.v 24) (.v 119)) (.g 120))],.ret (some (.bool true))]:=.mk "Bloom.may_have" "raftkeep.blocks" 681 599 (by fin2)
theorem TH:aN 621 (Head.met 51 0) [38,122,0] [.asg (.at (.v 38) 122) (.v 122),.asg (.at (.v 38) 0) (.cb 36 [.v 0]),.asg (.at (.v 38) 123) (.int 0),.asg (.at (.v 38) 89) (.int 0),.asg (.at (.v 38) 69) (.int 0),.asg (.nm 23) (.cb 9 [.at (.v 38) 0]),.ite (.cmp .GtE (.v 23) (.int 5)) [.asg (.nm 89) (.cf 15 [.at (.v 38) 0,.bin .Sub (.v 23) (.int 5)]),.ite (.an [.cmp .LtE (.v 89) (.bin .Sub (.v 23) (.int 5)),.cmp .LtE (.idx (.at (.v 38) 0) (.bin .Sub (.v 23) (.int 1))) (.int 31)]) [.asg (.at (.v 38) 123) (.idx (.at (.v 38) 0) (.bin .Sub (.v 23) (.int 1))),.asg (.at (.v 38) 89) (.v 89),.asg (.at (.v 38) 69) (.bin .FloorDiv (.bin .Sub (.bin .Sub (.v 23) (.int 5)) (.v 89)) (.int 4))] []] []]:=.mk "FilterReader.__init__" "raftkeep.blocks" 681 620 (by fin2)
theorem TJ:aN 628 (Head.met 51 1) [38,104,115] [.asg (.nm 124) (.bin .RShift (.v 104) (.at (.v 38) 123)),.ite (.cmp .GtE (.v 124) (.at (.v 38) 69)) [.ret (some (.bool true))] [],.asg (.nm 72) (.bin .Add (.at (.v 38) 89) (.bin .Mult (.int 4) (.v 124))),.asg (.nm 125) (.cf 15 [.at (.v 38) 0,.v 72]),.asg (.nm 126) (.cf 15 [.at (.v 38) 0,.bin .Add (.v 72) (.int 4)]),.ite (.or [.cmp .Gt (.v 125) (.v 126),.cmp .Gt (.v 126) (.at (.v 38) 89)]) [.ret (some (.bool true))] [],.ite (.cmp .Eq (.v 125) (.v 126)) [.ret (some (.bool false))] [],.ite (.cmp .Lt (.bin .Sub (.v 126) (.v 125)) (.int 2)) [.ret (some (.bool true))] [],.ret (some (.cm (.at (.v 38) 122) 127 [.v 115,.e9 (.at (.v 38) 0) (some (.v 125)) (some (.v 126))]))]:=.mk "FilterReader.may_have" "raftkeep.blocks" 681 627 (by fin2)
theorem TK:aN 649 (Head.met 57 0) [38,128,129] [.asg (.at (.v 38) 128) (.v 128),.asg (.at (.v 38) 129) (.v 129)]:=.mk "Footer.__init__" "raftkeep.tables" 1092 648 (by fin2)
theorem UQ:aN 677 (Head.top 58) [0] [.ite (.cmp .Lt (.cb 9 [.v 0]) (.g 131)) [.rs 4 [.str]] [],.asg (.nm 132) (.cb 36 [.e9 (.v 0) (some (.bin .Sub (.cb 9 [.v 0]) (.g 131))) none]),.ite (.cmp .NotEq (.cf 37 [.v 132,.g 133]) (.g 134)) [.rs 11 [.str]] [],.asg (.nm 135) (.e9 (.v 132) none (some (.g 133))),.asg (.tup [128,1]) (.cf 136 [.v 135,.int 0]),.asg (.tup [129,1]) (.cf 136 [.v 135,.v 1]),.ite (.cmp .NotEq (.e9 (.v 135) (some (.v 1)) none) (.cb 36 [.bin .Sub (.g 133) (.v 1)])) [.rs 11 [.str]] [],.ret (some (.cc 137 [.v 128,.v 129]))]:=.mk "read_footer" "raftkeep.tables" 1092 676 (by fin2)
theorem TR:aN 691 (Head.met 59 0) [38,0,138,68] [.asg (.at (.v 38) 0) (.cb 36 [.v 0]),.asg (.at (.v 38) 138) (.v 138),.asg (.at (.v 38) 68) (.v 68),.asg (.at (.v 38) 139) (.cf 140 [.at (.v 38) 0]),.asg (.at (.v 38) 141) (.bin .Sub (.cb 9 [.at (.v 38) 0]) (.g 131)),.asg (.at (.v 38) 129) (.cc 143 [.cm (.v 38) 142 [.at (.at (.v 38) 139) 129],.v 68]),.asg (.at (.v 38) 144) .none,.asg (.nm 145) (.cc 143 [.cm (.v 38) 142 [.at (.at (.v 38) 139) 128],.cc 42 []]),.ite (.cmp .Gt (.at (.v 138) 57) (.int 0)) [.asg (.at (.v 38) 144) (.cm (.v 38) 146 [.v 145])] [],.ite (.at (.v 138) 51) [.ex (.cm (.v 38) 147 [])] []]:=.mk "Table.__init__" "raftkeep.tables" 1092 690 (by fin2)
theorem TZ:aN 698 (Head.met 59 1) [38,107] [.ite (.cmp .Gt (.bin .Add (.bin .Add (.at (.v 107) 104) (.at (.v 107) 23)) (.g 108)) (.at (.v 38) 141)) [.rs 11 [.str]] [],.ret (some (.cf 148 [.at (.v 38) 0,.v 107,.at (.at (.v 38) 138) 47]))]:=.mk "Table.read_block" "raftkeep.tables" 1092 697 (by fin2)
theorem T1:aN 705 (Head.met 59 2) [38,145] [.asg (.nm 149) (.cm (.v 145) 150 []),.ex (.cm (.v 149) 152 [.g 151]),.ite (.or [.no (.cm (.v 149) 93 []),.cmp .NotEq (.cm (.v 149) 115 []) (.g 151)]) [.ret (some .none)] [],.tr [.asg (.nm 153) (.cm (.v 38) 142 [.cm (.v 38) 155 [.cm (.v 149) 154 []]])] [(11,[.ite (.at (.at (.v 38) 138) 51) [.rr] [],.ret (some .none)])],.ret (some (.cc 157 [.cc 156 [.at (.at (.v 38) 138) 57],.v 153]))]:=.mk "Table.read_filters" "raftkeep.tables" 1092 704 (by fin2)
theorem T6:aN 712 (Head.met 59 3) [38,2] [.asg (.tup [107,1]) (.cf 136 [.v 2,.int 0]),.ite (.cmp .NotEq (.v 1) (.cb 9 [.v 2])) [.rs 11 [.str]] [],.ret (some (.v 107))]:=.mk "Table.whole_handle" "raftkeep.tables" 1092 711 (by fin2)
theorem TS:aN 719 (Head.met 59 4) [38,2] [.asg (.nm 153) (.cm (.v 38) 142 [.cm (.v 38) 155 [.v 2]]),.ret (some (.cm (.cc 143 [.v 153,.at (.v 38) 68]) 150 []))]:=.mk "Table.block_iter" "raftkeep.tables" 1092 718 (by fin2)
theorem T5:aN 726 (Head.met 59 5) [38] [.ret (some (.cc 158 [.cm (.at (.v 38) 129) 150 [],.v 38]))]:=.mk "Table.walk" "raftkeep.tables" 1092 725 (by fin2)
theorem TV:aN 733 (Head.met 59 6) [38,159] [.asg (.nm 160) (.cm (.at (.v 38) 129) 150 []),.ex (.cm (.v 160) 152 [.v 159]),.ite (.no (.cm (.v 160) 93 [])) [.ret (some .none)] [],.asg (.nm 72) (.cm (.v 160) 154 []),.ite (.cmp .IsNot (.at (.v 38) 144) .none) [.asg (.nm 107) (.cm (.v 38) 155 [.v 72]),.ite (.no (.cm (.at (.v 38) 144) 127 [.at (.v 107) 104,.cf 31 [.v 159]])) [.ret (some .none)] []] [],.asg (.nm 161) (.cm (.v 38) 162 [.v 72]),.ex (.cm (.v 161) 152 [.v 159]),.ite (.no (.cm (.v 161) 93 [])) [.ret (some .none)] [],.ret (some (.tup [.cm (.v 161) 115 [],.cm (.v 161) 154 []]))]:=.mk "Table.get" "raftkeep.tables" 1092 732 (by fin2)
theorem TY:aN 740 (Head.met 59 7) [38,159] [.asg (.nm 160) (.cm (.at (.v 38) 129) 150 []),.ex (.cm (.v 160) 152 [.v 159]),.ite (.cm (.v 160) 93 []) [.ret (some (.at (.cm (.v 38) 155 [.cm (.v 160) 154 []]) 104))] [],.ret (some (.at (.at (.at (.v 38) 139) 128) 104))]:=.mk "Table.offset_of" "raftkeep.tables" 1092 739 (by fin2)
theorem TU:aN 747 (Head.met 59 8) [38] [.asg (.nm 149) (.cm (.v 38) 150 []),.ex (.cm (.v 149) 163 []),.ite (.no (.cm (.v 149) 93 [])) [.rs 164 [.str]] [],.ret (some (.cm (.v 149) 115 []))]:=.mk "Table.first_key" "raftkeep.tables" 1092 746 (by fin2)
theorem TX:aN 754 (Head.met 59 9) [38] [.asg (.nm 149) (.cm (.v 38) 150 []),.ex (.cm (.v 149) 165 []),.ite (.no (.cm (.v 149) 93 [])) [.rs 164 [.str]] [],.ret (some (.cm (.v 149) 115 []))]:=.mk "Table.last_key" "raftkeep.tables" 1092 753 (by fin2)
theorem T2:aN 761 (Head.met 59 10) [38] [.asg (.nm 79) (.int 0),.asg (.nm 166) .none,.asg (.nm 167) .none,.asg (.nm 160) (.cm (.at (.v 38) 129) 150 []),.ex (.cm (.v 160) 163 []),.dj (.cm (.v 160) 93 []) [.asg (.nm 107) (.cm (.v 38) 155 [.cm (.v 160) 154 []]),.ite (.cmp .NotEq (.at (.v 107) 104) (.v 79)) [.rs 11 [.str]] [],.asg (.nm 79) (.bin .Add (.bin .Add (.at (.v 107) 104) (.at (.v 107) 23)) (.g 108)),.asg (.nm 161) (.cm (.v 38) 162 [.cm (.v 160) 154 []]),.ex (.cm (.v 161) 163 []),.dj (.cm (.v 161) 93 []) [.asg (.nm 115) (.cm (.v 161) 115 []),.ex (.cm (.v 38) 168 [.v 115,.v 166,.v 167,.cm (.v 160) 115 [],.v 107]),.asg (.nm 166) (.v 115),.ex (.cm (.v 161) 169 [])],.asg (.nm 167) (.cm (.v 160) 115 []),.ex (.cm (.v 160) 169 [])]]:=.mk "Table.verify" "raftkeep.tables" 1092 760 (by fin2)
theorem T4:aN 768 (Head.met 59 11) [38,115,166,167,170,107] [.asg (.tup [30,171,16]) (.cf 172 [.v 115]),.ite (.an [.cmp .IsNot (.v 166) .none,.cmp .GtE (.cm (.at (.v 38) 68) 44 [.v 166,.v 115]) (.int 0)]) [.rs 11 [.str]] [],.ite (.an [.cmp .IsNot (.v 167) .none,.cmp .LtE (.cm (.at (.v 38) 68) 44 [.v 115,.v 167]) (.int 0)]) [.rs 11 [.str]] [],.ite (.cmp .Gt (.cm (.at (.v 38) 68) 44 [.v 115,.v 170]) (.int 0)) [.rs 11 [.str]] [],.ite (.an [.cmp .IsNot (.at (.v 38) 144) .none,.no (.cm (.at (.v 38) 144) 127 [.at (.v 107) 104,.v 30])]) [.rs 11 [.str]] []]:=.mk "Table.verify_key" "raftkeep.tables" 1092 767 (by fin2)
theorem T7:aN 789 (Head.met 60 0) [38,160,173] [.asg (.at (.v 38) 160) (.v 160),.asg (.at (.v 38) 173) (.v 173),.asg (.at (.v 38) 161) .none,.asg (.at (.v 38) 72) (.aQ [])]:=.mk "TwoLevelIter.__init__" "raftkeep.tables" 1092 788 (by fin2)
theorem Iz:aN 796 (Head.met 60 1) [38] [.ret (some (.an [.cmp .IsNot (.at (.v 38) 161) .none,.cm (.at (.v 38) 161) 93 []]))]:=.mk "TwoLevelIter.valid" "raftkeep.tables" 1092 795 (by fin2)
theorem Ub:aN 803 (Head.met 60 2) [38] [.ite (.no (.cm (.v 38) 93 [])) [.rs 86 [.str]] []]:=.mk "TwoLevelIter.need" "raftkeep.tables" 1092 802 (by fin2)
theorem Ua:aN 810 (Head.met 60 3) [38] [.ex (.cm (.v 38) 87 []),.ret (some (.cm (.at (.v 38) 161) 115 []))]:=.mk "TwoLevelIter.key" "raftkeep.tables" 1092 809 (by fin2)
theorem Uj:aN 817 (Head.met 60 4) [38] [.ex (.cm (.v 38) 87 []),.ret (some (.cm (.at (.v 38) 161) 154 []))]:=.mk "TwoLevelIter.value" "raftkeep.tables" 1092 816 (by fin2)
theorem T8:aN 824 (Head.met 60 5) [38] [.asg (.nm 116) (.at (.v 38) 161),.asg (.at (.v 38) 161) .none,.ret (some (.v 116))]:=.mk "TwoLevelIter.aside" "raftkeep.tables" 1092 823 (by fin2)
theorem T_:aN 831 (Head.met 60 6) [38,116] [.ite (.no (.cm (.at (.v 38) 160) 93 [])) [.ret none] [],.asg (.nm 72) (.cm (.at (.v 38) 160) 154 []),.ite (.an [.cmp .IsNot (.v 116) .none,.cmp .Eq (.v 72) (.at (.v 38) 72)]) [.asg (.at (.v 38) 161) (.v 116),.ret none] [],.asg (.at (.v 38) 161) (.cm (.at (.v 38) 173) 162 [.v 72]),.asg (.at (.v 38) 72) (.v 72)]:=.mk "TwoLevelIter.enter" "raftkeep.tables" 1092 830 (by fin2)
theorem Ug:aN 838 (Head.met 60 7) [38] [.dj (.an [.cm (.at (.v 38) 160) 93 [],.no (.cm (.v 38) 93 [])]) [.asg (.nm 116) (.cm (.v 38) 174 []),.ex (.cm (.at (.v 38) 160) 169 []),.ex (.cm (.v 38) 175 [.v 116]),.ite (.cmp .IsNot (.at (.v 38) 161) .none) [.ex (.cm (.at (.v 38) 161) 163 [])] []]]:=.mk "TwoLevelIter.skip_ahead" "raftkeep.tables" 1092 837 (by fin2)
theorem Uh:aN 845 (Head.met 60 8) [38] [.dj (.an [.cm (.at (.v 38) 160) 93 [],.no (.cm (.v 38) 93 [])]) [.asg (.nm 116) (.cm (.v 38) 174 []),.ex (.cm (.at (.v 38) 160) 176 []),.ex (.cm (.v 38) 175 [.v 116]),.ite (.cmp .IsNot (.at (.v 38) 161) .none) [.ex (.cm (.at (.v 38) 161) 165 [])] []]]:=.mk "TwoLevelIter.skip_behind" "raftkeep.tables" 1092 844 (by fin2)
theorem Ud:aN 852 (Head.met 60 9) [38] [.asg (.nm 116) (.cm (.v 38) 174 []),.ex (.cm (.at (.v 38) 160) 163 []),.ex (.cm (.v 38) 175 [.v 116]),.ite (.cmp .IsNot (.at (.v 38) 161) .none) [.ex (.cm (.at (.v 38) 161) 163 [])] [],.ex (.cm (.v 38) 177 [])]:=.mk "TwoLevelIter.seek_first" "raftkeep.tables" 1092 851 (by fin2)
theorem Ue:aN 859 (Head.met 60 10) [38] [.asg (.nm 116) (.cm (.v 38) 174 []),.ex (.cm (.at (.v 38) 160) 165 []),.ex (.cm (.v 38) 175 [.v 116]),.ite (.cmp .IsNot (.at (.v 38) 161) .none) [.ex (.cm (.at (.v 38) 161) 165 [])] [],.ex (.cm (.v 38) 178 [])]:=.mk "TwoLevelIter.seek_last" "raftkeep.tables" 1092 858 (by fin2)
theorem Uc:aN 866 (Head.met 60 11) [38,94] [.asg (.nm 116) (.cm (.v 38) 174 []),.ex (.cm (.at (.v 38) 160) 152 [.v 94]),.ex (.cm (.v 38) 175 [.v 116]),.ite (.cmp .IsNot (.at (.v 38) 161) .none) [.ex (.cm (.at (.v 38) 161) 152 [.v 94])] [],.ex (.cm (.v 38) 177 [])]:=.mk "TwoLevelIter.seek" "raftkeep.tables" 1092 865 (by fin2)
theorem Ui:aN 873 (Head.met 60 12) [38] [.ex (.cm (.v 38) 87 []),.ex (.cm (.at (.v 38) 161) 169 []),.ex (.cm (.v 38) 177 [])]:=.mk "TwoLevelIter.step" "raftkeep.tables" 1092 872 (by fin2)
theorem T9:aN 880 (Head.met 60 13) [38] [.ex (.cm (.v 38) 87 []),.ex (.cm (.at (.v 38) 161) 176 []),.ex (.cm (.v 38) 178 [])]:=.mk "TwoLevelIter.back" "raftkeep.tables" 1092 879 (by fin2)
theorem IA:aN 894 (Head.top 62) [179,1,180] [.asg (.nm 181) (.idx (.v 1) (.int 0)),.asg (.idx (.v 1) (.int 0)) (.bin .Add (.v 181) (.int 1)),.ret (some (.bin .Mod (.bin .Add (.idx (.v 179) (.bin .Mod (.v 181) (.cb 9 [.v 179]))) (.bin .Mult (.bin .FloorDiv (.v 181) (.cb 9 [.v 179])) (.int 7))) (.v 180)))]:=.mk "_law_take" "law_no0431_01" 1440 893 (by fin2)
theorem UM:aN 899 (Head.top 63) [182] [.asg (.nm 23) (.int 0),.dj (.cmp .GtE (.v 182) (.bin .Pow (.int 3) (.v 23))) [.asg (.nm 182) (.bin .Sub (.v 182) (.bin .Pow (.int 3) (.v 23))),.asg (.nm 23) (.bin .Add (.v 23) (.int 1))],.ret (some (.cb 36 [.cp (.idx (.tup [.int 0,.int 97,.int 255]) (.bin .Mod (.bin .FloorDiv (.v 182) (.bin .Pow (.int 3) (.v 183))) (.int 3))) (.nm 183) (.cb 8 [.v 23]) none]))]:=.mk "_law_word" "law_no0431_01" 1440 898 (by fin2)
theorem Us:aN 904 (Head.top 64) [5,117] [.ret (some (.cb 36 [.cp (.bin .Mod (.bin .FloorDiv (.v 5) (.bin .Pow (.int 256) (.v 183))) (.int 256)) (.nm 183) (.cb 8 [.v 117]) none]))]:=.mk "_law_fix" "law_no0431_01" 1440 903 (by fin2)
theorem IB:aN 911 (Head.top 65) [5] [.ite (.cmp .Lt (.v 5) (.int 128)) [.ret (some (.cb 36 [.lst [.v 5]]))] [],.ret (some (.bin .Add (.cb 36 [.lst [.bin .Add (.bin .Mod (.v 5) (.int 128)) (.int 128)]]) (.cf 184 [.bin .FloorDiv (.v 5) (.int 128)])))]:=.mk "_law_var" "law_no0431_01" 1440 910 (by fin2)
theorem Uv:aN 918 (Head.top 66) [185] [.ret (some (.bin .Add (.idx (.v 185) (.int 0)) (.cf 186 [.idx (.v 185) (.int 1),.int 8])))]:=.mk "_law_key" "law_no0431_01" 1440 917 (by fin2)
theorem Uz:aN 925 (Head.top 67) [185] [.ret (some (.tup [.idx (.v 185) (.int 0),.bin .Sub (.int 0) (.idx (.v 185) (.int 1))]))]:=.mk "_law_rank" "law_no0431_01" 1440 924 (by fin2)
theorem Ux:aN 932 (Head.top 68) [179,1,3] [.asg (.nm 187) (.lst []),.fw (.nm 183) (.cb 8 [.cf 188 [.v 179,.v 1,.bin .Add (.v 3) (.int 1)]]) [.asg (.nm 189) (.cf 188 [.v 179,.v 1,.int 16777216]),.asg (.nm 185) (.tup [.cf 190 [.bin .Mod (.v 189) (.int 40)],.bin .Add (.bin .Mult (.bin .Add (.int 1) (.bin .Mod (.v 189) (.int 3))) (.int 256)) (.idx (.tup [.int 0,.int 1,.int 0,.int 1,.int 0,.int 1,.int 2]) (.bin .Mod (.v 189) (.int 7)))]),.ite (.cmp .NotIn (.v 185) (.v 187)) [.asg (.nm 187) (.bin .Add (.v 187) (.lst [.v 185]))] []],.ret (some (.g' (.v 187) 191))]:=.mk "_law_pairs" "law_no0431_01" 1440 931 (by fin2)
theorem Up:aN 939 (Head.top 69) [192,189,193] [.asg (.nm 194) (.aQ []),.asg (.nm 195) (.lst [.int 0]),.asg (.nm 166) (.aQ []),.fw (.tup [115,154]) (.v 192) [.asg (.nm 196) (.int 0),.ite (.an [.cmp .Gt (.cb 9 [.v 194]) (.int 0),.cmp .Eq (.bin .Mod (.v 189) (.int 3)) (.int 0)]) [.asg (.nm 195) (.bin .Add (.v 195) (.lst [.cb 9 [.v 194]]))] [.dj (.an [.cmp .Lt (.v 196) (.cb 9 [.v 115]),.cmp .Lt (.v 196) (.cb 9 [.v 166]),.cmp .Eq (.idx (.v 115) (.v 196)) (.idx (.v 166) (.v 196)),.cmp .Lt (.v 196) (.bin .Mod (.v 189) (.int 11))]) [.asg (.nm 196) (.bin .Add (.v 196) (.int 1))]],.asg (.nm 194) (.bin .Add (.bin .Add (.bin .Add (.bin .Add (.bin .Add (.v 194) (.cf 184 [.v 196])) (.cf 184 [.bin .Sub (.cb 9 [.v 115]) (.v 196)])) (.cf 184 [.cb 9 [.v 154]])) (.e9 (.v 115) (some (.v 196)) none)) (.v 154)),.asg (.nm 166) (.v 115),.asg (.nm 189) (.bin .FloorDiv (.v 189) (.int 3))],.asg (.nm 194) (.bin .Add (.v 194) (.v 193)),.fw (.nm 197) (.v 195) [.asg (.nm 194) (.bin .Add (.v 194) (.cf 186 [.v 197,.int 4]))],.ret (some (.bin .Add (.v 194) (.cf 186 [.cb 9 [.v 195],.int 4])))]:=.mk "_law_block" "law_no0431_01" 1440 938 (by fin2)
theorem UC:aN 946 (Head.top 70) [153,198] [.asg (.nm 109) (.bin .Add (.v 153) (.cb 36 [.lst [.ite (.cmp .Eq (.v 198) (.int 1)) (.int 3) (.int 0)]])),.asg (.nm 199) (.bin .Add (.bin .Add (.bin .Add (.bin .Mult (.cb 21 [.v 109]) (.int 251)) (.bin .Mult (.cb 9 [.v 109]) (.int 65537))) (.int 7)) (.ite (.cmp .Eq (.v 198) (.int 2)) (.int 1) (.int 0))),.ret (some (.bin .Add (.v 109) (.cf 186 [.v 199,.int 4])))]:=.mk "_law_sealed" "law_no0431_01" 1440 945 (by fin2)
theorem Uy:aN 953 (Head.top 71) [200,153,198] [.asg (.nm 201) (.bin .Add (.cf 184 [.bin .Add (.v 200) (.ite (.cmp .Eq (.v 198) (.int 4)) (.int 2000) (.int 0))]) (.cf 184 [.cb 9 [.v 153]])),.ret (some (.bin .Add (.v 201) (.ite (.cmp .Eq (.v 198) (.int 3)) (.aQ [1]) (.aQ []))))]:=.mk "_law_place" "law_no0431_01" 1440 952 (by fin2)
theorem UE:aN 960 (Head.top 72) [179,1] [.asg (.nm 202) (.lst []),.asg (.nm 194) (.aQ []),.asg (.nm 203) (.aQ []),.fw (.nm 183) (.cb 8 [.cf 188 [.v 179,.v 1,.int 4]]) [.asg (.nm 204) (.cf 188 [.v 179,.v 1,.int 6]),.asg (.nm 202) (.bin .Add (.v 202) (.lst [.cmp .NotIn (.v 204) (.tup [.int 2,.int 4])])),.asg (.nm 203) (.bin .Add (.v 203) (.cf 186 [.cb 9 [.v 194],.int 4])),.ite (.or [.cmp .Eq (.v 204) (.int 1),.cmp .Eq (.v 204) (.int 5)]) [.asg (.nm 194) (.bin .Add (.v 194) (.cb 36 [.bin .Add (.rep [.int 255] (.int 8)) (.lst [.int 2])]))] [.ite (.cmp .Eq (.v 204) (.int 2)) [.asg (.nm 194) (.bin .Add (.bin .Add (.v 194) (.cb 36 [.int 8])) (.aQ [2]))] [.ite (.cmp .NotEq (.v 204) (.int 4)) [.asg (.nm 194) (.bin .Add (.bin .Add (.v 194) (.cb 36 [.int 8])) (.aQ [31]))] []]]],.ret (some (.tup [.v 202,.bin .Add (.bin .Add (.bin .Add (.v 194) (.v 203)) (.cf 186 [.cb 9 [.v 194],.int 4])) (.aQ [6])]))]:=.mk "_law_spans" "law_no0431_01" 1440 959 (by fin2)
theorem UI:aN 967 (Head.top 73) [179,1] [.asg (.nm 205) (.lst []),.asg (.nm 192) (.lst []),.asg (.nm 187) (.cf 206 [.v 179,.v 1,.int 5]),.dj (.cmp .Gt (.cb 9 [.v 187]) (.int 0)) [.asg (.nm 5) (.cb 207 [.cb 9 [.v 187],.bin .Add (.int 1) (.cf 188 [.v 179,.v 1,.int 2])]),.asg (.nm 208) (.idx (.v 187) (.bin .Sub (.v 5) (.int 1))),.asg (.nm 125) (.tup [.idx (.v 208) (.int 0),.int 0]),.ite (.an [.cmp .Eq (.cf 188 [.v 179,.v 1,.int 2]) (.int 0),.or [.cmp .Eq (.cb 9 [.v 187]) (.v 5),.cmp .Lt (.cf 191 [.v 125]) (.cf 191 [.idx (.v 187) (.v 5)])]]) [.asg (.nm 208) (.v 125)] [],.asg (.nm 192) (.bin .Add (.v 192) (.lst [.tup [.v 208,.cb 9 [.v 205]]])),.asg (.nm 205) (.bin .Add (.v 205) (.lst [.e9 (.v 187) none (some (.v 5))])),.asg (.nm 187) (.e9 (.v 187) (some (.v 5)) none)],.ret (some (.tup [.v 205,.v 192]))]:=.mk "_law_tidy" "law_no0431_01" 1440 966 (by fin2)
theorem UL:aN 972 (Head.top 74) [179,1] [.asg (.nm 205) (.cp (.cf 206 [.v 179,.v 1,.int 2]) (.nm 183) (.cb 8 [.bin .Add (.int 1) (.cf 188 [.v 179,.v 1,.int 3])]) none),.asg (.nm 209) (.cf 206 [.v 179,.v 1,.int 4]),.ret (some (.tup [.v 205,.cp (.tup [.v 208,.cf 188 [.v 179,.v 1,.cb 9 [.v 205]]]) (.nm 208) (.v 209) none]))]:=.mk "_law_wild" "law_no0431_01" 1440 971 (by fin2)
theorem UJ:aN 979 (Head.top 75) [185] [.ret (some (.cb 36 [.rep [.bin .Mod (.idx (.v 185) (.int 1)) (.int 251)] (.bin .Mod (.cb 9 [.idx (.v 185) (.int 0)]) (.int 3))]))]:=.mk "_law_value" "law_no0431_01" 1440 978 (by fin2)
theorem UH:aN 984 (Head.top 76) [179,1,210] [.asg (.nm 211) (.cmp .Eq (.cf 188 [.v 179,.v 1,.int 2]) (.int 0)),.ite (.v 211) [.asg (.tup [205,192]) (.cf 212 [.v 179,.v 1])] [.asg (.tup [205,192]) (.cf 213 [.v 179,.v 1])],.ite (.an [.at (.v 210) 51,.cmp .Eq (.cf 188 [.v 179,.v 1,.int 3]) (.int 0)]) [.asg (.nm 205) (.cp (.ite (.cmp .Eq (.cb 9 [.v 81]) (.int 2)) (.lst [.idx (.v 81) (.int 1),.idx (.v 81) (.int 0)]) (.v 81)) (.nm 81) (.v 205) none)] [],.asg (.nm 5) (.cb 9 [.v 205]),.asg (.nm 198) (.cb 214 [.int 0,.bin .Sub (.cf 188 [.v 179,.v 1,.int 14]) (.int 6)]),.asg (.nm 215) (.cf 188 [.v 179,.v 1,.bin .Add (.v 5) (.int 3)]),.asg (.nm 216) (.cp (.ite (.an [.cmp .Eq (.v 183) (.v 215),.cmp .Lt (.int 0) (.v 198),.cmp .Lt (.v 198) (.int 5)]) (.v 198) (.int 0)) (.nm 183) (.cb 8 [.bin .Add (.v 5) (.int 3)]) none),.asg (.nm 189) (.cf 188 [.v 179,.v 1,.int 16777216]),.asg (.nm 0) (.aQ []),.asg (.nm 217) (.pM [.tup [.int 0,.aQ []]] (.v 5)),.asg (.nm 218) (.pM [.int 0] (.v 5)),.fw (.nm 7) (.cb 8 [.v 5]) [.asg (.nm 183) (.v 7),.ite (.v 211) [.asg (.nm 183) (.bin .Sub (.bin .Sub (.v 5) (.int 1)) (.v 7)),.asg (.nm 0) (.bin .Add (.v 0) (.cb 36 [.rep [.int 7] (.bin .Mod (.v 189) (.int 4))]))] [],.asg (.nm 153) (.cf 221 [.cp (.tup [.cf 219 [.v 185],.cf 220 [.v 185]]) (.nm 185) (.idx (.v 205) (.v 183)) none,.bin .FloorDiv (.v 189) (.bin .Add (.int 1) (.v 183)),.aQ []]),.asg (.idx (.v 218) (.v 183)) (.bin .Add (.cb 9 [.v 0]) (.ite (.cmp .Eq (.idx (.v 216) (.v 183)) (.int 4)) (.int 2000) (.int 0))),.asg (.idx (.v 217) (.v 183)) (.tup [.cb 9 [.v 153],.cf 222 [.cb 9 [.v 0],.v 153,.idx (.v 216) (.v 183)]]),.asg (.nm 0) (.bin .Add (.v 0) (.cf 223 [.v 153,.idx (.v 216) (.v 183)]))],.asg (.tup [202,153]) (.cf 224 [.v 179,.v 1]),.asg (.nm 145) (.lst []),.ite (.cmp .Eq (.bin .Mod (.v 189) (.int 5)) (.int 0)) [.asg (.nm 145) (.lst [.tup [.aQ [102,105,108,116,101,114,46,111,116,104,101,114],.aQ [0,0]]])] [],.asg (.nm 116) .none,.ite (.cmp .NotEq (.bin .Mod (.v 189) (.int 7)) (.int 0)) [.asg (.nm 145) (.bin .Add (.v 145) (.lst [.tup [.aQ [102,105,108,116,101,114,46,114,97,102,116,107,101,101,112,46,98,108,111,111,109],.cf 222 [.cb 9 [.v 0],.v 153,.idx (.v 216) (.v 5)]]])),.ite (.an [.cmp .Gt (.at (.v 210) 57) (.int 0),.cmp .Eq (.idx (.v 216) (.v 5)) (.int 0)]) [.asg (.nm 116) (.v 202)] []] [],.ite (.cmp .Eq (.bin .Mod (.v 189) (.int 3)) (.int 0)) [.asg (.nm 145) (.bin .Add (.v 145) (.lst [.tup [.aQ [115,116,97,116,115],.aQ []]]))] [],.asg (.nm 0) (.bin .Add (.v 0) (.cf 223 [.v 153,.idx (.v 216) (.v 5)])),.asg (.nm 128) (.cb 9 [.v 0]),.asg (.nm 153) (.cf 221 [.v 145,.bin .FloorDiv (.v 189) (.int 2),.ite (.cmp .Eq (.v 198) (.int 7)) (.aQ [200,1,0,0]) (.aQ [])]),.asg (.nm 132) (.bin .Add (.cf 184 [.bin .Add (.v 128) (.ite (.cmp .Eq (.idx (.v 216) (.bin .Add (.v 5) (.int 1))) (.int 4)) (.int 2000) (.int 0))]) (.cf 184 [.cb 9 [.v 153]])),.asg (.nm 0) (.bin .Add (.v 0) (.cf 223 [.v 153,.idx (.v 216) (.bin .Add (.v 5) (.int 1))])),.asg (.nm 153) (.cf 221 [.cp (.tup [.cf 219 [.v 208],.idx (.idx (.v 217) (.v 183)) (.int 1)]) (.tup [208,183]) (.v 192) none,.bin .FloorDiv (.v 189) (.int 4),.ite (.cmp .Eq (.v 198) (.int 6)) (.aQ [200,1,0,0]) (.aQ [])]),.asg (.nm 132) (.bin .Add (.v 132) (.cf 222 [.cb 9 [.v 0],.v 153,.idx (.v 216) (.bin .Add (.v 5) (.int 2))])),.ite (.cmp .Eq (.idx (.v 216) (.bin .Add (.v 5) (.int 1))) (.int 3)) [.asg (.nm 132) (.bin .Add (.v 132) (.aQ [1]))] [],.asg (.nm 0) (.bin .Add (.bin .Add (.bin .Add (.v 0) (.cf 223 [.v 153,.idx (.v 216) (.bin .Add (.v 5) (.int 2))])) (.v 132)) (.cb 36 [.bin .Sub (.int 40) (.cb 9 [.v 132])])),.asg (.nm 225) (.n9 [.int 87,.int 251,.int 128,.int 139,.int 36,.int 117,.int 71,.int 219]),.ite (.cmp .Eq (.v 198) (.int 5)) [.asg (.idx (.v 225) (.bin .Mod (.v 189) (.int 8))) (.bin .BitXor (.idx (.v 225) (.bin .Mod (.v 189) (.int 8))) (.int 1))] [],.asg (.nm 0) (.bin .Add (.v 0) (.cb 36 [.v 225])),.asg (.nm 129) (.cp (.tup [.v 208,.idx (.v 205) (.v 183),.idx (.v 218) (.v 183),.idx (.idx (.v 217) (.v 183)) (.int 0),.idx (.v 216) (.v 183)]) (.tup [208,183]) (.v 192) none),.ite (.cmp .Eq (.v 198) (.int 6)) [.asg (.nm 129) (.bin .Add (.v 129) (.lst [.tup [.tup [.bin .Mult (.aQ [255]) (.int 9),.int 0],.lst [],.int 0,.int 0,.int 3]]))] [],.asg (.nm 226) (.an [.cmp .NotEq (.v 198) (.int 5),.cmp .Eq (.idx (.v 216) (.bin .Add (.v 5) (.int 1))) (.int 0),.cmp .Eq (.idx (.v 216) (.bin .Add (.v 5) (.int 2))) (.int 0)]),.ite (.an [.at (.v 210) 51,.cmp .Gt (.at (.v 210) 57) (.int 0),.cmp .NotEq (.bin .Mod (.v 189) (.int 7)) (.int 0),.cmp .Gt (.idx (.v 216) (.v 5)) (.int 0)]) [.asg (.nm 226) (.bool false)] [],.ite (.an [.cmp .Eq (.v 198) (.int 7),.cmp .Gt (.at (.v 210) 57) (.int 0),.cmp .Eq (.bin .Mod (.v 189) (.int 7)) (.int 0),.cmp .NotEq (.bin .Mod (.v 189) (.int 3)) (.int 0)]) [.asg (.nm 226) (.bool false)] [],.ret (some (.tup [.v 0,.v 129,.v 116,.v 128,.v 226]))]:=.mk "_law_table" "law_no0431_01" 1440 983 (by fin2)
theorem Ur:aN 991 (Head.top 77) [116,200] [.ret (some (.an [.cmp .IsNot (.v 116) .none,.cmp .Lt (.bin .FloorDiv (.v 200) (.int 64)) (.cb 9 [.v 116]),.no (.idx (.v 116) (.bin .FloorDiv (.v 200) (.int 64)))]))]:=.mk "_law_denies" "law_no0431_01" 1440 990 (by fin2)
theorem Uq:aN 998 (Head.top 78) [129,116] [.asg (.nm 79) (.int 0),.asg (.nm 166) .none,.asg (.nm 167) .none,.fw (.tup [208,187,200,23,198]) (.v 129) [.ite (.or [.cmp .Gt (.v 198) (.int 0),.cmp .NotEq (.v 200) (.v 79)]) [.ret (some (.bool false))] [],.asg (.nm 79) (.bin .Add (.bin .Add (.v 200) (.v 23)) (.int 5)),.fw (.nm 185) (.v 187) [.asg (.nm 227) (.cf 191 [.v 185]),.ite (.or [.an [.cmp .IsNot (.v 166) .none,.cmp .GtE (.v 166) (.v 227)],.an [.cmp .IsNot (.v 167) .none,.cmp .GtE (.v 167) (.v 227)]]) [.ret (some (.bool false))] [],.ite (.or [.cmp .Gt (.bin .Mod (.idx (.v 185) (.int 1)) (.int 256)) (.int 1),.cmp .Gt (.v 227) (.cf 191 [.v 208]),.cf 228 [.v 116,.v 200]]) [.ret (some (.bool false))] [],.asg (.nm 166) (.v 227)],.asg (.nm 167) (.cf 191 [.v 208])],.ret (some (.bool true))]:=.mk "_law_clean" "law_no0431_01" 1440 997 (by fin2)
theorem Ut:aN 1005 (Head.top 79) [129,183] [.dj (.cmp .Lt (.v 183) (.cb 9 [.v 129])) [.ite (.cmp .Gt (.idx (.idx (.v 129) (.v 183)) (.int 4)) (.int 0)) [.ret (some (.tup [.none,.int 1]))] [],.ite (.cmp .Gt (.cb 9 [.idx (.idx (.v 129) (.v 183)) (.int 1)]) (.int 0)) [.ret (some (.tup [.tup [.v 183,.int 0],.int 0]))] [],.asg (.nm 183) (.bin .Add (.v 183) (.int 1))],.ret (some (.tup [.none,.int 0]))]:=.mk "_law_front" "law_no0431_01" 1440 1004 (by fin2)
theorem UA:aN 1012 (Head.top 80) [129,183] [.dj (.cmp .GtE (.v 183) (.int 0)) [.ite (.cmp .Gt (.idx (.idx (.v 129) (.v 183)) (.int 4)) (.int 0)) [.ret (some (.tup [.none,.int 1]))] [],.ite (.cmp .Gt (.cb 9 [.idx (.idx (.v 129) (.v 183)) (.int 1)]) (.int 0)) [.ret (some (.tup [.tup [.v 183,.bin .Sub (.cb 9 [.idx (.idx (.v 129) (.v 183)) (.int 1)]) (.int 1)],.int 0]))] [],.asg (.nm 183) (.bin .Sub (.v 183) (.int 1))],.ret (some (.tup [.none,.int 0]))]:=.mk "_law_rear" "law_no0431_01" 1440 1011 (by fin2)
theorem UB:aN 1017 (Head.top 81) [129,227] [.ret (some (.cb 9 [.cp (.v 229) (.nm 229) (.v 129) (some (.cmp .Lt (.cf 191 [.idx (.v 229) (.int 0)]) (.v 227)))]))]:=.mk "_law_row" "law_no0431_01" 1440 1016 (by fin2)
theorem Uo:aN 1022 (Head.top 82) [187,227] [.ret (some (.cb 9 [.cp (.v 185) (.nm 185) (.v 187) (some (.cmp .Lt (.cf 191 [.v 185]) (.v 227)))]))]:=.mk "_law_at" "law_no0431_01" 1440 1021 (by fin2)
theorem Un:aN 1029 (Head.top 83) [129,72,230,227] [.ite (.cmp .Eq (.v 230) (.int 0)) [.ret (some (.cf 231 [.v 129,.int 0]))] [],.ite (.cmp .Eq (.v 230) (.int 1)) [.ret (some (.cf 232 [.v 129,.bin .Sub (.cb 9 [.v 129]) (.int 1)]))] [],.ite (.cmp .Eq (.v 230) (.int 2)) [.asg (.nm 183) (.cf 233 [.v 129,.v 227]),.ite (.cmp .Eq (.v 183) (.cb 9 [.v 129])) [.ret (some (.tup [.none,.int 0]))] [],.asg (.nm 234) (.cf 235 [.idx (.idx (.v 129) (.v 183)) (.int 1),.v 227]),.ite (.an [.cmp .Eq (.idx (.idx (.v 129) (.v 183)) (.int 4)) (.int 0),.cmp .Lt (.v 234) (.cb 9 [.idx (.idx (.v 129) (.v 183)) (.int 1)])]) [.ret (some (.tup [.tup [.v 183,.v 234],.int 0]))] [],.ret (some (.ite (.cmp .Eq (.idx (.idx (.v 129) (.v 183)) (.int 4)) (.int 0)) (.cf 231 [.v 129,.bin .Add (.v 183) (.int 1)]) (.tup [.none,.int 1])))] [],.ite (.cmp .Is (.v 72) .none) [.ret (some (.tup [.none,.int 2]))] [],.asg (.tup [183,234]) (.v 72),.ite (.cmp .Eq (.v 230) (.int 3)) [.ret (some (.ite (.cmp .Lt (.bin .Add (.v 234) (.int 1)) (.cb 9 [.idx (.idx (.v 129) (.v 183)) (.int 1)])) (.tup [.tup [.v 183,.bin .Add (.v 234) (.int 1)],.int 0]) (.cf 231 [.v 129,.bin .Add (.v 183) (.int 1)])))] [],.ret (some (.ite (.cmp .Gt (.v 234) (.int 0)) (.tup [.tup [.v 183,.bin .Sub (.v 234) (.int 1)],.int 0]) (.cf 232 [.v 129,.bin .Sub (.v 183) (.int 1)])))]:=.mk "_law_after" "law_no0431_01" 1440 1028 (by fin2)
theorem Uw:aN 1036 (Head.top 84) [150,230,94] [.tr [.ite (.cmp .Eq (.v 230) (.int 0)) [.ex (.cm (.v 150) 163 [])] [.ite (.cmp .Eq (.v 230) (.int 1)) [.ex (.cm (.v 150) 165 [])] [.ite (.cmp .Eq (.v 230) (.int 2)) [.ex (.cm (.v 150) 152 [.v 94])] [.ite (.cmp .Eq (.v 230) (.int 3)) [.ex (.cm (.v 150) 169 [])] [.ex (.cm (.v 150) 176 [])]]]]] [(11,[.ret (some (.int 1))]),(86,[.ret (some (.int 2))])],.ret (some (.int 0))]:=.mk "_law_move" "law_no0431_01" 1440 1035 (by fin2)
theorem UD:aN 1043 (Head.top 85) [185] [.ret (some (.tup [.cf 219 [.v 185],.cf 220 [.v 185]]))]:=.mk "_law_shown" "law_no0431_01" 1440 1042 (by fin2)
theorem UG:aN 1050 (Head.top 86) [150,129,72] [.ite (.cmp .IsNot (.v 72) .none) [.ret (some (.an [.cm (.v 150) 93 [],.cmp .Eq (.tup [.cm (.v 150) 115 [],.cm (.v 150) 154 []]) (.cf 236 [.idx (.idx (.idx (.v 129) (.idx (.v 72) (.int 0))) (.int 1)) (.idx (.v 72) (.int 1))])]))] [],.ite (.cm (.v 150) 93 []) [.ret (some (.bool false))] [],.asg (.nm 5) (.int 0),.tr [.ex (.cm (.v 150) 115 [])] [(86,[.asg (.nm 5) (.bin .Add (.v 5) (.int 1))])],.tr [.ex (.cm (.v 150) 154 [])] [(86,[.asg (.nm 5) (.bin .Add (.v 5) (.int 1))])],.ret (some (.cmp .Eq (.v 5) (.int 2)))]:=.mk "_law_stands" "law_no0431_01" 1440 1049 (by fin2)
theorem Uu:aN 1057 (Head.top 87) [237,204,115] [.tr [.ite (.cmp .Eq (.v 204) (.int 0)) [.ret (some (.tup [.int 0,.cm (.v 237) 238 [.v 115]]))] [],.ite (.cmp .Eq (.v 204) (.int 1)) [.ret (some (.tup [.int 0,.cm (.v 237) 239 [.v 115]]))] [],.ite (.cmp .Eq (.v 204) (.int 2)) [.ret (some (.tup [.int 0,.cm (.v 237) 240 []]))] [],.ret (some (.tup [.int 0,.cm (.v 237) 241 []]))] [(11,[.ret (some (.tup [.int 1,.none]))]),(164,[.ret (some (.tup [.int 2,.none]))])]]:=.mk "_law_got" "law_no0431_01" 1440 1056 (by fin2)
theorem UK:aN 1064 (Head.top 88) [129,116,128,204,227] [.ite (.cmp .Gt (.v 204) (.int 1)) [.asg (.tup [72,242]) (.cf 243 [.v 129,.none,.bin .Sub (.v 204) (.int 2),.v 227]),.ite (.cmp .Is (.v 72) .none) [.ret (some (.tup [.ite (.cmp .Eq (.v 242) (.int 1)) (.int 1) (.int 2),.none]))] [],.ret (some (.tup [.int 0,.cf 219 [.idx (.idx (.idx (.v 129) (.idx (.v 72) (.int 0))) (.int 1)) (.idx (.v 72) (.int 1))]]))] [],.asg (.nm 183) (.cf 233 [.v 129,.v 227]),.ite (.cmp .Eq (.v 183) (.cb 9 [.v 129])) [.ret (some (.tup [.int 0,.ite (.cmp .Eq (.v 204) (.int 0)) .none (.v 128)]))] [],.asg (.tup [208,187,200,23,198]) (.idx (.v 129) (.v 183)),.ite (.cmp .Eq (.v 198) (.int 3)) [.ret (some (.tup [.int 1,.none]))] [],.ite (.cmp .Eq (.v 204) (.int 1)) [.ret (some (.tup [.int 0,.v 200]))] [],.ite (.cf 228 [.v 116,.v 200]) [.ret (some (.tup [.int 0,.none]))] [],.ite (.cmp .Gt (.v 198) (.int 0)) [.ret (some (.tup [.int 1,.none]))] [],.asg (.nm 234) (.cf 235 [.v 187,.v 227]),.ret (some (.tup [.int 0,.ite (.cmp .Lt (.v 234) (.cb 9 [.v 187])) (.cf 236 [.idx (.v 187) (.v 234)]) .none]))]:=.mk "_law_want" "law_no0431_01" 1440 1063 (by fin2)
theorem Um:aN 1069 (Head.top 89) [244] [.asg (.nm 179) (.cp (.v 5) (.nm 5) (.e9 (.v 244) none (some (.int 40))) none),.ite (.cmp .Eq (.cb 9 [.v 179]) (.int 0)) [.asg (.nm 179) (.lst [.int 0])] [],.asg (.nm 1) (.n9 [.int 0]),.asg (.nm 210) (.cm (.cc 245 []) 246 []),.asg (.at (.v 210) 57) (.cf 188 [.v 179,.v 1,.int 3]),.asg (.at (.v 210) 51) (.cmp .Eq (.cf 188 [.v 179,.v 1,.int 3]) (.int 2)),.asg (.tup [0,129,116,128,226]) (.cf 247 [.v 179,.v 1,.v 210]),.asg (.nm 226) (.an [.v 226,.no (.an [.at (.v 210) 51,.no (.cf 248 [.v 129,.v 116])])]),.tr [.asg (.nm 237) (.cc 250 [.v 0,.v 210,.cc 249 []])] [(11,[.ret (some (.no (.v 226)))])],.ite (.no (.v 226)) [.ret (some (.bool false))] [],.asg (.nm 150) (.cm (.v 237) 150 []),.asg (.nm 72) .none,.ite (.no (.cf 251 [.v 150,.v 129,.v 72])) [.ret (some (.bool false))] [],.fw (.nm 7) (.cb 8 [.int 5]) [.asg (.nm 189) (.cf 188 [.v 179,.v 1,.int 16777216]),.asg (.nm 230) (.bin .Mod (.v 189) (.int 9)),.ite (.cmp .Gt (.v 230) (.int 4)) [.asg (.nm 230) (.bin .Add (.bin .Mod (.v 230) (.int 3)) (.int 2))] [],.ite (.cmp .Eq (.v 7) (.int 0)) [.asg (.nm 230) (.int 0)] [],.asg (.nm 185) (.tup [.cf 190 [.bin .Mod (.bin .FloorDiv (.v 189) (.int 9)) (.int 40)],.bin .Add (.bin .Mult (.bin .Mod (.bin .FloorDiv (.v 189) (.int 2)) (.int 5)) (.int 256)) (.bin .Mod (.v 189) (.int 2))]),.ite (.an [.cmp .Gt (.cb 9 [.v 129]) (.int 0),.cmp .Eq (.bin .Mod (.bin .FloorDiv (.v 189) (.int 4)) (.int 2)) (.int 0)]) [.asg (.nm 185) (.idx (.idx (.v 129) (.bin .Mod (.bin .FloorDiv (.v 189) (.int 8)) (.cb 9 [.v 129]))) (.int 0))] [],.asg (.nm 227) (.cf 191 [.v 185]),.asg (.nm 115) (.cf 219 [.v 185]),.asg (.tup [72,252]) (.cf 243 [.v 129,.v 72,.v 230,.v 227]),.ite (.or [.cmp .NotEq (.cf 253 [.v 150,.v 230,.v 115]) (.v 252),.no (.cf 251 [.v 150,.v 129,.v 72])]) [.ret (some (.bool false))] [],.asg (.nm 204) (.idx (.tup [.int 0,.int 1,.int 2,.int 0,.int 3]) (.v 7)),.ite (.cmp .NotEq (.cf 254 [.v 237,.v 204,.v 115]) (.cf 255 [.v 129,.v 116,.v 128,.v 204,.v 227])) [.ret (some (.bool false))] []],.ret (some (.bool true))]:=.mk "law" "law_no0431_01" 1440 1068 (by fin2)
end
section
theorem jN {p:Prop} [Decidable p] {A B:Prop} (hp:p) (h:A):Br (decide p) A B:=⟨λ_=>h,λe=>absurd hp (of_decide_eq_false e)⟩
theorem jM {p:Prop} [Decidable p] {A B:Prop} (hp:¬p) (h:B):Br (decide p) A B:=⟨λe=>absurd (of_decide_eq_true e) hp,λ_=>h⟩
theorem aH {p:Prop} [Decidable p] {A B:Prop} (h1:p->A) (h2:¬p->B):Br (decide p) A B:=⟨λe=>h1 (of_decide_eq_true e),λe=>h2 (of_decide_eq_false e)⟩
theorem Hj {p:Prop} [Decidable p] {A B:Prop} (hp:¬p) (h:A):Br ((!decide p)) A B:=⟨λ_=>h,λe=>absurd (by simpa using e) hp⟩
theorem Hi {p:Prop} [Decidable p] {A B:Prop} (hp:p) (h:B):Br ((!decide p)) A B:=⟨λe=>absurd hp (by simpa using e),λ_=>h⟩
theorem Rg {p:Prop} [Decidable p] {A B:Prop} (h1:¬p->A) (h2:p->B):Br ((!decide p)) A B:=⟨λe=>h1 (by simpa using e),λe=>h2 (by simpa using e)⟩
theorem du {A B:Prop} (h:A):Br (true) A B:=⟨λ_=>h,λe=>nomatch e⟩
theorem b4 {A B:Prop} (h:B):Br (false) A B:=⟨λe=>(nomatch e),λ_=>h⟩
theorem uB {A B:Prop} (h:B):Bn (true) A B:=⟨λe=>(nomatch e),λ_=>h⟩
theorem uC {A B:Prop} (h:A):Bn (false) A B:=⟨λ_=>h,λe=>nomatch e⟩
theorem BA {p:Prop} [Decidable p] {A B:Prop} (hp:p) (h:B):Bn (decide p) A B:=⟨λe=>absurd hp (of_decide_eq_false e),λ_=>h⟩
theorem uA {p:Prop} [Decidable p] {A B:Prop} (hp:¬p) (h:A):Bn (decide p) A B:=⟨λ_=>h,λe=>absurd (of_decide_eq_true e) hp⟩
theorem xp {p:Prop} [Decidable p] {A B:Prop} (h1:¬p->A) (h2:p->B):Bn (decide p) A B:=⟨λe=>h1 (of_decide_eq_false e),λe=>h2 (of_decide_eq_true e)⟩
noncomputable def Ht:AO->Nat
 |.inst C _=>C+1
 |.av _=>0
theorem Mv {y:AO} (h1:σ a=none) (h2:σ b=some y):a≠b:=λe=>ns2 h1 (e▸h2)
theorem kY {x y:AO} (h1:σ a=some x) (h2:σ b=some y) (h:bh (Ht x) (Ht y)=false):a≠b:=λe=>by
 have e2:=bN (h1.symm.trans (e▸h2))
 rw[e2,Nat.beq_refl]at h
 cases h
theorem ae8 {y:Nat} {q:Option PV} (h:y=x) (h2:some p=q):get (put ρ x p) y=q:=(cJ _ _ _ _).trans ((if_pos h).trans h2)
theorem ae9 {y:Nat} {q:Option PV} (h:y≠x) (h2:get ρ y=q):get (put ρ x p) y=q:=(cJ _ _ _ _).trans ((if_neg h).trans h2)
theorem aeP {α:Type} {l:List α} {q:Prop} (h:l.length<=1000000) (k:q):l.length<=1000000/\q:=⟨h,k⟩
theorem aeQ {α:Type} {l:List α} {q:Prop} (h:l.length<=100) (k:q):l.length<=100/\q:=⟨h,k⟩
theorem aL (σ:aa) (a:Nat) (o o':AO):upd (upd σ a o) a o'=upd σ a o':=by
 funext b;unfold upd;split<;>rfl
theorem NM {o:AO} (h:σ a=some o):upd σ a o=σ:=by
 funext b;unfold upd;split
 ·rename_i e;rw[e,h]
 ·rfl
theorem wy (σ:aa) {a b:Nat} (o o':AO) (h:a≠b):upd (upd σ a o) b o'=upd (upd σ b o') a o:=by
 funext x;unfold upd
 by_cases h1:x=b
 ·by_cases h2:x=a
  ·exact absurd (h2.symm.trans h1) h
  ·simp[h1,cN h]
 ·simp[h1]
theorem gF {c:Prop} [Decidable c] {α:Type} {a b r:α} {P:Prop} (e:(if c then a else b)=r) (h1:c->a=r->P) (h2:¬c->b=r->P):P:=(OY c).elim (λz=>h1 z ((if_pos z).symm.trans e)) λz=>h2 z ((if_neg z).symm.trans e)
theorem wb {a' b' c':Nat} {P:Nat->Nat->Prop} (e:(some (a,b),c)=(some (a',b'),c')) (h:P a b):P a' b':=by cases e;exact h
theorem M2 {γ:Type} {a' b':Nat} {c c':γ} {P:Nat->Nat->γ->Prop} (e:(some (a,b),c)=(some (a',b'),c')) (h:P a b c):P a' b' c':=by cases e;exact h
end
section
noncomputable def gI (x:PV):Option Int:=match x with
 |.int a=>some a
 |_=>none
noncomputable def gB (x:PV):Option (List UInt8):=match x with
 |.bytes a=>some a
 |_=>none
theorem B_ {x:PV} {a:Int} (h:gI x=some a):x=.int a:=by cases x<;>first|exact nn h|exact congrArg _ (bN h)
theorem U4 {x:PV} {a:List UInt8} (h:gB x=some a):x=.bytes a:=by cases x<;>first|exact nn h|exact congrArg _ (bN h)
noncomputable def wx {α β:Type} (g:PV->Option α) (x y:PV) (f:α->α->Option β):Option β:=(g x).bind λa=>(g y).bind λb=>f a b
theorem zQ {α β:Type} {g:PV->Option α} {k:α->PV} (hg:∀{x a},g x=some a->x=k a) {f:α->α->Option β} {x y:PV} {r:β} (h:wx g x y f=some r) {P:PV->PV->Prop} (z:∀a b,f a b=some r->P (k a) (k b)):P x y:=by
 obtain⟨a,h1,h⟩:=ue.mp h
 obtain⟨b,h2,h⟩:=ue.mp h
 rw[hg h1,hg h2];exact z a b h
noncomputable def iB (o:eR) (a b:Int):Option PV:=match o with
 |.Add=>some (.int (a+b))
 |.Sub=>some (.int (a-b))
 |.BitAnd=>some (.int (oA a b))
 |.BitOr=>some (.int (ko a b))
 |.BitXor=>some (.int (jA a b))
 |_=>none
noncomputable def iI (o:eR) (a b:Int):Option PV:=match o with
 |.Add=>some (.int (a+b))
 |.Sub=>some (.int (a-b))
 |.BitOr=>some (.int (ko a b))
 |.BitXor=>some (.int (jA a b))
 |_=>none
noncomputable def zH (o:eR) (x y:PV):Option PV:=wx gI x y (iB o)
noncomputable def NB (o:eR) (x y:PV):Option PV:=wx gI x y (iI o)
noncomputable def NC (x:PV):Option Bool:=match x with
 |.none=>some true
 |.bool _=>some false
 |.int _=>some false
 |.str=>some false
 |.bytes _=>some false
 |.tup _=>some false
 |.lst _=>some false
 |.ref _=>some false
noncomputable def ES (x y:PV):Option Bool:=match y with
 |.none=>NC x
 |_=>none
noncomputable def iC (o:f_) (a b:Int):Option Bool:=match o with
 |.Eq=>some (decide (a=b))
 |.NotEq=>some (decide (a≠b))
 |.Lt=>some (decide (a<b))
 |.LtE=>some (decide (a<=b))
 |.Gt=>some (decide (b<a))
 |.GtE=>some (decide (b<=a))
 |_=>none
noncomputable def bC (o:f_) (a b:List UInt8):Option Bool:=match o with
 |.Eq=>some (decide (a=b))
 |.NotEq=>some (decide (a≠b))
 |_=>none
noncomputable def nC (o:f_) (x y:PV):Option Bool:=match o with
 |.Is=>ES x y
 |.IsNot=>(ES x y).map (! ·)
 |_=>none
noncomputable def ET (o:f_) (x y:PV):Option Bool:=(wx gI x y (iC o)).or ((wx gB x y (bC o)).or (nC o x y))
theorem or_some {α:Type} {x y:Option α} {r:α} (h:x.or y=some r):x=some r\/y=some r:=by
 cases x with
 |none=>exact .inr h
 |some a=>exact .inl h
noncomputable def MN:Option (Nat×Nat×af)->Nat->Nat->Option PV
 |some (y,C,fs),x,f=>bif bh y x&&iw fq C f then get fs f else none
 |none,_,_=>none
noncomputable def wm (f:PV->PV->Option PV) (x y:Option PV):Option PV:=match x,y with
 |some x,some y=>f x y
 |_,_=>none
noncomputable def wo (f:List PV->PV) (x:Option (List PV)):Option PV:=match x with
 |some ps=>bif bW ps.length 1000 then some (f ps)else none
 |none=>none
noncomputable def Nw (x:Option PV) (y:Option (List PV)):Option (List PV):=match x,y with
 |some p,some ps=>some (p::ps)
 |_,_=>none
noncomputable def Nu (O:Option (Nat×Nat×af)) (o:ME) (f:Nat):Option PV:=match o with
 |.v x=>MN O x f
 |_=>none
noncomputable def Nv (o:f_) (x y:PV):Option PV:=(ET o x y).map .bool
mutual
noncomputable def sv (ρ:af) (O:Option (Nat×Nat×af)):ME->Option PV
 |.none=>some .none
 |.bool b=>some (.bool b)
 |.int i=>some (.int i)
 |.neg i=>some (.int (-i))
 |.aQ l=>some (.bytes l)
 |.str=>some .str
 |.v x=>get ρ x
 |.g x=>get Cb x
 |.bin o l r=>wm (zH o) (sv ρ O l) (sv ρ O r)
 |.cmp o l r=>wm (Nv o) (sv ρ O l) (sv ρ O r)
 |.at o f=>Nu O o f
 |.tup l=>wo .tup (wq ρ O l)
 |.lst l=>wo .lst (wq ρ O l)
 |_=>none
noncomputable def wq (ρ:af) (O:Option (Nat×Nat×af)):List ME->Option (List PV)
 |[]=>some []
 |m::ms=>Nw (sv ρ O m) (wq ρ O ms)
end
theorem Nz {o:eR} {x:PV} (h:zH o x y=some p):eN o x y p:=zQ B_ (P:=λx y=>eN o x y p) h λa b h=>by
 cases o<;>first|exact nn h|exact bN h▸oU|exact bN h▸xl|exact bN h▸Q3|exact bN h▸Q4|exact bN h▸Q1
theorem acR {o:eR} {x:PV} (h:NB o x y=some p):oC o x y p:=zQ B_ (P:=λx y=>oC o x y p) h λa b h=>by
 cases o<;>first|exact nn h|exact bN h▸Xi|exact bN h▸Xk|exact bN h▸Xj|exact bN h▸Xl
theorem acS {x:PV} {b:Bool} (h:NC x=some b):isNone x=b:=by cases x<;>exact bN h
theorem Ny {x:PV} {b:Bool} (h:ES x y=some b):y=.none/\isNone x=b:=by
 cases y<;>first|exact nn h|exact⟨rfl,acS h⟩
theorem NA {o:f_} {x:PV} {b:Bool} (h:ET o x y=some b):c9 o x y b:=by
 rcases or_some h with h|h
 ·exact zQ B_ (P:=λx y=>c9 o x y b) h λa c h=>by
   cases o<;>first|exact nn h|exact bN h▸dw|exact bN h▸qt|exact bN h▸rY|exact bN h▸RP|exact bN h▸ip|exact bN h▸xv
 ·rcases or_some h with h|h
  ·exact zQ U4 (P:=λx y=>c9 o x y b) h λa c h=>by
    cases o<;>first|exact nn h|exact bN h▸RL|exact bN h▸RQ
  ·cases o<;>first|exact nn h|skip
   ·have z:=Ny h
    rw[z.1,<-z.2];exact@BL _
   ·obtain⟨b',h1,h2⟩:=Qh.mp h
    have z:=Ny h1
    rw[<-h2,z.1,<-z.2];exact@uL _
noncomputable def Ev (ρ:af) (σ:aa) (m:ME) (p:PV):Prop:=∀(c:Cx) (Q:PV->aa->Prop) (X:Ex->aa->Prop),Q p σ->V c m ρ σ Q X
noncomputable def mf (ρ:af) (σ:aa) (ms:List ME) (ps:List PV):Prop:=∀(c:Cx) (Q:List PV->aa->Prop) (X:Ex->aa->Prop),Q ps σ->VA c ms ρ σ Q X
noncomputable def Et (ρ:af) (σ:aa) (m:ME) (b:Bool):Prop:=∀(c:Cx) (Q:Bool->aa->Prop) (X:Ex->aa->Prop),Q b σ->T c m ρ σ Q X
theorem Ev.run {ρ σ m p} (e:Ev ρ σ m p) {c:Cx} {Q:PV->aa->Prop} {X:Ex->aa->Prop} (h:Q p σ):V c m ρ σ Q X:=e _ _ _ h
theorem mf.run {ρ σ m p} (e:mf ρ σ m p) {c:Cx} {Q:List PV->aa->Prop} {X:Ex->aa->Prop} (h:Q p σ):VA c m ρ σ Q X:=e _ _ _ h
theorem Et.run {ρ σ m p} (e:Et ρ σ m p) {c:Cx} {Q:Bool->aa->Prop} {X:Ex->aa->Prop} (h:Q p σ):T c m ρ σ Q X:=e _ _ _ h
section
noncomputable def uc (ρ:af) (σ:aa) (O:Option (Nat×Nat×af)):Prop:=∀y C fs,O=some (y,C,fs)->∃a,get ρ y=some (.ref a)/\σ a=some (.inst C fs)
theorem Sl {o:ME} {C f:Nat} {fs:af} (h1:Ev ρ σ o (.ref a)) (h2:σ a=some (.inst C fs)) (h3:(bif iw fq C f then get fs f else none)=some p):Ev ρ σ (.at o f) p:=λ_ _ _ h=>by
 cases hf:iw fq C f with
 |false=>rw[hf]at h3;exact nn h3
 |true=>rw[hf]at h3;exact V_at (h1.run ⟨_,_,_,_,rfl,h2,hf,h3,h⟩)
theorem Nt {f:PV->PV->Option PV} {x y:Option PV} (h:wm f x y=some p):∃a b,x=some a/\y=some b/\f a b=some p:=by
 cases x with
 |none=>exact nn h
 |some x=>cases y with
  |none=>exact nn h
  |some y=>exact⟨_,_,rfl,rfl,h⟩
theorem Nx {f:List PV->PV} {x:Option (List PV)} (h:wo f x=some p):∃ps,x=some ps/\ps.length<=1000000/\p=f ps:=by
 cases x with
 |none=>exact nn h
 |some ps=>
  change(bif bW ps.length 1000 then some (f ps)else none)=some p at h
  cases hb:bW ps.length 1000 with
  |false=>replace h:=hb▸h;exact nn h
  |true=>replace h:=hb▸h;cases h;exact⟨_,rfl,ai (aG hb) (by decide),rfl⟩
theorem abL {O:Option (Nat×Nat×af)} (ho:uc ρ σ O) {x f:Nat} {p:PV} (e:MN O x f=some p):Ev ρ σ (.at (.v x) f) p:=by
 cases O with
 |none=>exact nn e
 |some q=>
  obtain⟨y,C,fs⟩:=q
  obtain⟨a,h1,h2⟩:=ho _ _ _ rfl
  change(bif bh y x&&iw fq C f then get fs f else none)=some p at e
  cases hb:bh y x&&iw fq C f with
  |false=>rw[hb]at e;exact nn e
  |true=>
   rw[hb]at e
   obtain⟨k1,k2⟩:=ak hb
   obtain rfl:=fG k1
   exact Sl (λ_ _ _ h=>aq h1 h) h2 (by rw[k2];exact e)
theorem acP {O:Option (Nat×Nat×af)} (ho:uc ρ σ O) {o:ME} {f:Nat} {p:PV} (e:Nu O o f=some p):Ev ρ σ (.at o f) p:=by
 cases o<;>first|exact nn e|exact abL ho e
theorem acQ {x:Option PV} {y:Option (List PV)} {p:List PV} (h:Nw x y=some p):∃a b,x=some a/\y=some b/\p=a::b:=by
 cases x with
 |none=>exact nn h
 |some x=>cases y with
  |none=>exact nn h
  |some y=>exact⟨_,_,rfl,rfl,(bN h).symm⟩
theorem Sn {o:eR} {l r:ME} {X Y:Option PV} (hl:∀x,X=some x->Ev ρ σ l x) (hr:∀x,Y=some x->Ev ρ σ r x) (e:wm (zH o) X Y=some p):Ev ρ σ (.bin o l r) p:=by
 obtain⟨x,y,h1,h2,h3⟩:=Nt e
 exact λ_ _ _ h=>dC (hl _ h1 _ _ _ (hr _ h2 _ _ _ ⟨_,Nz h3,h⟩))
theorem So {o:f_} {l r:ME} {X Y:Option PV} (hl:∀x,X=some x->Ev ρ σ l x) (hr:∀x,Y=some x->Ev ρ σ r x) (e:wm (Nv o) X Y=some p):Ev ρ σ (.cmp o l r) p:=by
 obtain⟨x,y,h1,h2,h3⟩:=Nt e
 obtain⟨b,h4,h5⟩:=Qh.mp h3
 exact h5▸λ_ _ _ h=>uk (hl _ h1 _ _ _ (hr _ h2 _ _ _ ⟨_,NA h4,h⟩))
theorem Sq {l:List ME} {X:Option (List PV)} (hl:∀x,X=some x->mf ρ σ l x) (e:wo .tup X=some p):Ev ρ σ (.tup l) p:=by
 obtain⟨ps,h1,h2,rfl⟩:=Nx e
 exact λ_ _ _ h=>qp (hl _ h1 _ _ _ ⟨h2,h⟩)
theorem Sp {l:List ME} {X:Option (List PV)} (hl:∀x,X=some x->mf ρ σ l x) (e:wo .lst X=some p):Ev ρ σ (.lst l) p:=by
 obtain⟨ps,h1,h2,rfl⟩:=Nx e
 exact λ_ _ _ h=>Bd (hl _ h1 _ _ _ ⟨h2,h⟩)
theorem r6 (k:∀{c:Cx} {Q:PV->aa->Prop} {X:Ex->aa->Prop},Q q σ->V c m ρ σ Q X) (e:some q=some p):Ev ρ σ m p:=by
 obtain rfl:=bN e;exact λ_ _ _ h=>k h
mutual
theorem r7 {O:Option (Nat×Nat×af)} (ho:uc ρ σ O):∀(m:ME) (p:PV),sv ρ O m=some p->Ev ρ σ m p
 |.none,_,e=>r6 jI e
 |.bool _,_,e=>r6 lF e
 |.int _,_,e=>r6 aI e
 |.neg _,_,e=>r6 QG e
 |.aQ _,_,e=>r6 mz e
 |.str,_,e=>r6 QJ e
 |.v _,_,e=>λ_ _ _ h=>aq e h
 |.g _,_,e=>λ_ _ _ h=>QE e h
 |.bin _ l r,_,e=>Sn (r7 ho l) (r7 ho r) e
 |.cmp _ l r,_,e=>So (r7 ho l) (r7 ho r) e
 |.at _ _,_,e=>acP ho e
 |.tup l,_,e=>Sq (xD ho l) e
 |.lst l,_,e=>Sp (xD ho l) e
 |.no ..,_,e|.an ..,_,e|.or ..,_,e|.ite ..,_,e|.n9 ..,_,e|.rep ..,_,e|.pM ..,_,e|.idx ..,_,e|.e9 ..,_,e|.cf ..,_,e|.cc ..,_,e|.cm ..,_,e|.cb ..,_,e|.g' ..,_,e|.app ..,_,e|.fs ..,_,e|.cp ..,_,e=>nn e
theorem xD {O:Option (Nat×Nat×af)} (ho:uc ρ σ O):∀(ms:List ME) (ps:List PV),wq ρ O ms=some ps->mf ρ σ ms ps
 |[],_,e=>by obtain rfl:=bN e;exact λ_ _ _ h=>bc h
 |m::ms,_,e=>(acQ e).elim λ_ z=>z.elim λ_ z=>z.2.2▸λ_ _ _ h=>aO (r7 ho m _ z.1 _ _ _ (xD ho ms _ z.2.1 _ _ _ h))
end
theorem MP:uc ρ σ none:=λ_ _ _ e=>(nn e)
theorem ae5 (e:sv ρ none m=some p):Ev ρ σ m p:=r7 MP m _ e
theorem ae7 {m:List ME} {p:List PV} (e:wq ρ none m=some p):mf ρ σ m p:=xD MP m _ e
theorem ae4 {o:eR} {l r:ME} {x:PV} (h1:Ev ρ σ l x) (h2:Ev ρ σ r y) (e:zH o x y=some p):Ev ρ σ (.bin o l r) p:=λ_ _ _ h=>dC (h1.run (h2.run ⟨_,Nz e,h⟩))
theorem ae6 (h1:Ev ρ σ m p) (h2:mf ρ σ ms ps):mf ρ σ (m::ms) (p::ps):=λ_ _ _ h=>aO (h1.run (h2.run h))
theorem ae3 {o:f_} {l r:ME} {x:PV} {b:Bool} (h1:Ev ρ σ l x) (h2:Ev ρ σ r y) (e:ET o x y=some b):Et ρ σ (.cmp o l r) b:=λ_ _ _ h=>aY (h1.run (h2.run ⟨_,NA e,h⟩))
variable{c:Cx}
theorem aeX {l:List UInt8} (hz:l.length<=16777216) (k:Q (.int l.length) σ):Ax (kq (.builtin "len") σ [.bytes l]) Q σ:=⟨_,Rv hz,k⟩
theorem aeS {a b:Int} (h:0<b) (k:Q (.int (a%b)) σ):Ax (eN .Mod (.int a) (.int b)) Q σ:=⟨_,gz h,k⟩
theorem aeT {a b:Int} (h:b.natAbs<2^64) (k:Q (.int (a*b)) σ):Ax (eN .Mult (.int a) (.int b)) Q σ:=⟨_,jJ h,k⟩
theorem aeR {a b:Int} (h:0<b) (hb:b.natAbs<2^64) (k:Q (.int (a/b)) σ):Ax (eN .FloorDiv (.int a) (.int b)) Q σ:=⟨_,kG h hb,k⟩
theorem aeM (e:Ev ρ σ m p) (h:Q p σ):V c m ρ σ Q X:=e.run h
theorem aeH {Q:List PV->aa->Prop} (e:mf ρ σ ms ps) (h:Q ps σ):VA c ms ρ σ Q X:=e.run h
theorem aew {b:Bool} {Q:Bool->aa->Prop} (e:Et ρ σ m b) (h:Q b σ):T c m ρ σ Q X:=e.run h
theorem aeK {o:eR} {l r:ME} {x:PV} (e:Ev ρ σ l x) (h:V c r ρ σ (B1 o Q x) X):V c (.bin o l r) ρ σ Q X:=dC (e.run h)
theorem aeJ {o:eR} {l r:ME} {x:PV} (e:Ev ρ σ l x) (f:Ev ρ σ r y) (h:Ax (eN o x y) Q σ):V c (.bin o l r) ρ σ Q X:=dC (e.run (f.run h))
theorem aev {o:f_} {l r:ME} {x:PV} {Q:Bool->aa->Prop} (e:Ev ρ σ l x) (h:V c r ρ σ (Il o Q x) X):T c (.cmp o l r) ρ σ Q X:=aY (e.run h)
theorem aeu {o:f_} {l r:ME} {x:PV} {Q:Bool->aa->Prop} (e:Ev ρ σ l x) (f:Ev ρ σ r y) (h:Ax (c9 o x y) Q σ):T c (.cmp o l r) ρ σ Q X:=aY (e.run (f.run h))
theorem aeO {l r:ME} {x:PV} (e:Ev ρ σ l x) (h:V c r ρ σ (Ih Q x) X):V c (.idx l r) ρ σ Q X:=b8 (e.run h)
theorem aeN {l r:ME} {x:PV} (e:Ev ρ σ l x) (f:Ev ρ σ r y) (h:Ax (fe σ x y) Q σ):V c (.idx l r) ρ σ Q X:=b8 (e.run (f.run h))
theorem aeG {Q:List PV->aa->Prop} (e:Ev ρ σ m p) (h:VA c ms ρ σ (Ib Q p) X):VA c (m::ms) ρ σ Q X:=aO (e.run h)
noncomputable def Mq (C m:Nat) (fs:af):Option Nat:=bif(get fs m).isNone&&kO fq C then find3 pO C m else none
theorem QL {o:ME} {m f C:Nat} {fs:af} (e:Ev ρ σ o (.ref a)) (h2:σ a=some (.inst C fs)) (h3:Mq C m fs=some f) (h:VA c ms ρ σ (Ie c X f a Q) X):V c (.cm o m ms) ρ σ Q X:=by
 replace h3:(bif(get fs m).isNone&&kO fq C then find3 pO C m else none)=some f:=h3
 cases q:(get fs m).isNone&&kO fq C with
 |false=>rw[q]at h3;exact nn h3
 |true=>
  rw[q]at h3
  exact Bc (e.run ⟨_,_,_,_,rfl,h2,h3,(ak q).2,Option.isNone_iff_eq_none.mp (ak q).1,h⟩)
theorem aeL {o:ME} {m f C:Nat} {fs:af} (e:Ev ρ σ o (.ref a)) (h2:σ a=some (.inst C fs)) (h3:Mq C m fs=some f) (es:mf ρ σ ms ps) (h:Call c.d c.nh f (.ref a::ps) σ Q X):V c (.cm o m ms) ρ σ Q X:=QL e h2 h3 (es.run h)
theorem aeI {i:Int} {Q:Option Int->aa->Prop} (e:Ev ρ σ m (.int i)) (h:∃j,PV.int i=.int j/\0<=j/\Q (some j) σ):VO c (some m) ρ σ Q X:=GL (e.run h)
end
section
variable{c:Cx} {N:af->aa->Prop} {X:Ex->af->aa->Prop}
theorem adI {o:eR} {r:PV} {ms:List MS} (e:get ρ x=some p) (f:Ev ρ σ m q) (g:NB o p q=some r) (h:aD c ms (put ρ x r) σ N R X):aD c (.aug (.nm x) o m::ms) ρ σ N R X:=aA (Qw e (f.run ⟨_,acR g,h⟩))
theorem adH {o:ME} {C:Nat} {fs:af} {ms:List MS} (e:Ev ρ σ m p) (f:Ev ρ σ o (.ref a)) (h1:σ a=some (.inst C fs)) (h2:(n_ m&&(iw fq C x&&bW fs.length 1000))=true) (h:aD c ms ρ (upd σ a (.inst C (put fs x p))) N R X):aD c (.asg (.at o x) m::ms) ρ σ N R X:=
 aA (w' (e.run (f.run ⟨_,_,_,rfl,h1,(ak (ak h2).2).1,aG (ak (ak h2).2).2,h⟩)) (ak h2).1)
theorem adJ {a b ms:List MS} {x:Bool} (e:Et ρ σ m x) (h:Br x (aD c a ρ σ (Ca c R X ms N) R X) (aD c b ρ σ (Ca c R X ms N) R X)):aD c (.ite m a b::ms) ρ σ N R X:=aA (bR (e.run h))
theorem adK {ms:List MS} (e:Ev ρ σ m p) (h:R p σ):aD c (.ret (some m)::ms) ρ σ N R X:=aA (gT (e.run h))
end
end
open Lean in private def wd (s:String):MacroM Term:=if s== "?" then `(?_) else if s== "_" then `(_) else if s== "%ble" then `(aG rfl) else if s.startsWith "%" then `(by k_extra $(Syntax.mkStrLit (s.drop 1).toString)) else pure (mkIdent s.toName)
open Lean in private def alt (s:String):MacroM (TSyntax `tactic):=do match s.splitOn " " with
 | "x" ::x::_=> `(tactic| k_extra $(Syntax.mkStrLit x))
 | "a" ::n::ss=>ss.foldlM (fun t s=>do `(tactic| ($t:tactic;k_extra $(Syntax.mkStrLit s)))) (← `(tactic| apply $(mkIdent n.toName)))
 | n::ss=>let a ←ss.toArray.mapM wd; `(tactic| refine $(mkIdent n.toName) $a*)
 |_=>Macro.throwUnsupported
open Lean in private def alts (s:String):MacroM (TSyntax `tactic):=do
 let a ←(s.splitOn "|").toArray.mapM fun a=>do `(Lean.Parser.Tactic.tacticSeq| $(←alt a):tactic)
 `(tactic| first $[| $a]*)
open Lean in private def grp (s:String):MacroM (TSyntax `tactic):=do match s.splitOn ":" with
 |[h,r]=>
  match h.splitOn " " with
  | [n,k]=>let a ←(bV (k.length) ()).toArray.mapM fun _=> `(_); `(tactic| (refine(?_: $(mkIdent n.toName) $a*); $(←alts r)))
  |_=>Macro.throwUnsupported
 |_=>alts s
open Lean in private def grps (l:List String):MacroM (TSyntax `tactic):=do
 let a ←l.toArray.mapM fun a=>do `(Lean.Parser.Tactic.tacticSeq| $(←grp a):tactic)
 `(tactic| with_reducible first $[| $a]*)
local macro_rules | `(tactic| k_extra $s:str)=>do
 let s:=s.getString
 if s=="mine" then grps ["aD _______:a adJ et|a adK e|a adI gp e r|a adH e e sg r|aE ?|aA ?","SV _______:cv ? rfl|gT ?|aes ?|bR ?|Qw rfl ?|w' ? rfl|aer ?|rM rfl ? rfl|Qv ? rfl|aeq ?|aet rfl rfl ?","Mine.V ______:a aeM e|a aeL e sg r es|a aeJ e e|a aeK e|dC ?|a aeN e e|a aeO e|b8 ?|uk ?|V_at ?|dX rfl ?|aeB ?|a QL e sg r|Bc ?|jH rfl rfl ?|QH ?|qp ?|Bd ?|QF ?|xf ?|Bb ?|GO ?|um ?|aeE ?|aeD ?|aeA ?|aeC %dec %dec ?|aq %gp ?","Mine.T ______:a aew et|a aeu e e|a aev e|aY ?|fj ?|my ?|jG ?|rN ?|A_ ?|nu ? rfl","VA ______:a aeH es|a aeG e|aO ?|bc ?","QD ?|a aeI e|GL ?|aey ?|aez ?|aex rfl ?","Br ___:du ?|b4 ?|aeV ?|Hk ?|x x|jN %lia ?|jM %lia ?|Hj %lia ?|Hi %lia ?","Bn ___:uB ?|uC ?|x x|BA %lia ?|uA %lia ?","And __:x x|aeP %simp ?|aeQ %simp ?","Ax ___:x x|Ax.intro _ oU ?|Ax.intro _ xl ?|Ax.intro _ Q1 ?|Ax.intro _ Q3 ?|Ax.intro _ Q4 ?|Ax.intro _ Xi ?|Ax.intro _ Xk ?|Ax.intro _ Xj ?|Ax.intro _ Xl ?|Ax.intro _ dw ?|Ax.intro _ qt ?|Ax.intro _ rY ?|Ax.intro _ RP ?|Ax.intro _ ip ?|Ax.intro _ xv ?|Ax.intro _ RL ?|Ax.intro _ RQ ?|Ax.intro _ BL ?|Ax.intro _ uL ?|Ax.intro _ ae2 ?|Ax.intro _ aeZ ?|Ax.intro _ rfl ?|a aeX len0","x x","Ic.intro _ _ _ _ rfl %sg rfl rfl ?|IJ.intro _ _ _ rfl %sg rfl %ble ?|IM.intro _ _ _ _ rfl %sg rfl rfl ?|IP.intro _ _ Xi %sg %ble ?|IP.intro _ _ Xk %sg %ble ?|Ik.intro _ _ _ _ rfl %sg rfl rfl rfl ?"]
 else if s=="e" then alts "a ae5 r|a Sl e sg r|a ae4 e e r"
 else if s=="es" then alts "a ae7 r|a ae6 e es"
 else if s=="et" then alts "a ae3 e e r"
 else if s== "sg" then `(tactic| first | assumption | exact ay _ _ _ | (refine(aw _ _ (by assumption)).trans ?_;k_extra "sg"))
 else if s=="gp" then alts "x as|x f|ae8 rfl rfl|ae9 %dec %gp"
 else if s=="len0" then alts "x as|x lia"
 else if s== "r" then `(tactic| with_unfolding_all exact rfl)
 else if s== "f" then `(tactic| rfl)
 else if s== "as" then `(tactic| assumption)
 else if s=="lia" then alts "zl %as rfl|aT _|x dec|znl %as|a_.mpr %as|znk %as|x li"
 else if s== "li" then `(tactic| lia)
 else if s== "dec" then `(tactic| decide)
 else if s== "simp" then `(tactic| simp)
 else if s== "x" then `(tactic| fail)
 else if s== "w" then `(tactic| repeat (k_extra "mine"))
 else Lean.Macro.throwUnsupported
section
theorem Hf (a b:Nat):ko (a:Int) (b:Int)=((a|||b:Nat):Int):=by
 unfold ko OR oA
 have h1:decide ((0:Int)<=-(a:Int)-1)=false:=by simp;exact Ls
 have h2:decide ((0:Int)<=-(b:Int)-1)=false:=by simp;exact Ls
 rw[h1,h2]
 dsimp only
 unfold OR
 have e1:(-(-(a:Int)-1)-1).toNat=a:=by exact Lu
 have e2:(-(-(b:Int)-1)-1).toNat=b:=by exact Lu
 rw[e1,e2];lia
theorem abS (a b k:Nat) (h:a<2^k):a|||(b*2^k)=a+b*2^k:=by
 rw[Nat.or_comm,Nat.mul_comm,<-Nat.two_pow_add_eq_or_of_lt h];exact wY _ _
theorem rR {x y:Int} (k:Nat) (h0:0<=x) (h1:x<2^k) (h2:0<=y):ko x (y*2^k)=x+y*2^k:=by
 obtain⟨a,rfl⟩:=p8 h0
 obtain⟨b,rfl⟩:=p8 h2
 have e:(b:Int)*2^k=((b*2^k:Nat):Int):=by push_cast;rfl
 have ha:a<2^k:=by
  have:((2^k:Nat):Int)=(2:Int)^k:=by push_cast;rfl
  lia
 rw[e,Hf,abS a b k ha];push_cast;rfl
noncomputable def eH (D:List UInt8) (i:Nat):Nat:=(D.getD i 0).toNat+(D.getD (i+1) 0).toNat*256+(D.getD (i+2) 0).toNat*65536+(D.getD (i+3) 0).toNat*16777216
noncomputable def fT (D:List UInt8) (i:Nat):Nat:=eH D i+eH D (i+4)*4294967296
theorem yA (D:List UInt8) (i:Nat):eH D i<4294967296:=by
 unfold eH
 have h0:=(D.getD i 0).toNat_lt
 have h1:=(D.getD (i+1) 0).toNat_lt
 have h2:=(D.getD (i+2) 0).toNat_lt
 have h3:=(D.getD (i+3) 0).toNat_lt
 exact Y' h0 h1 h2 h3
theorem fR {l:List UInt8} {k:Int} (i:Nat) (e:k=i) (h1:i<l.length) (hz:l.length<=16777216):fe σ (.bytes l) (.int k) (.int ((l.getD i 0).toNat:Nat)):=by
 subst e
 exact qM (i:=(i:Int)) (aT _) (d6.mpr h1) hz
section
variable{D:List UInt8}
theorem vG (n:Nat) {i:Nat} (hz:D.length<=16777216) (h1:i<D.length) (h2:(D.getD i 0).toNat<128)
  (h:Q (.tup [.int ((D.getD i 0).toNat:Nat),.int (i+1:Nat)]) σ):Call (n+1) true 127 [.bytes D,.int i] σ Q X:=by
 refine aK ID rfl ?_
 lk
 lk
 lk
 lk
 refine⟨_,fR i rfl (h1) hz,?_⟩
 lk
 lk
 refine⟨_,fR i rfl (h1) hz,?_⟩
 lk
 exact h
theorem X8 (n:Nat) {i:Nat} (hz:D.length<=16777216) (h1:i<D.length) (h2:(D.getD i 0).toNat<128)
  (h:Q (.tup [.int ((D.getD i 0).toNat:Nat),.int (i+1:Nat)]) σ):Call (n+1) true 120 [.bytes D,.int i] σ Q X:=by
 refine aK IC rfl ?_
 lk
 lk
 lk
 lk
 refine⟨_,fR i rfl (h1) hz,?_⟩
 lk
 lk
 refine⟨_,fR i rfl (h1) hz,?_⟩
 lk
 exact h
theorem J7 (n:Nat) {i:Nat} {oc most:Int} (hz:D.length<=16777216) (h1:i+1<D.length) (h2:128<=(D.getD i 0).toNat) (h3:(D.getD (i+1) 0).toNat<128) (ho:2<=oc) (qH:oc<=10) (hm:16384<=most)
  (h:Q (.tup [.int (((D.getD i 0).toNat-128+(D.getD (i+1) 0).toNat*128:Nat)),.int (i+2:Nat)]) σ):Call (n+1) true 113 [.bytes D,.int i,.int oc,.int most] σ Q X:=by
 refine aK UR rfl ?_
 lk
 lk
 refine oP rfl ?_
 lk
 refine⟨oc,rfl,zw qH rfl,by lia,?_⟩
 obtain⟨k,rfl⟩:∃k:Nat,oc=k+2:=⟨(oc-2).toNat,(Za ho).symm⟩
 have er:((k:Int)+2).toNat=k+2:=by exact rfl
 rw[er,AW,AW,qf,ng,qf]
 refine⟨_,rfl,?_⟩
 have a1:=(D.getD i 0).toNat_lt
 have a2:=(D.getD (i+1) 0).toNat_lt
 lk
 lk
 lk
 refine⟨_,fR i rfl (bx h1) hz,?_⟩
 lk
 rw[bitAnd_m7]
 refine⟨_,jK (by lia) (by lia) (by exact Ow rfl rfl),?_⟩
 lk
 lk
 refine⟨_,rfl,?_⟩
 lk
 lk
 lk
 refine⟨_,fR (i+1) rfl (by exact h1) hz,?_⟩
 lk
 rw[bitAnd_m7]
 refine⟨_,jK (by lia) (by lia) (by exact Ow rfl rfl),?_⟩
 lk
 lk
 have e:ko (ko 0 (((D.getD i 0).toNat:Int)%128*2^oE 0)) (((D.getD (i+1) 0).toNat:Int)%128*2^((0:Int)+7).toNat)=(((D.getD i 0).toNat-128+(D.getD (i+1) 0).toNat*128:Nat):Int):=by
  rw[show oE 0=0 from rfl,show((0:Int)+7).toNat=7 from rfl,rR 0 (by lia) (by lia) (by exact Lw),rR 7 (by lia) (by lia) (by exact Lw)]
  lia
 rw[e]
 refine jM (Zb hm a1 h3) ?_
 lk
 exact h
theorem X_ (n:Nat) {i:Nat} (hz:D.length<=16777216) (h1:i+1<D.length) (h2:128<=(D.getD i 0).toNat) (h3:(D.getD (i+1) 0).toNat<128)
  (h:Q (.tup [.int (((D.getD i 0).toNat-128+(D.getD (i+1) 0).toNat*128:Nat)),.int (i+2:Nat)]) σ):Call (n+2) true 120 [.bytes D,.int i] σ Q X:=by
 refine aK IC rfl ?_
 lk
 lk
 lk
 lk
 refine⟨_,fR i rfl (bx h1) hz,?_⟩
 lk
 lk
 exact J7 n hz h1 h2 h3 (by decide) (by decide) (by decide) h
theorem X9 (n:Nat) {i:Nat} (hz:D.length<=16777216) (h1:i+1<D.length) (h2:128<=(D.getD i 0).toNat) (h3:(D.getD (i+1) 0).toNat<128)
  (h:Q (.tup [.int (((D.getD i 0).toNat-128+(D.getD (i+1) 0).toNat*128:Nat)),.int (i+2:Nat)]) σ):Call (n+2) true 127 [.bytes D,.int i] σ Q X:=by
 refine aK ID rfl ?_
 lk
 lk
 lk
 lk
 refine⟨_,fR i rfl (bx h1) hz,?_⟩
 lk
 lk
 exact J7 n hz h1 h2 h3 (by decide) (by decide) (by decide) h
theorem nZ (n:Nat) {i:Nat} (hz:D.length<=16777216) (h1:i+4<=D.length) (h:Q (.int (eH D i:Nat)) σ):Call (n+1) true 134 [.bytes D,.int i] σ Q X:=by
 refine aK UO rfl ?_
 have a0:=(D.getD i 0).toNat_lt
 have a1:=(D.getD (i+1) 0).toNat_lt
 have a2:=(D.getD (i+2) 0).toNat_lt
 have a3:=(D.getD (i+3) 0).toNat_lt
 lk
 lk
 lk
 lk
 refine⟨_,fR i rfl (by lia) hz,?_⟩
 lk
 refine⟨_,fR (i+1) rfl (by lia) hz,?_⟩
 lk
 refine⟨_,jK (by decide) (by decide) (by omega),?_⟩
 lk
 refine⟨_,fR (i+2) rfl (bx h1) hz,?_⟩
 lk
 refine⟨_,jK (by decide) (by decide) (by omega),?_⟩
 lk
 refine⟨_,fR (i+3) rfl (h1) hz,?_⟩
 lk
 refine⟨_,jK (by decide) (by decide) (by omega),?_⟩
 lk
 have e:ko (ko (ko ((D.getD i 0).toNat:Int) (((D.getD (i+1) 0).toNat:Int)*2^(8:Int).toNat)) (((D.getD (i+2) 0).toNat:Int)*2^(16:Int).toNat)) (((D.getD (i+3) 0).toNat:Int)*2^(24:Int).toNat)=((eH D i:Nat):Int):=by
  rw[show(8:Int).toNat=8 from rfl,show(16:Int).toNat=16 from rfl,show(24:Int).toNat=24 from rfl,rR 8 (aT _) (d6.mpr a0) (aT _),rR 16 (by lia) (by lia) (aT _),rR 24 (by lia) (by lia) (aT _)]
  unfold eH;lia
 rw[e];exact h
theorem J6 (n:Nat) {i:Nat} (hz:D.length<=16777216) (h1:i+8<=D.length) (h:Q (.int (fT D i:Nat)) σ):Call (n+2) true 141 [.bytes D,.int i] σ Q X:=by
 refine aK UP rfl ?_
 have a0:=yA D i
 have a1:=yA D (i+4)
 lk
 lk
 lk
 lk
 refine nZ n hz (by lia) ?_
 lk
 refine nZ (i:=i+4) n hz (h1) ?_
 lk
 refine⟨_,jK (by decide) (by decide) (by omega),?_⟩
 lk
 have e:ko ((eH D i:Nat):Int) (((eH D (i+4):Nat):Int)*2^(32:Int).toNat)=((fT D i:Nat):Int):=by
  rw[show(32:Int).toNat=32 from rfl,rR 32 (aT _) (d6.mpr a0) (aT _)]
  unfold fT;lia
 rw[e];exact h
end
end
section
noncomputable def BH (D:List UInt8):Int:=(jw D*251+D.length*65537+7)%4294967296
theorem Q8 (a b:Nat):oA (a:Int) (b:Int)=((a&&&b:Nat):Int):=by
 unfold oA
 have h1:decide ((0:Int)<=(a:Int))=true:=by simp
 have h2:decide ((0:Int)<=(b:Int))=true:=by simp
 rw[h1,h2];rfl
theorem Bq {x y:Int} (k:Nat) (h0:0<=x) (h1:x<2^k) (h2:0<=y) (h3:y<2^k):0<=jA x y/\jA x y<2^k:=by
 obtain⟨a,rfl⟩:=p8 h0
 obtain⟨b,rfl⟩:=p8 h2
 have e:((2^k:Nat):Int)=(2:Int)^k:=by push_cast;rfl
 have ha:a<2^k:=by lia
 have hb:b<2^k:=by lia
 unfold jA
 rw[Hf,Q8]
 have h4:=Nat.or_lt_two_pow ha hb
 have h5:a&&&b<=a:=Nat.and_le_left
 have h6:a<=a|||b:=Nat.left_le_or
 lia
section
variable{D:List UInt8}
theorem XK (n:Nat) (hz:D.length<=16777216) (h:Q (.int (BH D)) σ):Call (n+1) true 170 [.int 2,.bytes D] σ Q X:=by
 refine aK Ul rfl ?_
 lk
 refine⟨_,Hq hz,?_⟩
 lk
 refine⟨_,jJ (by decide),?_⟩
 lk
 refine⟨_,jJ (by decide),?_⟩
 lk
 rw[rQ];exact h
theorem ey {c:Cx} {b:List MS} {X:Ex->af->aa->Prop}
  (h:T c m ρ σ (IQ c b R X (dQ c m b N' R X n) N' ρ) (xa X ρ)):dQ c m b N' R X (n+1) ρ σ:=h
theorem Iq {x:Int} (k:Nat) (h0:0<=x) (h1:x<2^32):0<=x.fdiv (2^k)/\x.fdiv (2^k)<2^32:=by
 have hp:(0:Int)<2^k:=F8 (by decide)
 refine aj (AI _ (AJ hp))▸?_
 have h2:x/2^k<=x:=Int.ediv_le_self _ h0
 have h3:0<=x/2^k:=Int.ediv_nonneg h0 (AJ hp)
 exact Zu h3 h2 h1
theorem Rc {X:Ex->af->aa->Prop} (d:Nat) {sc:b7} (hz:D.length<=1000000)
  (hN:∀(h:Int) (a:Nat),0<=h->h<2^32->a<=D.length->D.length<a+4->N' [(0,.bytes D),(23,.int D.length),(24,.int h),(1,.int a)] σ):
  ∀(k:Nat) (h:Int) (a:Nat),0<=h->h<2^32->a<=D.length->D.length<a+4*k->dQ ⟨sc,d+1,true⟩ (.cmp .LtE (.bin .Add (.v 1) (.int 4)) (.v 23))
   [.asg (.nm 24) (.bin .BitAnd (.bin .Mult (.bin .Add (.v 24) (.cf 15 [.v 0,.v 1])) (.g 26)) (.g 14)),.aug (.nm 24) .BitXor (.bin .RShift (.v 24) (.int 16)),.aug (.nm 1) .Add (.int 4)] N' R X k
   [(0,.bytes D),(23,.int D.length),(24,.int h),(1,.int a)] σ:=by
 intro bD
 induction bD with
 |zero=>
  intro h a _ _ h1 h2
  lia
 |succ k ih=>
  intro h a h0 Vm h1 h2
  refine ey ?_
  lk
  refine aH (λhc=>?_) λhc=>?_
  ·lk
   refine nZ (i:=a) d (cq hz) (a_.mp hc) ?_
   lk
   refine⟨_,jJ (by decide),?_⟩
   lk
   refine⟨_,oV (by decide),?_⟩
   lk
   rw[rQ]
   have e1:0<=(h+(eH D a:Nat))*3332679571%4294967296:=jB _ (by decide)
   have e2:(h+(eH D a:Nat))*3332679571%4294967296<2^32:=oD _ (by decide)
   have e3:=Iq (16:Int).toNat e1 e2
   have e4:=Bq 32 e1 e2 e3.1 e3.2
   exact ih _ (a+4) e4.1 e4.2 (a_.mp hc) (Zv h2)
  ·exact hN h a h0 Vm h1 (pY hc)
theorem J2 (n:Nat) (hz:D.length<=1000000) (h:∀v:Int,0<=v->v<2^32->Q (.int v) σ):Call (n+2) true 177 [.bytes D] σ Q X:=by
 refine aK Uk rfl ?_
 lk
 refine⟨_,jJ (by decide),?_⟩
 lk
 refine gf (D.length/4+1) ?_
 have e0:0<=oA ((D.length:Int)*3332679571) 4294967295/\oA ((D.length:Int)*3332679571) 4294967295<2^32:=by
  rw[rQ];exact⟨jB _ (by decide),oD _ (by decide)⟩
 have e1:=Bq 32 (show(0:Int)<=3164544308 by decide) (by decide) e0.1 e0.2
 refine Rc n hz (λg a g0 g1 a0 a1=>?_) _ _ 0 e1.1 e1.2 (eQ _) (Zw)
 have fin:∀x:Int,0<=jA (x%4294967296) ((x%4294967296).fdiv (2^(24:Int).toNat))/\jA (x%4294967296) ((x%4294967296).fdiv (2^(24:Int).toNat))<2^32:=λx=>by
  have e1:0<=x%4294967296:=jB _ (by decide)
  have e2:x%4294967296<2^32:=oD _ (by decide)
  have e3:=Iq (24:Int).toNat e1 e2
  exact Bq 32 e1 e2 e3.1 e3.2
 have b0:=(D.getD a 0).toNat_lt
 have b1:=(D.getD (a+1) 0).toNat_lt
 have b2:=(D.getD (a+2) 0).toNat_lt
 obtain hr|hr|hr|hr:D.length=a\/D.length=a+1\/D.length=a+2\/D.length=a+3:=by lia
 ·lk
  exact h _ g0 g1
 ·lk
  refine⟨_,fR a rfl (bM hr.symm) (cq hz),?_⟩
  lk
  refine⟨_,jJ (by decide),?_⟩
  lk
  refine⟨_,oV (by decide),?_⟩
  lk
  rw[rQ]
  exact h _ (fin _).1 (fin _).2
 ·lk
  refine⟨_,fR (a+1) rfl (bM hr.symm) (cq hz),?_⟩
  lk
  refine⟨_,jK (by decide) (by decide) (Fp (by assumption) rfl),?_⟩
  lk
  refine⟨_,fR a rfl (f9 hr.symm) (cq hz),?_⟩
  lk
  refine⟨_,jJ (by decide),?_⟩
  lk
  refine⟨_,oV (by decide),?_⟩
  lk
  rw[rQ]
  exact h _ (fin _).1 (fin _).2
 ·lk
  refine⟨_,fR (a+2) rfl (bM hr.symm) (cq hz),?_⟩
  lk
  refine⟨_,jK (by decide) (by decide) (Fp (by assumption) rfl),?_⟩
  lk
  refine⟨_,fR (a+1) rfl (by lia) (cq hz),?_⟩
  lk
  refine⟨_,jK (by decide) (by decide) (Fp (by assumption) rfl),?_⟩
  lk
  refine⟨_,fR a rfl (f9 hr.symm) (cq hz),?_⟩
  lk
  refine⟨_,jJ (by decide),?_⟩
  lk
  refine⟨_,oV (by decide),?_⟩
  lk
  rw[rQ]
  exact h _ (fin _).1 (fin _).2
noncomputable def iX (t:Nat):List UInt8:=(aW 8).map λi=>(t/256^i%256).toUInt8
noncomputable def jX (u:List UInt8) (t:Nat):List UInt8:=u++iX t
theorem S_ (t:Nat):(iX t).length=8:=by simp[iX]
theorem Jz (u:List UInt8) (t:Nat):(jX u t).length=u.length+8:=by simp[jX,S_]
theorem Cc {l m:List UInt8} (h:i=l.length+j):(l++m).getD i 0=m.getD j 0:=by
 subst h;simp[be,p_]
theorem oY (t i:Nat) (h:i<8):((iX t).getD i 0).toNat=t/256^i%256:=by
 simp only[iX,be,mj,PD h,Option.map_some,Option.getD_some]
 rw[QC,ub]
 exact eJ _ (by decide)
theorem dg (x k:Nat):x/k%256+256*(x/(k*256))=x/k:=by
 rw[<-PX];exact Gu _ _
theorem BP (n:Nat):n%256+n/256%256*256+n/65536%256*65536+n/16777216%256*16777216=n%4294967296:=by
 have h0:=Gu n 256
 have h1:=dg n 256
 have h2:=dg n 65536
 have h3:=dg n 16777216
 have h4:=Gu n 4294967296
 simp only[Gx]at h1 h2 h3
 generalize n%256=r0 at*
 generalize n/256%256=r1 at*
 generalize n/65536%256=r2 at*
 generalize n/16777216%256=r3 at*
 generalize n%4294967296=r4 at*
 generalize n/256=a1 at*
 generalize n/65536=a2 at*
 generalize n/16777216=a3 at*
 generalize n/4294967296=a4 at*
 rw[<-h1,<-h2,<-h3]at h0
 lia
theorem YJ (u:List UInt8) {t:Nat} (ht:t<2^64):fT (jX u t) u.length=t:=by
 unfold fT eH jX
 have g:∀j,(u++iX t).getD (u.length+j) 0=(iX t).getD j 0:=λj=>Cc rfl
 rw[show(u++iX t).getD u.length 0=(iX t).getD 0 0 from g 0,g 1,g 2,g 3,g 4,show(u++iX t).getD (u.length+4+1) 0=(iX t).getD 5 0 from g 5,show(u++iX t).getD (u.length+4+2) 0=(iX t).getD 6 0 from g 6,show(u++iX t).getD (u.length+4+3) 0=(iX t).getD 7 0 from g 7]
 simp only[oY t _ (by decide:0<8),oY t _ (by decide:1<8),oY t _ (by decide:2<8),oY t _ (by decide:3<8),oY t _ (by decide:4<8),oY t _ (by decide:5<8),oY t _ (by decide:6<8),oY t _ (by decide:7<8)]
 simp only[Nat.reducePow,Gx,Nat.div_one]
 have b:=BP (t/4294967296)
 simp only[PX,Gx]at b
 rw[BP t,b,ub (Nat.div_lt_of_lt_mul (show t<4294967296*4294967296 from ht))]
 exact P6 t 4294967296
theorem Xb (u:List UInt8) (t:Nat):(jX u t).take u.length=u:=by simp[jX]
noncomputable def dec (x:List UInt8):List UInt8×Nat:=(x.take (x.length-8),fT x (x.length-8))
theorem YK (D:List UInt8) (i:Nat):fT D i<2^64:=by
 have h1:=yA D i
 have h2:=yA D (i+4)
 unfold fT;exact Zx h1 h2
theorem R3 (u:List UInt8) {t:Nat} (ht:t<2^64):dec (jX u t)=(u,t):=by
 unfold dec
 rw[Jz,w1,Xb,YJ u ht]
theorem uN {α:Type} (l:List α) {i:Int} (k:Nat) (h:i=k):cut l none (some i)=l.take k:=by
 subst h;simp[cut]
theorem yt (n:Nat) (hz:D.length<=1000000) (h8:8<=D.length) (h:Q (.bytes (dec D).1) σ):Call (n+1) true 191 [.bytes D] σ Q X:=by
 refine aK UW rfl ?_
 lk
 refine⟨_,rfl,by lia,_,gK (cq hz),?_⟩
 rw[uN D (D.length-8) (by exact(gR h8).symm)]
 lk
 exact⟨_,rU,h⟩
theorem Dm (n:Nat) (hz:D.length<=1000000) (h8:8<=D.length) (h:Q (.int (dec D).2) σ):Call (n+3) true 198 [.bytes D] σ Q X:=by
 refine aK UU rfl ?_
 lk
 have e:(D.length:Int)-8=(D.length-8:Nat):=by exact(gR h8).symm
 refine aj (e)▸?_
 exact J6 (i:=D.length-8) n (cq hz) (by lia) h
theorem Yd (n:Nat) (hz:D.length<=1000000) (h8:8<=D.length) (h:(dec D).2%256<=1->Q (.tup [.bytes (dec D).1,.int ((dec D).2/256:Nat),.int ((dec D).2%256:Nat)]) σ) (hx:1<(dec D).2%256->X .b_ σ):Call (n+4) true 184 [.bytes D] σ Q X:=by
 refine aK UT rfl ?_
 have ht:(dec D).2<2^64:=YK _ _
 lk
 refine yt (n+2) hz h8 ?_
 lk
 refine Dm n hz h8 ?_
 lk
 rw[bitAnd_m8]
 refine aH (λhc=>?_) λhc=>?_
 ·lk
  refine⟨_,rfl,by omega,?_⟩
  lk
  exact hx (a_.mp hc)
 ·lk
  refine⟨_,oV (by decide),?_⟩
  lk
  have e:(((dec D).2:Nat):Int).fdiv (2^(8:Int).toNat)=((dec D).2/256:Nat):=by
   rw[AI _ (by decide)];rfl
  refine aj (e)▸?_
  exact h (Zy hc)
end
end
section
theorem GK {c:Cx} {Q Q':List PV->aa->Prop} (h:VA c ms ρ σ Q X) (k:∀ps σ',Q ps σ'->Q' ps σ'):VA c ms ρ σ Q' X:=.intro λw A env es pos s hc hi=>
 bg (h.out w A env es pos s hc hi) (λ_ _ z=>z.rec λps σ' a b c=>⟨ps,σ',k _ _ a,b,c⟩) λ_ _ z=>z
noncomputable def ji (a b:List UInt8):Int:=if a<b then-1 else if b<a then 1 else 0
noncomputable def dM (x y:List UInt8×Nat):Int:=if df x.1 (0-x.2) y.1 (0-y.2)then-1 else if df y.1 (0-y.2) x.1 (0-x.2)then 1 else 0
set_option genInjectivity false in
inductive OK where
 |bytes|internal (u:Nat)
noncomputable def ia (σ:aa) (o:Nat):OK->Prop
 |.bytes=>σ o=some (.inst 271 [])
 |.internal u=>σ o=some (.inst 325 [(41,.ref u)])/\σ u=some (.inst 271 [])
noncomputable def uK:OK->List UInt8->List UInt8->Int
 |.bytes,x,y=>ji x y
 |.internal _,x,y=>dM (dec x) (dec y)
noncomputable def p7:OK->List UInt8->Prop
 |.bytes,x=>x.length<=1000000
 |.internal _,x=>x.length<=1000000/\8<=x.length
section
theorem J1 (n:Nat) {o:Nat} {a b:List UInt8} (h:Q (.int (ji a b)) σ):Call (n+1) true 212 [.ref o,.bytes a,.bytes b] σ Q X:=by
 refine aK TQ rfl ?_
 unfold ji at h
 lk
 refine aH (λhc=>?_) λhc=>?_
 ·rw[if_pos hc]at h
  lk
  exact h
 ·rw[if_neg hc]at h
  lk
  refine aH (λhc=>?_) λhc=>?_
  ·rw[if_pos hc]at h
   lk
   exact h
  ·rw[if_neg hc]at h
   lk
   exact h
theorem XT (n:Nat) {o u:Nat} {a b:List UInt8} (ho:ia σ o (.internal u)) (ha:p7 (.internal u) a) (hb:p7 (.internal u) b) (h:Q (.int (dM (dec a) (dec b))) σ):Call (n+4) true 294 [.ref o,.bytes a,.bytes b] σ Q X:=by
 refine aK TN rfl ?_
 (have zz:=ho;have dS:=zz.1;have cy:=zz.2;clear zz)
 (have zz:=ha;have a1:=zz.1;have a2:=zz.2;clear zz)
 (have zz:=hb;have b1:=zz.1;have b2:=zz.2;clear zz)
 lk
 refine yt (n+2) a1 a2 ?_
 lk
 refine yt (n+2) b1 b2 ?_
 lk
 refine J1 (n+2) ?_
 have GZ:∀{x y:List UInt8},x<y->¬y<x:=λh1 h2=>mu _ (PH h1 h2)
 have aX:∀{x y:List UInt8},x<y->x≠y:=λh1 e=>by rw[e]at h1;exact mu _ h1
 rcases Hl (dec a).1 (dec b).1 with br|heq|vd
 ·have e1:ji (dec a).1 (dec b).1=-1:=if_pos br
  have e2:dM (dec a) (dec b)=-1:=if_pos (by rw[kc];exact .inl br)
  rw[e1];rw[e2]at h
  lk
  exact h
 ·have e1:ji (dec a).1 (dec b).1=0:=by unfold ji;rw[heq,if_neg (mu _),if_neg (mu _)]
  rw[e1]
  lk
  refine Dm n a1 a2 ?_
  lk
  refine Dm n b1 b2 ?_
  lk
  refine aH (λhc=>?_) λhc=>?_
  ·have e2:dM (dec a) (dec b)=-1:=if_pos (by rw[kc];exact .inr ⟨heq,L6 hc⟩)
   rw[e2]at h
   lk
   exact h
  ·have e2:¬df (dec a).1 (0-(dec a).2) (dec b).1 (0-(dec b).2)=true:=by
    rw[kc]
    rintro(z|⟨_,z⟩)
    ·rw[heq]at z;exact mu _ z
    ·exact L7 z hc
   lk
   refine aH (λhc=>?_) λhc=>?_
   ·have e3:dM (dec a) (dec b)=1:=by
     unfold dM
     rw[if_neg e2,if_pos (by rw[kc];exact .inr ⟨heq.symm,L6 hc⟩)]
    rw[e3]at h
    lk
    exact h
   ·have e3:dM (dec a) (dec b)=0:=by
     unfold dM
     rw[if_neg e2,if_neg (by
      rw[kc]
      rintro(z|⟨_,z⟩)
      ·rw[heq]at z;exact mu _ z
      ·exact L7 z hc)]
    rw[e3]at h
    lk
    exact h
 ·have e1:ji (dec a).1 (dec b).1=1:=by unfold ji;rw[if_neg (GZ vd),if_pos vd]
  have e2:dM (dec a) (dec b)=1:=by
   unfold dM
   rw[if_neg,if_pos]
   ·rw[kc];exact .inl vd
   ·rw[kc]
    rintro(z|⟨z,_⟩)
    ·exact GZ vd z
    ·exact aX vd z.symm
  rw[e1];rw[e2]at h
  lk
  exact h
inductive Ij (a:Nat) (k:OK) (Q:PV->aa->Prop) (ps:List PV) (σ:aa):Prop where
 |intro(x y:List UInt8):ps=[.bytes x,.bytes y]->ia σ a k->p7 k x->p7 k y->Q (.int (uK k x y)) σ->Ij a k Q ps σ
inductive Ii (sc:b7) (X:Ex->aa->Prop) (ρ:af) (n:Nat) (m1 m2:ME) (Q:PV->aa->Prop) (p:PV) (σ:aa):Prop where
 |intro(a:Nat) (k:OK):p=.ref a->ia σ a k->VA ⟨sc,n+4,true⟩ [m1,m2] ρ σ (Ij a k Q) X->Ii sc X ρ n m1 m2 Q p σ
theorem aeB {o m1 m2:ME} (h:V ⟨sc,n+4,true⟩ o ρ σ (Ii sc X ρ n m1 m2 Q) X):V ⟨sc,n+4,true⟩ (.cm o 44 [m1,m2]) ρ σ Q X:=by
 refine Bc (V_mono h λp σ₁ hp=>?_)
 obtain⟨a,k,rfl,ho,sP⟩:=hp
 cases k with
 |bytes=>
  refine⟨a,_,_,_,rfl,ho,rfl,rfl,rfl,GK sP λps bY gE=>?_⟩
  obtain⟨x,y,rfl,_,_,_,hq⟩:=gE
  exact J1 (n+3) hq
 |internal u=>
  refine⟨a,_,_,_,rfl,ho.1,rfl,rfl,rfl,GK sP λps bY gE=>?_⟩
  obtain⟨x,y,rfl,cy,hx,hy,hq⟩:=gE
  exact XT n cy hx hy hq
end
end
section
noncomputable def vD (b o cur ah tn:Nat) (hk:List UInt8) (vf:Nat):List (Nat×PV):=[(81,.ref b),(68,.ref o),(82,.int cur),(83,.int ah),(7,.int tn),(84,.bytes hk),(85,.int vf)]
noncomputable def Ra (D:List UInt8) (o L r:Nat):List (Nat×PV):=[(0,.bytes D),(68,.ref o),(70,.int L),(71,.ref r)]
noncomputable abbrev cY (b o cur ah tn:Nat) (hk:List UInt8) (vf:Nat):AO:=.inst 519 (vD b o cur ah tn hk vf)
noncomputable abbrev gV (D:List UInt8) (o L r:Nat):AO:=.inst 407 (Ra D o L r)
noncomputable def dN (rs:List Nat):List PV:=rs.map λ(x:Nat)=>PV.int x
theorem mV {rs:List Nat} (h:rs[i]?=some x):(dN rs)[i]?=some (.int x):=by simp[dN,h]
theorem iN (rs:List Nat):(dN rs).length=rs.length:=by simp[dN]
section
variable{L:Nat} {D:List UInt8}
theorem sW (n:Nat) (ha:σ a=some (cY b o cur ah tn hk vf)) (hb:σ b=some (gV D o L r)) (dR:b≠a) (h:Q .none (upd σ a (cY b o L L tn [] vf))):Call (n+1) nh 432 [.ref a] σ Q X:=by
 refine aK To rfl ?_
 lk
 rw[aL,aL]
 exact h
theorem yl (n:Nat) (ha:σ a=some (cY b o cur ah tn hk vf)) (hb:σ b=some (gV D o L r)) (h:cur<L->Q .none σ) (hx:L<=cur->X .ja σ):Call (n+1) true 439 [.ref a] σ Q X:=by
 refine aK Tq rfl ?_
 lk
 refine aH (λhc=>?_) λhc=>?_
 ·lk
  exact hx (d6.mp hc)
 ·lk
  exact h (pY hc)
theorem eF (n:Nat) (ha:σ a=some (cY b o cur ah tn hk vf)) (hb:σ b=some (gV D o L r)) (h:Q (.bool (decide (cur<L))) σ):Call (n+1) nh 446 [.ref a] σ Q X:=by
 refine aK Tw rfl ?_
 lk
 rw[show decide ((cur:Int)<(L:Int))=decide (cur<L) by simp]
 exact h
theorem sV (n:Nat) (ha:σ a=some (cY b o cur ah tn hk vf)) (hb:σ b=some (gV D o L r)) (h:cur<L->Q (.bytes hk) σ) (hx:L<=cur->X .ja σ):Call (n+2) true 453 [.ref a] σ Q X:=by
 refine aK Tn rfl ?_
 lk
 refine yl n ha hb (λhc=>?_) λhc=>hx hc
 lk
 exact h hc
theorem pG (n:Nat) (hz:D.length<=16777216) (ha:σ a=some (cY b o cur ah tn hk vf)) (hb:σ b=some (gV D o L r)) (h:cur<L->Q (.bytes (cut D (some vf) (some ah))) σ) (hx:L<=cur->X .ja σ):Call (n+2) true 460 [.ref a] σ Q X:=by
 refine aK Tx rfl ?_
 lk
 refine yl n ha hb (λhc=>?_) λhc=>hx hc
 lk
 refine⟨_,rfl,aT _,?_⟩
 lk
 exact⟨_,rfl,aT _,_,gK hz,h hc⟩
theorem yk (n:Nat) {rs:List Nat} {t p:Nat} (ha:σ a=some (cY b o cur ah tn hk vf)) (hb:σ b=some (gV D o L r)) (hr:σ r=some (.av (dN rs))) (dR:b≠a) (dK:r≠a) (hp:rs[t]?=some p) (ht:t<1000000)
  (h:Q .none (upd σ a (cY b o L p t [] vf))):Call (n+2) nh 467 [.ref a,.int t] σ Q X:=by
 refine aK Tj rfl ?_
 lk
 refine sW n ha hb dR ?_
 lk
 refine⟨_,i6 (by k_extra"sg") (aT _) (d6.mpr ht) (mV hp),?_⟩
 lk
 rw[aL,aL]
 exact h
end
end
section
section
variable{L:Nat} {D:List UInt8}
noncomputable def oct (D:List UInt8) (i:Nat):Nat:=(D.getD i 0).toNat
structure Hd (D:List UInt8) (L p sh un vl:Nat):Prop where
 e0:oct D p=sh
 e1:oct D (p+1)=un
 e2:oct D (p+2)=vl
 lt0:sh<128
 kP:un<128
 lt2:vl<128
 lK:p+3+un+vl<=L
 len:L<=D.length
theorem J4 (n:Nat) {p sh un vl:Nat} (hz:D.length<=1000000) (hb:σ b=some (gV D o L r)) (h0:Hd D L p sh un vl) (h:Q (.tup [.int sh,.int (p+3:Nat),.int (p+3+un:Nat),.int (p+3+un+vl:Nat)]) σ):Call (n+2) true 397 [.ref b,.int p] σ Q X:=by
 refine aK Iy rfl ?_
 obtain⟨rfl,rfl,rfl,l0,l1,l2,hf,hl⟩:=h0
 lk
 refine vG n (cq hz) (wn hf hl) l0 ?_
 refine⟨_,rfl,rfl,?_⟩
 lk
 refine vG (i:=p+1) n (cq hz) (wp hf hl) l1 ?_
 refine⟨_,rfl,rfl,?_⟩
 lk
 refine vG (i:=p+2) n (cq hz) (wr hf hl) l2 ?_
 refine⟨_,rfl,rfl,?_⟩
 lk
 refine jM (by unfold oct at*;exact wv hf) ?_
 lk
 exact h
theorem XO (n:Nat) {p:Nat} (hz:D.length<=1000000) (hb:σ b=some (gV D o L r)) (h0:oct D p=200) (h1:oct D (p+1)=1) (h2:oct D (p+2)=0) (h3:oct D (p+3)=0) (hf:p+4<=L) (hl:L<=D.length)
  (h:Q (.tup [.int (200:Nat),.int (p+4:Nat),.int (p+4:Nat),.int (p+4:Nat)]) σ):Call (n+3) true 397 [.ref b,.int p] σ Q X:=by
 refine aK Iy rfl ?_
 unfold oct at*
 lk
 refine X9 n (cq hz) (by lia) (by lia) (by lia) ?_
 rw[h0,h1]
 refine⟨_,rfl,rfl,?_⟩
 lk
 refine vG (n+1) (cq hz) (ai (nk hf) hl) (K8 h2.symm) ?_
 rw[h2]
 refine⟨_,rfl,rfl,?_⟩
 lk
 refine vG (i:=p+3) (n+1) (cq hz) (ai hf hl) (K8 h3.symm) ?_
 rw[h3]
 refine⟨_,rfl,rfl,?_⟩
 lk
 exact h
end
end
section
set_option genInjectivity false in
structure bq where
 D:List UInt8
 L:Nat
 rs:List Nat
 n:Nat
 off:Nat->Nat
 sh:Nat->Nat
 un:Nat->Nat
 vl:Nat->Nat
 key:Nat->List UInt8
 bad:Bool
noncomputable def bq.prev (B:bq):Nat->List UInt8
 |0=>[]
 |i+1=>B.key i
noncomputable def bq.pW (B:bq) (i:Nat):Nat:=B.off i+3+B.un i
inductive OP (B:bq):Prop
 |mk (e0:B.off B.n+4=B.L) (e1:oct B.D (B.off B.n)=200) (e2:oct B.D (B.off B.n+1)=1) (e3:oct B.D (B.off B.n+2)=0) (e4:oct B.D (B.off B.n+3)=0)
set_option genInjectivity false in
structure bq.Ok (B:bq):Prop where
 zD:B.D.length<=1000000
 LD:B.L<=B.D.length
 hd:∀i<B.n,Hd B.D B.L (B.off i) (B.sh i) (B.un i) (B.vl i)
 nx:∀i<B.n,B.off (i+1)=B.off i+3+B.un i+B.vl i
 o0:B.off 0=0
 fin:B.bad=false->B.off B.n=B.L
 brk:B.bad=true->OP B
 shl:∀i<B.n,B.sh i<=(B.prev i).length
 ky:∀i<B.n,B.key i=(B.prev i).take (B.sh i)++(B.D.drop (B.off i+3)).take (B.un i)
 n5:∀i<B.n,(B.key i).length<200
 l9:B.rs[0]?=some 0
 ke:B.rs.length<=100000
 wg:B.rs.Pairwise (· < ·)
 Na:∀p∈B.rs,p=0\/∃i<B.n,p=B.off i
 EA:∀i<B.n,B.off i∈B.rs->B.sh i=0
theorem bq.Ok.lt {B:bq} (h:B.Ok) {i:Nat} (hi:i<B.n):B.off i<B.off (i+1):=by have:=h.nx i hi;exact L8 this.symm
theorem bq.Ok.mono {B:bq} (h:B.Ok):∀{j i:Nat},i<j->j<=B.n->B.off i<B.off j
 |0,i,eA,_=>by exact vR eA
 |j+1,i,eA,hj=>by
  have h1:=h.lt (i:=j) (hj)
  by_cases e:i=j
  ·subst e;exact h1
  ·exact rI (h.mono (j:=j) (L9 eA e) (bx hj)) h1
theorem bq.Ok.le {B:bq} (h:B.Ok) {i:Nat} (hi:i<B.n):B.off (i+1)<=B.L:=by
 have h1:=h.nx i hi
 have h2:=(h.hd i hi).lK
 lia
theorem bq.Ok.inj {B:bq} (h:B.Ok) {i j:Nat} (hi:i<=B.n) (hj:j<=B.n) (e:B.off i=B.off j):i=j:=by
 rcases A3 i j with q|q|q
 ·have:=h.mono q hj;exact js this e
 ·exact q
 ·have:=h.mono q hi;exact js this e.symm
noncomputable def gL (rs:List Nat) (p:Nat):Nat:=rs.countP (· <=p)-1
theorem zE {p:Nat}:∀{rs:List Nat},rs.Pairwise (· < ·)->∀{j x:Nat},rs[j]?=some x->(x<=p↔j<rs.countP (· <=p)):=λ{rs}=>by
 induction rs with
 |nil=>
  intro _ j x h
  simp at h
 |cons a r cD=>
  intro hs j x h
  obtain⟨h1,h2⟩:=Gj.mp hs
  rw[AQ]
  cases j with
  |zero=>
   simp at h;subst h
   by_cases q:a<=p
   ·simp[q]
   ·have:r.countP (· <=p)=0:=Pq.mpr λy hy=>by have:=h1 y hy;simp;exact Oy this q
    simp[q,this]
  |succ j=>
   simp at h
   have ih:=cD h2 h
   have ha:=h1 x (gc h)
   by_cases q:a<=p
   ·simp[q,ih]
   ·have:¬x<=p:=by exact zs4 ha q
    have h0:r.countP (· <=p)=0:=Pq.mpr λy hy=>by have:=h1 y hy;simp;exact Oy this q
    simp[q,this,h0]
theorem acU {rs:List Nat} {p:Nat} (hs:rs.Pairwise (· < ·)) {x:Nat} (h1:rs[t]?=some x) (h2:x<=p) (h3:∀y,rs[t+1]?=some y->p<y):t=gL rs p:=by
 have g1:=(zE (p:=p) hs h1).mp h2
 have g2:rs.countP (· <=p)<=t+1:=by
  cases q:rs[t+1]? with
  |none=>
   have:=Gb (p:=λx=>decide (x<=p)) (l:=rs)
   have:=List.getElem?_eq_none_iff.mp q
   exact ai ‹_› this
  |some y=>
   have h5:=zE (p:=p) hs q
   have h4:=h3 y q
   have h6:¬t+1<rs.countP (· <=p):=λz=>by have:=h5.mpr z;lia
   exact t8 h6
 unfold gL;exact aag g1 g2
section
structure bZ (σ:aa) (B:bq) (b r o:Nat):Prop where
 ok:B.Ok
 hb:σ b=some (gV B.D o B.L r)
 hr:σ r=some (.av (dN B.rs))
theorem bZ.ne {B:bq} (h:bZ σ B b r o) {fs:List (Nat×PV)} (ha:σ a=some (.inst 519 fs)):b≠a/\r≠a:=by
 refine⟨λe=>?_,λe=>?_⟩
 ·have:=h.hb;simp only[e,ha]at this;cases this
 ·have:=h.hr;simp only[e,ha]at this;cases this
theorem bZ.upd {B:bq} (h:bZ σ B b r o) {fs gs:List (Nat×PV)} (ha:σ a=some (.inst 519 fs)):bZ (upd σ a (.inst 519 gs)) B b r o:=by
 obtain⟨h1,h2⟩:=h.ne ha
 exact⟨h.ok,hJ (aw _ _ h1) h.hb,hJ (aw _ _ h2) h.hr⟩
theorem ac8 {X:Ex->af->aa->Prop} {rs:List Nat} {p:Nat} (h1:get ρ 38=some (.ref a)) (h2:get ρ 71=some (.ref r)) (h3:get ρ 89=some (.int p))
  (hr:σ r=some (.av (dN rs))) (dK:r≠a) (hz:rs.length<=100000)
  (hN:∀t x,rs[t]?=some x->x<=p->(∀y,rs[t+1]?=some y->p<y)->N' ρ (upd σ a (cY b o cur ah t hk vf))):
  ∀(k t x:Nat),rs[t]?=some x->x<=p->rs.length<=t+k->dQ ⟨sc,d,true⟩ (.an [.cmp .Lt (.bin .Add (.at (.v 38) 7) (.int 1)) (.cb 9 [.v 71]),.cmp .LtE (.idx (.v 71) (.bin .Add (.at (.v 38) 7) (.int 1))) (.v 89)]) [.aug (.at (.v 38) 7) .Add (.int 1)] N' R X k ρ (upd σ a (cY b o cur ah t hk vf)):=by
 intro bD
 induction bD with
 |zero=>
  intro t x hx hp iy
  have:=(eh.mp hx).1;lia
 |succ k ih=>
  intro t x hx hp iy
  have ht:=(eh.mp hx).1
  have dY:(upd σ a (cY b o cur ah t hk vf)) r=some (.av (dN rs)):=by exact hJ (aw _ _ dK) hr
  refine ey ?_
  lk
  refine⟨_,rV dY (by rw[iN];exact tf hz),?_⟩
  rw[iN]
  lk
  refine aH (λhc=>?_) λhc=>?_
  ·obtain⟨y,hy⟩:∃y,rs[t+1]?=some y:=⟨_,bQ (a_.mp hc)⟩
   lk
   refine⟨_,i6 dY (by exact aT _) (by exact zv hz hc rfl) (by rw[show((t:Int)+1).toNat=t+1 by exact DT];exact mV hy),?_⟩
   lk
   refine aH (λbB=>?_) λbB=>?_
   ·lk
    rw[aL]
    exact ih (t+1) y hy (d6.mp bB) (tM iy)
   ·lk
    exact hN t x hx hp λz vy=>by replace vy:=hy▸vy;cases vy;exact pY bB
  ·lk
   exact hN t x hx hp λz vy=>by have:=(eh.mp vy).1;lia
theorem X3 (n:Nat) {B:bq} {i:Nat} (H:bZ σ B b r o) (ha:σ a=some (cY b o cur (B.off i) tn hk vf)) (hi:i<B.n) (hs:B.sh i<=hk.length) (iy:hk.take (B.sh i)=(B.prev i).take (B.sh i)) (hl:hk.length<=1000) {x:Nat} (ht:B.rs[tn]?=some x) (hx:x<=B.off i)
  (h:Q (.bool true) (upd σ a (cY b o (B.off i) (B.off (i+1)) (gL B.rs (B.off i)) (B.key i) (B.pW i)))):Call (n+3) true 474 [.ref a] σ Q X:=by
 refine aK B8 rfl ?_
 obtain⟨ok,hb,hr⟩:=H
 obtain⟨dR,dK⟩:=bZ.ne ⟨ok,hb,hr⟩ ha
 have hd:=ok.hd i hi
 have nx:=ok.nx i hi
 have zD:=ok.zD
 have Cs:=hd.lK
 lk
 refine sW (n+1) ha hb dR ?_
 lk
 refine J4 n zD (by k_extra"sg") hd ?_
 refine⟨_,rfl,rfl,?_⟩
 lk
 have hza:=hd.len
 refine gf (B.rs.length+1) ?_
 refine ac8 rfl rfl rfl hr dK ok.ke (λt y hy hyp CZ=>?_) _ tn x ht hx (DU)
 have yd:t=gL B.rs (B.off i):=acU ok.wg hy hyp CZ
 have dY:∀v,(upd σ a v) r=some (.av (dN B.rs)):=λv=>by exact hJ (aw _ _ dK) hr
 have WL:=(eh.mp hy).1
 have ke:=ok.ke
 have l0:=hd.lt0
 have l1:=hd.kP
 rw[nx]at h
 have e1:cut hk none (some (B.sh i:Int))=hk.take (B.sh i):=uN hk (B.sh i) rfl
 have e2:cut B.D (some ((B.off i+3:Nat):Int)) (some ((B.off i+3+B.un i:Nat):Int))=(B.D.drop (B.off i+3)).take (B.un i):=by
  show(B.D.drop (B.off i+3)).take (B.off i+3+B.un i-(B.off i+3))=_
  rw[nj]
 have after:∀z,B.rs[t+1]?=some z->B.off i<z->B.off i+3+B.un i+B.vl i<=z:=λz hz pD=>by
  rcases ok.Na z (gc hz)with e|⟨j,hj,e⟩
  ·exact wD pD e.symm
  ·rw[e]at pD⊢
   rw[<-nx]
   have eA:i<j:=by
    rcases A3 i j with q|q|q
    ·exact q
    ·subst q;exact vP pD
    ·have:=ok.mono q (bx hi);exact Fj this pD
   by_cases q:i+1=j
   ·subst q;exact aP _
   ·exact bx (ok.mono (i:=i+1) (j:=j) (vS eA q) (bx hj))
 lk
 refine⟨_,i6 (dY _) (by exact aT _) (by exact km WL ke rfl) (by rw[show((t:Int)).toNat=t by exact eY];exact mV hy),?_⟩
 lk
 refine aH (λhc=>?_) λhc=>?_
 ·have zB:B.sh i=0:=ok.EA i hi (by
   have:y=B.off i:=by exact(cU.mp hc).symm
   rw[<-this];exact gc hy)
  lk
  refine⟨_,rV (dY _) (by rw[iN];exact tf ke),?_⟩
  rw[iN]
  lk
  refine aH (λdc=>?_) λdc=>?_
  ·obtain⟨z,hz⟩:∃z,B.rs[t+1]?=some z:=⟨_,bQ (a_.mp dc)⟩
   have pD:=CZ z hz
   have W3:=after z hz pD
   lk
   refine⟨_,i6 (dY _) (by exact aT _) (by exact zv ke dc rfl) (by rw[show((t:Int)+1).toNat=t+1 by exact DT];exact mV hz),?_⟩
   lk
   refine⟨_,rfl,aT _,_,gK (vO hl),?_⟩
   lk
   refine⟨_,rfl,aT _,?_⟩
   lk
   refine⟨_,rfl,aT _,_,gK (cq zD),?_⟩
   rw[e1,e2,iy]
   refine⟨_,b9 (by rw[gu,gu];exact Lf l1 zB.symm),?_⟩
   rw[<-ok.ky i hi]
   lk
   rw[aL,aL,aL,aL,yd]
   exact h
  ·lk
   refine⟨_,rfl,aT _,_,gK (vO hl),?_⟩
   lk
   refine⟨_,rfl,aT _,?_⟩
   lk
   refine⟨_,rfl,aT _,_,gK (cq zD),?_⟩
   rw[e1,e2,iy]
   refine⟨_,b9 (by rw[gu,gu];exact Lf l1 zB.symm),?_⟩
   rw[<-ok.ky i hi]
   lk
   rw[aL,aL,aL,aL,yd]
   exact h
 ·lk
  refine⟨_,rV (dY _) (by rw[iN];exact tf ke),?_⟩
  rw[iN]
  lk
  refine aH (λdc=>?_) λdc=>?_
  ·obtain⟨z,hz⟩:∃z,B.rs[t+1]?=some z:=⟨_,bQ (a_.mp dc)⟩
   have pD:=CZ z hz
   have W3:=after z hz pD
   lk
   refine⟨_,i6 (dY _) (by exact aT _) (by exact zv ke dc rfl) (by rw[show((t:Int)+1).toNat=t+1 by exact DT];exact mV hz),?_⟩
   lk
   refine⟨_,rfl,aT _,_,gK (vO hl),?_⟩
   lk
   refine⟨_,rfl,aT _,?_⟩
   lk
   refine⟨_,rfl,aT _,_,gK (cq zD),?_⟩
   rw[e1,e2,iy]
   refine⟨_,b9 (by rw[gu,gu];exact Lg l0 l1),?_⟩
   rw[<-ok.ky i hi]
   lk
   rw[aL,aL,aL,aL,yd]
   exact h
  ·lk
   refine⟨_,rfl,aT _,_,gK (vO hl),?_⟩
   lk
   refine⟨_,rfl,aT _,?_⟩
   lk
   refine⟨_,rfl,aT _,_,gK (cq zD),?_⟩
   rw[e1,e2,iy]
   refine⟨_,b9 (by rw[gu,gu];exact Lg l0 l1),?_⟩
   rw[<-ok.ky i hi]
   lk
   rw[aL,aL,aL,aL,yd]
   exact h
theorem X5 (n:Nat) {B:bq} (H:bZ σ B b r o) (ha:σ a=some (cY b o cur B.L tn hk vf))
  (h:Q (.bool false) (upd σ a (cY b o B.L B.L tn [] vf))):Call (n+3) true 474 [.ref a] σ Q X:=by
 refine aK B8 rfl ?_
 obtain⟨ok,hb,hr⟩:=H
 obtain⟨dR,dK⟩:=bZ.ne ⟨ok,hb,hr⟩ ha
 lk
 refine sW (n+1) ha hb dR ?_
 lk
 exact h
theorem X4 (n:Nat) {B:bq} (H:bZ σ B b r o) (ha:σ a=some (cY b o cur (B.off B.n) tn hk vf)) (mJ:B.bad=true) (hl:hk.length<200)
  (h:X .b_ (upd σ a (cY b o B.L B.L tn [] vf))):Call (n+4) true 474 [.ref a] σ Q X:=by
 refine aK B8 rfl ?_
 obtain⟨ok,hb,hr⟩:=H
 obtain⟨dR,dK⟩:=bZ.ne ⟨ok,hb,hr⟩ ha
 obtain⟨e0,e1,e2,e3,e4⟩:=ok.brk mJ
 have zD:=ok.zD
 lk
 refine sW (n+2) ha hb dR ?_
 lk
 refine XO n zD (by k_extra"sg") e1 e2 e3 e4 (bM e0) ok.LD ?_
 refine⟨_,rfl,rfl,?_⟩
 lk
 exact h
end
end
variable{B:bq}
section
noncomputable abbrev bz (B:bq) (b o i:Nat):AO:=cY b o (B.off i) (B.off (i+1)) (gL B.rs (B.off i)) (B.key i) (B.pW i)
noncomputable abbrev jr (B:bq) (b o tn vf:Nat):AO:=cY b o B.L B.L tn [] vf
noncomputable def cS (B:bq) (b o:Nat) (x:AO):Prop:=∃tn vf,x=jr B b o tn vf
structure Res (B:bq) (b o a:Nat) (σ:aa) (m:Nat) (Q:PV->aa->Prop) (X:Ex->aa->Prop):Prop where
 ent:m<B.n->Q .none (upd σ a (bz B b o m))
 fin:m=B.n->B.bad=false->∀x,cS B b o x->Q .none (upd σ a x)
 brk:m=B.n->B.bad=true->∀x,cS B b o x->X .b_ (upd σ a x)
theorem bq.Ok.we (h:B.Ok) {p:Nat} (hp:p∈B.rs):∃j,p=B.off j/\(j<B.n\/(j=0/\B.n=0)):=by
 rcases h.Na p hp with e|⟨j,hj,e⟩
 ·by_cases q:B.n=0
  ·exact⟨0,by rw[h.o0];exact e,.inr ⟨rfl,q⟩⟩
  ·exact⟨0,by rw[h.o0];exact e,.inl (qh q)⟩
 ·exact⟨j,e,.inl hj⟩
theorem bq.Ok.pU (h:B.Ok) (p:Nat):∃x,B.rs[gL B.rs p]?=some x/\x<=p:=by
 have h0:=(zE (p:=p) h.wg h.l9).mp (eQ _)
 have hc:=Gb (p:=λx=>decide (x<=p)) (l:=B.rs)
 have hl:gL B.rs p<B.rs.length:=by unfold gL;exact DL h0 hc
 refine⟨_,bQ hl,?_⟩
 refine(zE (p:=p) h.wg (bQ hl)).mpr ?_
 unfold gL;exact pK h0
section
theorem pF (n:Nat) {j:Nat} (H:bZ σ B b r o) (ha:σ a=some (cY b o cur (B.off j) tn hk vf)) (hj:j<=B.n) (hc:j<B.n->B.sh j<=hk.length/\hk.take (B.sh j)=(B.prev j).take (B.sh j)) (hl:hk.length<200) {x:Nat} (ht:B.rs[tn]?=some x) (hx:x<=B.off j)
  (h1:j<B.n->Q (.bool true) (upd σ a (bz B b o j))) (h2:j=B.n->B.bad=false->∀x,cS B b o x->Q (.bool false) (upd σ a x)) (h3:j=B.n->B.bad=true->∀x,cS B b o x->X .b_ (upd σ a x)):Call (n+4) true 474 [.ref a] σ Q X:=by
 by_cases q:j<B.n
 ·obtain⟨c1,c2⟩:=hc q
  exact X3 (n+1) H ha q c1 c2 (aaU hl) ht hx (h1 q)
 ·have e:j=B.n:=by exact qP hj q
  cases hb:B.bad with
  |false=>
   have e2:=H.ok.fin hb
   rw[e,e2]at ha
   exact X5 (n+1) H ha (h2 e hb _ ⟨tn,vf,rfl⟩)
  |true=>
   replace ha:=e▸ha
   exact X4 n H ha hb hl (h3 e hb _ ⟨tn,vf,rfl⟩)
theorem rZ (h:B.Ok) (hi:i<B.n):i+1<B.n->B.sh (i+1)<=(B.key i).length/\(B.key i).take (B.sh (i+1))=(B.prev (i+1)).take (B.sh (i+1)):=λq=>⟨h.shl (i+1) q,rfl⟩
theorem xy (h:B.Ok) (hm:B.off j∈B.rs):j<B.n->B.sh j<=([]:List UInt8).length/\([]:List UInt8).take (B.sh j)=(B.prev j).take (B.sh j):=λq=>by
 have:=h.EA j q hm
 refine aj (this)▸?_;simp
theorem yo (n:Nat) (H:bZ σ B b r o) (ha:σ a=some (cY b o cur ah tn hk vf)) (h:Res B b o a σ 0 Q X):Call (n+5) true 481 [.ref a] σ Q X:=by
 refine aK Tt rfl ?_
 obtain⟨dR,dK⟩:=H.ne ha
 obtain⟨j,e0,hj⟩:=H.ok.we (gc H.ok.l9)
 have Wa:j=0:=by
  rcases hj with hj|hj
  ·exact H.ok.inj (bx hj) (eQ _) (by refine aj (H.ok.o0)▸?_;exact e0.symm)
  ·exact hj.1
 subst Wa
 have hm:B.off 0∈B.rs:=by refine aj (H.ok.o0)▸?_;exact gc H.ok.l9
 lk
 refine yk (t:=0) (n+2) ha H.hb H.hr dR dK H.ok.l9 (by decide) ?_
 lk
 refine pF (j:=0) n (H.upd ha) (by rw[ay,H.ok.o0]) (eQ _) (xy H.ok hm) (by decide) H.ok.l9 (eQ _) (λq=>?_) (λq qb x hx=>?_) λq qb x hx=>?_
 ·lk
  rw[aL];exact h.ent q
 ·lk
  rw[aL];exact h.fin q qb x hx
 ·rw[aL];exact h.brk q qb x hx
theorem Yy {X:Ex->af->aa->Prop} (h1:get ρ 38=some (.ref a)) (H:bZ σ B b r o) {fs:List (Nat×PV)} (ha:σ a=some (.inst 519 fs))
  (hN:B.bad=false->∀j,j+1=B.n->N' ρ (upd σ a (bz B b o j))) (hX:B.bad=true->∀x,cS B b o x->X .b_ ρ (upd σ a x)):
  ∀(k j:Nat),j<B.n->B.n<=j+k->dQ ⟨sc,d+4,true⟩ (.an [.cm (.v 38) 93 [],.cmp .Lt (.at (.v 38) 83) (.at (.at (.v 38) 81) 70)]) [.ex (.cm (.v 38) 92 [])] N' R X k ρ (upd σ a (bz B b o j)):=by
 intro bD
 induction bD with
 |zero=>
  intro j hj iy
  lia
 |succ k ih=>
  intro j hj iy
  have H':bZ (upd σ a (bz B b o j)) B b r o:=H.upd ha
  have hb:=H'.hb
  have br:=H.ok.lt hj
  have hle:=H.ok.le hj
  refine ey ?_
  lk
  refine eF (d+3) (ay _ _ _) hb ?_
  refine⟨_,rfl,?_⟩
  refine jN (ai br hle) ?_
  lk
  by_cases q:j+1=B.n
  ·cases mJ:B.bad with
   |false=>
    have e:=H.ok.fin mJ
    refine aj (q)▸?_
    refine jM (by lia) ?_
    lk
    exact hN mJ j q
   |true=>
    obtain⟨e,_⟩:=H.ok.brk mJ
    refine aj (q)▸?_
    refine jN (by lia) ?_
    lk
    obtain⟨x,fQ,i5⟩:=H.ok.pU (B.off j)
    refine pF (j:=j+1) d H' (ay _ _ _) (bM q) (rZ H.ok hj) (H.ok.n5 j hj) fQ (ti br i5) (λq2=>by lia) (λq2 qb=>by replace qb:=mJ▸qb;cases qb) λ_ _ x hx=>?_
    rw[aL];exact hX mJ x hx
  ·have h3:=H.ok.mono (i:=j+1) (j:=B.n) (vS hj q) (aP _)
   have h4:B.off B.n<=B.L:=by
    cases mJ:B.bad with
    |false=>exact bM (H.ok.fin mJ)
    |true=>have:=(H.ok.brk mJ).1;exact rG this
   refine jN (by lia) ?_
   lk
   obtain⟨x,fQ,i5⟩:=H.ok.pU (B.off j)
   refine pF (j:=j+1) d H' (ay _ _ _) (hj) (rZ H.ok hj) (H.ok.n5 j hj) fQ (ti br i5) (λq2=>?_) (λq2=>absurd q2 q) λq2=>absurd q2 q
   lk
   rw[aL]
   exact ih (j+1) q2 (tM iy)
theorem J' (n:Nat) (H:bZ σ B b r o) (ha:σ a=some (cY b o cur ah tn hk vf)) (h0:B.n=0->Res B b o a σ 0 Q X) (h1:B.bad=false->∀j,j+1=B.n->Q .none (upd σ a (bz B b o j))) (h2:0<B.n->B.bad=true->∀x,cS B b o x->X .b_ (upd σ a x)):Call (n+5) true 488 [.ref a] σ Q X:=by
 refine aK Tu rfl ?_
 obtain⟨dR,dK⟩:=H.ne ha
 have hb:=H.hb
 have rl:=H.ok.ke
 have r0:=(eh.mp H.ok.l9).1
 obtain⟨p,hp⟩:∃p,B.rs[B.rs.length-1]?=some p:=⟨_,bQ (pK r0)⟩
 obtain⟨j,rfl,hj⟩:=H.ok.we (gc hp)
 lk
 refine⟨_,rV H.hr (by rw[iN];exact tf rl),?_⟩
 rw[iN]
 lk
 rw[show((B.rs.length:Int)-1)=((B.rs.length-1:Nat):Int) by exact(gR r0).symm]
 refine yk (n+2) ha H.hb H.hr dR dK hp (aaV rl) ?_
 lk
 refine pF (j:=j) n (H.upd ha) (ay _ _ _) (yS hj) (xy H.ok (gc hp)) (by decide) hp (aP _) (λq=>?_) (λq qb x hx=>?_) λq qb x hx=>?_
 ·lk
  rw[aL]
  refine gf (B.n+1) ?_
  refine Yy rfl H ha (λgA j' mO=>?_) (λgA x hx=>h2 (ai (cV _ _) q) gA x hx) _ j q (DU)
  lk
  exact h1 gA j' mO
 ·lk
  rw[aL]
  have vp:B.n=0:=by lia
  refine gf 1 (ey ?_)
  obtain⟨NK,NP,rfl⟩:=hx
  have mI:(upd σ a (jr B b o NK NP)) b=some (gV B.D o B.L r):=by rw[aw _ _ dR];exact hb
  lk
  refine eF (n+3) (ay _ _ _) mI ?_
  refine⟨_,rfl,?_⟩
  refine jM (eI _) ?_
  lk
  exact(h0 vp).fin vp.symm qb _ ⟨NK,NP,rfl⟩
 ·rw[aL]
  by_cases vp:B.n=0
  ·exact(h0 vp).brk vp.symm qb x hx
  ·exact h2 (by lia) qb x hx
theorem yq (n:Nat) {i:Nat} (H:bZ σ B b r o) (ha:σ a=some (bz B b o i)) (hi:i<B.n) (h:Res B b o a σ (i+1) Q X):Call (n+5) true 509 [.ref a] σ Q X:=by
 refine aK Tv rfl ?_
 have hb:=H.hb
 have br:=H.ok.lt hi
 have hle:=H.ok.le hi
 obtain⟨x,fQ,i5⟩:=H.ok.pU (B.off i)
 lk
 refine yl (n+3) ha hb (λ_=>?_) λz=>by lia
 lk
 refine pF (j:=i+1) n H ha (hi) (rZ H.ok hi) (H.ok.n5 i hi) fQ (ti br i5) (λq=>?_) (λq qb x hx=>?_) λq qb x hx=>?_
 ·lk
  exact h.ent q
 ·lk
  exact h.fin q qb x hx
 ·exact h.brk q qb x hx
end
end
section
section
theorem QX {X:Ex->af->aa->Prop} (h1:get ρ 38=some (.ref a)) (h2:get ρ 103=some (.int (B.off i))) (H:bZ σ B b r o) {fs:List (Nat×PV)} (ha:σ a=some (.inst 519 fs)) (hi:i<B.n)
  (hN:∀j,j+1=i->N' ρ (upd σ a (bz B b o j))):
  ∀(k j:Nat),j<i->i<=j+k->dQ ⟨sc,d+4,true⟩ (.an [.cm (.v 38) 93 [],.cmp .Lt (.at (.v 38) 83) (.v 103)]) [.ex (.cm (.v 38) 92 [])] N' R X k ρ (upd σ a (bz B b o j)):=by
 intro bD
 induction bD with
 |zero=>
  intro j hj iy
  lia
 |succ k ih=>
  intro j hj iy
  have H':bZ (upd σ a (bz B b o j)) B b r o:=H.upd ha
  have hb:=H'.hb
  have br:=H.ok.lt (i:=j) (n8 hj hi)
  have hle:=H.ok.le (i:=j) (n8 hj hi)
  refine ey ?_
  lk
  refine eF (d+3) (ay _ _ _) hb ?_
  refine⟨_,rfl,?_⟩
  refine jN (ai br hle) ?_
  lk
  by_cases q:j+1=i
  ·rw[q]
   refine jM (Ph _) ?_
   lk
   exact hN j q
  ·have h3:=H.ok.mono (i:=j+1) (j:=i) (vS hj q) (bx hi)
   refine jN (d6.mpr h3) ?_
   lk
   obtain⟨x,fQ,i5⟩:=H.ok.pU (B.off j)
   refine pF (j:=j+1) d H' (ay _ _ _) (n8 hj hi) (rZ H.ok (n8 hj hi)) (H.ok.n5 j (n8 hj hi)) fQ (ti br i5) (λq2=>?_) (λq2=>Oq hj hi q2) λq2=>Oq hj hi q2
   lk
   rw[aL]
   exact ih (j+1) (vS hj q) (tM iy)
theorem J0 (n:Nat) {i:Nat} (H:bZ σ B b r o) (ha:σ a=some (bz B b o i)) (hi:i<B.n) (h0:i=0->∀x,cS B b o x->Q .none (upd σ a x)) (h1:∀j,j+1=i->Q .none (upd σ a (bz B b o j))):Call (n+5) true 516 [.ref a] σ Q X:=by
 refine aK Ti rfl ?_
 obtain⟨dR,dK⟩:=H.ne ha
 have hb:=H.hb
 have rl:=H.ok.ke
 have br:=H.ok.lt hi
 have hle:=H.ok.le hi
 obtain⟨x,fQ,i5⟩:=H.ok.pU (B.off i)
 have tl:=(eh.mp fQ).1
 have go:∀{ρ:af} {t y:Nat},get ρ 38=some (.ref a)->get ρ 103=some (.int (B.off i))->B.rs[t]?=some y->y<B.off i->
   Call (n+4) true 467 [.ref a,.int t] σ (λ_ σ'=>aD ⟨Head.dG (Head.met 46 13),n+4,true⟩ [.ex (.cm (.v 38) 92 []),.dj (.an [.cm (.v 38) 93 [],.cmp .Lt (.at (.v 38) 83) (.v 103)]) [.ex (.cm (.v 38) 92 [])]] ρ σ' (λx σ'=>Q PV.none σ') Q λex x σ'=>X ex σ') (λex σ'=>X ex σ'):=by
  intro ρ t y g1 g2 hy yf
  obtain⟨j,rfl,hj⟩:=H.ok.we (gc hy)
  have mZ:=(eh.mp hy).1
  have sD:j<i:=by
   rcases A3 j i with q|q|q
   ·exact q
   ·subst q;exact vP yf
   ·have:=H.ok.mono q (yS hj);exact Fj this yf
  refine yk (n+2) ha H.hb H.hr dR dK hy (Lh mZ rl) ?_
  lk
  refine pF (j:=j) n (H.upd ha) (ay _ _ _) (bx (rI sD hi)) (xy H.ok (gc hy)) (by decide) hy (aP _) (λq=>?_) (λq=>Oo sD hi q) λq=>Oo sD hi q
  lk
  rw[aL]
  refine gf (i+1) ?_
  refine QX g1 g2 H ha hi (λj' mO=>?_) _ j sD (DU)
  lk
  exact h1 j' mO
 lk
 refine yl (n+3) ha hb (λ_=>?_) λz=>by lia
 lk
 refine gf 2 (ey ?_)
 lk
 refine⟨_,i6 H.hr (by exact aT _) (by exact km tl rl rfl) (by rw[show((gL B.rs (B.off i):Nat):Int).toNat=gL B.rs (B.off i) by exact eY];exact mV fQ),?_⟩
 lk
 refine aH (λhc=>?_) λhc=>?_
 ·by_cases q:gL B.rs (B.off i)=0
  ·have ve:i=0:=by
    rw[q,H.ok.l9]at fQ
    cases fQ
    exact H.ok.inj (bx hi) (eQ _) (by rw[H.ok.o0];lia)
   lk
   refine sW (n+3) ha hb dR ?_
   lk
   exact h0 ve _ ⟨_,_,rfl⟩
  ·obtain⟨y,hy⟩:∃y,B.rs[gL B.rs (B.off i)-1]?=some y:=⟨_,bQ (Fs tl)⟩
   have yf:y<B.off i:=by
    have e1:=(eh.mp hy)
    have e2:=(eh.mp fQ)
    obtain⟨l1,e1⟩:=e1
    obtain⟨l2,e2⟩:=e2
    have:=rB.mp H.ok.wg _ _ l1 l2 (by lia)
    exact aah this i5 e1.symm e2
   lk
   refine ey ?_
   lk
   refine⟨_,i6 H.hr (by lia) (by exact aai tl rl) (by rw[show(((gL B.rs (B.off i):Nat):Int)-1).toNat=gL B.rs (B.off i)-1 by exact yG];exact mV hy),?_⟩
   lk
   rw[show((gL B.rs (B.off i):Nat):Int)-1=((gL B.rs (B.off i)-1:Nat):Int) by exact(gR (qh q)).symm]
   exact go rfl rfl hy yf
 ·lk
  exact go rfl rfl fQ (pY hc)
end
end
section
theorem aeV {A B:Prop} (h:A):Br (!false) A B:=⟨λ_=>h,λe=>(ff (aj e))⟩
theorem Hk {A B:Prop} (h:B):Br (!true) A B:=⟨λe=>(ff e),λ_=>h⟩
theorem ia.upd {k:OK} (h:ia σ o k) {fs gs:List (Nat×PV)} (ha:σ a=some (.inst 519 fs)):ia (upd σ a (.inst 519 gs)) o k:=by
 have ne:∀{x:Nat} {C':Nat} {hs},σ x=some (.inst C' hs)->C'≠519->x≠a:=λh1 h2 e=>by rw[e,ha]at h1;cases h1;exact h2 rfl
 cases k with
 |bytes=>exact(aw _ _ (ne h (by decide))).trans h
 |internal u=>exact⟨(aw _ _ (ne h.1 (by decide))).trans h.1,(aw _ _ (ne h.2 (by decide))).trans h.2⟩
section
theorem Yb (n:Nat) {t j:Nat} (H:bZ σ B b r o) (hp:B.rs[t]?=some (B.off j)) (hj:j<B.n) (h:Q (.bytes (B.key j)) σ):Call (n+3) true 404 [.ref b,.int t] σ Q X:=by
 refine aK TA rfl ?_
 have hb:=H.hb
 have rl:=H.ok.ke
 have zD:=H.ok.zD
 have hd:=H.ok.hd j hj
 have tl:=(eh.mp hp).1
 have zB:=H.ok.EA j hj (gc hp)
 lk
 refine⟨_,i6 H.hr (by exact aT _) (by exact km tl rl rfl) (by rw[show((t:Nat):Int).toNat=t by exact eY];exact mV hp),?_⟩
 lk
 refine J4 n zD hb hd ?_
 refine⟨_,rfl,rfl,?_⟩
 lk
 refine⟨_,rfl,aT _,?_⟩
 lk
 refine⟨_,rfl,aT _,_,gK (cq zD),?_⟩
 have e2:cut B.D (some ((B.off j+3:Nat):Int)) (some ((B.off j+3+B.un j:Nat):Int))=B.key j:=by
  show(B.D.drop (B.off j+3)).take (B.off j+3+B.un j-(B.off j+3))=_
  rw[nj,H.ok.ky j hj,zB];rfl
 rw[e2];exact h
structure ic (B:bq) (k:OK) (t:List UInt8) (m:Nat):Prop where
 dt:p7 k t
 dk:∀i<B.n,p7 k (B.key i)
 mn:m<=B.n
 lo:∀i<m,uK k (B.key i) t<0
 hi:∀i,m<=i->i<B.n->0<=uK k (B.key i) t
 eq:∀i<B.n,uK k (B.key i) t=0->i=m
inductive GD (B:bq) (b o j:Nat) (st:AO):Prop
 |mk (cur tn hk vf x:_) (e:st=cY b o cur (B.off j) tn hk vf) (c1:j<B.n->B.sh j<=hk.length/\hk.take (B.sh j)=(B.prev j).take (B.sh j)) (c2:hk.length<200) (c3:B.rs[tn]?=some x) (c4:x<=B.off j)
theorem acr {X:Ex->af->aa->Prop} {k:OK} {t:List UInt8} {m:Nat} (h1:get ρ 38=some (.ref a)) (h2:get ρ 94=some (.bytes t)) (H:bZ σ B b r o) (ho:ia σ o k) (S:ic B k t m) {fs:List (Nat×PV)} (ha:σ a=some (.inst 519 fs))
  (hE:m<B.n->R .none (upd σ a (bz B b o m))) (hF:m=B.n->B.bad=false->∀x,cS B b o x->N' ρ (upd σ a x)) (hX:m=B.n->B.bad=true->∀x,cS B b o x->X .b_ ρ (upd σ a x)):
  ∀(q j:Nat) (st:AO),GD B b o j st->j<=m->B.n<j+q->dQ ⟨sc,d+4,true⟩ (.cm (.v 38) 92 []) [.ite (.cmp .GtE (.cm (.at (.v 38) 68) 44 [.at (.v 38) 84,.v 94]) (.int 0)) [.ret none] []] N' R X q ρ (upd σ a st):=by
 intro bD
 induction bD with
 |zero=>
  intro j st _ hj hq
  have:=S.mn;lia
 |succ q ih=>
  intro j st CU hj hq
  have iE:=S.mn
  obtain⟨cur,tn,hk,vf,x,rfl,c1,c2,c3,c4⟩:=CU
  have H':bZ (upd σ a (cY b o cur (B.off j) tn hk vf)) B b r o:=H.upd ha
  refine ey ?_
  lk
  refine pF (j:=j) d H' (ay _ _ _) (ai hj iE) c1 c2 c3 c4 (λq2=>?_) (λq2 qb x hx=>?_) λq2 qb x hx=>?_
  ·rw[aL]
   refine⟨_,rfl,?_⟩
   lk
   refine⟨_,k,rfl,ho.upd ha,?_⟩
   lk
   refine⟨_,_,rfl,ho.upd ha,S.dk j q2,S.dt,?_⟩
   lk
   by_cases q3:j=m
   ·subst q3
    have:=S.hi j (aP _) q2
    refine jN this ?_
    lk
    exact hE q2
   ·have:=S.lo j (yP hj q3)
    refine jM (tX.mpr this) ?_
    lk
    obtain⟨y,WW,WX⟩:=H.ok.pU (B.off j)
    have:=H.ok.lt q2
    exact ih (j+1) _ ⟨_,_,_,_,y,rfl,rZ H.ok q2,H.ok.n5 j q2,WW,ti this WX⟩ (yP hj q3) (tM hq)
  ·rw[aL]
   refine⟨_,rfl,?_⟩
   lk
   exact hF (Li iE hj q2.symm) qb x hx
  ·rw[aL]
   exact hX (Li iE hj q2.symm) qb x hx
inductive rA (B:bq) (m l:Nat):Prop
 |mk (j:Nat) (hp:B.rs[l]?=some (B.off j)) (xT:j<=m) (sE:j<=B.n)
theorem abt {X:Ex->af->aa->Prop} {k:OK} {t:List UInt8} {m:Nat} {side:Int} {st:Bool} (H:bZ σ B b r o) (ho:ia σ o k) (S:ic B k t m) (ha:σ a=some (cY b o cur ah tn hk vf))
  (hN:∀(ρ:af) (l:Nat),get ρ 38=some (.ref a)->get ρ 94=some (.bytes t)->get ρ 96=some (.int l)->get ρ 98=some (.int side)->get ρ 99=some (.bool st)->rA B m l->N' ρ σ):
  ∀(q:Nat) (ρ:af) (l r':Nat),get ρ 38=some (.ref a)->get ρ 94=some (.bytes t)->get ρ 96=some (.int l)->get ρ 97=some (.int r')->get ρ 98=some (.int side)->get ρ 99=some (.bool st)->rA B m l->l<=r'->r'<B.rs.length->r'<l+q->
   dQ ⟨sc,d+4,true⟩ (.cmp .Lt (.v 96) (.v 97)) [.asg (.nm 100) (.bin .FloorDiv (.bin .Add (.bin .Add (.v 96) (.v 97)) (.int 1)) (.int 2)),.asg (.nm 101) (.cm (.at (.v 38) 81) 102 [.v 100]),.ite (.cmp .Lt (.cm (.at (.v 38) 68) 44 [.v 101,.v 94]) (.int 0)) [.asg (.nm 96) (.v 100)] [.asg (.nm 97) (.bin .Sub (.v 100) (.int 1))]] N' R X q ρ σ:=by
 intro bD
 induction bD with
 |zero=>
  intro ρ l r' g1 g2 g3 g4 g5 g6 hl CC dY hq
  lia
 |succ q ih=>
  intro ρ l r' g1 g2 g3 g4 g5 g6 hl CC dY hq
  have hb:=H.hb
  refine ey ?_
  lk
  refine aH (λhc=>?_) λhc=>?_
  ·lk
   refine⟨_,kG (by decide) (by decide),?_⟩
   lk
   obtain⟨mid,qG⟩:∃mid,mid=(l+r'+1)/2:=⟨_,rfl⟩
   have em:((l:Int)+(r':Int)+1)/2=(mid:Int):=by exact congrArg _ qG.symm
   refine aj (em)▸?_
   obtain⟨p,hp⟩:∃p,B.rs[mid]?=some p:=⟨_,bQ (aaj dY hc qG.symm)⟩
   have ya:0<p:=by
    obtain⟨l1,e1⟩:=eh.mp hp
    obtain⟨l2,e2⟩:=eh.mp H.ok.l9
    have:=rB.mp H.ok.wg _ _ l2 l1 (aak hc qG.symm)
    lia
   obtain⟨j,rfl,hj⟩:=H.ok.we (gc hp)
   have sE:j<B.n:=by
    rcases hj with hj|⟨rfl,_⟩
    ·exact hj
    ·rw[H.ok.o0]at ya;exact absurd ya (eI _)
   refine Yb (d+1) H hp sE ?_
   lk
   refine⟨_,k,rfl,ho,?_⟩
   lk
   refine⟨_,_,rfl,ho,S.dk j sE,S.dt,?_⟩
   lk
   refine aH (λbB=>?_) λbB=>?_
   ·have xT:j<m:=by
     rcases qg j m with z|z
     ·exact z
     ·have:=S.hi j z sE;exact Lj this bB
    lk
    exact ih _ mid r' (by k_is) (by k_is) (by k_is) (by k_is) (by k_is) (by k_is) ⟨j,hp,bx xT,bx sE⟩ (aal hc qG.symm) dY (by lia)
   ·lk
    have er:(mid:Int)-1=((mid-1:Nat):Int):=by exact(aam hc qG.symm).symm
    refine aj (er)▸?_
    exact ih _ l (mid-1) (by k_is) (by k_is) (by k_is) (by k_is) (by k_is) (by k_is) hl (aan hc qG.symm) (aao dY hc qG.symm) (by lia)
  ·exact hN ρ l g1 g2 g3 g5 g6 hl
theorem Nd {k:OK} {t:List UInt8} {m:Nat} {st:AO} (g1:get ρ 38=some (.ref a)) (g2:get ρ 94=some (.bytes t)) (H:bZ σ B b r o) (ho:ia σ o k) (S:ic B k t m) {fs:List (Nat×PV)} (ha:σ a=some (.inst 519 fs)) (hr:GD B b o j st) (hj:j<=m) (h:Res B b o a σ m Q X):
  SV ⟨sc,n+5,true⟩ (.dj (.cm (.v 38) 92 []) [.ite (.cmp .GtE (.cm (.at (.v 38) 68) 44 [.at (.v 38) 84,.v 94]) (.int 0)) [.ret none] []]) ρ (upd σ a st) (λρ' σ'=>aD ⟨sc,n+5,true⟩ [] ρ' σ' (λ_ σ'=>Q .none σ') Q λex _ σ'=>X ex σ') Q (λex _ σ'=>X ex σ'):=by
 refine gf (B.n+1) ?_
 refine acr g1 g2 H ho S ha (λq=>h.ent q) (λq qb x hx=>?_) (λq qb x hx=>h.brk q qb x hx) _ j st hr hj (cV _ _)
 lk
 exact h.fin q qb x hx
theorem D6 {k:OK} {t:List UInt8} {m l r':Nat} {side:Int} {st:Bool} (g1:get ρ 38=some (.ref a)) (g2:get ρ 94=some (.bytes t)) (g3:get ρ 96=some (.int l)) (g4:get ρ 97=some (.int r')) (g5:get ρ 98=some (.int side)) (g6:get ρ 99=some (.bool st))
  (H:bZ σ B b r o) (ho:ia σ o k) (S:ic B k t m) (ha:σ a=some (cY b o cur ah tn hk vf)) (CU:st=true->side<0->∃i,i<m/\cY b o cur ah tn hk vf=bz B b o i) (hl:rA B m l) (CC:l<=r') (dY:r'<B.rs.length) (h:Res B b o a σ m Q X):
  SV ⟨sc,n+5,true⟩ (.dj (.cmp .Lt (.v 96) (.v 97)) [.asg (.nm 100) (.bin .FloorDiv (.bin .Add (.bin .Add (.v 96) (.v 97)) (.int 1)) (.int 2)),.asg (.nm 101) (.cm (.at (.v 38) 81) 102 [.v 100]),.ite (.cmp .Lt (.cm (.at (.v 38) 68) 44 [.v 101,.v 94]) (.int 0)) [.asg (.nm 96) (.v 100)] [.asg (.nm 97) (.bin .Sub (.v 100) (.int 1))]]) ρ σ (λρ' σ'=>aD ⟨sc,n+5,true⟩ [
   .ite (.no (.an [.v 99,.cmp .Lt (.v 98) (.int 0),.cmp .Eq (.v 96) (.at (.v 38) 7)])) [.ex (.cm (.v 38) 91 [.v 96])] [],
   .dj (.cm (.v 38) 92 []) [.ite (.cmp .GtE (.cm (.at (.v 38) 68) 44 [.at (.v 38) 84,.v 94]) (.int 0)) [.ret none] []]] ρ' σ' (λ_ σ'=>Q .none σ') Q λex _ σ'=>X ex σ') Q (λex _ σ'=>X ex σ'):=by
 have hb:=H.hb
 have rl:=H.ok.ke
 have iE:=S.mn
 obtain⟨dR,dK⟩:=H.ne ha
 have go:∀{ρ:af} {l:Nat},get ρ 38=some (.ref a)->get ρ 94=some (.bytes t)->rA B m l->Call (n+5) true 467 [.ref a,.int l] σ (λ_ σ'=>aD ⟨sc,n+5,true⟩ [] ρ σ' (λρ σ'=>aD ⟨sc,n+5,true⟩ [.dj (.cm (.v 38) 92 []) [.ite (.cmp .GtE (.cm (.at (.v 38) 68) 44 [.at (.v 38) 84,.v 94]) (.int 0)) [.ret none] []]] ρ σ' (λ_ σ'=>Q .none σ') Q λex _ σ'=>X ex σ') Q λex _ σ'=>X ex σ') X:=by
  intro ρ l g1 g2 hl
  obtain⟨j,hp,xT,sE⟩:=hl
  have tl:=(eh.mp hp).1
  refine yk (n+3) ha hb H.hr dR dK hp (Lh tl rl) ?_
  refine aE (aA ?_)
  exact Nd g1 g2 H ho S ha ⟨_,_,_,_,_,rfl,xy H.ok (gc hp),by decide,hp,aP _⟩ xT h
 refine gf (r'+1) ?_
 refine abt H ho S ha (λρ' l' g1 g2 g3 g5 g6 eW=>?_) _ ρ l r' g1 g2 g3 g4 g5 g6 hl CC dY (cV _ _)
 cases st with
 |false=>
  lk
  exact go g1 g2 eW
 |true=>
  by_cases q:side<0
  ·obtain⟨i,mM,ei⟩:=CU rfl q
   lk
   refine aH (λhc=>?_) λhc=>?_
   rotate_left
   ·lk
    exact go g1 g2 eW
   ·lk
    obtain⟨x,fQ,i5⟩:=H.ok.pU (B.off i)
    have br:=H.ok.lt (i:=i) (ai mM iE)
    replace ha:=ei▸ha
    have:=Nd (sc:=sc) (n:=n) g1 g2 H ho S ha (j:=i+1) (st:=bz B b o i) ⟨_,_,_,_,x,rfl,rZ H.ok (ai mM iE),H.ok.n5 i (ai mM iE),fQ,ti br i5⟩ (mM) h
    replace this:=NM ha▸this
    exact this
  ·lk
   exact go g1 g2 eW
theorem XZ (n:Nat) {k:OK} {t:List UInt8} {m:Nat} {x:AO} (H:bZ σ B b r o) (ho:ia σ o k) (S:ic B k t m) (ha:σ a=some x) (hx:(∃i,i<B.n/\x=bz B b o i)\/cS B b o x) (h:Res B b o a σ m Q X):Call (n+6) true 502 [.ref a,.bytes t] σ Q X:=by
 refine aK Tp rfl ?_
 have hb:=H.hb
 have rl:=H.ok.ke
 have r0:=(eh.mp H.ok.l9).1
 have iE:=S.mn
 have L0:rA B m 0:=⟨0,by rw[H.ok.o0];exact H.ok.l9,eQ _,eQ _⟩
 rcases hx with⟨i,hi,rfl⟩|⟨tn,vf,rfl⟩
 ·obtain⟨dR,dK⟩:=H.ne ha
  have br:=H.ok.lt hi
  have hle:=H.ok.le hi
  lk
  refine⟨_,rV H.hr (by rw[iN];exact tf rl),?_⟩
  rw[iN]
  lk
  refine eF (n+4) ha hb ?_
  rw[decide_eq_true (show B.off i<B.L by exact ai br hle)]
  lk
  refine⟨_,k,rfl,ho,?_⟩
  lk
  refine⟨_,_,rfl,ho,S.dk i hi,S.dt,?_⟩
  lk
  obtain⟨x,fQ,i5⟩:=H.ok.pU (B.off i)
  have tl:=(eh.mp fQ).1
  have LL:i<m->rA B m (gL B.rs (B.off i)):=λmM=>by
   obtain⟨j,rfl,hj⟩:=H.ok.we (gc fQ)
   refine⟨j,fQ,?_,yS hj⟩
   rcases qg i j with q|q
   ·have:=H.ok.mono q (yS hj);exact absurd this (w5 i5)
   ·lia
  refine aH (λhc=>?_) λhc=>?_
  ·lk
   have e:=S.eq i hi hc
   have:=h.ent (by lia)
   rw[<-e,NM ha]at this
   exact this
  ·lk
   refine aH (λbB=>?_) λbB=>?_
   ·have mM:i<m:=by
     rcases qg i m with z|z
     ·exact z
     ·have:=S.hi i z hi;exact Lj this bB
    lk
    exact D6 (by k_is) (by k_is) (by k_is) (by rw[show((B.rs.length-1:Nat):Int)=(B.rs.length:Int)-1 by exact gR r0];k_is) (by k_is) (by k_is) H ho S ha (λ_ _=>⟨i,mM,rfl⟩) (LL mM) (by exact A1 tl) (by exact pK r0) h
   ·lk
    exact D6 (by k_is) (by k_is) (by k_is) (by k_is) (by k_is) (by k_is) H ho S ha (λ_ z=>absurd z bB) L0 (eQ _) tl h
 ·obtain⟨dR,dK⟩:=H.ne ha
  lk
  refine⟨_,rV H.hr (by rw[iN];exact tf rl),?_⟩
  rw[iN]
  lk
  refine eF (n+4) ha hb ?_
  rw[decide_eq_false (eI _)]
  lk
  rw[show(B.rs.length:Int)-1=((B.rs.length-1:Nat):Int) by exact(gR r0).symm]
  exact D6 (by k_is) (by k_is) (by k_is) (by k_is) (by k_is) (by k_is) H ho S ha (λh=>absurd h (by decide)) L0 (eQ _) (pK r0) h
end
end
section
section
theorem sX (n:Nat) {k:OK} {t:List UInt8} {m:Nat} {x:AO} (H:bZ σ B b r o) (ho:ia σ o k) (S:ic B k t m) (ha:σ a=some x) (hx:(∃i,i<B.n/\x=bz B b o i)\/cS B b o x) (h:Res B b o a σ m Q X):Call (n+7) true 495 [.ref a,.bytes t] σ Q X:=by
 refine aK Tr rfl ?_
 obtain⟨cur,ah,tn,hk,vf,rfl⟩:∃cur ah tn hk vf,x=cY b o cur ah tn hk vf:=by
  rcases hx with⟨i,_,rfl⟩|⟨_,_,rfl⟩<;>exact⟨_,_,_,_,_,rfl⟩
 obtain⟨dR,dK⟩:=H.ne ha
 have hb:=H.hb
 lk
 refine qm (by decide) ?_
 lk
 refine XZ n H ho S ha hx ⟨λq=>?_,λq qb x hx=>?_,λq qb x hx=>?_⟩
 ·lk
  exact h.ent q
 ·lk
  exact h.fin q qb x hx
 ·refine⟨_,rfl,λ_=>?_,λz=>absurd z (by decide)⟩
  obtain⟨tn,vf,rfl⟩:=hx
  refine Qs ?_
  lk
  refine sW (n+5) (ay _ _ _) (by k_extra"sg") dR ?_
  refine Qu ?_
  rw[aL]
  exact h.brk q qb _ ⟨_,_,rfl⟩
theorem Xz (n:Nat) (H:bZ σ B b r o) (ha:σ a=some (.inst 519 [])) (h:Q .none (upd σ a (jr B b o 0 0))):Call (n+1) nh 425 [.ref a,.ref b] σ Q X:=by
 refine aK Th rfl ?_
 obtain⟨dR,dK⟩:=H.ne ha
 have hb:=H.hb
 lk
 rw[aL,aL,aL,aL,aL,aL]
 exact h
theorem sZ (n:Nat) (H:bZ σ B b r o) (h:∀a,σ a=none->Q (.ref a) (upd σ a (jr B b o 0 0))):Call (n+3) nh 390 [.ref b] σ Q X:=by
 refine aK TB rfl ?_
 lk
 refine kF rfl rfl rfl ?_
 lk
 intro a ha
 have dR:b≠a:=λe=>by have:=H.hb;rw[e,ha]at this;(exact nn this)
 have dK:r≠a:=λe=>by have:=H.hr;rw[e,ha]at this;(exact nn this)
 have H':bZ (upd σ a (.inst 519 [])) B b r o:=⟨H.ok,by rw[aw _ _ dR];exact H.hb,by rw[aw _ _ dK];exact H.hr⟩
 refine Xz n H' (ay _ _ _) ?_
 refine⟨rfl,?_⟩
 rw[aL]
 exact h a ha
set_option genInjectivity false in
structure bq.Lay (B:bq):Prop where
 zD:B.D.length<=1000000
 sz:B.L+4*(B.rs.length+1)=B.D.length
 cn:eH B.D (B.D.length-4)=B.rs.length
 r0:B.rs[0]?=some 0
 rm:B.rs.Pairwise (· < ·)
 rl:∀p∈B.rs,p=0\/p<B.L
 rp:∀t p,B.rs[t]?=some p->eH B.D (B.L+4*t)=p
theorem Xf {X:Ex->af->aa->Prop} (H:B.Lay) (ha:τ a=some (gV B.D o B.L r)) (dK:r≠a) (hN:∀ρ,N' ρ (upd τ r (.av (dN B.rs)))):
  ∀(k t:Nat) (ρ:af),t+k=B.rs.length->get ρ 38=some (.ref a)->dP ⟨sc,d+1,true⟩ (.nm 7) [.asg (.nm 72) (.cf 15 [.at (.v 38) 0,.bin .Add (.at (.v 38) 70) (.bin .Mult (.int 4) (.v 7))]),.ite (.cmp .Eq (.v 7) (.int 0)) [.ite (.cmp .NotEq (.v 72) (.int 0)) [.rs 11 [.str]] []] [.ite (.or [.cmp .LtE (.v 72) (.idx (.at (.v 38) 71) (.bin .Sub (.v 7) (.int 1))),.cmp .GtE (.v 72) (.at (.v 38) 70)]) [.rs 11 [.str]] []],.ex (.app (.at (.v 38) 71) (.v 72))] N' R X ((oH t k).map λ(k:Nat)=>PV.int k) ρ (upd τ r (.av (dN (B.rs.take t)))):=by
 intro bD
 induction bD with
 |zero=>
  intro t ρ hk g
  refine aj (wX (bM hk.symm))▸?_
  exact hN ρ
 |succ k ih=>
  intro t ρ hk g
  have zD:=H.zD
  have sz:=H.sz
  obtain⟨p,hp⟩:∃p,B.rs[t]?=some p:=⟨_,bQ (f9 hk)⟩
  have e:=H.rp t p hp
  have gY:=H.rl p (gc hp)
  have u6:a≠r:=cN dK
  have tk:dN (B.rs.take t)++[.int p]=dN (B.rs.take (t+1)):=by
   rw[wU,hp];simp[dN]
  refine aj (Gk)▸?_
  refine⟨_,rfl,?_⟩
  lk
  refine⟨_,xk (by decide),?_⟩
  lk
  have tl:=(eh.mp hp).1
  refine aj (show(B.L:Int)+4*(t:Int)=((B.L+4*t:Nat):Int) by exact(Lx).symm)▸?_
  refine nZ d (cq zD) (Zc sz hk) ?_
  refine aj (e)▸?_
  lk
  refine aH (λhc=>?_) λhc=>?_
  ·have vv:t=0:=by exact(qS hc).symm
   subst vv
   have ya:p=0:=by replace hp:=H.r0▸hp;cases hp;rfl
   subst ya
   lk
   refine⟨_,rfl,⟨_,ay _ _ _⟩,?_⟩
   lk
   refine⟨_,ay _ _ _,by rw[iN,gu];exact cV _ _,?_⟩
   rw[tk,aL]
   lk
   exact ih (0+1) _ (kj hk) (by k_is)
  ·obtain⟨q,hq⟩:∃q,B.rs[t-1]?=some q:=⟨_,bQ (Zd hk)⟩
   have Wx:(dN (B.rs.take t))[((t:Int)-1).toNat]?=some (.int q):=by
    refine aj (show((t:Int)-1).toNat=t-1 by exact yG)▸?_;refine mV ?_;rw[Gg,if_pos (by exact Ly hc)];exact hq
   have hqp:q<p:=by
    obtain⟨l1,e1⟩:=eh.mp hq
    obtain⟨l2,e2⟩:=eh.mp hp
    have:=rB.mp H.rm _ _ l1 l2 (Ly hc)
    exact ai (oJ (bM e1.symm)) (ai this (bM e2))
   lk
   refine⟨_,i6 (by k_extra"sg") (by lia) (Ze zD hk sz.symm) Wx,?_⟩
   lk
   refine⟨_,rfl,⟨_,ay _ _ _⟩,?_⟩
   lk
   refine⟨_,ay _ _ _,by rw[iN,gu];exact Zf zD sz.symm,?_⟩
   rw[tk,aL]
   lk
   exact ih (t+1) _ (kj hk) (by k_is)
theorem XA (n:Nat) (H:B.Lay) (ha:σ a=some (.inst 407 []))
  (h:∀r,σ r=none->Q .none (upd (upd σ r (.av (dN B.rs))) a (gV B.D o B.L r))):Call (n+2) true 376 [.ref a,.bytes B.D,.ref o] σ Q X:=by
 refine aK Tz rfl ?_
 have r0:=(eh.mp H.r0).1
 have zD:=H.zD
 have sz:=H.sz
 lk
 refine⟨_,rU,?_⟩
 lk
 rw[show(B.D.length:Int)-4=((B.D.length-4:Nat):Int) by exact(Zg sz.symm).symm]
 refine nZ n (cq zD) (Zh sz.symm) ?_
 rw[H.cn]
 lk
 refine⟨_,xk (by decide),?_⟩
 lk
 refine⟨_,xk (by decide),?_⟩
 lk
 intro r hr
 rw[aL,aL]at hr⊢
 have dK:r≠a:=(by exact λe=>by rw[e,ay]at hr;cases hr)
 have u6:a≠r:=cN dK
 rw[aw _ _ dK]at hr
 rw[show(B.D.length:Int)-4*((B.rs.length:Int)+1)=(B.L:Int) by lia]
 lk
 refine oP rfl ?_
 lk
 refine⟨_,rfl,Zi zD sz.symm,aT _,?_⟩
 rw[wy _ _ _ u6,aL,wy _ _ _ dK,show((B.rs.length:Nat):Int).toNat=B.rs.length by exact eY,Gl]
 refine Xf (τ:=upd σ a (gV B.D o B.L r)) H (ay _ _ _) dK (λρ=>?_) B.rs.length 0 _ (kD _) ?_
 lk
 rw[wy _ _ _ u6]
 exact h r hr
 rfl
end
end
section
noncomputable def gU (D:List UInt8) (i v j:Nat):Prop:=
 (i<D.length/\oct D i<128/\v=oct D i/\j=i+1)\/(i+1<D.length/\128<=oct D i/\oct D (i+1)<128/\v=oct D i-128+oct D (i+1)*128/\j=i+2)
noncomputable def Ext (σ τ:aa):Prop:=∀a x,σ a=some x->τ a=some x
theorem Ext.refl (σ:aa):Ext σ σ:=λ_ _ h=>h
theorem Ext.trans (h:Ext σ τ) (g:Ext τ υ):Ext σ υ:=λa x e=>g a x (h a x e)
theorem Ext.new (h:σ a=none) (x:AO):Ext σ (upd σ a x):=λb y e=>by
 have:b≠a:=(by exact λq=>by rw[q,h]at e;(exact nn e))
 rw[aw _ _ this];exact e
theorem Ext.d_ {x:AO} (h:Ext σ τ) (n:σ a=none):Ext σ (upd τ a x):=λb y e=>by
 have:b≠a:=(by exact λq=>by rw[q,n]at e;(exact nn e))
 rw[aw _ _ this];exact h _ _ e
theorem Ext.none (h:Ext σ τ) (n:τ a=none):σ a=none:=by
 cases e:σ a with
 |none=>rfl
 |some x=>replace n:=h _ _ e▸n;cases n
noncomputable abbrev fy (off size:Nat):AO:=.inst 554 [(104,.int off),(23,.int size)]
section
variable{D:List UInt8}
theorem J8 (n:Nat) {i v j:Nat} (hz:D.length<=16777216) (hv:gU D i v j) (h:Q (.tup [.int v,.int j]) σ):Call (n+2) true 120 [.bytes D,.int i] σ Q X:=by
 rcases hv with⟨h1,h2,rfl,rfl⟩|⟨h1,h2,h3,rfl,rfl⟩
 ·exact X8 (n+1) hz h1 h2 h
 ·exact X_ n hz h1 h2 h3 h
theorem XE (n:Nat) {off size:Nat} (ha:σ a=some (.inst 554 [])) (h:Q .none (upd σ a (fy off size))):Call (n+1) nh 537 [.ref a,.int off,.int size] σ Q X:=by
 refine aK TL rfl ?_
 lk
 rw[aL]
 exact h
theorem Dj (n:Nat) {i off j size k:Nat} (hz:D.length<=16777216) (h1:gU D i off j) (h2:gU D j size k) (h:∀a,σ a=none->Q (.tup [.ref a,.int k]) (upd σ a (fy off size))):Call (n+3) true 565 [.bytes D,.int i] σ Q X:=by
 refine aK US rfl ?_
 lk
 refine J8 n hz h1 ?_
 refine⟨_,rfl,rfl,?_⟩
 lk
 refine J8 n hz h2 ?_
 refine⟨_,rfl,rfl,?_⟩
 lk
 refine kF rfl rfl rfl ?_
 lk
 intro a ha
 refine XE n (ay _ _ _) ?_
 refine⟨rfl,?_⟩
 rw[aL]
 lk
 exact h a ha
noncomputable def uj (D:List UInt8) (off size:Nat):Prop:=(eH D (off+size+1):Int)=BH ((D.drop off).take (size+1))/\oct D (off+size)=0
theorem X2 (n:Nat) {c:Nat} {off size:Nat} (hz:D.length<=1000000) (ha:σ a=some (fy off size)) (hl:off+size+5<=D.length) (h:uj D off size->Q (.bytes ((D.drop off).take size)) σ) (hx:¬uj D off size->X .b_ σ):Call (n+2) true 572 [.bytes D,.ref a,.int 2] σ Q X:=by
 refine aK UN rfl ?_
 lk
 refine⟨_,rfl,aT _,?_⟩
 lk
 refine⟨_,rfl,aT _,_,gK (cq hz),?_⟩
 rw[show(off:Int)+(size:Int)+1=((off+size+1:Nat):Int) by exact(Lz).symm]
 have e1:cut D (some (off:Int)) (some ((off+size+1:Nat):Int))=(D.drop off).take (size+1):=by
  show(D.drop off).take (off+size+1-off)=_
  rw[show off+size+1-off=size+1 by exact(Zj).symm]
 rw[e1]
 have el:((D.drop off).take (size+1)).length=size+1:=by rw[gu,m_];lia
 lk
 refine⟨_,rU,?_⟩
 lk
 rw[show(off:Int)+(size:Int)+1=((off+size+1:Nat):Int) by exact(Lz).symm]
 refine nZ n (cq hz) (hl) ?_
 lk
 refine XK n (Dz hl hz el) ?_
 lk
 refine aH (λhc=>?_) λhc=>?_
 ·lk
  exact hx λz=>hc z.1
 ·lk
  refine⟨_,qM (aT _) (by lia) (Dz hl hz el),?_⟩
  lk
  have e2:(((D.drop off).take (size+1)).getD ((size:Nat):Int).toNat 0).toNat=oct D (off+size):=by
   rw[show((size:Nat):Int).toNat=size by exact eY,be,Gg,if_pos (by exact aP _),Gf,<-be]
   rfl
  rw[e2]
  refine aH (λbB=>?_) λbB=>?_
  ·lk
   exact hx λz=>bB (by rw[z.2];rfl)
  ·lk
   refine⟨_,rfl,aT _,_,gK (Dz hl hz el),?_⟩
   lk
   have e3:cut ((D.drop off).take (size+1)) none (some (size:Int))=(D.drop off).take size:=by
    show(((D.drop off).take (size+1)).drop 0).take (size-0)=_
    rw[Pr,Qc,List.take_take,w3 (b6 _ _)]
   rw[e3]
   exact h ⟨wH.mp hc,((FY.mp (wH.mp bB)).symm).symm⟩
end
end
section
noncomputable abbrev uy (bits ab3:Nat):AO:=.inst 603 [(112,.int bits),(113,.int ab3)]
section
variable{D:List UInt8}
theorem XB (n:Nat) {bits:Nat} (h1:1<=bits) (h2:bits<=10) (ha:σ a=some (.inst 603 [])) (h:∀p:Nat,Q .none (upd σ a (uy bits p))):Call (n+1) true 586 [.ref a,.int bits] σ Q X:=by
 refine aK TF rfl ?_
 lk
 refine⟨_,jJ (by decide),?_⟩
 lk
 refine⟨_,kG (by decide) (by decide),?_⟩
 lk
 refine aH (λhc=>?_) λhc=>?_
 ·lk
  rw[aL]
  exact h 1
 ·lk
  rw[aL]
  have e:((bits:Int)*69/100)=((bits*69/100:Nat):Int):=by exact rfl.symm
  rw[e]
  exact h _
theorem Q_:∀k<8,oA 255 (1*2^k)≠0:=by decide
theorem Q9:∀k<8,oA 0 (1*2^k)=0:=by decide
theorem abh {X:Ex->af->aa->Prop} {dv:Int} (hl:D.length=9) (hD:∀i<8,oct D i=255) (hN:∀ρ,N' ρ σ):
  ∀(xs:List PV) (ρ:af) (hv:Int),0<=hv->get ρ 116=some (.bytes D)->get ρ 117=some (.int 64)->get ρ 24=some (.int hv)->get ρ 119=some (.int dv)->dP ⟨sc,d+1,true⟩ (.nm 121) [.asg (.nm 72) (.bin .Mod (.v 24) (.v 117)),.ite (.cmp .Eq (.bin .BitAnd (.idx (.v 116) (.bin .FloorDiv (.v 72) (.int 8))) (.bin .LShift (.int 1) (.bin .Mod (.v 72) (.int 8)))) (.int 0)) [.ret (some (.bool false))] [],.asg (.nm 24) (.bin .BitAnd (.bin .Add (.v 24) (.v 119)) (.g 120))] N' R X xs ρ σ:=by
 intro xs
 induction xs with
 |nil=>
  intro ρ hv h0 g1 g2 g3 g4
  exact hN ρ
 |cons x xs cD=>
  intro ρ hv h0 g1 g2 g3 g4
  refine⟨_,rfl,?_⟩
  lk
  refine⟨_,gz (by lia),?_⟩
  lk
  refine⟨_,kG (by decide) (by decide),?_⟩
  lk
  have q0:0<=hv%64/8:=by exact LA
  have q1:hv%64/8<8:=by exact LB
  refine⟨_,qM q0 (LC hl.symm) (DA hl.symm),?_⟩
  have e:(D.getD (hv%64/8).toNat 0).toNat=255:=hD _ (LF)
  rw[e]
  lk
  refine⟨_,gz (by lia),?_⟩
  lk
  refine⟨_,jK (yH) (Aq rfl rfl) (by decide),?_⟩
  lk
  refine jM (Q_ _ (LG)) ?_
  lk
  rw[rQ]
  exact cD _ ((hv+dv)%4294967296) (jB _ (by decide)) (by k_is) (by k_is) (by k_is) (by k_is)
theorem abi {X:Ex->af->aa->Prop} (hl:D.length=9) (hD:∀i<8,oct D i=0) (hR:R (.bool false) σ)
  (x:PV) (xs:List PV) (ρ:af) (hv:Int) (h0:0<=hv) (g1:get ρ 116=some (.bytes D)) (g2:get ρ 117=some (.int 64)) (g3:get ρ 24=some (.int hv)):dP ⟨sc,d+1,true⟩ (.nm 121) [.asg (.nm 72) (.bin .Mod (.v 24) (.v 117)),.ite (.cmp .Eq (.bin .BitAnd (.idx (.v 116) (.bin .FloorDiv (.v 72) (.int 8))) (.bin .LShift (.int 1) (.bin .Mod (.v 72) (.int 8)))) (.int 0)) [.ret (some (.bool false))] [],.asg (.nm 24) (.bin .BitAnd (.bin .Add (.v 24) (.v 119)) (.g 120))] N' R X (x::xs) ρ σ:=by
  refine⟨_,rfl,?_⟩
  lk
  refine⟨_,gz (by lia),?_⟩
  lk
  refine⟨_,kG (by decide) (by decide),?_⟩
  lk
  have q0:0<=hv%64/8:=by exact LA
  have q1:hv%64/8<8:=by exact LB
  refine⟨_,qM q0 (LC hl.symm) (DA hl.symm),?_⟩
  have e:(D.getD (hv%64/8).toNat 0).toNat=0:=hD _ (LF)
  refine aj (e)▸?_
  lk
  refine⟨_,gz (by lia),?_⟩
  lk
  refine⟨_,jK (yH) (Aq rfl rfl) (by decide),?_⟩
  lk
  refine jN (Q9 _ (LG)) ?_
  lk
  exact hR
theorem XX (n:Nat) {bits p:Nat} {v:Bool} {K:List UInt8} (hK:K.length<=1000000) (ha:σ a=some (uy bits p)) (hl:D.length=9)
  (hv:(v=true/\oct D 8=31)\/(v=true/\oct D 8=2/\∀i<8,oct D i=255)\/(v=false/\oct D 8=2/\∀i<8,oct D i=0)) (h:Q (.bool v) σ):Call (n+3) true 600 [.ref a,.bytes K,.bytes D] σ Q X:=by
 refine aK TG rfl ?_
 lk
 refine⟨_,qM (by lia) (DB) (DA hl.symm),?_⟩
 have e8:((D.length:Int)-1).toNat=8:=by lia
 refine aj (e8)▸?_
 change aD _ _ (put _ _ (.int (oct D 8:Nat))) _ _ _ _
 lk
 rcases hv with⟨rfl,h8⟩|⟨rfl,h8,hD⟩|⟨rfl,h8,hD⟩
 ·refine aj (h8)▸?_
  lk
  exact h
 ·refine aj (h8)▸?_
  lk
  refine⟨_,jJ (by decide),?_⟩
  lk
  refine J2 n hK λhv h0 h1=>?_
  lk
  refine⟨_,oV (by decide),?_⟩
  lk
  refine⟨_,jK (by decide) (by decide) (by lia),?_⟩
  lk
  refine oP rfl ?_
  lk
  refine⟨_,rfl,by lia,by lia,?_⟩
  have BS:((D.length:Int)-1)*8=64:=by exact LH hl.symm
  refine aj (BS)▸?_
  refine abh hl hD (λρ=>?_) _ _ hv h0 rfl rfl rfl rfl
  lk
  exact h
 ·refine aj (h8)▸?_
  lk
  refine⟨_,jJ (by decide),?_⟩
  lk
  refine J2 n hK λhv h0 h1=>?_
  lk
  refine⟨_,oV (by decide),?_⟩
  lk
  refine⟨_,jK (by decide) (by decide) (by lia),?_⟩
  lk
  refine oP rfl ?_
  lk
  refine⟨_,rfl,by lia,by lia,?_⟩
  have BS:((D.length:Int)-1)*8=64:=by exact LH hl.symm
  refine aj (BS)▸?_
  exact abi hl hD h _ _ _ hv h0 rfl rfl rfl
end
end
section
structure Flt (D:List UInt8) (cg m:Nat) (says:Nat->Bool):Prop where
 zD:D.length<=1000000
 sz:cg+4*m+5=D.length
 st:eH D (D.length-5)=cg
 lg:oct D (D.length-1)=6
 row:∀i<m,∃lo hi,eH D (cg+4*i)=lo/\eH D (cg+4*i+4)=hi/\hi<=cg/\
  ((lo=hi/\says i=false)\/(hi=lo+9/\((says i=true/\oct D (lo+8)=31)\/(says i=true/\oct D (lo+8)=2/\∀j<8,oct D (lo+j)=255)\/(says i=false/\oct D (lo+8)=2/\∀j<8,oct D (lo+j)=0))))
noncomputable abbrev B7 (bl:Nat) (D:List UInt8) (cg m:Nat):AO:=.inst 631 [(122,.ref bl),(0,.bytes D),(123,.int 6),(89,.int cg),(69,.int m)]
noncomputable def nN (m:Nat) (says:Nat->Bool) (off:Nat):Bool:=if off/64<m then says (off/64)else true
section
variable{D:List UInt8}
theorem XC (n:Nat) {cg m bl:Nat} {says:Nat->Bool} (H:Flt D cg m says) (ha:σ a=some (.inst 631 [])) (h:Q .none (upd σ a (B7 bl D cg m))):Call (n+2) true 621 [.ref a,.ref bl,.bytes D] σ Q X:=by
 refine aK TH rfl ?_
 have zD:=H.zD
 have sz:=H.sz
 have lg:=H.lg
 lk
 refine⟨_,rU,?_⟩
 lk
 rw[show(D.length:Int)-5=((D.length-5:Nat):Int) by exact(Zk sz.symm).symm]
 refine nZ n (cq zD) (Zl sz.symm) ?_
 rw[H.st]
 lk
 have e1:(D.getD ((D.length:Int)-1).toNat 0).toNat=6:=by rw[show((D.length:Int)-1).toNat=D.length-1 by exact yG];exact lg
 refine⟨_,qM (LJ sz.symm) (DB) (cq zD),?_⟩
 rw[e1]
 lk
 refine⟨_,qM (LJ sz.symm) (DB) (cq zD),?_⟩
 rw[e1]
 lk
 refine⟨_,kG (by decide) (by decide),?_⟩
 lk
 rw[show((D.length:Int)-5-(cg:Int))/4=(m:Int) by lia]
 simp only[aL]
 exact h
theorem JX (n:Nat) {cg m bl bits p off:Nat} {says:Nat->Bool} {K:List UInt8} (H:Flt D cg m says) (hK:K.length<=1000000) (ha:σ a=some (B7 bl D cg m)) (hb:σ bl=some (uy bits p)) (h:Q (.bool (nN m says off)) σ):Call (n+4) true 628 [.ref a,.int off,.bytes K] σ Q X:=by
 refine aK TJ rfl ?_
 have zD:=H.zD
 have sz:=H.sz
 lk
 refine⟨_,oV (by decide),?_⟩
 have es:(off:Int).fdiv (2^(6:Int).toNat)=((off/64:Nat):Int):=by
  rw[AI _ (by decide)]
  show(off:Int)/64=_
  exact rfl.symm
 refine aj (es)▸?_
 unfold nN at h
 lk
 refine aH (λhc=>?_) λhc=>?_
 ·lk
  rw[if_neg (w5 (d6.mp hc))]at h
  exact h
 ·rw[if_pos (by exact pY hc)]at h
  obtain⟨lo,hi,l1,l2,l3,l4⟩:=H.row (off/64) (pY hc)
  lk
  refine⟨_,xk (by decide),?_⟩
  lk
  have ep:(cg:Int)+4*((off/64:Nat):Int)=((cg+4*(off/64):Nat):Int):=by exact(Lx).symm
  refine aj (ep)▸?_
  refine nZ (n+2) (cq zD) (Zm sz hc) ?_
  refine aj (l1)▸?_
  lk
  refine aj (show((cg+4*(off/64):Nat):Int)+4=((cg+4*(off/64)+4:Nat):Int) by exact rfl.symm)▸?_
  refine nZ (n+2) (cq zD) (Zn sz hc) ?_
  refine aj (l2)▸?_
  lk
  rcases l4 with⟨rfl,l5⟩|⟨rfl,l5⟩
  ·refine jN rfl ?_
   lk
   rw[l5]at h
   exact h
  ·lk
   refine⟨_,rfl,aT _,?_⟩
   lk
   refine⟨_,rfl,aT _,_,gK (cq zD),?_⟩
   have e1:cut D (some (lo:Int)) (some ((lo+9:Nat):Int))=(D.drop lo).take 9:=by
    show(D.drop lo).take (lo+9-lo)=_
    rw[nj]
   refine aj (e1)▸?_
   have eo:∀j<9,oct ((D.drop lo).take 9) j=oct D (lo+j):=λj hj=>by
    unfold oct
    rw[be,Gg,if_pos hj,Gf,<-be]
   have el:((D.drop lo).take 9).length=9:=by clear l5;rw[gu,m_];exact(Zo l3 sz.symm).symm
   lk
   refine XX n hK hb el ?_ h
   refine aj (eo 8 (by decide))▸?_
   rcases l5 with⟨z1,z2⟩|⟨z1,z2,z3⟩|⟨z1,z2,z3⟩
   ·exact .inl ⟨z1,z2⟩
   ·exact .inr (.inl ⟨z1,z2,λj hj=>by refine aj (eo j (LK hj))▸?_;exact z3 j hj⟩)
   ·exact .inr (.inr ⟨z1,z2,λj hj=>by refine aj (eo j (LK hj))▸?_;exact z3 j hj⟩)
end
end
section
theorem xA {α:Type} (l:List α) {i:Int} (k:Nat) (h:i=k):cut l (some i) none=l.drop k:=by
 subst h;show(l.drop k).take (l.length-k)=_
 rw[wX (by rw[m_];exact aP _)]
noncomputable def jc (D:List UInt8):List UInt8:=D.drop (D.length-48)
noncomputable def pf (D:List UInt8):List UInt8:=(jc D).take 40
inductive Pa (P:List UInt8) (mo ms io iz:Nat) (pad:Bool):Prop
 |mk (j1 j2 j3 j4:Nat) (v1:gU P 0 mo j1) (v2:gU P j1 ms j2) (v3:gU P j2 io j3) (v4:gU P j3 iz j4) (CO:pad=true↔P.drop j4=bV (40-j4) 0)
structure AA (D:List UInt8) (mo ms io iz:Nat) (pad:Bool):Prop where
 zD:D.length<=1000000
 len:48<=D.length
 VV:Pa (pf D) mo ms io iz pad
theorem gU.lt {D:List UInt8} {v:Nat} (h:gU D i v j):i<j/\j<=D.length:=by
 rcases h with⟨h1,_,_,h2⟩|⟨h1,_,_,_,h2⟩<;>lia
theorem dH {f:Nat} {x:AO} (h:upd σ a x f=none):f≠a/\σ f=none:=by
 unfold upd at h
 split at h
 ·cases h
 ·rename_i q;exact⟨q,h⟩
noncomputable abbrev xM (m i:Nat):AO:=.inst 666 [(128,.ref m),(129,.ref i)]
section
variable{D:List UInt8}
theorem XD (n:Nat) {m i:Nat} (ha:σ a=some (.inst 666 [])) (h:Q .none (upd σ a (xM m i))):Call (n+1) nh 649 [.ref a,.ref m,.ref i] σ Q X:=by
 refine aK TK rfl ?_
 lk
 rw[aL]
 exact h
theorem X7 (n:Nat) {mo ms io iz:Nat} {pad:Bool} (hz:D.length<=1000000) (hl:48<=D.length) (hx:fT (jc D) 40≠15800726617472432983->X .b_ σ) (F:fT (jc D) 40=15800726617472432983->AA D mo ms io iz pad)
  (hp:fT (jc D) 40=15800726617472432983->pad=false->∀τ,Ext σ τ->X .b_ τ)
  (h:fT (jc D) 40=15800726617472432983->pad=true->∀τ f m i,Ext σ τ->σ f=none->τ f=some (xM m i)->τ m=some (fy mo ms)->τ i=some (fy io iz)->Q (.ref f) τ):Call (n+4) true 677 [.bytes D] σ Q X:=by
 refine aK UQ rfl ?_
 have tl:(jc D).length=48:=by unfold jc;rw[m_];exact(Zp hl).symm
 have eW:(pf D).length=40:=by unfold pf;rw[gu];lia
 lk
 refine⟨_,rfl,by lia,?_⟩
 lk
 refine⟨_,gK (cq hz),?_⟩
 have e1:cut D (some ((D.length:Int)-48)) none=jc D:=xA D (D.length-48) ((gR hl).symm)
 rw[e1]
 lk
 refine⟨_,rU,?_⟩
 lk
 refine J6 (i:=40) (n+1) (LM tl.symm) (bM tl.symm) ?_
 lk
 refine aH (λhc=>?_) λhc=>?_
 ·lk
  exact hx λh=>hc (congrArg _ h)
 ·have hm:fT (jc D) 40=15800726617472432983:=by exact((FY.mp (wH.mp hc)).symm).symm
  obtain⟨j1,j2,j3,j4,v1,v2,v3,v4,CO⟩:=(F hm).VV
  have l4:=v4.lt.1
  have l42:=v4.lt.2
  lk
  refine⟨_,rfl,by lia,_,gK (LM tl.symm),?_⟩
  have e2:cut (jc D) none (some 40)=pf D:=uN (jc D) 40 rfl
  rw[e2]
  lk
  refine Dj (i:=0) n (DC eW.symm) v1 v2 λm pv=>?_
  refine⟨_,rfl,rfl,?_⟩
  lk
  refine Dj n (DC eW.symm) v3 v4 λi ve=>?_
  refine⟨_,rfl,rfl,?_⟩
  (have zz:=dH ve;have mM:=zz.1;have Cy:=zz.2;clear zz)
  have xX:m≠i:=cN mM
  have x1:Ext σ (upd (upd σ m (fy mo ms)) i (fy io iz)):=((Ext.refl σ).d_ pv).d_ Cy
  lk
  refine⟨_,rfl,aT _,?_⟩
  lk
  refine⟨_,gK (DC eW.symm),?_⟩
  have e3:cut (pf D) (some (j4:Int)) none=(pf D).drop j4:=xA _ j4 rfl
  rw[e3]
  lk
  refine⟨_,xu (by lia) (LN),?_⟩
  rw[show((40:Int)-(j4:Int)).toNat=40-j4 by exact LO]
  lk
  refine aH (λbB=>?_) λbB=>?_
  ·lk
   refine hp hm ?_ _ x1
   cases pad with
   |false=>rfl
   |true=>exact absurd (CO.mp rfl) bB
  ·lk
   refine kF rfl rfl rfl ?_
   lk
   intro f hf
   (have zz:=dH hf;have V5:=zz.1;have I3:=zz.2;clear zz)
   (have zz:=dH I3;have V7:=zz.1;have Cr:=zz.2;clear zz)
   refine XD (n+1) (ay _ _ _) ?_
   refine⟨rfl,?_⟩
   rw[aL]
   refine h hm (CO.mpr (Decidable.not_not.mp bB)) _ f m i (x1.d_ Cr) Cr (ay _ _ _) ?_ ?_
   ·rw[aw _ _ (cN V7),aw _ _ xX,ay]
   ·rw[aw _ _ (cN V5),ay]
end
inductive BN (σ τ:aa) (a r o:Nat) (B:bq):Prop
 |mk (x:Ext σ τ) (ha:τ a=some (gV B.D o B.L r)) (hr:τ r=some (.av (dN B.rs))) (na:σ a=none) (nr:σ r=none)
theorem Aw (n:Nat) {X:Ex->aa->Prop} {Q:PV->aa->Prop} {σ:aa} {B:bq} {o:Nat} (H:B.Lay) (h:∀τ a r,BN σ τ a r o B->Q (.ref a) τ):∀a,σ a=none->Call (n+2) true 376 [.ref a,.bytes B.D,.ref o] (upd σ a (.inst 407 [])) (λr σ=>r=.none/\Q (.ref a) σ) X:=by
 intro a na
 refine XA n H (ay _ _ _) λr hr=>⟨rfl,h _ a r ?_⟩
 have h1:=dH hr
 exact⟨((Ext.new na _).d_ h1.2).d_ na,ay _ _ _,(aw _ _ h1.1).trans (ay _ _ _),na,h1.2⟩
end
section
noncomputable abbrev de (bits:Nat) (par:Bool):AO:=.inst 358 [(47,.int 2),(48,.int 32),(49,.bool true),(50,.bool true),(51,.bool par),(52,.int 96),(53,.int 4),(54,.tup [.int 1,.int 2,.int 1,.int 3,.int 1,.int 2,.int 1,.int 4]),(55,.int 48),(56,.int 2),(57,.int bits),(58,.int 5),(59,.int 128),(60,.int 4),(61,.int 2),(62,.int 4),(63,.int 256),(64,.int 2),(65,.int 2),(66,.int 10),(67,.int 25)]
noncomputable abbrev rd (D:List UInt8) (opt o f E:Nat) (rest:List (Nat×PV)):AO:=.inst 771 ((0,.bytes D)::(138,.ref opt)::(68,.ref o)::(139,.ref f)::(141,.int E)::rest)
noncomputable def mx (D:List UInt8) (E off size:Nat):Prop:=off+size+5<=E/\uj D off size
set_option genInjectivity false in
structure Row where
 off:Nat
 size:Nat
 fault:Nat
 P:List UInt8
 B:bq
inductive AB (P:List UInt8) (off size fault:Nat):Prop
 |mk (j k:Nat) (v1:gU P 0 off j) (v2:gU P j size k) (hk:fault=3↔k≠P.length)
inductive OJ (D:List UInt8) (B:bq):Prop
 |mk (bd:B.D=D) (ok:B.Ok) (lay:B.Lay) (nb:B.bad=false)
structure w9 (D:List UInt8) (E:Nat) (r:Row):Prop where
 zP:r.P.length<=1000
 hd:AB r.P r.off r.size r.fault
 sd:r.fault≠3->(r.fault=0↔mx D E r.off r.size)
 bd:r.fault=0->OJ ((D.drop r.off).take r.size) r.B
section
variable{f E:Nat} {D:List UInt8}
theorem ym (n:Nat) {bits h off size:Nat} {par:Bool} {rest:List (Nat×PV)} (hz:D.length<=1000000) (hE:E<=D.length) (ht:σ t=some (rd D opt o f E rest)) (pz:σ opt=some (de bits par)) (hh:σ h=some (fy off size))
  (hq:mx D E off size->Q (.bytes ((D.drop off).take size)) σ) (hx:¬mx D E off size->X .b_ σ):Call (n+3) true 698 [.ref t,.ref h] σ Q X:=by
 refine aK TZ rfl ?_
 lk
 refine aH (λhc=>?_) λhc=>?_
 ·lk
  exact hx λz=>by have:=z.1;lia
 ·lk
  exact X2 (c:=0) n hz hh (Zq hE hc) (λz=>hq ⟨by lia,z⟩) λz=>hx λy=>z y.2
theorem vI (n:Nat) {off j size k:Nat} {P:List UInt8} (hz:P.length<=1000) (v1:gU P 0 off j) (v2:gU P j size k)
  (hq:k=P.length->∀a,σ a=none->Q (.ref a) (upd σ a (fy off size))) (hx:k≠P.length->∀a,σ a=none->X .b_ (upd σ a (fy off size))):Call (n+4) true 712 [.ref t,.bytes P] σ Q X:=by
 refine aK T6 rfl ?_
 lk
 refine Dj (i:=0) n (vO hz) v1 v2 λa ha=>?_
 refine⟨_,rfl,rfl,?_⟩
 lk
 refine aH (λhc=>?_) λhc=>?_
 ·lk
  exact hx (LP hc) a ha
 ·lk
  exact hq (DD hc) a ha
inductive wI (σ:aa) (fl:PV) (held:Option (Nat×(Nat->Bool))):Prop
 |no (h1:fl=.none) (h2:held=none)
 |yes (fa bl FD cg m says bits p:_) (h1:fl=.ref fa) (h2:σ fa=some (B7 bl FD cg m)) (h3:σ bl=some (uy bits p)) (h4:Flt FD cg m says) (h5:held=some (m,says))
noncomputable def den:Option (Nat×(Nat->Bool))->Nat->Bool
 |none,_=>false
 |some (m,says),off=>!nN m says off
set_option genInjectivity false in
structure Tb where
 D:List UInt8
 E:Nat
 bits:Nat
 par:Bool
 mo:Nat
 ms:Nat
 io:Nat
 iz:Nat
 opt:Nat
 o:Nat
 u:Nat
 f:Nat
 hm:Nat
 hi:Nat
 ix:Nat
 ri:Nat
 fl:PV
 I:bq
 R:Nat->Row
 held:Option (Nat×(Nat->Bool))
noncomputable abbrev Tb.obj (T:Tb):AO:=rd T.D T.opt T.o T.f T.E [(129,.ref T.ix),(144,T.fl)]
noncomputable def bq.val (B:bq) (i:Nat):List UInt8:=cut B.D (some (B.pW i)) (some (B.off (i+1)))
structure TabAt (σ:aa) (t:Nat) (T:Tb):Prop where
 zD:T.D.length<=1000000
 hE:T.E<=T.D.length
 ob:σ t=some T.obj
 op:σ T.opt=some (de T.bits T.par)
 od:ia σ T.o (.internal T.u)
 ib:bZ σ T.I T.ix T.ri T.o
 ft:σ T.f=some (xM T.hm T.hi)
 fm:σ T.hm=some (fy T.mo T.ms)
 fl:wI σ T.fl T.held
 rw:∀i<T.I.n,w9 T.D T.E (T.R i)
 pl:∀i<T.I.n,T.I.val i=(T.R i).P
 same:∀i j,i<T.I.n->j<T.I.n->(T.R i).P=(T.R j).P->(T.R i).fault=0->(T.R j).fault=0/\(T.R i).B=(T.R j).B
theorem yj (n:Nat) {T:Tb} {r:Row} (H:TabAt σ t T) (R:w9 T.D T.E r) (hq:r.fault=0->∀τ b rr it,Ext σ τ->bZ τ r.B b rr T.o->σ it=none->τ it=some (jr r.B b T.o 0 0)->Q (.ref it) τ)
  (hx:r.fault≠0->∀τ,Ext σ τ->X .b_ τ):Call (n+5) true 719 [.ref t,.bytes r.P] σ Q X:=by
 refine aK TS rfl ?_
 have ob:=H.ob
 have zD:=H.zD
 obtain⟨j,k,v1,v2,hk⟩:=R.hd
 lk
 refine vI n R.zP v1 v2 (λe a ha=>?_) λe a ha=>?_
 rotate_left
 ·exact hx (by have:=hk.mpr e;exact LQ e hk) _ (Ext.new ha _)
 have f3:r.fault≠3:=λz=>hk.mp z e
 have x1:Ext σ (upd σ a (fy r.off r.size)):=Ext.new ha _
 lk
 refine ym (n+1) zD H.hE (x1 _ _ ob) (x1 _ _ H.op) (ay _ _ _) (λz=>?_) λz=>?_
 rotate_left
 ·exact hx (λz0=>z ((R.sd f3).mp z0)) _ x1
 have f0:=(R.sd f3).mpr z
 obtain⟨bd,ok,lay,nb⟩:=R.bd f0
 refine(bd)▸?_
 have lZ:=x1 _ _ ob
 lk
 refine kF rfl rfl rfl ?_
 lk
 refine Aw (n+1) lay λτ b rr N=>?_
 obtain⟨x,e1,e2⟩:=N
 have x2:=x1.trans x
 clear x
 have HB:bZ τ r.B b rr T.o:=⟨ok,e1,e2⟩
 lk
 refine sZ (n+1) HB λit hit=>?_
 have V_:b≠it:=λe=>by rw[<-e,HB.hb]at hit;cases hit
 have V':rr≠it:=λe=>by rw[<-e,HB.hr]at hit;cases hit
 have I_:σ it=none:=x2.none hit
 exact hq f0 _ b rr it (x2.d_ I_) ⟨ok,by refine aj (aw _ _ V_)▸?_;exact HB.hb,by refine aj (aw _ _ V')▸?_;exact HB.hr⟩ I_ (ay _ _ _)
end
end
section
theorem Hx:c9 .Is .none .none true:=BL (x:=.none)
theorem HA:c9 .IsNot .none .none false:=uL (x:=.none)
theorem ae1:c9 .IsNot (.ref a) .none true:=uL (x:=.ref a)
theorem Hz:c9 .Is (.tup l) .none false:=BL (x:=.tup l)
theorem HC:c9 .IsNot (.tup l) .none true:=uL (x:=.tup l)
theorem ae0 {l:List UInt8}:c9 .IsNot (.bytes l) .none true:=uL (x:=.bytes l)
end
local macro_rules | `(tactic| k_extra "x")=>alts "Ax.intro _ cmp_is_none_ref ?|Ax.intro _ ae1 ?|Ax.intro _ Hx ?|Ax.intro _ HA ?|Ax.intro _ Hz ?|Ax.intro _ HC ?|Ax.intro _ cmp_is_none_lst ?|Ax.intro _ cmp_isnot_none_lst ?|Ax.intro _ cmp_is_none_byt ?|Ax.intro _ ae0 ?"
section
noncomputable abbrev bK (oi t:Nat) (p:PV) (P:List UInt8):AO:=.inst 883 [(160,.ref oi),(173,.ref t),(161,p),(72,.bytes P)]
noncomputable def fg (B:bq) (b o:Nat) (x:AO):Prop:=(∃j,j<B.n/\x=bz B b o j)\/cS B b o x
inductive Pl (b o:Nat) (x:AO):Prop
 |mk (cur ah tn hk vf:_) (e:x=cY b o cur ah tn hk vf)
theorem fg.it {x:AO} (h:fg B b o x):Pl b o x:=by
 rcases h with⟨j,_,rfl⟩|⟨tn,vf,rfl⟩<;>exact⟨_,_,_,_,_,rfl⟩
noncomputable def isIt:AO->Bool
 |.inst c _=>bh c 519||bh c 883
 |_=>false
theorem TabAt.keep {T:Tb} (H:TabAt σ t T) (k:∀a x,σ a=some x->isIt x=false->τ a=some x):TabAt τ t T:=by
 refine⟨H.zD,H.hE,k _ _ H.ob rfl,k _ _ H.op rfl,⟨k _ _ H.od.1 rfl,k _ _ H.od.2 rfl⟩,⟨H.ib.ok,k _ _ H.ib.hb rfl,k _ _ H.ib.hr rfl⟩,k _ _ H.ft rfl,k _ _ H.fm rfl,?_,H.rw,H.pl,H.same⟩
 rcases H.fl with⟨h1,h2⟩|⟨fa,bl,FD,cg,m,says,bits,p,h1,h2,h3,h4,h5⟩
 ·exact .no h1 h2
 ·exact .yes fa bl FD cg m says bits p h1 (k _ _ h2 rfl) (k _ _ h3 rfl) h4 h5
theorem TabAt.ext {T:Tb} (H:TabAt σ t T) (k:Ext σ τ):TabAt τ t T:=H.keep λa x h _=>k a x h
inductive oB (s0:aa) (T0:Tb) (o0:Nat) (p0:PV) (P0:List UInt8):Prop
 |no (e:p0=.none)
 |G0 (i ii b rr x:_) (h1:i<T0.I.n) (h2:(T0.R i).fault=0) (h3:P0=(T0.R i).P) (h4:p0=.ref ii) (h5:ii≠o0) (h6:bZ s0 (T0.R i).B b rr T0.o) (h7:s0 ii=some x) (h8:fg (T0.R i).B b T0.o x)
noncomputable def Ws (w oi:Nat) (p:PV) (a:Nat):Prop:=a=w\/a=oi\/p=.ref a
structure c8 (σ τ:aa) (w oi:Nat) (p p':PV):Prop where
 but:∀a x,σ a=some x->¬Ws w oi p a->τ a=some x
 al:∀a,τ a=none->σ a=none
 nw:∀a,p'=.ref a->p=.ref a\/σ a=none
theorem c8.refl {w:Nat}:c8 σ σ w oi p p:=⟨λ_ _ h _=>h,λ_ h=>h,λ_ h=>.inl h⟩
theorem c8.trans {w:Nat} {qZ:PV} (h:c8 σ τ w oi p p') (g:c8 τ υ w oi p' qZ):c8 σ υ w oi p qZ:=by
 refine⟨λa x e n=>g.but a x (h.but a x e n) λz=>?_,λa e=>h.al a (g.al a e),λa e=>?_⟩
 ·rcases z with z|z|z
  ·exact n (.inl z)
  ·exact n (.inr (.inl z))
  ·rcases h.nw a z with q|q
   ·exact n (.inr (.inr q))
   ·rw[e]at q;cases q
 ·rcases g.nw a e with q|q
  ·exact h.nw a q
  ·exact .inr (h.al a q)
theorem c8.ext {w:Nat} (h:Ext σ τ):c8 σ τ w oi p .none:=⟨λa x e _=>h a x e,λa e=>h.none e,λa e=>by cases e⟩
theorem c8.upd {w:Nat} {x:AO} (h:Ws w oi p a) (q:∀a,p'=.ref a->p=.ref a\/σ a=none):c8 σ (upd σ a x) w oi p p':=
 ⟨λb y e n=>by rw[aw _ _ λz=>n (by rw[z];exact h)];exact e,λb e=>(dH e).2,q⟩
section
variable{w:Nat} {T:Tb} {P:List UInt8}
theorem XJ (n:Nat) (ha:σ w=some (.inst 883 [])) (h:Q .none (upd σ w (bK oi t .none []))):Call (n+1) nh 789 [.ref w,.ref oi,.ref t] σ Q X:=by
 refine aK T7 rfl ?_
 lk
 rw[aL,aL,aL]
 exact h
theorem Dd (n:Nat) (H:TabAt σ t T) (h:∀τ w oi,Ext σ τ->σ w=none->σ oi=none->w≠oi->τ w=some (bK oi t .none [])->τ oi=some (jr T.I T.ix T.o 0 0)->Q (.ref w) τ):Call (n+4) nh 726 [.ref t] σ Q X:=by
 refine aK T5 rfl ?_
 have ob:=H.ob
 have hb:=H.ib.hb
 lk
 refine kF rfl rfl rfl ?_
 lk
 refine sZ n H.ib λoi kK=>?_
 lk
 intro w hw
 obtain⟨vx,iG⟩:=dH hw
 refine XJ (n+1) (ay _ _ _) ?_
 refine⟨rfl,?_⟩
 rw[aL]
 refine h _ w oi ((Ext.new kK _).d_ iG) iG kK vx (ay _ _ _) ?_
 rw[aw _ _ (cN vx),ay]
theorem vE (n:Nat) (ha:σ w=some (bK oi t p P)) (h:Q p (upd σ w (bK oi t .none P))):Call (n+1) nh 824 [.ref w] σ Q X:=by
 refine aK T8 rfl ?_
 lk
 exact h
inductive PW (s0:aa) (T0:Tb) (o0:Nat) (p0:PV) (i j:Nat):Prop
 |mk (ii b rr y:_) (e:p0=.ref ii) (n:ii≠o0) (B:bZ s0 (T0.R i).B b rr T0.o) (g:s0 ii=some y) (l:j<(T0.R i).B.n->y=bz (T0.R i).B b T0.o j) (h:j=(T0.R i).B.n->cS (T0.R i).B b T0.o y)
structure mw (s0:aa) (t0 w0:Nat) (T0:Tb) (o0:Nat) (p0:PV) (i j:Nat):Prop where
 hi:i<T0.I.n
 hf:(T0.R i).fault=0
 hj:j<=(T0.R i).B.n
 hw:s0 w0=some (bK o0 t0 p0 (T0.R i).P)
 ho:s0 o0=some (bz T0.I T0.ix T0.o i)
 mQ:PW s0 T0 o0 p0 i j
inductive Off (s0:aa) (t0 w0:Nat) (T0:Tb) (o0:Nat) (p0:PV):Prop
 |mk (e:p0=.none) (P) (hw:s0 w0=some (bK o0 t0 .none P)) (x:_) (ho:s0 o0=some x) (hx:fg T0.I T0.ix T0.o x)
inductive QM (s0:aa) (t0 w0:Nat) (T0:Tb) (o0:Nat) (p0:PV):Prop
 |mk (P x:_) (hw:s0 w0=some (bK o0 t0 p0 P)) (ho:s0 o0=some x) (hx:fg T0.I T0.ix T0.o x) (mQ:oB s0 T0 o0 p0 P)
noncomputable def d7 (σ:aa) (t w:Nat) (T:Tb) (oi:Nat) (p:PV):Option (Nat×Nat)->Prop
 |none=>Off σ t w T oi p
 |some (i,j)=>mw σ t w T oi p i j/\j<(T.R i).B.n
theorem Dg (n:Nat) (H:TabAt σ t T) {i j:Nat} (W:mw σ t w T oi p i j) (h:Q (.bool (decide (j<(T.R i).B.n))) σ):Call (n+2) true 796 [.ref w] σ Q X:=by
 refine aK Iz rfl ?_
 obtain⟨hi,hf,hj,hw,ho,ii,b,rr,y,rfl,eC,hB,cK,h1,h2⟩:=W
 have hb:=hB.hb
 by_cases hl:j<(T.R i).B.n
 ·have:=h1 hl
  subst this
  rw[decide_eq_true hl]at h
  lk
  refine eF n cK hb ?_
  have:=hB.ok.lt hl
  have:=hB.ok.le hl
  rw[decide_eq_true (show(T.R i).B.off j<(T.R i).B.L by exact ai ‹_› this)]
  exact h
 ·obtain⟨tn,vf,rfl⟩:=h2 (qP hj hl)
  rw[decide_eq_false hl]at h
  lk
  refine eF n cK hb ?_
  rw[decide_eq_false (eI _)]
  exact h
theorem vH (n:Nat) (H:TabAt σ t T) {pos:Option (Nat×Nat)} (W:d7 σ t w T oi p pos) (h:Q (.bool pos.isSome) σ):Call (n+2) true 796 [.ref w] σ Q X:=by
 rcases pos with _|⟨i,j⟩
 ·obtain⟨rfl,P,hw,_⟩:=W
  refine aK Iz rfl ?_
  lk
  exact h
 ·obtain⟨W,hl⟩:=W
  refine Dg n H W ?_
  rw[decide_eq_true hl]
  exact h
theorem oB.keep {x:AO} (h:oB σ T oi p P) {p0:PV} {P0:List UInt8} (hw:σ w=some (bK oi t p0 P0)) (ho:σ oi=some x) (hx:fg T.I T.ix T.o x) (k:∀a x,σ a=some x->a≠w->a≠oi->τ a=some x):oB τ T oi p P:=by
 rcases h with h|⟨i,ii,b,rr,y,h1,h2,h3,h4,h5,h6,h7,h8⟩
 ·exact .no h
 ·obtain⟨_,_,_,_,_,rfl⟩:=hx.it
  have ne:∀{a z},σ a=some z->isIt z=false->a≠w/\a≠oi:=λe q=>⟨λz=>(by simp only[z,hw]at e;cases e;cases q),λz=>(by simp only[z,ho]at e;cases e;cases q)⟩
  have nR:ii≠w:=λz=>by obtain⟨_,_,_,_,_,rfl⟩:=h8.it;simp only[z,hw]at h7;cases h7
  exact .G0 i ii b rr y h1 h2 h3 h4 h5 ⟨h6.ok,k _ _ h6.hb (ne h6.hb rfl).1 (ne h6.hb rfl).2,k _ _ h6.hr (ne h6.hr rfl).1 (ne h6.hr rfl).2⟩ (k _ _ h7 nR h5) h8
theorem mw.dest (W:mw σ t w T oi p i j):oB σ T oi p (T.R i).P:=by
 obtain⟨hi,hf,hj,hw,ho,ii,b,rr,y,rfl,eC,hB,cK,h1,h2⟩:=W
 refine .G0 i ii b rr y hi hf rfl rfl eC hB cK ?_
 by_cases hl:j<(T.R i).B.n
 ·exact .inl ⟨j,hl,h1 hl⟩
 ·exact .inr (h2 (qP hj hl))
theorem d7.dest {pos:Option (Nat×Nat)} (W:d7 σ t w T oi p pos):QM σ t w T oi p:=by
 rcases pos with _|⟨i,j⟩
 ·obtain⟨rfl,P,hw,x,h1,h2⟩:=W
  exact⟨P,x,hw,h1,h2,.no rfl⟩
 ·obtain⟨W',hl⟩:=W
  exact⟨_,_,W'.hw,W'.ho,.inl ⟨i,W'.hi,rfl⟩,mw.dest W'⟩
theorem sN {x:AO} {p0:PV} {P0:List UInt8} (hw:σ w=some (bK oi t p0 P0)) (ho:σ oi=some x) (hx:fg T.I T.ix T.o x):oi≠w:=λe=>by
 obtain⟨_,_,_,_,_,rfl⟩:=hx.it
 rw[e,hw]at ho;cases ho
end
end
section
section
variable{w:Nat} {T:Tb} {P:List UInt8}
theorem sY (n:Nat) (H:TabAt σ t T) {pos:Option (Nat×Nat)} (W:d7 σ t w T oi p pos) (h:pos≠none->Q .none σ) (hx:pos=none->X .ja σ):Call (n+3) true 803 [.ref w] σ Q X:=by
 refine aK Ub rfl ?_
 obtain⟨PP,_,hw,_⟩:=W.dest
 lk
 refine vH n H W ?_
 cases pos with
 |none=>
  refine⟨false,rfl,?_⟩
  lk
  exact hx rfl
 |some q=>
  refine⟨true,rfl,?_⟩
  lk
  exact h λe=>(nn (aj e))
theorem yr (n:Nat) (H:TabAt σ t T) {pos:Option (Nat×Nat)} (W:d7 σ t w T oi p pos) (h:∀i j,pos=some (i,j)->Q (.bytes ((T.R i).B.key j)) σ) (hx:pos=none->X .ja σ):Call (n+4) true 810 [.ref w] σ Q X:=by
 refine aK Ua rfl ?_
 rcases pos with _|⟨i,j⟩
 ·obtain⟨rfl,P,hw,x,q1,q2⟩:=W
  lk
  exact sY n H (pos:=none) ⟨rfl,P,hw,x,q1,q2⟩ (λz=>absurd rfl z) hx
 ·obtain⟨⟨hi,hf,hj,hw,ho,ii,b,rr,y,rfl,eC,hB,cK,h1,h2⟩,hl⟩:=W
  have hb:=hB.hb
  have:=h1 hl
  subst this
  lk
  refine sY n H (pos:=some (i,j)) ⟨⟨hi,hf,hj,hw,ho,ii,b,rr,_,rfl,eC,hB,cK,h1,h2⟩,hl⟩ (λ_=>?_) λz=>(nn (aj z))
  lk
  have:=hB.ok.lt hl
  have:=hB.ok.le hl
  exact sV (n+1) cK hb (λ_=>h i j rfl) λz=>by lia
theorem Kf (n:Nat) (H:TabAt σ t T) {pos:Option (Nat×Nat)} (W:d7 σ t w T oi p pos) (h:∀i j,pos=some (i,j)->Q (.bytes ((T.R i).B.val j)) σ) (hx:pos=none->X .ja σ):Call (n+4) true 817 [.ref w] σ Q X:=by
 refine aK Uj rfl ?_
 rcases pos with _|⟨i,j⟩
 ·obtain⟨rfl,P,hw,x,q1,q2⟩:=W
  lk
  exact sY n H (pos:=none) ⟨rfl,P,hw,x,q1,q2⟩ (λz=>absurd rfl z) hx
 ·obtain⟨⟨hi,hf,hj,hw,ho,ii,b,rr,y,rfl,eC,hB,cK,h1,h2⟩,hl⟩:=W
  have hb:=hB.hb
  have:=h1 hl
  subst this
  lk
  refine sY n H (pos:=some (i,j)) ⟨⟨hi,hf,hj,hw,ho,ii,b,rr,_,rfl,eC,hB,cK,h1,h2⟩,hl⟩ (λ_=>?_) λz=>nomatch z
  lk
  have:=hB.ok.lt hl
  have:=hB.ok.le hl
  have:=hB.ok.zD
  exact pG (n+1) (cq this) cK hb (λ_=>h i j rfl) λz=>by lia
theorem XN (n:Nat) {x:AO} (H:TabAt σ t T) (hw:σ w=some (bK oi t .none P)) (ho:σ oi=some x) (hx:fg T.I T.ix T.o x) (hI:oB σ T oi p P)
  (h0:cS T.I T.ix T.o x->Q .none σ)
  (h1:∀i,i<T.I.n->x=bz T.I T.ix T.o i->(T.R i).fault=0->∀τ ii b rr y,(∀a z,σ a=some z->a≠w->τ a=some z)->(∀a,τ a=none->σ a=none)->τ w=some (bK oi t (.ref ii) (T.R i).P)->ii≠oi->ii≠w->bZ τ (T.R i).B b rr T.o->τ ii=some y->fg (T.R i).B b T.o y->(p=.ref ii\/σ ii=none)->Q .none τ)
  (h2:∀i,i<T.I.n->x=bz T.I T.ix T.o i->(T.R i).fault≠0->∀τ,Ext σ τ->X .b_ τ):Call (n+6) true 831 [.ref w,p] σ Q X:=by
 refine aK T_ rfl ?_
 have hb:=H.ib.hb
 have ob:=H.ob
 have zI:=H.ib.ok.zD
 have now:∀{a x},σ a=some x->isIt x=false->a≠w:=λh1 h2 e=>by simp only[e,hw]at h1;cases h1;cases h2
 rcases hx with⟨i,hi,rfl⟩|⟨tn,vf,rfl⟩
 rotate_left
 ·lk
  refine eF (n+4) ho hb ?_
  refine⟨false,congrArg PV.bool (decide_eq_false (eI _)),?_⟩
  lk
  exact h0 ⟨_,_,rfl⟩
 have br:=H.ib.ok.lt hi
 have hle:=H.ib.ok.le hi
 have how:oi≠w:=(kY ho hw rfl)
 lk
 refine eF (n+4) ho hb ?_
 refine⟨true,congrArg PV.bool (decide_eq_true (show T.I.off i<T.I.L by exact ai br hle)),?_⟩
 lk
 refine pG (n+3) (cq zI) ho hb (λ_=>?_) λz=>by lia
 have mF:cut T.I.D (some ((T.I.pW i:Nat):Int)) (some ((T.I.off (i+1):Nat):Int))=(T.R i).P:=H.pl i hi
 refine aj (mF)▸?_
 have fin:(T.R i).fault=0->∀τ b rr it,Ext σ τ->bZ τ (T.R i).B b rr T.o->σ it=none->τ it=some (jr (T.R i).B b T.o 0 0)->Q .none (upd τ w (bK oi t (.ref it) (T.R i).P)):=by
  intro f0 τ b rr it x1 hB hit jV
  have iG:=x1 _ _ hw
  have nR:it≠w:=(Mv hit hw)
  have eC:it≠oi:=(Mv hit ho)
  have nb:∀{a x},τ a=some x->isIt x=false->a≠w:=λh1 h2 e=>by simp only[e,iG]at h1;cases h1;cases h2
  refine h1 i hi rfl f0 _ it b rr _ (λa z e q=>?_) (λa e=>x1.none (dH e).2) (ay _ _ _) eC nR ⟨hB.ok,?_,?_⟩ ((aw _ _ nR).trans jV) (.inr ⟨_,_,rfl⟩) (.inr hit)
  ·refine aj (aw _ _ q)▸?_;exact x1 _ _ e
  ·exact hJ (aw _ _ (nb hB.hb rfl)) hB.hb
  ·exact hJ (aw _ _ (nb hB.hr rfl)) hB.hr
 rcases hI with rfl|⟨i0,ii,b,rr,y,ve,V0,rfl,rfl,eC,hB,cK,hy⟩
 ·lk
  refine yj n H (H.rw i hi) (λf0 τ b rr it x1 hB hit jV=>?_) λf0 τ x1=>h2 i hi rfl f0 τ x1
  have iG:=x1 _ _ hw
  lk
  rw[aL]
  exact fin f0 τ b rr it x1 hB hit jV
 ·lk
  refine aH (λhc=>?_) λhc=>?_
  rotate_left
  ·lk
   refine yj n H (H.rw i hi) (λf0 τ b rr it x1 hB hit jV=>?_) λf0 τ x1=>h2 i hi rfl f0 τ x1
   have iG:=x1 _ _ hw
   lk
   rw[aL]
   exact fin f0 τ b rr it x1 hB hit jV
  obtain⟨ef,eB⟩:=H.same i0 i ve hi hc.symm V0
  rw[eB]at hB hy
  have nR:ii≠w:=λe=>by
   obtain⟨_,_,_,_,_,rfl⟩:=hy.it
   simp only[e,hw]at cK;cases cK
  lk
  refine h1 i hi rfl ef _ ii b rr y (λa z e q=>?_) (λa e=>(dH e).2) ?_ eC nR ⟨hB.ok,?_,?_⟩ ((aw _ _ nR).trans cK) hy (.inl rfl)
  ·exact hJ (aw _ _ q) e
  ·refine aj (hc)▸?_;exact ay _ _ _
  ·exact hJ (aw _ _ (now hB.hb rfl)) hB.hb
  ·exact hJ (aw _ _ (now hB.hr rfl)) hB.hr
end
end
section
noncomputable def Goes (σ:aa) (t w oi:Nat) (T:Tb) (p:PV) (Q:PV->aa->Prop) (X:Ex->aa->Prop) (r:Option (Nat×Nat)×Bool):Prop:=
 ∀τ p',c8 σ τ w oi p p'->TabAt τ t T->d7 τ t w T oi p' r.1->(r.2=false->Q .none τ)/\(r.2=true->X .b_ τ)
theorem Goes.GU {w:Nat} {T:Tb} {r} (h:Goes σ t w oi T p Q X r) (a:c8 σ σ' w oi p p'):Goes σ' t w oi T p' Q X r:=λτ qZ b H W=>h τ qZ (a.trans b) H W
noncomputable def ud (T:Tb) (d F:Nat) (args:List PV) (g:Nat->Nat):Prop:=∀i<T.I.n,(T.R i).fault=0->g i<=(T.R i).B.n/\∀(τ:aa) (b rr ii:Nat) (y:AO),bZ τ (T.R i).B b rr T.o->ia τ T.o (.internal T.u)->τ ii=some y->fg (T.R i).B b T.o y->∀Q X,
 (∀y',(g i<(T.R i).B.n->y'=bz (T.R i).B b T.o (g i))->(g i=(T.R i).B.n->cS (T.R i).B b T.o y')->Q .none (upd τ ii y'))->Call d true F (.ref ii::args) τ Q X
theorem Tb.nb {T:Tb} (H:TabAt σ t T) {i:Nat} (hi:i<T.I.n) (hf:(T.R i).fault=0):(T.R i).B.bad=false:=((H.rw i hi).bd hf).4
theorem MU {T:Tb} (H:TabAt σ t T) (n:Nat):ud T (n+5) 481 [] (λ_=>0):=λi hi hf=>⟨eQ _,λτ b rr ii y hB ho cK hy Q X h=>by
 obtain⟨cur,ah,tn,hk,vf,rfl⟩:=hy.it
 dsimp only at h
 exact yo n hB cK ⟨λq=>h _ (λ_=>rfl) λz=>by lia,λq qb x hx=>h _ (λz=>DE z q) λ_=>hx,λq qb=>by rw[Tb.nb H hi hf]at qb;(exact ff qb)⟩⟩
theorem MV {T:Tb} (H:TabAt σ t T) (n:Nat):ud T (n+5) 488 [] (λi=>(T.R i).B.n-1):=λi hi hf=>⟨kC _ _,λτ b rr ii y hB ho cK hy Q X h=>by
 obtain⟨cur,ah,tn,hk,vf,rfl⟩:=hy.it
 dsimp only at h
 refine J' n hB cK (λe=>⟨λq=>by lia,λq qb x hx=>h _ (λz=>by exact wD z e.symm) λ_=>hx,λq qb=>by rw[Tb.nb H hi hf]at qb;(exact ff qb)⟩) (λ_ j hj=>h _ (λ_=>by rw[show(T.R i).B.n-1=j by exact(LR hj).symm]) λz=>by lia) (λq qb=>by rw[Tb.nb H hi hf]at qb;(exact ff qb))⟩
theorem abR {T:Tb} (H:TabAt σ t T) (n:Nat) {tg:List UInt8} {g:Nat->Nat} (S:∀i<T.I.n,(T.R i).fault=0->ic (T.R i).B (.internal T.u) tg (g i)):ud T (n+7) 495 [.bytes tg] g:=λi hi hf=>⟨(S i hi hf).mn,λτ b rr ii y hB ho cK hy Q X h=>
 sX n hB ho (S i hi hf) cK hy ⟨λq=>h _ (λ_=>rfl) λz=>by lia,λq qb x hx=>h _ (λz=>js z q) λ_=>hx,λq qb=>by rw[Tb.nb H hi hf]at qb;(exact ff qb)⟩⟩
section
variable{w:Nat} {T:Tb} {P:List UInt8}
theorem BV {m F:Nat} {X:Ex->af->aa->Prop} {g:Nat->Nat} {x:AO} (hm:find3 pO 519 m=some F) (iE:∀b o cur ah tn hk vf,get (vD b o cur ah tn hk vf) m=none)
  (CD:∀τ Q X,Q args τ->VA ⟨sc,n+6,true⟩ ms ρ τ Q X) (op:ud T (n+6) F args g) (g1:get ρ 38=some (.ref w)) (g2:get ρ 116=some p)
  (H:TabAt σ t T) (A:c8 σ₀ σ w oi p .none) (hw:σ w=some (bK oi t .none P)) (ho:σ oi=some x) (hx:fg T.I T.ix T.o x) (hI:oB σ T oi p P)
  (kL:cS T.I T.ix T.o x->aD ⟨sc,n+6,true⟩ rest ρ σ N' R X)
  (kE:∀i,x=bz T.I T.ix T.o i->∀τ p',c8 σ₀ τ w oi p p'->TabAt τ t T->mw τ t w T oi p' i (g i)->aD ⟨sc,n+6,true⟩ rest ρ τ N' R X)
  (kX:∀i,i<T.I.n->x=bz T.I T.ix T.o i->(T.R i).fault≠0->∀τ,c8 σ₀ τ w oi p .none->TabAt τ t T->Off τ t w T oi .none->X .b_ ρ τ):
  aD ⟨sc,n+6,true⟩ (.ex (.cm (.v 38) 175 [.v 116])::.ite (.cmp .IsNot (.at (.v 38) 161) .none) [.ex (.cm (.at (.v 38) 161) m ms)] []::rest) ρ σ N' R X:=by
 have how:oi≠w:=λe=>by
  obtain⟨_,_,_,_,_,rfl⟩:=hx.it
  rw[e,hw]at ho;(cases ho)
 lk
 refine XN n H hw ho hx hI (λhl=>?_) (λi hi ye hf τ ii b rr y kb al iG eC nR hB cK hy CK=>?_) λi hi ye hf τ x1=>?_
 ·lk
  exact kL hl
 ·have hz:∀z,σ ii=some z->isIt z=true:=λz e=>by
   rcases CK with q|q
   ·rcases hI with q2|⟨_,ii',_,_,y0,_,_,_,q2,_,_,q3,q4⟩
    ·replace q:=q2▸q;(cases q)
    ·replace q:=q2▸q;(cases q)
     replace e:=q3▸e;(cases e)
     obtain⟨_,_,_,_,_,rfl⟩:=q4.it
     rfl
   ·replace e:=q▸e;(exact nn e)
  have kp:∀a x,σ a=some x->isIt x=false->τ a=some x:=λa x e q=>kb a x e λz=>by rw[z,hw]at e;(cases e);(cases q)
  have H1:TabAt τ t T:=H.keep kp
  have od:=H1.od
  obtain⟨c1,c2,c3,c4,c5,rfl⟩:=hy.it
  lk
  refine⟨ii,519,_,F,rfl,cK,hm,rfl,iE _ _ _ _ _ _ _,CD _ _ _ ?_⟩
  refine(op i hi hf).2 τ b rr ii _ hB od cK hy _ _ λy' h1 h2=>?_
  obtain⟨mK,kM⟩:=hB.ne cK
  lk
  refine kE i ye _ (.ref ii) ⟨λa z e q=>?_,λa e=>A.al a (al a (dH e).2),λa e=>?_⟩ (H1.keep λa z e q=>?_) ⟨hi,hf,(op i hi hf).1,?_,?_,ii,b,rr,y',rfl,eC,⟨hB.ok,?_,?_⟩,ay _ _ _,h1,h2⟩
  ·have e1:=A.but a z e q
   have:a≠ii:=λz1=>by
    rcases CK with q1|q1
    ·exact q (.inr (.inr (z1▸q1)))
    ·rw[z1,q1]at e1;(exact nn e1)
   rw[aw _ _ this]
   exact kb a z e1 λz1=>q (.inl z1)
  ·(cases e)
   rcases CK with q1|q1
   ·exact .inl q1
   ·exact .inr (A.al _ q1)
  ·have:a≠ii:=λz1=>by rw[z1,cK]at e;(cases e);(cases q)
   exact hJ (aw _ _ this) e
  ·exact hJ (aw _ _ (cN nR)) iG
  ·rw[aw _ _ (cN eC),kb oi _ ho how,ye]
  ·exact hJ (aw _ _ mK) hB.hb
  ·exact hJ (aw _ _ kM) hB.hr
 ·exact kX i hi ye hf τ (A.trans (c8.ext x1)) (H.ext x1) ⟨rfl,P,x1 _ _ hw,x,x1 _ _ ho,hx⟩
end
end
section
noncomputable def front (T:Tb):Nat->Nat->Option (Nat×Nat)×Bool
 |0,_=>(none,T.I.bad)
 |k+1,i=>if(T.R i).fault=0 then(if 0<(T.R i).B.n then(some (i,0),false)else front T k (i+1))else(none,true)
theorem sj {T:Tb}:front T (k+1) i=if(T.R i).fault=0 then(if 0<(T.R i).B.n then(some (i,0),false)else front T k (i+1))else(none,true):=rfl
theorem UZ {T:Tb}:front T 0 i=(none,T.I.bad):=rfl
noncomputable def iP (T:Tb):Nat->Option (Nat×Nat)×Bool
 |0=>(none,false)
 |i+1=>if(T.R i).fault=0 then(if 0<(T.R i).B.n then(some (i,(T.R i).B.n-1),false)else iP T i)else(none,true)
theorem tB {T:Tb}:iP T (i+1)=if(T.R i).fault=0 then(if 0<(T.R i).B.n then(some (i,(T.R i).B.n-1),false)else iP T i)else(none,true):=rfl
noncomputable def ahead (T:Tb) (i j:Nat):Option (Nat×Nat)×Bool:=if j<(T.R i).B.n then(some (i,j),false)else front T (T.I.n-(i+1)) (i+1)
noncomputable def behind (T:Tb) (i j:Nat):Option (Nat×Nat)×Bool:=if j<(T.R i).B.n then(some (i,j),false)else iP T i
section
variable{T:Tb}
theorem IG:front T 0 i=(none,T.I.bad):=rfl
end
theorem mX (h:B.Ok) (hi:i<=B.n) (hj:j<=B.n) (e:bz B b o i=bz B b o j):i=j:=by
 simp[vD]at e
 exact h.inj hi hj (by lia)
theorem kf (h:B.Ok) (hi:i<B.n) (e:cS B b o (bz B b o i)):False:=by
 obtain⟨tn,vf,e⟩:=e
 simp[vD]at e
 have:=h.lt hi
 have:=h.le hi
 lia
section
variable{w:Nat} {T:Tb} {P:List UInt8}
theorem s7 {x x':AO} {p0 p1:PV} {P0:List UInt8} (H:TabAt σ t T) (hw:σ w=some (bK oi t p0 P0)) (ho:σ oi=some x) (hx:fg T.I T.ix T.o x):TabAt (upd (upd σ w (bK oi t p1 P0)) oi x') t T:=H.keep λa z e q=>by
 obtain⟨_,_,_,_,_,rfl⟩:=hx.it
 rw[aw _ _ (λy=>by rw[y,ho]at e;cases e;cases q),aw _ _ (λy=>by rw[y,hw]at e;cases e;cases q)]
 exact e
theorem s6 {p0 p1:PV} {P0:List UInt8} (H:TabAt σ t T) (hw:σ w=some (bK oi t p0 P0)):TabAt (upd σ w (bK oi t p1 P0)) t T:=H.keep λa z e q=>by
 rw[aw _ _ (λy=>by rw[y,hw]at e;cases e;cases q)]
 exact e
theorem rO {x x':AO}:c8 σ (upd (upd σ w x) oi x') w oi p .none:=
 (c8.upd (p':=p) (.inl rfl) λ_ h=>.inl h).trans (c8.upd (.inr (.inl rfl)) λ_ h=>nomatch h)
theorem y_ {X:Ex->af->aa->Prop} {b:List MS} {x:AO} (g1:get ρ 38=some (.ref w)) (H:TabAt σ t T) (hw:σ w=some (bK oi t p P)) (ho:σ oi=some x) (hx:cS T.I T.ix T.o x) (h:N' ρ σ):
  dQ ⟨sc,n+6,true⟩ (.an [.cm (.at (.v 38) 160) 93 [],.no (.cm (.v 38) 93 [])]) b N' R X (k+1) ρ σ:=by
 have hb:=H.ib.hb
 obtain⟨tn,vf,rfl⟩:=hx
 refine ey ?_
 lk
 refine eF (n+5) ho hb ?_
 refine⟨false,congrArg PV.bool (decide_eq_false (eI _)),?_⟩
 lk
 exact h
theorem QN {X:Ex->af->aa->Prop}:∀(k i j:Nat) (σ:aa) (p:PV) (ρ:af),i+1+k=T.I.n->get ρ 38=some (.ref w)->TabAt σ t T->mw σ t w T oi p i j->Goes σ t w oi T p (λ_ τ=>∀ρ,N' ρ τ) (λe τ=>∀ρ,X e ρ τ) (ahead T i j)->
  dQ ⟨sc,n+6,true⟩ (.an [.cm (.at (.v 38) 160) 93 [],.no (.cm (.v 38) 93 [])]) [.asg (.nm 116) (.cm (.v 38) 174 []),.ex (.cm (.at (.v 38) 160) 169 []),.ex (.cm (.v 38) 175 [.v 116]),.ite (.cmp .IsNot (.at (.v 38) 161) .none) [.ex (.cm (.at (.v 38) 161) 163 [])] []] N' R X (k+2) ρ σ:=by
 intro k
 induction k using Qa with
 |ind k ih=>
  intro i j σ p ρ hk g1 H W G
  have W0:=W
  have mQ:=W.dest
  obtain⟨hi,hf,hj,hw,ho,zz⟩:=W
  clear zz
  have hb:=H.ib.hb
  have dE:fg T.I T.ix T.o (bz T.I T.ix T.o i):=.inl ⟨i,hi,rfl⟩
  have how:=sN hw ho dE
  have br:=H.ib.ok.lt hi
  have hle:=H.ib.ok.le hi
  refine ey ?_
  lk
  refine eF (n+5) ho hb ?_
  refine⟨true,congrArg PV.bool (decide_eq_true (show T.I.off i<T.I.L by exact ai br hle)),?_⟩
  lk
  refine Dg (n+4) H W0 ?_
  refine⟨_,rfl,?_⟩
  by_cases hl:j<(T.R i).B.n
  ·refine Hi hl ?_
   lk
   have e:ahead T i j=(some (i,j),false):=if_pos hl
   replace G:=e▸G
   exact(G σ p c8.refl H ⟨W0,hl⟩).1 rfl ρ
  refine Hj hl ?_
  have e:ahead T i j=front T k (i+1):=by unfold ahead;rw[if_neg hl,show T.I.n-(i+1)=k by exact Zr hk.symm]
  replace G:=e▸G
  lk
  refine vE (n+5) hw ?_
  have dS:upd σ w (bK oi t .none (T.R i).P) oi=some (bz T.I T.ix T.o i):=(aw _ _ how).trans ho
  have H2:=λx=>s7 (p1:=.none) (x':=x) H hw ho dE
  have fP:∀x,(upd (upd σ w (bK oi t .none (T.R i).P)) oi x) w=some (bK oi t .none (T.R i).P):=λx=>by rw[aw _ _ (cN how),ay]
  have in1:=λx=>mQ.keep (τ:=upd (upd σ w (bK oi t .none (T.R i).P)) oi x) hw ho dE (λa z e q1 q2=>by rw[aw _ _ q2,aw _ _ q1];exact e)
  have A:=λx=>rO (σ:=σ) (w:=w) (oi:=oi) (p:=p) (x:=bK oi t .none (T.R i).P) (x':=x)
  have ent:=λx (hx:fg T.I T.ix T.o x) rest R X ρ N' gs gh=>BV (sc:=sc) (n:=n) (m:=163) (rest:=rest) (R:=R) (X:=X) (ρ:=ρ) (N':=N') (g:=λ_=>0) (F:=481) (args:=[]) rfl (λ_ _ _ _ _ _ _=>rfl) (λτ Q X h=>bc h) (MU H (n+1)) gs gh (H2 x) (A x) (fP x) (ay _ _ _) hx (in1 x)
  lk
  refine yq (n+1) (s6 H hw).ib dS hi ⟨λq=>?_,λq qb x hx=>?_,λq qb x hx=>?_⟩
  ·obtain⟨k,rfl⟩:∃k',k=k'+1:=⟨k-1,(Zs q hk).symm⟩
   refine ent _ (.inl ⟨i+1,q,rfl⟩) _ _ _ _ _ (by k_is) (by k_is) (λz=>(kf H.ib.ok q z).elim) (λi' e τ p' a1 H1 M1=>?_) λi' fz e iZ τ a1 H1 O1=>?_
   ·have fz:=mX H.ib.ok (bx q) (by have:=M1.hi;exact bx this) e
    subst fz
    refine aE ?_
    refine ih k (aP _) (i+1) 0 τ p' _ (kj hk) (by k_is) H1 M1 ?_
    have e2:ahead T (i+1) 0=front T (k+1) (i+1):=by
     unfold ahead
     rw[sj,if_pos M1.hf,show T.I.n-(i+1+1)=k by exact Zt hk.symm]
    refine aj (e2)▸?_
    exact G.GU a1
   ·have fz:=mX H.ib.ok (bx q) (bx fz) e
    subst fz
    rw[sj,if_neg iZ]at G
    exact(G τ .none a1 H1 O1).2 rfl _
  ·have k0:k=0:=by exact(LU hk q).symm
   subst k0
   refine ent _ (.inr hx) _ _ _ _ _ (by k_is) (by k_is) (λ_=>?_) (λi' e τ p' a1 H1 M1=>?_) λi' fz e=>?_
   ·refine aE ?_
    exact y_ (by k_is) (H2 x) (fP x) (ay _ _ _) hx ((G _ .none (A x) (H2 x) ⟨rfl,_,fP x,x,ay _ _ _,.inr hx⟩).1 qb _)
   ·replace hx:=e▸hx;exact(kf H.ib.ok M1.hi hx).elim
   ·replace hx:=e▸hx;exact(kf H.ib.ok fz hx).elim
  ·have k0:k=0:=by exact(LU hk q).symm
   subst k0
   exact(G _ .none (A x) (H2 x) ⟨rfl,_,fP x,x,ay _ _ _,.inr hx⟩).2 qb _
theorem Q0 {X:Ex->af->aa->Prop}:∀(i j:Nat) (σ:aa) (p:PV) (ρ:af),get ρ 38=some (.ref w)->TabAt σ t T->mw σ t w T oi p i j->Goes σ t w oi T p (λ_ τ=>∀ρ,N' ρ τ) (λe τ=>∀ρ,X e ρ τ) (behind T i j)->
  dQ ⟨sc,n+6,true⟩ (.an [.cm (.at (.v 38) 160) 93 [],.no (.cm (.v 38) 93 [])]) [.asg (.nm 116) (.cm (.v 38) 174 []),.ex (.cm (.at (.v 38) 160) 176 []),.ex (.cm (.v 38) 175 [.v 116]),.ite (.cmp .IsNot (.at (.v 38) 161) .none) [.ex (.cm (.at (.v 38) 161) 165 [])] []] N' R X (i+2) ρ σ:=by
 intro i
 induction i using Qa with
 |ind i ih=>
  intro j σ p ρ g1 H W G
  have W0:=W
  have mQ:=W.dest
  obtain⟨hi,hf,hj,hw,ho,zz⟩:=W
  clear zz
  have hb:=H.ib.hb
  have dE:fg T.I T.ix T.o (bz T.I T.ix T.o i):=.inl ⟨i,hi,rfl⟩
  have how:=sN hw ho dE
  have br:=H.ib.ok.lt hi
  have hle:=H.ib.ok.le hi
  refine ey ?_
  lk
  refine eF (n+5) ho hb ?_
  refine⟨true,congrArg PV.bool (decide_eq_true (show T.I.off i<T.I.L by exact ai br hle)),?_⟩
  lk
  refine Dg (n+4) H W0 ?_
  refine⟨_,rfl,?_⟩
  by_cases hl:j<(T.R i).B.n
  ·refine Hi hl ?_
   lk
   have e:behind T i j=(some (i,j),false):=if_pos hl
   replace G:=e▸G
   exact(G σ p c8.refl H ⟨W0,hl⟩).1 rfl ρ
  refine Hj hl ?_
  have e:behind T i j=iP T i:=if_neg hl
  replace G:=e▸G
  lk
  refine vE (n+5) hw ?_
  have dS:upd σ w (bK oi t .none (T.R i).P) oi=some (bz T.I T.ix T.o i):=(aw _ _ how).trans ho
  have H2:=λx=>s7 (p1:=.none) (x':=x) H hw ho dE
  have fP:∀x,(upd (upd σ w (bK oi t .none (T.R i).P)) oi x) w=some (bK oi t .none (T.R i).P):=λx=>by rw[aw _ _ (cN how),ay]
  have in1:=λx=>mQ.keep (τ:=upd (upd σ w (bK oi t .none (T.R i).P)) oi x) hw ho dE (λa z e q1 q2=>by rw[aw _ _ q2,aw _ _ q1];exact e)
  have A:=λx=>rO (σ:=σ) (w:=w) (oi:=oi) (p:=p) (x:=bK oi t .none (T.R i).P) (x':=x)
  have ent:=λx (hx:fg T.I T.ix T.o x) rest R X ρ N' gs gh=>BV (sc:=sc) (n:=n) (m:=165) (rest:=rest) (R:=R) (X:=X) (ρ:=ρ) (N':=N') (g:=λi=>(T.R i).B.n-1) (F:=488) (args:=[]) rfl (λ_ _ _ _ _ _ _=>rfl) (λτ Q X h=>bc h) (MV H (n+1)) gs gh (H2 x) (A x) (fP x) (ay _ _ _) hx (in1 x)
  lk
  refine J0 (n+1) (s6 H hw).ib dS hi (λq x hx=>?_) λk hk=>?_
  ·subst q
   refine ent _ (.inr hx) _ _ _ _ _ (by k_is) (by k_is) (λ_=>?_) (λi' e τ p' a1 H1 M1=>?_) λi' fz e=>?_
   ·refine aE ?_
    exact y_ (by k_is) (H2 x) (fP x) (ay _ _ _) hx ((G _ .none (A x) (H2 x) ⟨rfl,_,fP x,x,ay _ _ _,.inr hx⟩).1 rfl _)
   ·replace hx:=e▸hx;exact(kf H.ib.ok M1.hi hx).elim
   ·replace hx:=e▸hx;exact(kf H.ib.ok fz hx).elim
  ·subst hk
   have q:k<T.I.n:=by exact bx hi
   refine ent _ (.inl ⟨k,q,rfl⟩) _ _ _ _ _ (by k_is) (by k_is) (λz=>(kf H.ib.ok q z).elim) (λi' e τ p' a1 H1 M1=>?_) λi' fz e iZ τ a1 H1 O1=>?_
   ·have fz:=mX H.ib.ok (LV hi) (by have:=M1.hi;exact bx this) e
    subst fz
    refine aE ?_
    refine ih k (aP _) ((T.R k).B.n-1) τ p' _ (by k_is) H1 M1 ?_
    have e2:behind T k ((T.R k).B.n-1)=iP T (k+1):=by
     unfold behind
     rw[tB,if_pos M1.hf]
     by_cases q0:0<(T.R k).B.n
     ·rw[if_pos (by exact pK q0),if_pos q0]
     ·rw[if_neg (LW q0),if_neg q0]
    refine aj (e2)▸?_
    exact G.GU a1
   ·have fz:=mX H.ib.ok (LV hi) (bx fz) e
    subst fz
    rw[tB,if_neg iZ]at G
    exact(G τ .none a1 H1 O1).2 rfl _
inductive xc (σ:aa) (t w:Nat) (T:Tb) (oi:Nat) (p:PV) (r:Option (Nat×Nat)×Bool) (f:Nat->Nat->Option (Nat×Nat)×Bool):Prop
 |on (i j:_) (W:mw σ t w T oi p i j) (e:r=f i j)
 |off (hp:p=.none) (P x:_) (hw:σ w=some (bK oi t .none P)) (ho:σ oi=some x) (hx:cS T.I T.ix T.o x) (e:r=(none,false))
theorem Dl (n:Nat) {r:Option (Nat×Nat)×Bool} (H:TabAt σ t T) (W:xc σ t w T oi p r (ahead T)) (G:Goes σ t w oi T p Q X r):Call (n+7) true 838 [.ref w] σ Q X:=by
 refine aK Ug rfl ?_
 have G':Goes σ t w oi T p (λ_ τ=>∀ρ:af,aD ⟨Head.dG (Head.met 60 7),n+6,true⟩ [] ρ τ (λ_ σ'=>Q .none σ') Q λex _ σ'=>X ex σ') (λe τ=>∀ρ:af,X e τ) r:=λτ p' a b c=>⟨λz ρ=>aE ((G τ p' a b c).1 z),λz ρ=>(G τ p' a b c).2 z⟩
 refine aA ?_
 rcases W with⟨i,j,W,rfl⟩|⟨rfl,P,x,hw,ho,hx,rfl⟩
 ·refine gf (T.I.n-(i+1)+2) (QN _ i j σ p _ (by have:=W.1;(exact rD this)) rfl H W G')
 ·exact gf 1 (y_ rfl H hw ho hx ((G' σ .none c8.refl H ⟨rfl,P,hw,x,ho,.inr hx⟩).1 rfl _))
theorem Kb (n:Nat) {r:Option (Nat×Nat)×Bool} (H:TabAt σ t T) (W:xc σ t w T oi p r (behind T)) (G:Goes σ t w oi T p Q X r):Call (n+7) true 845 [.ref w] σ Q X:=by
 refine aK Uh rfl ?_
 have G':Goes σ t w oi T p (λ_ τ=>∀ρ:af,aD ⟨Head.dG (Head.met 60 8),n+6,true⟩ [] ρ τ (λ_ σ'=>Q .none σ') Q λex _ σ'=>X ex σ') (λe τ=>∀ρ:af,X e τ) r:=λτ p' a b c=>⟨λz ρ=>aE ((G τ p' a b c).1 z),λz ρ=>(G τ p' a b c).2 z⟩
 refine aA ?_
 rcases W with⟨i,j,W,rfl⟩|⟨rfl,P,x,hw,ho,hx,rfl⟩
 ·refine gf (i+2) (Q0 i j σ p _ rfl H W G')
 ·exact gf 1 (y_ rfl H hw ho hx ((G' σ .none c8.refl H ⟨rfl,P,hw,x,ho,.inr hx⟩).1 rfl _))
end
end
section
section
variable{w:Nat} {T:Tb} {P:List UInt8}
theorem D5 {m F sk FS:Nat} {g:Nat->Nat} {f:Nat->Nat->Option (Nat×Nat)×Bool} {x x0:AO} {r:Option (Nat×Nat)×Bool} (hm:find3 pO 519 m=some F) (iE:∀b o cur ah tn hk vf,get (vD b o cur ah tn hk vf) m=none)
  (CD:∀τ Q X,Q args τ->VA ⟨sc,n+7,true⟩ ms ρ τ Q X) (op:ud T (n+7) F args g) (hs:find3 pO 883 sk=some FS) (WJ:∀p P,get [(160,.ref oi),(173,.ref t),(161,p),(72,.bytes P)] sk=none)
  (WH:∀{τ p' r Q X},TabAt τ t T->xc τ t w T oi p' r f->Goes τ t w oi T p' Q X r->Call (n+7) true FS [.ref w] τ Q X)
  (g1:get ρ 38=some (.ref w)) (g2:get ρ 116=some p) (H:TabAt σ t T) (hw:σ w=some (bK oi t p P)) (ho:σ oi=some x0) (dE:fg T.I T.ix T.o x0) (hI:oB σ T oi p P) (hx:fg T.I T.ix T.o x)
  (r0:cS T.I T.ix T.o x->r=(none,false)) (r1:∀i,i<T.I.n->x=bz T.I T.ix T.o i->(T.R i).fault=0->r=f i (g i)) (r2:∀i,i<T.I.n->x=bz T.I T.ix T.o i->(T.R i).fault≠0->r=(none,true)) (G:Goes σ t w oi T p Q X r):
  aD ⟨sc,n+7,true⟩ [.ex (.cm (.v 38) 175 [.v 116]),.ite (.cmp .IsNot (.at (.v 38) 161) .none) [.ex (.cm (.at (.v 38) 161) m ms)] [],.ex (.cm (.v 38) sk [])] ρ (upd (upd σ w (bK oi t .none P)) oi x) (λ_ σ'=>Q .none σ') Q (λex _ σ'=>X ex σ'):=by
 have how:=sN hw ho dE
 have H2:=s7 (p1:=.none) (x':=x) H hw ho dE
 have fP:(upd (upd σ w (bK oi t .none P)) oi x) w=some (bK oi t .none P):=by rw[aw _ _ (cN how),ay]
 have in1:=hI.keep (τ:=upd (upd σ w (bK oi t .none P)) oi x) hw ho dE (λa z e q1 q2=>by rw[aw _ _ q2,aw _ _ q1];exact e)
 have A:=rO (σ:=σ) (w:=w) (oi:=oi) (p:=p) (x:=bK oi t .none P) (x':=x)
 have skip:∀{τ p' r'},c8 σ τ w oi p p'->TabAt τ t T->xc τ t w T oi p' r' f->r=r'->(∃P qZ,τ w=some (bK oi t qZ P))->aD ⟨sc,n+7,true⟩ [.ex (.cm (.v 38) sk [])] ρ τ (λ_ σ'=>Q .none σ') Q (λex _ σ'=>X ex σ'):=by
  intro τ p' r' a1 H1 S e WT
  obtain⟨P',qZ,WR⟩:=WT
  subst e
  lk
  refine⟨w,883,_,FS,rfl,WR,hs,rfl,WJ _ _,?_⟩
  lk
  refine WH H1 S λdm abX a b c=>?_
  obtain⟨c1,c2⟩:=G dm abX (a1.trans a) b c
  refine⟨λz=>?_,c2⟩
  lk
  exact c1 z
 refine BV (n:=n+1) (σ₀:=σ) hm iE CD op g1 g2 H2 A fP (ay _ _ _) hx in1 (λhl=>?_) (λi e τ p' a1 H1 M1=>?_) λi hi e hf τ a1 H1 O1=>?_
 ·exact skip A H2 (.off rfl P x fP (ay _ _ _) hl rfl) (r0 hl) ⟨_,_,fP⟩
 ·exact skip a1 H1 (.on i (g i) M1 rfl) (r1 i M1.hi e M1.hf) ⟨_,_,M1.hw⟩
 ·have:=r2 i hi e hf
  subst this
  exact(G τ .none a1 H1 O1).2 rfl
theorem Kd (n:Nat) {pos:Option (Nat×Nat)} (H:TabAt σ t T) (W:d7 σ t w T oi p pos) (G:Goes σ t w oi T p Q X (front T T.I.n 0)):Call (n+8) true 852 [.ref w] σ Q X:=by
 refine aK Ud rfl ?_
 obtain⟨P,x0,hw,ho,dE,hI⟩:=W.dest
 have how:=sN hw ho dE
 obtain⟨cur,ah,tn,hk,vf,uX⟩:=dE.it
 lk
 refine vE (n+6) hw ?_
 have dS:upd σ w (bK oi t .none P) oi=some (cY T.ix T.o cur ah tn hk vf):=(aw _ _ how).trans (by rw[ho,uX])
 have mv:=λx (hx:fg T.I T.ix T.o x) ρ (r0:cS T.I T.ix T.o x->front T T.I.n 0=(none,false)) r1 r2 gs gh=>D5 (sc:=Head.dG (Head.met 60 9)) (n:=n) (m:=163) (sk:=177) (ρ:=ρ) (F:=481) (args:=[]) (g:=λ_=>0) (f:=ahead T) (Q:=Q) (X:=X) (r:=front T T.I.n 0) rfl (λ_ _ _ _ _ _ _=>rfl) (λτ Q X h=>bc h) (MU H (n+2)) rfl (λ_ _=>rfl) (λa b c=>Dl n a b c) gs gh H hw ho dE hI hx r0 r1 r2 G
 lk
 refine yo (n+2) (s6 H hw).ib dS ⟨λq=>?_,λq qb x hx=>?_,λq qb x hx=>?_⟩
 ·refine mv _ (.inl ⟨0,q,rfl⟩) _ (λz=>(kf H.ib.ok q z).elim) (λi hi e hf=>?_) (λi hi e hf=>?_) (by k_is) (by k_is)
  ·have:=mX H.ib.ok (cV _ _) (bx hi) e
   subst this
   obtain⟨k,hk⟩:∃k,T.I.n=k+1:=⟨T.I.n-1,(jF q).symm⟩
   unfold ahead
   rw[hk,sj,if_pos hf,show k+1-(0+1)=k by exact rfl]
  ·have:=mX H.ib.ok (cV _ _) (bx hi) e
   subst this
   obtain⟨k,hk⟩:∃k,T.I.n=k+1:=⟨T.I.n-1,(jF q).symm⟩
   rw[hk,sj,if_neg hf]
 ·refine mv _ (.inr hx) _ (λ_=>?_) (λi hi e hf=>?_) (λi hi e hf=>?_) (by k_is) (by k_is)
  ·rw[<-q,UZ,qb]
  ·rw[e]at hx;exact(kf H.ib.ok hi hx).elim
  ·rw[e]at hx;exact(kf H.ib.ok hi hx).elim
 ·have fP:(upd (upd σ w (bK oi t .none P)) oi x) w=some (bK oi t .none P):=by rw[aw _ _ (cN how),ay]
  have:=G _ .none (rO (x:=bK oi t .none P) (x':=x)) (s7 H hw ho dE) (by refine(q)▸?_;exact⟨rfl,_,fP,x,ay _ _ _,.inr hx⟩)
  exact this.2 (by refine(q)▸?_;exact qb)
noncomputable def lastOf (T:Tb):Option (Nat×Nat)×Bool:=if T.I.bad=true then(none,true)else iP T T.I.n
noncomputable def l_ (T:Tb) (m:Nat) (g:Nat->Nat):Option (Nat×Nat)×Bool:=if m<T.I.n then(if(T.R m).fault=0 then ahead T m (g m)else(none,true))else(none,T.I.bad)
theorem Ke (n:Nat) {pos:Option (Nat×Nat)} (H:TabAt σ t T) (W:d7 σ t w T oi p pos) (G:Goes σ t w oi T p Q X (lastOf T)):Call (n+8) true 859 [.ref w] σ Q X:=by
 refine aK Ue rfl ?_
 obtain⟨P,x0,hw,ho,dE,hI⟩:=W.dest
 have how:=sN hw ho dE
 obtain⟨cur,ah,tn,hk,vf,uX⟩:=dE.it
 lk
 refine vE (n+6) hw ?_
 have dS:upd σ w (bK oi t .none P) oi=some (cY T.ix T.o cur ah tn hk vf):=(aw _ _ how).trans (by rw[ho,uX])
 have mv:=λx (hx:fg T.I T.ix T.o x) ρ (r0:cS T.I T.ix T.o x->lastOf T=(none,false)) r1 r2 gs gh=>D5 (sc:=Head.dG (Head.met 60 10)) (n:=n) (m:=165) (sk:=178) (ρ:=ρ) (F:=488) (args:=[]) (g:=λi=>(T.R i).B.n-1) (f:=behind T) (Q:=Q) (X:=X) (r:=lastOf T) rfl (λ_ _ _ _ _ _ _=>rfl) (λτ Q X h=>bc h) (MV H (n+2)) rfl (λ_ _=>rfl) (λa b c=>Kb n a b c) gs gh H hw ho dE hI hx r0 r1 r2 G
 have brk:T.I.bad=true->∀x,cS T.I T.ix T.o x->X .b_ (upd (upd σ w (bK oi t .none P)) oi x):=λqb x hx=>by
  have fP:(upd (upd σ w (bK oi t .none P)) oi x) w=some (bK oi t .none P):=by rw[aw _ _ (cN how),ay]
  have e:lastOf T=(none,true):=if_pos qb
  rw[e]at G
  exact(G _ .none (rO (x:=bK oi t .none P) (x':=x)) (s7 H hw ho dE) ⟨rfl,_,fP,x,ay _ _ _,.inr hx⟩).2 rfl
 lk
 refine J' (n+2) (s6 H hw).ib dS (λq=>⟨λz=>by lia,λ_ qb x hx=>?_,λ_ qb x hx=>brk qb x hx⟩) (λqb j hj=>?_) λq qb x hx=>brk qb x hx
 ·refine mv _ (.inr hx) _ (λ_=>?_) (λi hi e hf=>?_) (λi hi e hf=>?_) (by k_is) (by k_is)
  ·unfold lastOf;rw[if_neg (by refine aj (qb)▸?_;decide),q];rfl
  ·exact wD hi q.symm
  ·exact wD hi q.symm
 ·have q:j<T.I.n:=by exact bM hj
  have eL:lastOf T=iP T (j+1):=by unfold lastOf;rw[if_neg (by refine aj (qb)▸?_;decide),hj]
  refine mv _ (.inl ⟨j,q,rfl⟩) _ (λz=>(kf H.ib.ok q z).elim) (λi hi e hf=>?_) (λi hi e hf=>?_) (by k_is) (by k_is)
  ·have:=mX H.ib.ok (rG hj) (bx hi) e
   subst this
   rw[eL,tB,if_pos hf]
   unfold behind
   by_cases q0:0<(T.R j).B.n
   ·rw[if_pos q0,if_pos (by exact pK q0)]
   ·rw[if_neg q0,if_neg (LW q0)]
  ·have:=mX H.ib.ok (rG hj) (bx hi) e
   subst this
   rw[eL,tB,if_neg hf]
theorem Yj (n:Nat) {pos:Option (Nat×Nat)} {tg:List UInt8} {m:Nat} {g:Nat->Nat} (H:TabAt σ t T) (W:d7 σ t w T oi p pos) (S:ic T.I (.internal T.u) tg m) (S2:∀i<T.I.n,(T.R i).fault=0->ic (T.R i).B (.internal T.u) tg (g i)) (G:Goes σ t w oi T p Q X (l_ T m g)):Call (n+8) true 866 [.ref w,.bytes tg] σ Q X:=by
 refine aK Uc rfl ?_
 obtain⟨P,x0,hw,ho,dE,hI⟩:=W.dest
 have how:=sN hw ho dE
 have iE:=S.mn
 lk
 refine vE (n+6) hw ?_
 have dS:upd σ w (bK oi t .none P) oi=some x0:=(aw _ _ how).trans ho
 obtain⟨cur,ah,tn,hk,vf,uX⟩:=dE.it
 have cy:upd σ w (bK oi t .none P) oi=some (cY T.ix T.o cur ah tn hk vf):=by rw[dS,uX]
 have mv:=λx (hx:fg T.I T.ix T.o x) ρ (gt:get ρ 94=some (.bytes tg)) (r0:cS T.I T.ix T.o x->l_ T m g=(none,false)) r1 r2 gs gh=>D5 (sc:=Head.dG (Head.met 60 11)) (n:=n) (m:=152) (ms:=[.v 94]) (sk:=177) (ρ:=ρ) (F:=495) (args:=[.bytes tg]) (g:=g) (f:=ahead T) (Q:=Q) (X:=X) (r:=l_ T m g) rfl (λ_ _ _ _ _ _ _=>rfl) (λτ Q X h=>aO (aq gt (bc h))) (abR H n S2) rfl (λ_ _=>rfl) (λa b c=>Dl n a b c) gs gh H hw ho dE hI hx r0 r1 r2 G
 lk
 refine sX n (s6 H hw).ib (s6 H hw).od S dS dE ⟨λq=>?_,λq qb x hx=>?_,λq qb x hx=>?_⟩
 ·refine mv _ (.inl ⟨m,q,rfl⟩) _ (by k_is) (λz=>(kf H.ib.ok q z).elim) (λi hi e hf=>?_) (λi hi e hf=>?_) (by k_is) (by k_is)
  ·have:=mX H.ib.ok (bx q) (bx hi) e
   subst this
   unfold l_
   rw[if_pos q,if_pos hf]
  ·have:=mX H.ib.ok (bx q) (bx hi) e
   subst this
   unfold l_
   rw[if_pos q,if_neg hf]
 ·refine mv _ (.inr hx) _ (by k_is) (λ_=>?_) (λi hi e hf=>?_) (λi hi e hf=>?_) (by k_is) (by k_is)
  ·unfold l_;rw[if_neg (qQ q),qb]
  ·rw[e]at hx;exact(kf H.ib.ok hi hx).elim
  ·rw[e]at hx;exact(kf H.ib.ok hi hx).elim
 ·have fP:(upd (upd σ w (bK oi t .none P)) oi x) w=some (bK oi t .none P):=by rw[aw _ _ (cN how),ay]
  have e:l_ T m g=(none,true):=by unfold l_;rw[if_neg (qQ q),qb]
  rw[e]at G
  exact(G _ .none (rO (x:=bK oi t .none P) (x':=x)) (s7 H hw ho dE) ⟨rfl,_,fP,x,ay _ _ _,.inr hx⟩).2 rfl
theorem JD {j':Nat} {ii rr:Nat} {y':AO} (H:TabAt σ t T) (hi:i<T.I.n) (hf:(T.R i).fault=0) (mO:j'<=(T.R i).B.n) (hw:σ w=some (bK oi t (.ref ii) (T.R i).P)) (ho:σ oi=some (bz T.I T.ix T.o i)) (eC:ii≠oi) (hB:bZ σ (T.R i).B b rr T.o) (cK:σ ii=some (bz (T.R i).B b T.o j))
  (h1:j'<(T.R i).B.n->y'=bz (T.R i).B b T.o j') (h2:j'=(T.R i).B.n->cS (T.R i).B b T.o y'):c8 σ (upd σ ii y') w oi (.ref ii) (.ref ii)/\TabAt (upd σ ii y') t T/\mw (upd σ ii y') t w T oi (.ref ii) i j':=by
 obtain⟨mK,kM⟩:=hB.ne cK
 have WS:w≠ii:=(kY hw cK rfl)
 refine⟨c8.upd (.inr (.inr rfl)) λ_ h=>.inl h,H.keep λa z e q=>?_,hi,hf,mO,(aw _ _ WS).trans hw,(aw _ _ (cN eC)).trans ho,ii,b,rr,y',rfl,eC,⟨hB.ok,(aw _ _ mK).trans hB.hb,(aw _ _ kM).trans hB.hr⟩,ay _ _ _,h1,h2⟩
 rw[aw _ _ λz=>by rw[z,cK]at e;cases e;cases q];exact e
theorem Yk (n:Nat) {pos:Option (Nat×Nat)} (H:TabAt σ t T) (W:d7 σ t w T oi p pos) (hx:pos=none->X .ja σ) (G:∀i j,pos=some (i,j)->Goes σ t w oi T p Q X (ahead T i (j+1))):Call (n+8) true 873 [.ref w] σ Q X:=by
 refine aK Ui rfl ?_
 obtain⟨P,x0,hw,ho,dE,hI⟩:=W.dest
 lk
 refine sY (n+4) H W (λq=>?_) hx
 cases pos with
 |none=>exact absurd rfl q
 |some ij=>
  obtain⟨i,j⟩:=ij
  obtain⟨⟨hi,hf,hj,hw,ho,ii,b,rr,y,hp,eC,hB,cK,h1,h2⟩,hl⟩:=W
  subst hp
  have:=h1 hl
  subst this
  have G:=G i j rfl
  have nb:=Tb.nb H hi hf
  have fin:∀{ρ:af} {y':AO},get ρ 38=some (.ref w)->(j+1<(T.R i).B.n->y'=bz (T.R i).B b T.o (j+1))->(j+1=(T.R i).B.n->cS (T.R i).B b T.o y')->aD ⟨Head.dG (Head.met 60 12),n+7,true⟩ [.ex (.cm (.v 38) 177 [])] ρ (upd σ ii y') (λ_ σ'=>Q .none σ') Q (λex _ σ'=>X ex σ'):=by
   intro ρ y' g1 q1 q2
   obtain⟨a1,H1,M1⟩:=JD H hi hf (show j+1<=_ by exact hl) hw ho eC hB cK q1 q2
   have iG:=M1.hw
   lk
   refine Dl n H1 (.on i (j+1) M1 rfl) λdm pq a b c=>?_
   obtain⟨c1,c2⟩:=G dm pq (a1.trans a) b c
   refine⟨λz=>?_,c2⟩
   lk
   exact c1 z
  lk
  refine yq (n+2) hB cK hl ⟨λq=>?_,λq qb x hx=>?_,λq qb=>by rw[nb]at qb;(exact ff qb)⟩
  ·exact fin (by k_is) (λ_=>rfl) λz=>by lia
  ·exact fin (by k_is) (λz=>js z q) λ_=>hx
theorem Yi (n:Nat) {pos:Option (Nat×Nat)} (H:TabAt σ t T) (W:d7 σ t w T oi p pos) (hx:pos=none->X .ja σ) (G:∀i j,pos=some (i,j)->Goes σ t w oi T p Q X (if 0<j then(some (i,j-1),false)else iP T i)):Call (n+8) true 880 [.ref w] σ Q X:=by
 refine aK T9 rfl ?_
 obtain⟨P,x0,hw,ho,dE,hI⟩:=W.dest
 lk
 refine sY (n+4) H W (λq=>?_) hx
 cases pos with
 |none=>exact absurd rfl q
 |some ij=>
  obtain⟨i,j⟩:=ij
  obtain⟨⟨hi,hf,hj,hw,ho,ii,b,rr,y,hp,eC,hB,cK,h1,h2⟩,hl⟩:=W
  subst hp
  have:=h1 hl
  subst this
  have G:=G i j rfl
  have fin:∀{ρ:af} {y':AO} {j':Nat},j'<=(T.R i).B.n->behind T i j'=(if 0<j then(some (i,j-1),false)else iP T i)->get ρ 38=some (.ref w)->(j'<(T.R i).B.n->y'=bz (T.R i).B b T.o j')->(j'=(T.R i).B.n->cS (T.R i).B b T.o y')->aD ⟨Head.dG (Head.met 60 13),n+7,true⟩ [.ex (.cm (.v 38) 178 [])] ρ (upd σ ii y') (λ_ σ'=>Q .none σ') Q (λex _ σ'=>X ex σ'):=by
   intro ρ y' j' q0 qe g1 q1 q2
   rw[<-qe]at G
   obtain⟨a1,H1,M1⟩:=JD H hi hf q0 hw ho eC hB cK q1 q2
   have iG:=M1.hw
   lk
   refine Kb n H1 (.on i j' M1 rfl) λdm pq a b c=>?_
   obtain⟨c1,c2⟩:=G dm pq (a1.trans a) b c
   refine⟨λz=>?_,c2⟩
   lk
   exact c1 z
  lk
  refine J0 (n+2) hB cK hl (λq x hx=>?_) λk hk=>?_
  ·exact fin (j':=(T.R i).B.n) (aP _) (by unfold behind;rw[if_neg (eI _),if_neg (yI q.symm)]) (by k_is) (λz=>vP z) λ_=>hx
  ·exact fin (j':=k) (by lia) (by unfold behind;rw[if_pos (by exact ai (bM hk) (ai (nk hl) (aP _))),if_pos (by lia),<-hk];rfl) (by k_is) (λ_=>rfl) λz=>by lia
end
end
section
noncomputable def mG (T:Tb) (m:Nat) (g:Nat->Nat):Option PV:=
 if m<T.I.n then(if(T.R m).fault=3 then none else if den T.held (T.R m).off=true then some .none else if(T.R m).fault≠0 then none else if g m<(T.R m).B.n then some (.tup [.bytes ((T.R m).B.key (g m)),.bytes ((T.R m).B.val (g m))])else some .none)
 else(if T.I.bad=true then none else some .none)
noncomputable def qV (T:Tb) (m:Nat):Option PV:=if m<T.I.n then(if(T.R m).fault=3 then none else some (.int (T.R m).off))else(if T.I.bad=true then none else some (.int T.mo))
section
variable{w:Nat} {T:Tb} {P:List UInt8}
noncomputable def A6 (σ:aa) (Q:PV->aa->Prop) (X:Ex->aa->Prop) (r:Option PV):Prop:=∀τ,Ext σ τ->(∀v,r=some v->Q v τ)/\(r=none->X .b_ τ)
theorem X1 (n:Nat) {ik:List UInt8} {m:Nat} (H:TabAt σ t T) (S:ic T.I (.internal T.u) ik m) (h:A6 σ Q X (qV T m)):Call (n+8) true 740 [.ref t,.bytes ik] σ Q X:=by
 refine aK TY rfl ?_
 have ob:=H.ob
 have VK:=H.ib.hb
 have iE:=S.mn
 lk
 refine sZ (n+4) H.ib λoi kK=>?_
 have x1:∀x,Ext σ (upd σ oi x):=λx=>Ext.new kK x
 have H1:=λx=>H.ext (x1 x)
 lk
 refine sX n (H1 _).ib (H1 _).od S (ay _ _ _) (.inr ⟨_,_,rfl⟩) ⟨λq=>?_,λq qb x hx=>?_,λq qb x hx=>?_⟩
 ·rw[aL]
  have lZ:=(H1 (bz T.I T.ix T.o m)).ob
  have hb:=(H1 (bz T.I T.ix T.o m)).ib.hb
  have br:=H.ib.ok.lt q
  have hle:=H.ib.ok.le q
  have zI:=H.ib.ok.zD
  lk
  refine eF (n+6) (ay _ _ _) hb ?_
  refine⟨true,congrArg PV.bool (decide_eq_true (show T.I.off m<T.I.L by exact ai br hle)),?_⟩
  lk
  refine pG (n+5) (cq zI) (ay _ _ _) hb (λ_=>?_) λz=>by lia
  have mF:cut T.I.D (some ((T.I.pW m:Nat):Int)) (some ((T.I.off (m+1):Nat):Int))=(T.R m).P:=H.pl m q
  refine aj (mF)▸?_
  lk
  have R:=H.rw m q
  obtain⟨j,k,v1,v2,hk⟩:=R.hd
  refine vI (n+3) R.zP v1 v2 (λe a ha=>?_) λe a ha=>?_
  ·(have zz:=dH ha;have Cm:=zz.1;have iu:=zz.2;clear zz)
   lk
   refine(h _ ((x1 _).d_ iu)).1 _ ?_
   unfold qV
   rw[if_pos q,if_neg λz=>hk.mp z e]
  ·(have zz:=dH ha;have Cm:=zz.1;have iu:=zz.2;clear zz)
   refine(h _ ((x1 _).d_ iu)).2 ?_
   unfold qV
   rw[if_pos q,if_pos (hk.mpr e)]
 ·rw[aL]
  obtain⟨tn,vf,rfl⟩:=hx
  have lZ:=(H1 (jr T.I T.ix T.o tn vf)).ob
  have hb:=(H1 (jr T.I T.ix T.o tn vf)).ib.hb
  have ft:=(H1 (jr T.I T.ix T.o tn vf)).ft
  have fm:=(H1 (jr T.I T.ix T.o tn vf)).fm
  lk
  refine eF (n+6) (ay _ _ _) hb ?_
  refine⟨false,congrArg PV.bool (decide_eq_false (eI _)),?_⟩
  lk
  refine(h _ (x1 _)).1 _ ?_
  unfold qV
  rw[if_neg (qQ q),if_neg (by refine aj (qb)▸?_;decide)]
 ·rw[aL]
  refine(h _ (x1 _)).2 ?_
  unfold qV
  rw[if_neg (qQ q),if_pos qb]
theorem XR (n:Nat) {ik:List UInt8} {m:Nat} {g:Nat->Nat} (H:TabAt σ t T) (S:ic T.I (.internal T.u) ik m) (S2:∀i<T.I.n,(T.R i).fault=0->ic (T.R i).B (.internal T.u) ik (g i)) (h:A6 σ Q X (mG T m g)):Call (n+8) true 733 [.ref t,.bytes ik] σ Q X:=by
 refine aK TV rfl ?_
 have ob:=H.ob
 have VK:=H.ib.hb
 have iE:=S.mn
 (have zz:=S.dt;have HP:=zz.1;have R8:=zz.2;clear zz)
 lk
 refine sZ (n+4) H.ib λoi kK=>?_
 have x1:∀x,Ext σ (upd σ oi x):=λx=>Ext.new kK x
 have H1:=λx=>H.ext (x1 x)
 lk
 refine sX n (H1 _).ib (H1 _).od S (ay _ _ _) (.inr ⟨_,_,rfl⟩) ⟨λq=>?_,λq qb x hx=>?_,λq qb x hx=>?_⟩
 ·rw[aL]
  have H1:=H1 (bz T.I T.ix T.o m)
  have x1:=x1 (bz T.I T.ix T.o m)
  have lZ:=H1.ob
  have hb:=H1.ib.hb
  have br:=H.ib.ok.lt q
  have hle:=H.ib.ok.le q
  have zI:=H.ib.ok.zD
  have R:=H.rw m q
  lk
  refine eF (n+6) (ay _ _ _) hb ?_
  refine⟨true,congrArg PV.bool (decide_eq_true (show T.I.off m<T.I.L by exact ai br hle)),?_⟩
  lk
  refine pG (n+5) (cq zI) (ay _ _ _) hb (λ_=>?_) λz=>by lia
  have mF:cut T.I.D (some ((T.I.pW m:Nat):Int)) (some ((T.I.off (m+1):Nat):Int))=(T.R m).P:=H.pl m q
  refine aj (mF)▸?_
  have fin:∀{sc:b7} {ρ:af} {τ:aa},Ext σ τ->get ρ 38=some (.ref t)->get ρ 159=some (.bytes ik)->get ρ 72=some (.bytes (T.R m).P)->((T.R m).fault≠3->den T.held (T.R m).off=false)->Call (n+7) true 719 [.ref t,.bytes (T.R m).P] τ (λp σ'=>aD ⟨sc,n+7,true⟩ [.ex (.cm (.v 161) 152 [.v 159]),.ite (.no (.cm (.v 161) 93 [])) [.ret (some .none)] [],.ret (some (.tup [.cm (.v 161) 115 [],.cm (.v 161) 154 []]))] (put ρ 161 p) σ' (λ_ σ'=>Q .none σ') Q λex _ σ'=>X ex σ') (λex σ'=>X ex σ'):=by
   intro sc ρ τ cL g1 g2 g3 hd
   have AF:=H.ext cL
   have afj:=AF.ob
   refine yj (n+2) AF R (λf0 υ b rr it jd hB hit jV=>?_) λf0 υ jd=>?_
   ·have Pe:=AF.ext jd
    have S2:=S2 m q f0
    have nb:=Tb.nb H q f0
    have x2:=cL.trans jd
    have I':=cL.none hit
    (have zz:=hB.ne jV;have mK:=zz.1;have kM:=zz.2;clear zz)
    have gv:mG T m g=(if g m<(T.R m).B.n then some (.tup [.bytes ((T.R m).B.key (g m)),.bytes ((T.R m).B.val (g m))])else some .none):=by
     unfold mG
     rw[if_pos q,if_neg (tO f0.symm rfl),if_neg (by refine aj (hd (tO f0.symm rfl))▸?_;decide),if_neg (LX f0.symm)]
    lk
    refine sX n hB Pe.od S2 jV (.inr ⟨_,_,rfl⟩) ⟨λq2=>?_,λq2 qb x hx=>?_,λq2 qb=>by replace qb:=nb▸qb;(exact ff qb)⟩
    ·have qz:upd υ it (bz (T.R m).B b T.o (g m)) b=some (gV (T.R m).B.D T.o (T.R m).B.L rr):=(aw _ _ mK).trans hB.hb
     have br:=hB.ok.lt q2
     have hle:=hB.ok.le q2
     have z1:=hB.ok.zD
     lk
     refine eF (n+6) (ay _ _ _) qz ?_
     refine⟨true,congrArg PV.bool (decide_eq_true (show(T.R m).B.off (g m)<(T.R m).B.L by exact ai br hle)),?_⟩
     lk
     refine sV (n+5) (ay _ _ _) qz (λ_=>?_) λz=>by lia
     lk
     refine pG (n+5) (cq z1) (ay _ _ _) qz (λ_=>?_) λz=>by lia
     lk
     exact(h _ (x2.d_ I')).1 _ (by rw[gv,if_pos q2];rfl)
    ·obtain⟨tn,vf,rfl⟩:=hx
     have qz:upd υ it (jr (T.R m).B b T.o tn vf) b=some (gV (T.R m).B.D T.o (T.R m).B.L rr):=(aw _ _ mK).trans hB.hb
     lk
     refine eF (n+6) (ay _ _ _) qz ?_
     refine⟨false,congrArg PV.bool (decide_eq_false (eI _)),?_⟩
     lk
     exact(h _ (x2.d_ I')).1 _ (by rw[gv,if_neg (qQ q2)])
   ·refine(h _ (cL.trans jd)).2 ?_
    unfold mG
    refine aj (if_pos q)▸?_
    by_cases q3:(T.R m).fault=3
    ·rw[if_pos q3]
    ·rw[if_neg q3,if_neg (by refine aj (hd q3)▸?_;decide),if_pos f0]
  obtain⟨j,k,v1,v2,hk⟩:=R.hd
  rcases H1.fl with⟨f1,f2⟩|⟨fa,bl,FD,cg,mm,says,bits,pp,f1,f2,f3,f4,f5⟩
  ·unfold Tb.obj at lZ
   replace lZ:=f1▸lZ
   lk
   exact fin x1 (by k_is) (by k_is) (by k_is) (λ_=>by refine aj (f2)▸?_;rfl)
  ·unfold Tb.obj at lZ
   replace lZ:=f1▸lZ
   lk
   refine vI (n+3) R.zP v1 v2 (λe a ha=>?_) λe a ha=>?_
   ·(have zz:=dH ha;have Cm:=zz.1;have iu:=zz.2;clear zz)
    have x2:=x1.d_ (x:=fy (T.R m).off (T.R m).size) iu
    have x3:Ext (upd σ oi (bz T.I T.ix T.o m)) (upd (upd σ oi (bz T.I T.ix T.o m)) a (fy (T.R m).off (T.R m).size)):=Ext.new ha _
    have ob2:=x3 _ _ lZ
    have Sw:=x3 _ _ f2
    have Sx:=x3 _ _ f3
    have n3:(T.R m).fault≠3:=λz=>hk.mp z e
    lk
    refine yt (n+6) HP R8 ?_
    lk
    refine JX (n+3) f4 (by show(ik.take _).length<=_;refine aj (gu)▸?_;exact Om HP rfl) Sw Sx ?_
    have ed:den T.held (T.R m).off=!nN mm says (T.R m).off:=by refine aj (f5)▸?_;rfl
    cases ef:nN mm says (T.R m).off with
    |true=>
     refine⟨true,rfl,?_⟩
     lk
     exact fin x2 (by k_is) (by k_is) (by k_is) (λ_=>by rw[ed,ef];rfl)
    |false=>
     refine⟨false,rfl,?_⟩
     lk
     refine(h _ x2).1 _ ?_
     unfold mG
     rw[if_pos q,if_neg n3,if_pos (by rw[ed,ef];rfl)]
   ·(have zz:=dH ha;have Cm:=zz.1;have iu:=zz.2;clear zz)
    refine(h _ (x1.d_ iu)).2 ?_
    unfold mG
    rw[if_pos q,if_pos (hk.mpr e)]
 ·rw[aL]
  obtain⟨tn,vf,rfl⟩:=hx
  have hb:=(H1 (jr T.I T.ix T.o tn vf)).ib.hb
  lk
  refine eF (n+6) (ay _ _ _) hb ?_
  refine⟨false,congrArg PV.bool (decide_eq_false (eI _)),?_⟩
  lk
  refine(h _ (x1 _)).1 _ ?_
  unfold mG
  rw[if_neg (qQ q),if_neg (by refine aj (qb)▸?_;decide)]
 ·rw[aL]
  refine(h _ (x1 _)).2 ?_
  unfold mG
  rw[if_neg (qQ q),if_pos qb]
end
end
section
section
variable{w:Nat} {T:Tb} {P:List UInt8}
noncomputable def AM (σ:aa) (T:Tb) (Q:PV->aa->Prop) (X:Ex->aa->Prop) (r:Option (Nat×Nat)×Bool):Prop:=
 ∀τ,Ext σ τ->(∀i j,r=(some (i,j),false)->Q (.bytes ((T.R i).B.key j)) τ)/\(r=(none,false)->X .j_ τ)/\(r.2=true->X .b_ τ)
theorem Ia (h:Ext σ τ) (hw:σ w=none) (ho:σ oi=none) (a:c8 τ υ w oi .none p'):Ext σ υ:=λb x e=>a.but b x (h b x e) λz=>by
 rcases z with z|z|z
 ·rw[z,hw]at e;(exact nn e)
 ·rw[z,ho]at e;(exact nn e)
 ·(cases z)
theorem XQ (n:Nat) (H:TabAt σ t T) (h:AM σ T Q X (front T T.I.n 0)):Call (n+9) true 747 [.ref t] σ Q X:=by
 refine aK TU rfl ?_
 have ob:=H.ob
 lk
 refine Dd (n+4) H λτ w oi x1 hw ho vx iG dS=>?_
 have H1:=H.ext x1
 lk
 refine Kd n (pos:=none) H1 ⟨rfl,_,iG,_,dS,.inr ⟨_,_,rfl⟩⟩ λυ p' a H2 W=>?_
 have x2:=Ia x1 hw ho a
 obtain⟨h1,h2,h3⟩:=h υ x2
 refine⟨λz=>?_,h3⟩
 obtain⟨P,x,fP,_⟩:=W.dest
 generalize hr:front T T.I.n 0=r at h1 h2 h3 z W
 obtain⟨r1,r2⟩:=r
 dsimp only at z W
 subst z
 lk
 refine vH (n+6) H2 W ?_
 rcases r1 with _|⟨i,j⟩
 ·refine⟨false,rfl,?_⟩
  lk
  exact h2 rfl
 ·refine⟨true,rfl,?_⟩
  lk
  exact yr (n+4) H2 W (λi' j' e=>by cases e;exact h1 i j rfl) λe=>nomatch e
theorem XU (n:Nat) (H:TabAt σ t T) (h:AM σ T Q X (lastOf T)):Call (n+9) true 754 [.ref t] σ Q X:=by
 refine aK TX rfl ?_
 have ob:=H.ob
 lk
 refine Dd (n+4) H λτ w oi x1 hw ho vx iG dS=>?_
 have H1:=H.ext x1
 lk
 refine Ke n (pos:=none) H1 ⟨rfl,_,iG,_,dS,.inr ⟨_,_,rfl⟩⟩ λυ p' a H2 W=>?_
 have x2:=Ia x1 hw ho a
 obtain⟨h1,h2,h3⟩:=h υ x2
 refine⟨λz=>?_,h3⟩
 obtain⟨P,x,fP,_⟩:=W.dest
 generalize hr:lastOf T=r at h1 h2 h3 z W
 obtain⟨r1,r2⟩:=r
 dsimp only at z W
 subst z
 lk
 refine vH (n+6) H2 W ?_
 rcases r1 with _|⟨i,j⟩
 ·refine⟨false,rfl,?_⟩
  lk
  exact h2 rfl
 ·refine⟨true,rfl,?_⟩
  lk
  exact yr (n+4) H2 W (λi' j' e=>by cases e;exact h1 i j rfl) λe=>nomatch e
end
end
section
noncomputable def qY:Option (List UInt8)->PV
 |none=>.none
 |some l=>.bytes l
noncomputable def s_ (last:Option (List UInt8)) (key:List UInt8):Bool:=match last with|none=>true|some l=>decide (dM (dec l) (dec key)<0)
noncomputable def uz (bound:Option (List UInt8)) (key:List UInt8):Bool:=match bound with|none=>true|some b=>decide (0<dM (dec key) (dec b))
noncomputable def vk (T:Tb) (key top:List UInt8) (last bound:Option (List UInt8)) (off:Nat):Bool:=
 decide ((dec key).2%256<=1)&&s_ last key&&uz bound key&&decide (dM (dec key) (dec top)<=0)&&!den T.held off
noncomputable def jx (T:Tb) (top:List UInt8) (bound:Option (List UInt8)) (off:Nat) (B:bq):Nat->Nat->Option (List UInt8)->Option (Option (List UInt8))
 |0,_,last=>some last
 |k+1,j,last=>if vk T (B.key j) top last bound off=true then jx T top bound off B k (j+1) (some (B.key j))else none
noncomputable def f6 (T:Tb):Nat->Nat->Nat->Option (List UInt8)->Option (List UInt8)->Bool
 |0,_,_,_,_=>!T.I.bad
 |k+1,i,e,last,bound=>if(T.R i).fault=3 then false else if(T.R i).off≠e then false else if(T.R i).fault≠0 then false else
  (jx T (T.I.key i) bound (T.R i).off (T.R i).B (T.R i).B.n 0 last).elim false λdZ=>f6 T k (i+1) ((T.R i).off+(T.R i).size+5) dZ (some (T.I.key i))
section
variable{T:Tb} {last bound:Option (List UInt8)} {top:List UInt8}
theorem ac9:jx T top bound off B (k+1) j last=if vk T (B.key j) top last bound off=true then jx T top bound off B k (j+1) (some (B.key j))else none:=rfl
theorem adg:f6 T 0 i e last bound=!T.I.bad:=rfl
theorem adf:f6 T (k+1) i e last bound=if(T.R i).fault=3 then false else if(T.R i).off≠e then false else if(T.R i).fault≠0 then false else
  (jx T (T.I.key i) bound (T.R i).off (T.R i).B (T.R i).B.n 0 last).elim false λdZ=>f6 T k (i+1) ((T.R i).off+(T.R i).size+5) dZ (some (T.I.key i)):=rfl
theorem adb (h:T.I.bad=false):f6 T 0 i e last bound=true:=congrArg (!·) h
theorem NO (h:T.I.bad=true):f6 T 0 i e last bound=false:=congrArg (!·) h
theorem ade (h:(T.R i).fault=3):f6 T (k+1) i e last bound=false:=if_pos h
theorem adh (h:(T.R i).fault≠3) (h2:(T.R i).off≠e):f6 T (k+1) i e last bound=false:=(if_neg h).trans (if_pos h2)
theorem adi (h:(T.R i).fault≠3) (h2:(T.R i).off=e) (h3:(T.R i).fault≠0):f6 T (k+1) i e last bound=false:=(if_neg h).trans ((if_neg (not_not_intro h2)).trans (if_pos h3))
theorem adj (h2:(T.R i).off=e) (h3:(T.R i).fault=0):f6 T (k+1) i e last bound=(jx T (T.I.key i) bound (T.R i).off (T.R i).B (T.R i).B.n 0 last).elim false λdZ=>f6 T k (i+1) ((T.R i).off+(T.R i).size+5) dZ (some (T.I.key i)):=
 (if_neg (by rw[h3];decide)).trans ((if_neg (not_not_intro h2)).trans (if_neg (not_not_intro h3)))
theorem ada (h:vk T (B.key j) top last bound off=true):jx T top bound off B (k+1) j last=jx T top bound off B k (j+1) (some (B.key j)):=if_pos h
theorem ac' (h:vk T (B.key j) top last bound off=false):jx T top bound off B (k+1) j last=none:=if_neg (ne_true_of_eq_false h)
end
noncomputable def Dk (l:List UInt8):Prop:=l.length<=1000000/\8<=l.length
section
variable{w:Nat} {T:Tb} {P:List UInt8}
theorem Ym (n:Nat) {key top:List UInt8} {last bound:Option (List UInt8)} {h off size:Nat} (H:TabAt σ t T) (hh:σ h=some (fy off size)) (d1:Dk key) (d2:Dk top) (d3:∀l,last=some l->Dk l) (d4:∀l,bound=some l->Dk l)
  (hq:vk T key top last bound off=true->Q .none σ) (hx:vk T key top last bound off=false->X .b_ σ):Call (n+5) true 768 [.ref t,.bytes key,qY last,qY bound,.bytes top,.ref h] σ Q X:=by
 refine aK T4 rfl ?_
 have ob:=H.ob
 have od:=H.od
 have e0:vk T key top last bound off=(decide ((dec key).2%256<=1)&&s_ last key&&uz bound key&&decide (dM (dec key) (dec top)<=0)&&!den T.held off):=rfl
 lk
 refine Yd n d1.1 d1.2 (λhk=>?_) λhk=>hx (by rw[e0,decide_eq_false (by(exact P8 hk))];rfl)
 simp only[decide_eq_true hk,rt]at e0
 refine⟨_,rfl,rfl,?_⟩
 have st1:∀{sc:b7} {ρ:af} {R:List MS},get ρ 38=some (.ref t)->get ρ 166=some (qY last)->get ρ 115=some (.bytes key)->(s_ last key=true->aD ⟨sc,n+4,true⟩ R ρ σ (λ_ σ'=>Q .none σ') Q λex _ σ'=>X ex σ')->
   aD ⟨sc,n+4,true⟩ (.ite (.an [.cmp .IsNot (.v 166) .none,.cmp .GtE (.cm (.at (.v 38) 68) 44 [.v 166,.v 115]) (.int 0)]) [.rs 11 [.str]] []::R) ρ σ (λ_ σ'=>Q .none σ') Q (λex _ σ'=>X ex σ'):=by
  intro sc ρ R g1 g2 g3 k
  cases hl:last with
  |none=>
   rw[hl]at g2 k
   have g2:get ρ 166=some .none:=g2
   lk
   exact k rfl
  |some l=>
   have d3:=d3 l hl
   rw[hl]at g2 k e0
   have g2:get ρ 166=some (.bytes l):=g2
   lk
   refine⟨_,_,rfl,od,?_⟩
   lk
   refine⟨_,_,rfl,od,d3,d1,?_⟩
   lk
   show Br (decide ((0:Int)<=dM (dec l) (dec key))) _ _
   refine aH (λhc=>?_) λhc=>?_
   ·lk
    exact hx (by rw[hl,e0,show s_ (some l) key=false from decide_eq_false (by(exact gQ.mpr hc))];rfl)
   ·lk
    exact k (decide_eq_true (by(exact tX.mp hc)))
 have st2:∀{sc:b7} {ρ:af} {R:List MS},s_ last key=true->get ρ 38=some (.ref t)->get ρ 167=some (qY bound)->get ρ 115=some (.bytes key)->(uz bound key=true->aD ⟨sc,n+4,true⟩ R ρ σ (λ_ σ'=>Q .none σ') Q λex _ σ'=>X ex σ')->
   aD ⟨sc,n+4,true⟩ (.ite (.an [.cmp .IsNot (.v 167) .none,.cmp .LtE (.cm (.at (.v 38) 68) 44 [.v 115,.v 167]) (.int 0)]) [.rs 11 [.str]] []::R) ρ σ (λ_ σ'=>Q .none σ') Q (λex _ σ'=>X ex σ'):=by
  intro sc ρ R e1 g1 g2 g3 k
  rw[e1]at e0
  cases hl:bound with
  |none=>
   rw[hl]at g2 k
   have g2:get ρ 167=some .none:=g2
   lk
   exact k rfl
  |some l=>
   have d4:=d4 l hl
   rw[hl]at g2 k e0
   have g2:get ρ 167=some (.bytes l):=g2
   lk
   refine⟨_,_,rfl,od,?_⟩
   lk
   refine⟨_,_,rfl,od,d1,d4,?_⟩
   lk
   show Br (decide (dM (dec key) (dec l)<=0)) _ _
   refine aH (λhc=>?_) λhc=>?_
   ·lk
    exact hx (by rw[hl,e0,show uz (some l) key=false from decide_eq_false (by(exact gQ.mpr hc))];rfl)
   ·lk
    exact k (decide_eq_true (by(exact tX.mp hc)))
 refine st1 (by k_is) (by k_is) (by k_is) λe1=>?_
 refine st2 e1 (by k_is) (by k_is) (by k_is) λe2=>?_
 simp only[e1,e2,rt,rt]at e0
 lk
 refine⟨_,_,rfl,od,?_⟩
 lk
 refine⟨_,_,rfl,od,d1,d2,?_⟩
 lk
 show Br (decide ((0:Int)<dM (dec key) (dec top))) _ _
 refine aH (λhc=>?_) λhc=>?_
 ·lk
  exact hx (by rw[e0,decide_eq_false (by(exact tX.mpr hc))];rfl)
 simp only[decide_eq_true (show dM (dec key) (dec top)<=0 by(exact gQ.mp hc)),rt]at e0
 rcases H.fl with⟨f1,f2⟩|⟨fa,bl,FD,cg,mm,says,bits,pp,f1,f2,f3,f4,f5⟩
 ·unfold Tb.obj at ob
  rw[f1]at ob
  rw[f2]at e0
  lk
  exact hq e0
 ·unfold Tb.obj at ob
  rw[f1]at ob
  simp only[f5,show den (some (mm,says)) off=!nN mm says off from rfl,Fz]at e0
  lk
  refine JX n f4 (by show(key.take _).length<=_;rw[gu];have:=d1.1;(exact Om this rfl)) f2 f3 ?_
  cases ef:nN mm says off with
  |true=>
   refine⟨true,rfl,?_⟩
   lk
   exact hq (e0.trans ef)
  |false=>
   refine⟨false,rfl,?_⟩
   lk
   exact hx (e0.trans ef)
end
end
section
section
variable{w:Nat} {T:Tb} {P:List UInt8}
structure VG (ρ:af) (t oi:Nat) (e:Nat) (last bound:Option (List UInt8)):Prop where
 self:get ρ 38=some (.ref t)
 outer:get ρ 160=some (.ref oi)
 en:get ρ 79=some (.int e)
 la:get ρ 166=some (qY last)
 bo:get ρ 167=some (qY bound)
 d3:∀l,last=some l->Dk l
 d4:∀l,bound=some l->Dk l
theorem adk {X:Ex->af->aa->Prop} {it h rr size:Nat} {bound:Option (List UInt8)} (hi:i<T.I.n) (d2:Dk (T.I.key i)) (dB:∀j<B.n,Dk (B.key j)) (nb:B.bad=false) (n0:σ₀ it=none) (yZ:oi≠it):
  ∀(k j:Nat) (last:Option (List UInt8)) (ρ:af) (τ:aa) (x:AO),j+k=B.n->VG ρ t oi e last bound->get ρ 161=some (.ref it)->get ρ 107=some (.ref h)->Ext σ₀ τ->TabAt τ t T->τ oi=some (bz T.I T.ix T.o i)->bZ τ B b rr T.o->τ it=some x->(j<B.n->x=bz B b T.o j)->(j=B.n->cS B b T.o x)->τ h=some (fy off size)->
   (∀dZ ρ' dm,jx T (T.I.key i) bound off B k j last=some dZ->VG ρ' t oi e dZ bound->Ext σ₀ dm->TabAt dm t T->dm oi=some (bz T.I T.ix T.o i)->N' ρ' dm)->(jx T (T.I.key i) bound off B k j last=none->∀ρ' dm,Ext σ₀ dm->X .b_ ρ' dm)->
   dQ ⟨sc,n+5,true⟩ (.cm (.v 161) 93 []) [.asg (.nm 115) (.cm (.v 161) 115 []),.ex (.cm (.v 38) 168 [.v 115,.v 166,.v 167,.cm (.v 160) 115 [],.v 107]),.asg (.nm 166) (.v 115),.ex (.cm (.v 161) 169 [])] N' R X (k+1) ρ τ:=by
 intro k
 induction k with
 |zero=>
  intro j last ρ τ x hk G g1 g2 cL H ho hB hit h1 h2 hh kN kX
  obtain⟨tn,vf,rfl⟩:=h2 (hk)
  have hb:=hB.hb
  refine ey ?_
  lk
  refine eF (n+4) hit hb ?_
  refine⟨false,congrArg PV.bool (decide_eq_false (eI _)),?_⟩
  lk
  exact kN last ρ τ rfl G cL H ho
 |succ k ih=>
  intro j last ρ τ x hk G g1 g2 cL H ho hB hit h1 h2 hh kN kX
  have hj:j<B.n:=by exact f9 hk
  have:=h1 hj
  subst this
  have hb:=hB.hb
  have br:=hB.ok.lt hj
  have hle:=hB.ok.le hj
  have afe:=H.ib.ok.lt hi
  have afc:=H.ib.ok.le hi
  have ob:=H.ob
  have W8:=H.ib.hb
  obtain⟨gs,go,ge,gl,gb,d3,d4⟩:=G
  refine ey ?_
  lk
  refine eF (n+4) hit hb ?_
  refine⟨true,congrArg PV.bool (decide_eq_true (show B.off j<B.L by exact ai br hle)),?_⟩
  lk
  refine sV (n+3) hit hb (λ_=>?_) λz=>by lia
  lk
  refine sV (n+3) ho W8 (λ_=>?_) λz=>by lia
  lk
  refine Ym n (last:=last) (bound:=bound) H hh (dB j hj) d2 d3 d4 (λq=>?_) λq=>kX (ac' q) _ _ cL
  rw[ada q]at kN kX
  (have zz:=hB.ne hit;have mK:=zz.1;have kM:=zz.2;clear zz)
  have V8:h≠it:=(kY hh hit rfl)
  have next:∀{ρ':af} {y:AO},get ρ' 38=some (.ref t)->get ρ' 160=some (.ref oi)->get ρ' 79=some (.int e)->get ρ' 166=some (.bytes (B.key j))->get ρ' 167=some (qY bound)->get ρ' 161=some (.ref it)->get ρ' 107=some (.ref h)->(j+1<B.n->y=bz B b T.o (j+1))->(j+1=B.n->cS B b T.o y)->dQ ⟨sc,n+5,true⟩ (.cm (.v 161) 93 []) [.asg (.nm 115) (.cm (.v 161) 115 []),.ex (.cm (.v 38) 168 [.v 115,.v 166,.v 167,.cm (.v 160) 115 [],.v 107]),.asg (.nm 166) (.v 115),.ex (.cm (.v 161) 169 [])] N' R X (k+1) ρ' (upd τ it y):=by
   intro ρ' y a1 a2 a3 a4 a5 a6 a7 q1 q2
   have H':TabAt (upd τ it y) t T:=H.keep λa z e q=>by
    rw[aw _ _ λz=>by rw[z,hit]at e;(cases e);cases q];exact e
   exact ih (j+1) (some (B.key j)) ρ' (upd τ it y) y (kj hk) ⟨a1,a2,a3,a4,a5,(λl e=>by(cases e);exact dB j hj),d4⟩ a6 a7 (cL.d_ n0) H' ((aw _ _ yZ).trans ho) ⟨hB.ok,(aw _ _ mK).trans hB.hb,(aw _ _ kM).trans hB.hr⟩ (ay _ _ _) q1 q2 ((aw _ _ V8).trans hh) kN kX
  lk
  refine yq n hB hit hj ⟨λq=>?_,λq qb x hx=>?_,λq qb=>by rw[nb]at qb;(exact ff qb)⟩
  ·lk
   exact next (by k_is) (by k_is) (by k_is) (by k_is) (by k_is) (by k_is) (by k_is) (λ_=>rfl) λz=>by lia
  ·lk
   exact next (by k_is) (by k_is) (by k_is) (by k_is) (by k_is) (by k_is) (by k_is) (λz=>js z q) λ_=>hx
theorem adn {X:Ex->af->aa->Prop} (dI:∀i<T.I.n,Dk (T.I.key i)) (dB:∀i<T.I.n,(T.R i).fault=0->∀j<(T.R i).B.n,Dk ((T.R i).B.key j)) (n0:σ₀ oi=none):
  ∀(k i e:Nat) (last bound:Option (List UInt8)) (ρ:af) (τ:aa) (x:AO),i+k=T.I.n->VG ρ t oi e last bound->Ext σ₀ τ->TabAt τ t T->τ oi=some x->(i<T.I.n->x=bz T.I T.ix T.o i)->(i=T.I.n->cS T.I T.ix T.o x/\T.I.bad=false)->
   (f6 T k i e last bound=true->∀ρ' dm,Ext σ₀ dm->TabAt dm t T->N' ρ' dm)->(f6 T k i e last bound=false->∀ρ' dm,Ext σ₀ dm->X .b_ ρ' dm)->
   dQ ⟨sc,n+5,true⟩ (.cm (.v 160) 93 []) [.asg (.nm 107) (.cm (.v 38) 155 [.cm (.v 160) 154 []]),.ite (.cmp .NotEq (.at (.v 107) 104) (.v 79)) [.rs 11 [.str]] [],.asg (.nm 79) (.bin .Add (.bin .Add (.at (.v 107) 104) (.at (.v 107) 23)) (.g 108)),.asg (.nm 161) (.cm (.v 38) 162 [.cm (.v 160) 154 []]),.ex (.cm (.v 161) 163 []),.dj (.cm (.v 161) 93 []) [.asg (.nm 115) (.cm (.v 161) 115 []),.ex (.cm (.v 38) 168 [.v 115,.v 166,.v 167,.cm (.v 160) 115 [],.v 107]),.asg (.nm 166) (.v 115),.ex (.cm (.v 161) 169 [])],.asg (.nm 167) (.cm (.v 160) 115 []),.ex (.cm (.v 160) 169 [])] N' R X (k+1) ρ τ:=by
 intro k
 induction k with
 |zero=>
  intro i e last bound ρ τ x hk G cL H ho h1 h2 kN kX
  obtain⟨⟨tn,vf,rfl⟩,nb⟩:=h2 (hk)
  have hb:=H.ib.hb
  have go:=G.outer
  refine ey ?_
  lk
  refine eF (n+4) ho hb ?_
  refine⟨false,congrArg PV.bool (decide_eq_false (eI _)),?_⟩
  lk
  exact kN (adb nb) ρ τ cL H
 |succ k ih=>
  intro i e last bound ρ τ x hk G cL H ho h1 h2 kN kX
  have hi:i<T.I.n:=by exact f9 hk
  have:=h1 hi
  subst this
  have hb:=H.ib.hb
  have ob:=H.ob
  have br:=H.ib.ok.lt hi
  have hle:=H.ib.ok.le hi
  have zI:=H.ib.ok.zD
  have Rw:=H.rw i hi
  obtain⟨gs,go,ge,gl,gb,d3,d4⟩:=G
  obtain⟨j,k',v1,v2,sG⟩:=Rw.hd
  have mF:cut T.I.D (some ((T.I.pW i:Nat):Int)) (some ((T.I.off (i+1):Nat):Int))=(T.R i).P:=H.pl i hi
  refine ey ?_
  lk
  refine eF (n+4) ho hb ?_
  refine⟨true,congrArg PV.bool (decide_eq_true (show T.I.off i<T.I.L by exact ai br hle)),?_⟩
  lk
  refine pG (n+3) (cq zI) ho hb (λ_=>?_) λz=>by lia
  rw[mF]
  lk
  refine vI (n+1) Rw.zP v1 v2 (λek a ha=>?_) λek a ha=>?_
  rotate_left
  ·exact kX (ade (sG.mpr ek)) _ _ (cL.d_ (cL.none ha))
  have n3:(T.R i).fault≠3:=λz=>sG.mp z ek
  have x1:Ext τ (upd τ a (fy (T.R i).off (T.R i).size)):=Ext.new ha _
  have lZ:=x1 _ _ ob
  have dS:=x1 _ _ ho
  have Co:=x1 _ _ hb
  lk
  refine aH (λhc=>?_) λhc=>?_
  ·lk
   exact kX (adh n3 (LP hc)) _ _ (cL.trans x1)
  lk
  refine pG (n+3) (cq zI) dS Co (λ_=>?_) λz=>by lia
  rw[mF]
  lk
  refine yj n (H.ext x1) Rw (λf0 υ b rr it x2 hB hit jV=>?_) λf0 υ x2=>?_
  rotate_left
  ·exact kX (adi n3 (DD hc) f0) _ _ ((cL.trans x1).trans x2)
  have x02:=(cL.trans x1).trans x2
  have v5:=(cL.trans x1).none hit
  have H2:=(H.ext x1).ext x2
  have cy:=x2 _ _ dS
  have pd:=x2 _ _ (ay τ a (fy (T.R i).off (T.R i).size))
  have yZ:oi≠it:=λz=>by rw[<-z,dS]at hit;(cases hit)
  have nb:=Tb.nb H hi f0
  have ev:f6 T (k+1) i e last bound=(jx T (T.I.key i) bound (T.R i).off (T.R i).B (T.R i).B.n 0 last).elim false (λdZ=>f6 T k (i+1) ((T.R i).off+(T.R i).size+5) dZ (some (T.I.key i))):=adj (DD hc) f0
  rw[ev]at kN kX
  have es:((T.R i).off:Int)+((T.R i).size:Int)+5=(((T.R i).off+(T.R i).size+5:Nat):Int):=by exact(LY).symm
  have mQ:∀{ρ:af} {y:AO},VG ρ t oi ((T.R i).off+(T.R i).size+5) last bound->get ρ 161=some (.ref it)->get ρ 107=some (.ref a)->(0<(T.R i).B.n->y=bz (T.R i).B b T.o 0)->(0=(T.R i).B.n->cS (T.R i).B b T.o y)->
    SV ⟨sc,n+5,true⟩ (.dj (.cm (.v 161) 93 []) [.asg (.nm 115) (.cm (.v 161) 115 []),.ex (.cm (.v 38) 168 [.v 115,.v 166,.v 167,.cm (.v 160) 115 [],.v 107]),.asg (.nm 166) (.v 115),.ex (.cm (.v 161) 169 [])]) ρ (upd υ it y) (λρ' σ'=>aD ⟨sc,n+5,true⟩ [.asg (.nm 167) (.cm (.v 160) 115 []),.ex (.cm (.v 160) 169 [])] ρ' σ' (λρ' σ'=>dQ ⟨sc,n+5,true⟩ (.cm (.v 160) 93 []) [.asg (.nm 107) (.cm (.v 38) 155 [.cm (.v 160) 154 []]),.ite (.cmp .NotEq (.at (.v 107) 104) (.v 79)) [.rs 11 [.str]] [],.asg (.nm 79) (.bin .Add (.bin .Add (.at (.v 107) 104) (.at (.v 107) 23)) (.g 108)),.asg (.nm 161) (.cm (.v 38) 162 [.cm (.v 160) 154 []]),.ex (.cm (.v 161) 163 []),.dj (.cm (.v 161) 93 []) [.asg (.nm 115) (.cm (.v 161) 115 []),.ex (.cm (.v 38) 168 [.v 115,.v 166,.v 167,.cm (.v 160) 115 [],.v 107]),.asg (.nm 166) (.v 115),.ex (.cm (.v 161) 169 [])],.asg (.nm 167) (.cm (.v 160) 115 []),.ex (.cm (.v 160) 169 [])] N' R X (k+1) ρ' σ') R X) R X:=by
   intro ρ y G1 g1 g2 q1 q2
   (have zz:=hB.ne jV;have mK:=zz.1;have kM:=zz.2;clear zz)
   have VD:a≠it:=(kY pd jV rfl)
   have H3:TabAt (upd υ it y) t T:=H2.keep λa z e q=>by
    rw[aw _ _ λz=>by rw[z,jV]at e;(cases e);cases q];exact e
   refine gf ((T.R i).B.n+1) (adk hi (dI i hi) (dB i hi f0) nb v5 yZ _ 0 last ρ (upd υ it y) y (kD _) G1 g1 g2 (x02.d_ v5) H3 ((aw _ _ yZ).trans cy) ⟨hB.ok,(aw _ _ mK).trans hB.hb,(aw _ _ kM).trans hB.hr⟩ (ay _ _ _) q1 q2 ((aw _ _ VD).trans pd) (λdZ ρ' dm BX G2 Al AG CL=>?_) λBX ρ' dm Al=>?_)
   ·rw[BX]at kN kX
    dsimp only[Option.elim]at kN kX
    obtain⟨gs,go,ge,gl,gb,HK,d4'⟩:=G2
    have VL:=AG.ib.hb
    lk
    refine sV (n+3) CL VL (λ_=>?_) λz=>by lia
    have nx:∀{ρ:af} {y:AO},VG ρ t oi ((T.R i).off+(T.R i).size+5) dZ (some (T.I.key i))->(i+1<T.I.n->y=bz T.I T.ix T.o (i+1))->(i+1=T.I.n->cS T.I T.ix T.o y/\T.I.bad=false)->dQ ⟨sc,n+5,true⟩ (.cm (.v 160) 93 []) _ N' R X (k+1) ρ (upd dm oi y):=λ{ρ y} G3 q1 q2=>
     ih (i+1) _ dZ (some (T.I.key i)) ρ (upd dm oi y) y (kj hk) G3 (Al.d_ n0) (AG.keep λa z e q=>by rw[aw _ _ λz=>by rw[z,CL]at e;(cases e);cases q];exact e) (ay _ _ _) q1 q2 kN kX
    lk
    refine yq n AG.ib CL hi ⟨λq=>?_,λq qb x hx=>?_,λq qb x hx=>?_⟩
    ·lk
     exact nx ⟨by k_is,by k_is,by k_is,by k_is,by k_is,HK,λl e=>by(cases e);exact dI i hi⟩ (λ_=>rfl) λz=>by lia
    ·lk
     exact nx ⟨by k_is,by k_is,by k_is,by k_is,by k_is,HK,λl e=>by(cases e);exact dI i hi⟩ (λz=>js z q) λ_=>⟨hx,qb⟩
    ·refine kX ?_ _ _ (Al.d_ n0)
     have:k=0:=by lia
     subst this
     exact NO qb
   ·rw[BX]at kX
    exact kX rfl _ _ Al
  lk
  rw[es]
  refine yo n hB jV ⟨λq=>?_,λq qb x hx=>?_,λq qb=>by rw[nb]at qb;(exact ff qb)⟩
  ·lk
   refine mQ ⟨?_,?_,?_,?_,?_,d3,d4⟩ ?_ ?_ (λ_=>rfl) (λz=>by lia)<;>k_is
  ·lk
   refine mQ ⟨?_,?_,?_,?_,?_,d3,d4⟩ ?_ ?_ (λz=>DE z q) (λ_=>hx)<;>k_is
end
end
section
theorem Ri {A B:Prop} (h:A):Bn (!true) A B:=⟨λ_=>h,λe=>(ff e)⟩
theorem aeW {A B:Prop} (h:B):Bn (!false) A B:=⟨λe=>(ff (aj e)),λ_=>h⟩
end
local macro_rules | `(tactic| k_extra "x")=>alts "Ri ?|aeW ?"
section
noncomputable def fL:List UInt8:=[102,105,108,116,101,114,46,114,97,102,116,107,101,101,112,46,98,108,111,111,109]
structure FP (D:List UInt8) (E:Nat) (r:Row) (fs:Nat×(Nat->Bool)):Prop where
 zP:r.P.length<=1000
 hd:AB r.P r.off r.size r.fault
 sd:r.fault≠3->(r.fault=0↔mx D E r.off r.size)
 fl:r.fault=0->∃cg,Flt ((D.drop r.off).take r.size) cg fs.1 fs.2
set_option genInjectivity false in
structure iR where
 D:List UInt8
 bits:Nat
 par:Bool
 I:bq
 R:Nat->Row
 M:bq
 mo:Nat
 ms:Nat
 io:Nat
 iz:Nat
 fm:Nat
 fr:Option Row
 fs:Nat×(Nat->Bool)
noncomputable def iR.E (G:iR):Nat:=G.D.length-48
noncomputable def iW (G:iR):Option (Option (Nat×(Nat->Bool))):=match G.fr with
 |none=>if G.fm=G.M.n/\G.M.bad=true then none else some none
 |some r=>if r.fault=0 then some (some G.fs)else if G.par=true then none else some none
structure AZ (G:iR):Prop where
 S:ic G.M .bytes fL G.fm
 no:G.fr=none->G.fm<G.M.n->G.M.key G.fm≠fL
 yes:∀r,G.fr=some r->G.fm<G.M.n/\G.M.key G.fm=fL/\G.M.val G.fm=r.P/\FP G.D G.E r G.fs
noncomputable abbrev tJ (G:iR) (opt o f ix:Nat):AO:=rd G.D opt o f G.E [(129,.ref ix),(144,.none)]
section
variable{w u f ix:Nat} {T:Tb} {P:List UInt8} {G:iR}
theorem Yl (n:Nat) (H:TabAt σ t T) (dI:∀i<T.I.n,Dk (T.I.key i)) (dB:∀i<T.I.n,(T.R i).fault=0->∀j<(T.R i).B.n,Dk ((T.R i).B.key j))
  (hq:f6 T T.I.n 0 0 none none=true->∀τ,Ext σ τ->TabAt τ t T->Q .none τ) (hx:f6 T T.I.n 0 0 none none=false->∀τ,Ext σ τ->X .b_ τ):Call (n+6) true 761 [.ref t] σ Q X:=by
 refine aK T2 rfl ?_
 have ob:=H.ob
 have hb:=H.ib.hb
 lk
 refine sZ (n+2) H.ib λoi kK=>?_
 have x1:∀x,Ext σ (upd σ oi x):=λx=>Ext.new kK x
 have go:∀{ρ:af} {x:AO},VG ρ t oi 0 none none->(0<T.I.n->x=bz T.I T.ix T.o 0)->(0=T.I.n->cS T.I T.ix T.o x/\T.I.bad=false)->SV ⟨Head.dG (Head.met 59 10),n+5,true⟩ (.dj (.cm (.v 160) 93 []) [.asg (.nm 107) (.cm (.v 38) 155 [.cm (.v 160) 154 []]),.ite (.cmp .NotEq (.at (.v 107) 104) (.v 79)) [.rs 11 [.str]] [],.asg (.nm 79) (.bin .Add (.bin .Add (.at (.v 107) 104) (.at (.v 107) 23)) (.g 108)),.asg (.nm 161) (.cm (.v 38) 162 [.cm (.v 160) 154 []]),.ex (.cm (.v 161) 163 []),.dj (.cm (.v 161) 93 []) [.asg (.nm 115) (.cm (.v 161) 115 []),.ex (.cm (.v 38) 168 [.v 115,.v 166,.v 167,.cm (.v 160) 115 [],.v 107]),.asg (.nm 166) (.v 115),.ex (.cm (.v 161) 169 [])],.asg (.nm 167) (.cm (.v 160) 115 []),.ex (.cm (.v 160) 169 [])]) ρ (upd σ oi x) (λρ' σ'=>aD ⟨Head.dG (Head.met 59 10),n+5,true⟩ [] ρ' σ' (λ_ σ'=>Q .none σ') Q λex _ σ'=>X ex σ') Q (λex _ σ'=>X ex σ'):=by
  intro ρ x g q1 q2
  exact gf _ (adn dI dB kK T.I.n 0 0 none none ρ (upd σ oi x) x (kD _) g (x1 x) (H.ext (x1 x)) (ay _ _ _) q1 q2 (λe ρ' dm y Hy=>aE (hq e dm y Hy)) λe ρ' dm y=>hx e dm y)
 lk
 refine yo n (H.ext (x1 _)).ib (ay _ _ _) ⟨λq=>?_,λq qb x hx=>?_,λq qb x gZ=>?_⟩
 ·rw[aL]
  lk
  refine go ⟨?_,?_,?_,?_,?_,λl e=>(nn e),λl e=>(nn e)⟩ (λ_=>rfl) (λz=>by lia)<;>rfl
 ·rw[aL]
  lk
  refine go ⟨?_,?_,?_,?_,?_,λl e=>(nn e),λl e=>(nn e)⟩ (λz=>DE z q) (λ_=>⟨hx,qb⟩)<;>rfl
 ·rw[aL]
  exact hx (by rw[<-q];exact NO qb) _ (x1 _)
theorem X6 (n:Nat) {mb mr bo:Nat} (K:AZ G) (hz:G.D.length<=1000000) (Co:1<=G.bits) (mI:G.bits<=10) (ht:σ t=some (tJ G opt o f ix)) (pz:σ opt=some (de G.bits G.par)) (hM:bZ σ G.M mb mr bo) (xP:ia σ bo .bytes)
  (h:∀τ,Ext σ τ->(iW G=none->X .b_ τ)/\∀held,iW G=some held->∀fl,wI τ fl held->Q fl τ):Call (n+8) true 705 [.ref t,.ref mb] σ Q X:=by
 refine aK T1 rfl ?_
 have hb:=hM.hb
 have iE:=K.S.mn
 have zM:=hM.ok.zD
 have D7:∀τ,wI τ .none none:=λτ=>.no rfl rfl
 lk
 refine sZ (n+4) hM λoi kK=>?_
 have x1:∀x,Ext σ (upd σ oi x):=λx=>Ext.new kK x
 have Ci:∀x,bZ (upd σ oi x) G.M mb mr bo:=λx=>⟨hM.ok,x1 x _ _ hM.hb,x1 x _ _ hM.hr⟩
 lk
 refine sX n (Ci _) (k:=.bytes) (t:=fL) (x1 _ _ _ xP) K.S (ay _ _ _) (.inr ⟨_,_,rfl⟩) ⟨λq=>?_,λq qb x hx=>?_,λq qb x hx=>?_⟩
 ·rw[aL]
  have br:=hM.ok.lt q
  have hle:=hM.ok.le q
  have gA:=(Ci (bz G.M mb bo G.fm)).hb
  have ht1:=x1 (bz G.M mb bo G.fm) _ _ ht
  have afg:=x1 (bz G.M mb bo G.fm) _ _ pz
  lk
  refine eF (n+6) (ay _ _ _) gA ?_
  refine⟨true,congrArg PV.bool (decide_eq_true (show G.M.off G.fm<G.M.L by exact ai br hle)),?_⟩
  lk
  refine sV (n+5) (ay _ _ _) gA (λ_=>?_) λz=>by lia
  lk
  show Bn (decide (G.M.key G.fm≠fL)) _ _
  cases fM:G.fr with
  |none=>
   have:=K.no fM q
   refine BA this ?_
   lk
   refine(h _ (x1 _)).2 none ?_ _ (D7 _)
   unfold iW;refine aj (fM)▸?_
   exact if_neg λz=>by lia
  |some r=>
   obtain⟨_,hk,hv,R⟩:=K.yes r fM
   refine uA (λz=>z hk) ?_
   lk
   refine qm (by decide) ?_
   lk
   refine pG (n+5) (cq zM) (ay _ _ _) gA (λ_=>?_) λz=>by lia
   have mF:cut G.M.D (some ((G.M.pW G.fm:Nat):Int)) (some ((G.M.off (G.fm+1):Nat):Int))=r.P:=hv
   refine aj (mF)▸?_
   lk
   obtain⟨j,k,v1,v2,sG⟩:=R.hd
   have bad:r.fault≠0->∀{ρ:af} {τ:aa},get ρ 38=some (.ref t)->Ext σ τ->nv ⟨Head.dG (Head.met 59 2),n+7,true⟩ (λρ' σ'=>aD ⟨Head.dG (Head.met 59 2),n+7,true⟩ [.ret (some (.cc 157 [.cc 156 [.at (.at (.v 38) 138) 57],.v 153]))] ρ' σ' (λ_ σ'=>Q .none σ') Q λex _ σ'=>X ex σ') Q (λex _ σ'=>X ex σ') .b_ [(11,[.ite (.at (.at (.v 38) 138) 51) [.rr] [],.ret (some .none)])] ρ τ:=by
    intro hf ρ τ g1 cL
    have nU:=cL _ _ ht
    have afh:=cL _ _ pz
    refine⟨_,rfl,λ_=>?_,λz=>absurd z (by decide)⟩
    refine Qt ?_
    lk
    cases hp:G.par with
    |true=>
     lk
     refine(h τ cL).1 ?_
     unfold iW;refine aj (fM)▸?_
     show(if r.fault=0 then _ else if G.par=true then _ else _)=_
     rw[if_neg hf,if_pos hp]
    |false=>
     lk
     refine oO ?_
     lk
     refine(h τ cL).2 none ?_ _ (D7 _)
     unfold iW;refine aj (fM)▸?_
     show(if r.fault=0 then _ else if G.par=true then _ else _)=_
     rw[if_neg hf,if_neg (by refine aj (hp)▸?_;decide)]
   refine vI (n+3) R.zP v1 v2 (λek a ha=>?_) λek a ha=>?_
   rotate_left
   ·exact bad (by have:=sG.mpr ek;exact LQ ek sG) (by k_is) ((x1 _).d_ (dH ha).2)
   have n3:r.fault≠3:=λz=>sG.mp z ek
   have iu:=(dH ha).2
   have x2:=(x1 (bz G.M mb bo G.fm)).d_ (x:=fy r.off r.size) iu
   lk
   refine ym (n+4) hz (by unfold iR.E;exact kC _ _) (x2 _ _ ht) (x2 _ _ pz) (ay _ _ _) (λz=>?_) λz=>?_
   rotate_left
   ·exact bad (λz0=>z ((R.sd n3).mp z0)) (by k_is) x2
   have f0:=(R.sd n3).mpr z
   obtain⟨cg,FL⟩:=R.fl f0
   have yb:=x2 _ _ ht
   have afi:=x2 _ _ pz
   lk
   refine kF rfl rfl rfl ?_
   lk
   refine kF rfl rfl rfl ?_
   lk
   intro bl qB
   refine XB (n+5) Co mI (ay _ _ _) λpp=>?_
   refine⟨rfl,?_⟩
   rw[aL]
   obtain⟨_,VN⟩:=dH qB
   have VP:=(dH VN).2
   have x3:=x2.d_ (x:=uy G.bits pp) VP
   have ht4:=x3 _ _ ht
   lk
   intro fa I4
   obtain⟨V3,afa⟩:=dH I4
   refine XC (n+4) FL (ay _ _ _) ?_
   refine⟨rfl,?_⟩
   rw[aL]
   have V2:=x3.none I4
   lk
   refine(h _ (x3.d_ V2)).2 (some G.fs) ?_ _ (.yes fa bl _ cg _ _ G.bits pp rfl (ay _ _ _) ?_ FL rfl)
   ·unfold iW;refine aj (fM)▸?_
    exact if_pos f0
   ·rw[aw _ _ (cN V3),ay]
 ·rw[aL]
  obtain⟨tn,vf,rfl⟩:=hx
  have gA:=(Ci (jr G.M mb bo tn vf)).hb
  lk
  refine eF (n+6) (ay _ _ _) gA ?_
  refine⟨false,congrArg PV.bool (decide_eq_false (eI _)),?_⟩
  lk
  refine(h _ (x1 _)).2 none ?_ _ (D7 _)
  unfold iW
  cases fM:G.fr with
  |none=>exact if_neg λz=>by replace z:=qb▸z;cases z.2
  |some r=>have:=(K.yes r fM).1;exact js this q
 ·rw[aL]
  refine(h _ (x1 _)).1 ?_
  unfold iW
  cases fM:G.fr with
  |none=>exact if_pos ⟨q,qb⟩
  |some r=>have:=(K.yes r fM).1;exact js this q
end
end
section
structure FV (G:iR) (mg pad lQ lV:Bool):Prop where
 zD:G.D.length<=1000000
 len:48<=G.D.length
 QV:G.bits<=10
 DY:mg=true↔fT (jc G.D) 40=15800726617472432983
 ft:mg=true->AA G.D G.mo G.ms G.io G.iz pad
 iS:lQ=true↔mx G.D G.E G.io G.iz
 iB:lQ=true->G.I.D=(G.D.drop G.io).take G.iz/\G.I.Ok/\G.I.Lay
 mS:lV=true↔mx G.D G.E G.mo G.ms
 mB:lV=true->G.M.D=(G.D.drop G.mo).take G.ms/\G.M.Ok/\G.M.Lay/\AZ G
 rw:∀i<G.I.n,w9 G.D G.E (G.R i)
 pl:∀i<G.I.n,G.I.val i=(G.R i).P
 same:∀i j,i<G.I.n->j<G.I.n->(G.R i).P=(G.R j).P->(G.R i).fault=0->(G.R j).fault=0/\(G.R i).B=(G.R j).B
 dI:∀i<G.I.n,Dk (G.I.key i)
 dB:∀i<G.I.n,(G.R i).fault=0->∀j<(G.R i).B.n,Dk ((G.R i).B.key j)
inductive Tb.of (T:Tb) (G:iR) (held:Option (Nat×(Nat->Bool))):Prop
 |mk (h1:T.D=G.D) (h2:T.E=G.E) (h3:T.I=G.I) (h4:T.R=G.R) (h5:T.mo=G.mo) (h6:T.held=held)
noncomputable def qX (G:iR) (mg pad lQ lV v:Bool):Option (Option (Nat×(Nat->Bool))):=
 if(mg&&pad&&lQ&&lV)=true then
  (match(if 0<G.bits then iW G else some none)with
  |none=>none
  |some held=>if G.par=true/\v=false then none else some held)
 else none
theorem GP {c:Cx} (e:σ=σ') (h:V c m ρ σ' Q X):V c m ρ σ Q X:=e▸h
section
variable{w u f ix:Nat} {P:List UInt8} {G:iR}
theorem XI (n:Nat) {mg pad lQ lV:Bool} {v:Bool} (K:FV G mg pad lQ lV) (ht:σ t=some (.inst 771 [])) (pz:σ opt=some (de G.bits G.par)) (xZ:ia σ o (.internal u))
  (hv:∀T held,(if 0<G.bits then iW G else some none)=some held->T.of G held->f6 T T.I.n 0 0 none none=v)
  (hq:∀held,qX G mg pad lQ lV v=some held->∀τ T,(∀a x,σ a=some x->a≠t->τ a=some x)->T.of G held->TabAt τ t T->σ T.ri=none->Q .none τ)
  (hx:qX G mg pad lQ lV v=none->∀τ,X .b_ τ):Call (n+10) true 691 [.ref t,.bytes G.D,.ref opt,.ref o] σ Q X:=by
 refine aK TR rfl ?_
 have zD:=K.zD
 have len:=K.len
 have yc:opt≠t:=(kY pz ht rfl)
 have Jl:o≠t:=λe=>by have:=xZ.1;rw[e,ht]at this;(cases this)
 have Js:u≠t:=λe=>by have:=xZ.2;rw[e,ht]at this;(cases this)
 lk
 refine⟨_,rU,?_⟩
 lk
 have gZ:(mg&&pad&&lQ&&lV)=false->∀τ,X .b_ τ:=λz=>hx (by unfold qX;refine aj (z)▸?_;rfl)
 refine X7 (n+5) zD len (λz=>gZ (by cases hm:mg with|false=>rfl|true=>exact absurd (K.DY.mp hm) z) _) (λz=>K.ft (K.DY.mpr z)) (λz hp τ x=>gZ (by refine aj (hp)▸?_;simp) _) λz hp τ f m i x0 hf Jw Jy Jx=>?_
 have Wg:=K.DY.mpr z
 rw[aL,aL]at x0
 have vv:=x0 _ _ (ay _ _ _)
 have Dp:∀a x,σ a=some x->a≠t->τ a=some x:=λa x e q=>x0 a x ((aw _ _ q).trans e)
 have Cv:f≠t:=(kY Jw vv rfl)
 have CE:m≠t:=(kY Jy vv rfl)
 have hit:i≠t:=(kY Jx vv rfl)
 lk
 have eE:(G.D.length:Int)-48=((G.E:Nat):Int):=by unfold iR.E;exact(gR len).symm
 rw[eE,aL]
 have IY:∀x,(upd τ t x) f=some (xM m i):=λx=>(aw _ _ Cv).trans Jw
 have Vl:∀x,(upd τ t x) m=some (fy G.mo G.ms):=λx=>(aw _ _ CE).trans Jy
 have Vk:∀x,(upd τ t x) i=some (fy G.io G.iz):=λx=>(aw _ _ hit).trans Jx
 have IZ:∀x,(upd τ t x) opt=some (de G.bits G.par):=λx=>(aw _ _ yc).trans (Dp _ _ pz yc)
 refine GP (σ':=upd τ t (rd G.D opt o f G.E [])) rfl ?_
 refine kF rfl rfl rfl ?_
 have f1:=IY (rd G.D opt o f G.E [])
 have Cy:=Vk (rd G.D opt o f G.E [])
 lk
 refine ym (n+6) zD (by unfold iR.E;exact kC _ _) (ay _ _ _) (IZ _) Cy (λzi=>?_) λzi=>gZ (by cases hm:lQ with|false=>simp|true=>exact absurd (K.iS.mp hm) zi) _
 have I8:=K.iS.mpr zi
 obtain⟨iD,Xn,Xc⟩:=K.iB I8
 refine(iD)▸?_
 lk
 refine Aw (n+6) Xc λtQ ix ri N=>?_
 have Ja:=(dH N.4).1
 have CQ:=(dH N.5).1;have Wz:=(dH N.5).2
 have Jp:σ ri=none:=by
  cases e:σ ri with
  |none=>rfl
  |some y=>have:=Dp ri y e CQ;rw[show τ ri=none from Wz]at this;(exact nn this)
 obtain⟨x2,e2,e3⟩:=N
 have k2:∀{a x},(∀y,(upd τ t y) a=some x)->a≠t->∀y,(upd tQ t y) a=some x:=λh q y=>(aw _ _ q).trans (x2 _ _ (h _))
 have nU:=x2 _ _ (ay _ _ _)
 have f2:=k2 IY Cv
 have m2:=k2 Vl CE
 have o2:=k2 IZ yc
 have i2:∀y,(upd tQ t y) ix=some (gV G.I.D o G.I.L ri):=λy=>(aw _ _ Ja).trans e2
 have r2:∀y,(upd tQ t y) ri=some (.av (dN G.I.rs)):=λy=>(aw _ _ CQ).trans e3
 have Ys:∀a x,σ a=some x->a≠t->tQ a=some x:=λa x e q=>x2 _ _ ((aw _ _ q).trans (Dp a x e q))
 lk
 rw[aL]
 have f3:=f2 (tJ G opt o f ix)
 have m3:=m2 (tJ G opt o f ix)
 refine GP (σ':=upd tQ t (tJ G opt o f ix)) rfl ?_
 refine kF rfl rfl rfl ?_
 lk
 refine ym (n+6) zD (by unfold iR.E;exact kC _ _) (ay _ _ _) (o2 _) m3 (λzm=>?_) λzm=>gZ (by cases hm:lV with|false=>simp|true=>exact absurd (K.mS.mp hm) zm) _
 have Jf:=K.mS.mpr zm
 obtain⟨mD,mok,abm,MO⟩:=K.mB Jf
 refine(mD)▸?_
 lk
 refine GN rfl rfl rfl (λbo xP=>?_)
 (have zz:=dH xP;have ae':=zz.1;have ae_:=zz.2;clear zz)
 lk
 refine Aw (n+6) abm λFt mb mr N=>?_
 obtain⟨x,b1,b2⟩:=N
 have x3:=(Ext.new xP (.inst 271 [])).trans x
 have b3:=x _ _ (ay _ _ _)
 clear x
 have Vv:bZ Ft G.M mb mr bo:=⟨mok,b1,b2⟩
 have yb:=x3 _ _ (ay _ _ _)
 have Dq:∀a x,σ a=some x->a≠t->Ft a=some x:=λa x e q=>x3 _ _ ((aw _ _ q).trans (Ys a x e q))
 have o3:=x3 _ _ (o2 (tJ G opt o f ix))
 have eV:qX G mg pad lQ lV v=(match(if 0<G.bits then iW G else some none)with|none=>none|some held=>if G.par=true/\v=false then none else some held):=by
  unfold qX;rw[Wg,hp,I8,Jf];rfl
 have fin:∀{ρ:af} {υ:aa} {fl:PV} {held:Option (Nat×(Nat->Bool))},get ρ 38=some (.ref t)->get ρ 138=some (.ref opt)->(∀a x,Ft a=some x->a≠t->υ a=some x)->υ t=some (rd G.D opt o f G.E [(129,.ref ix),(144,fl)])->wI υ fl held->(if 0<G.bits then iW G else some none)=some held->
   aD ⟨Head.dG (Head.met 59 0),n+9,true⟩ [.ite (.at (.v 138) 51) [.ex (.cm (.v 38) 147 [])] []] ρ υ (λ_ σ'=>Q .none σ') Q (λex _ σ'=>X ex σ'):=by
  intro ρ υ fl held g1 g2 ku hu qC hh
  have kk:∀{a x},(upd tQ t (tJ G opt o f ix)) a=some x->a≠t->υ a=some x:=λe q=>ku _ _ (x3 _ _ e) q
  have ou:=kk (o2 _) yc
  have HT:TabAt υ t ⟨G.D,G.E,G.bits,G.par,G.mo,G.ms,G.io,G.iz,opt,o,u,f,m,i,ix,ri,fl,G.I,G.R,held⟩:=by
   refine⟨zD,kC G.D.length 48,hu,ou,⟨?_,?_⟩,⟨Xn,kk (i2 _) Ja,kk (r2 _) CQ⟩,kk (f2 _) Cv,kk (m2 _) CE,qC,K.rw,K.pl,K.same⟩
   ·exact ku _ _ (Dq _ _ xZ.1 Jl) Jl
   ·exact ku _ _ (Dq _ _ xZ.2 Js) Js
  have CH:Tb.of ⟨G.D,G.E,G.bits,G.par,G.mo,G.ms,G.io,G.iz,opt,o,u,f,m,i,ix,ri,fl,G.I,G.R,held⟩ G held:=⟨rfl,rfl,rfl,rfl,rfl,rfl⟩
  have Jt:=hv _ held hh CH
  rw[hh]at eV
  dsimp only at eV
  have Kr:∀a x,σ a=some x->a≠t->υ a=some x:=λa x e q=>ku _ _ (Dq a x e q) q
  lk
  cases vt:G.par with
  |false=>
   rw[if_neg (by refine aj (vt)▸?_;rintro⟨z,_⟩;(exact ff z))]at eV
   lk
   exact hq held eV υ _ Kr CH HT Jp
  |true=>
   lk
   refine Yl (n+3) HT K.dI K.dB (λe dm x' H'=>?_) λe dm x'=>?_
   ·rw[if_neg (by rw[<-Jt,e];rintro⟨_,z⟩;(cases z))]at eV
    lk
    exact hq held eV dm _ (λa x e q=>x' _ _ (Kr a x e q)) CH H' Jp
   ·rw[if_pos ⟨vt,Jt.symm.trans e⟩]at eV
    exact hx eV _
 lk
 refine aH (λhc=>?_) λhc=>?_
 ·have kJ:0<G.bits:=by exact a_.mp hc
  rw[if_pos kJ]at eV
  lk
  refine X6 (n+1) MO zD kJ K.QV yb o3 Vv b3 λυ jd=>⟨λe=>hx (by rw[eV,e]) _,λheld e fl qC=>?_⟩
  have CX:=jd _ _ yb
  have oυ:=jd _ _ o3
  refine aq rfl ⟨t,_,_,rfl,CX,rfl,aG rfl,?_⟩
  refine aE ?_
  refine fin rfl rfl (λa x e q=>(aw _ _ q).trans (jd _ _ e)) (ay _ _ _) ?_ (by rw[if_pos kJ];exact e)
  rcases qC with⟨h1,h2⟩|⟨fa,bl,FD,cg,mm,says,bits,pp,h1,h2,h3,h4,h5⟩
  ·exact .no h1 h2
  ·exact .yes fa bl FD cg mm says bits pp h1 ((aw _ _ (kY h2 CX rfl)).trans h2) ((aw _ _ (kY h3 CX rfl)).trans h3) h4 h5
 ·have kJ:¬0<G.bits:=by exact qR hc
  refine aE ?_
  exact fin (held:=none) rfl rfl (λa x e q=>e) yb (.no rfl rfl) (if_neg kJ)
end
end
section
theorem HH {c:Cx} {t:MT} {e:ME} {D:Nat} {Q:List PV->aa->Prop} {g:PV->PV} (hD:σ D=none):
  ∀(xs acc:List PV),acc.length+xs.length<=1000000->(∀x∈xs,∃bJ,lI t x ρ=some bJ/\∀τ Q,Q (g x) τ->V c e bJ τ Q F0)->Q (acc++xs.map g) σ->gP c t e none D ρ Q xs acc (upd σ D (.av acc)):=by
 intro bD
 induction bD with
 |nil=>
  intro acc hl he hq
  show Q acc (del _ D)
  rw[uO hD];simpa using hq
 |cons x xs ih=>
  intro acc hl he hq
  obtain⟨bJ,hb,hv⟩:=he x (.head _)
  rw[ej]at hl
  refine⟨bJ,hb,⟨λ_=>hv _ _ ?_,λz=>(ff (aj z))⟩⟩
  refine⟨ay _ _ _,Dy hl,?_⟩
  rw[aL]
  exact ih (acc++[g x]) (by rw[bf];simp only[ej,lz];exact om hl) (λy hy=>he y (.tail _ hy)) (by simpa using hq)
noncomputable def eU (n w:Nat):List UInt8:=(aW w).map λi=>(n/256^i%256).toUInt8
noncomputable def bP (n:Nat):List UInt8:=if n<128 then[n.toUInt8]else[(n%128+128).toUInt8,(n/128).toUInt8]
noncomputable def pn (x:PV):Nat:=((gI x).getD 0).toNat
section
theorem i7 (n:Nat) {aC:List Int} {a m:Nat} (ht:aC≠[]) (hz:aC.length<=1000) (ha:∃k:Nat,σ a=some (.av [.int k])) (hm:0<m) (h:∀(v k':Nat),v<m->Q (.int v) (upd σ a (.av [.int k']))):Call (n+1) true 894 [.lst (aZ aC),.ref a,.int m] σ Q X:=by
 refine aK IA rfl ?_
 obtain⟨k,ha⟩:=ha
 have hl:0<aC.length:=PG.mpr ht
 have i4:(aZ aC).length=aC.length:=by simp[aZ]
 have q0:=jB (k:Int) (show(aC.length:Int)≠0 by exact yK hl)
 have q1:=oD (k:Int) (show(0:Int)<aC.length by exact hV.mpr hl)
 have g1:∀τ:aa,fe τ (.lst (aZ aC)) (.int ((k:Int)%(aC.length:Int))) (.int (aC.getD (k%aC.length) 0)):=λτ=>gk (by lia) (zv hz q1 rfl) (by
  have:((k:Int)%(aC.length:Int)).toNat=k%aC.length:=by lia
  refine aj (this)▸?_
  have br:=eJ k hl
  simp[aZ,be,bQ br])
 lk
 refine⟨_,i6 ha (by decide) (by decide) rfl,?_⟩
 lk
 refine⟨a,_,_,rfl,rfl,ha,Pg _,Pk,aG rfl,?_⟩
 lk
 refine⟨_,dD (vQ hz i4),?_⟩
 refine aj (i4)▸?_
 refine⟨_,gz (hV.mpr hl),?_⟩
 refine⟨_,g1 _,?_⟩
 lk
 refine⟨_,dD (vQ hz i4),?_⟩
 refine aj (i4)▸?_
 refine⟨_,kG (hV.mpr hl) (by lia),?_⟩
 lk
 refine⟨_,jJ (by decide),?_⟩
 lk
 refine⟨_,gz (hV.mpr hm),?_⟩
 have e0:=jB (aC.getD (k%aC.length) 0+(k:Int)/(aC.length:Int)*7) (show(m:Int)≠0 by exact yK hm)
 have e1:=oD (aC.getD (k%aC.length) 0+(k:Int)/(aC.length:Int)*7) (show(0:Int)<m by exact hV.mpr hm)
 obtain⟨v,hv⟩:=p8 e0
 refine aj (hv)▸?_
 exact h v (k+1) (zu e1 hv.symm)
theorem sU (n:Nat) {v w:Nat} (hw:w<=8) (h:Q (.bytes (eU v w)) σ):Call (n+1) true 904 [.int v,.int w] σ Q X:=by
 refine aK Us rfl ?_
 lk
 refine oR rfl (xd ?_)
 lk
 refine⟨_,rfl,pZ hw rfl,aT _,λD sc hD=>?_⟩
 refine aj (show((w:Int)).toNat=w by exact eY)▸?_
 refine HH (g:=λx=>.int ((v/256^pn x%256:Nat):Int)) hD _ [] (by simp;exact ai hw (aG rfl)) (λx hx=>?_) ?_
 ·obtain⟨k,hk,rfl⟩:=gS.mp hx
  refine⟨_,rfl,λτ Q hq=>?_⟩
  lk
  have vj:k<8:=by have:=hZ.mp hk;exact ai this hw
  refine⟨_,ux (aT _) (Fl vj rfl) (by decide),?_⟩
  have hp:(0:Int)<256^((k:Int)).toNat:=F8 (by decide)
  have qI:((256:Int)^((k:Int)).toNat)=((256^k:Nat):Int):=by refine aj (show((k:Int)).toNat=k by exact eY)▸?_;push_cast;rfl
  have CN:256^k<2^64:=ua (P_ (by decide) vj) (by decide)
  refine⟨_,kG hp (by refine aj (qI)▸?_;exact CN),?_⟩
  lk
  refine⟨_,gz (by decide),?_⟩
  have:(v:Int)/256^((k:Int)).toNat%256=((v/256^((k:Int)).toNat%256:Nat):Int):=by push_cast;rfl
  refine aj (this)▸?_
  exact hq
 ·lk
  have e:([]++(((aW w).map λ(k:Nat)=>PV.int k).map λx=>PV.int ((v/256^pn x%256:Nat):Int)))=aZ ((aW w).map λk=>((v/256^k%256:Nat):Int)):=by rw[bL,ng,aZ,ng];rfl
  refine aj (e)▸?_
  refine⟨_,nH (λx hx=>?_) (by simp;exact ai hw (aG rfl)),?_⟩
  ·obtain⟨k,_,rfl⟩:=gS.mp hx
   have:=eJ (v/256^k) (show 256>0 by decide)
   exact Zz
  ·have:dO ((aW w).map λk=>((v/256^k%256:Nat):Int))=eU v w:=by
    unfold dO eU
    refine aj (ng)▸?_
    exact qd λk _=>by show((v/256^k%256:Nat):Int).toNat.toUInt8=_;rw[Int.toNat_natCast]
   refine aj (this)▸?_
   exact h
end
end
section
theorem C1 {a:PV}:fe σ (.tup (a::l)) (.int 0) a:=sQ (by decide) (by decide) rfl
theorem nV {a b:PV}:fe σ (.tup (a::b::l)) (.int 1) b:=sQ (by decide) (by decide) rfl
theorem vA {a b c d e:PV}:fe σ (.tup (a::b::c::d::e::l)) (.int 4) e:=sQ (by decide) (by decide) rfl
end
local macro_rules | `(tactic| k_extra "x")=>alts "Ax.intro _ C1 ?|Ax.intro _ nV ?|Ax.intro _ vA ?|a aeS lia|a aeT dec|a aeR lia lia"
section
noncomputable abbrev KN:=List UInt8×Nat
noncomputable abbrev bn (p:KN):PV:=.tup [.bytes p.1,.int p.2]
noncomputable abbrev rn (p:KN):PV:=.tup [.bytes p.1,.int (0-(p.2:Int))]
noncomputable def pk (r:Nat):Int:=if r=0 then 0 else if r=1 then 97 else 255
noncomputable def bI (p:KN):List UInt8:=jX p.1 p.2
noncomputable def j9 (p:KN):List UInt8:=bV (p.1.length%3) (p.2%251).toUInt8
section
theorem Kg (n:Nat) {nh:Bool} {v:Nat} (hv:v<128) (h:Q (.bytes [v.toUInt8]) σ):Call (n+1) true 911 [.int v] σ Q X:=by
 refine aK IB rfl ?_
 lk
 refine⟨_,nH (ns:=[(v:Int)]) (λx hx=>by simp at hx;exact ZA hv hx.symm) (aG rfl),?_⟩
 exact h
theorem lR (n:Nat) {v:Nat} (hv:v<16384) (h:Q (.bytes (bP v)) σ):Call (n+2) true 911 [.int v] σ Q X:=by
 unfold bP at h
 by_cases q:v<128
 ·rw[if_pos q]at h
  exact Kg (n+1) (nh:=true) q h
 rw[if_neg q]at h
 refine aK IB rfl ?_
 lk
 refine⟨_,nH (ns:=[(v:Int)%128+128]) (λx hx=>by simp at hx;exact ZC hx) (aG rfl),?_⟩
 lk
 rw[show(v:Int)/128=((v/128:Nat):Int) by exact rfl.symm]
 refine Kg n (nh:=true) (ZD hv) ?_
 refine⟨_,b9 (by simp[dO]),?_⟩
 have e:dO [(v:Int)%128+128]++[(v/128).toUInt8]=[(v%128+128).toUInt8,(v/128).toUInt8]:=by
  show[((v:Int)%128+128).toNat.toUInt8]++_=_
  rw[show((v:Int)%128+128).toNat=v%128+128 by exact rfl];rfl
 simp only[e]
 exact h
theorem jk (v w:Nat):(eU v w).length=w:=by simp[eU]
theorem vF (n:Nat) {p:KN} (hp:p.1.length<=1000) (h:Q (.bytes (bI p)) σ):Call (n+2) true 918 [bn p] σ Q X:=by
 refine aK Uv rfl ?_
 lk
 refine sU (w:=8) n (by decide) ?_
 exact⟨_,b9 (by rw[jk];exact ai (dW hp _) (aG rfl)),h⟩
theorem nY (n:Nat) {nh:Bool} {p:KN} (h:Q (rn p) σ):Call (n+1) nh 925 [bn p] σ Q X:=by
 refine aK Uz rfl ?_
 lk
 exact h
theorem J5 (n:Nat) {p:KN} (hp:p.1.length<=1000) (h:Q (.bytes (j9 p)) σ):Call (n+1) true 979 [bn p] σ Q X:=by
 refine aK UJ rfl ?_
 lk
 refine⟨_,rfl,jB _ (by decide),Aq rfl rfl,?_⟩
 have e:bV ((p.1.length:Int)%3).toNat (PV.int ((p.2:Int)%251))=aZ (bV (p.1.length%3) ((p.2:Int)%251)):=by
  rw[show((p.1.length:Int)%3).toNat=p.1.length%3 by exact rfl];simp[aZ]
 simp only[e]
 lk
 refine⟨_,nH (λx hx=>?_) (by rw[t5];exact zo rfl rfl),?_⟩
 ·have:=(PM.mp hx).2
  lia
 ·have e2:dO (bV (p.1.length%3) ((p.2:Int)%251))=j9 p:=by
   unfold dO j9
   rw[List.map_replicate,show((p.2:Int)%251).toNat=p.2%251 by exact rfl]
  rw[e2]
  exact h
theorem Ka (n:Nat) {p:KN} (hp:p.1.length<=1000) (h:Q (.tup [.bytes (bI p),.bytes (j9 p)]) σ):Call (n+3) true 1043 [bn p] σ Q X:=by
 refine aK UD rfl ?_
 lk
 refine vF n hp ?_
 lk
 refine J5 (n+1) hp ?_
 lk
 exact h
theorem Kh (n:Nat) {u:Nat} (hu:u<40) (h:∀w:List UInt8,w.length<=3->Q (.bytes w) σ):Call (n+1) true 899 [.int u] σ Q X:=by
 refine aK UM rfl ?_
 have fin:∀{sc:b7} {ρ:af} {s v:Nat},s<=3->get ρ 23=some (.int s)->get ρ 182=some (.int v)->aD ⟨sc,n,true⟩ [.ret (some (.cb 36 [.cp (.idx (.tup [.int 0,.int 97,.int 255]) (.bin .Mod (.bin .FloorDiv (.v 182) (.bin .Pow (.int 3) (.v 183))) (.int 3))) (.nm 183) (.cb 8 [.v 23]) none]))] ρ σ (λ_ σ'=>Q .none σ') Q (λex _ σ'=>X ex σ'):=by
  intro sc ρ s v hs g1 g2
  lk
  refine oR rfl (xd ?_)
  lk
  refine⟨_,rfl,pZ hs rfl,aT _,λD sc hD=>?_⟩
  refine aj (show((s:Int)).toNat=s by exact eY)▸?_
  have e0:∀r:Nat,r<3->([PV.int 0,.int 97,.int 255]:List PV)[((r:Nat):Int).toNat]?=some (.int (pk r)):=by
   intro r hr
   rcases(show r=0\/r=1\/r=2 by exact ZE hr)with rfl|rfl|rfl<;>rfl
  have pk1:∀r,0<=pk r/\pk r<256:=λr=>by
   unfold pk
   split
   ·decide
   ·split<;>decide
  refine HH (g:=λx=>.int (pk (v/3^pn x%3))) hD _ [] (by simp;exact ai hs (aG rfl)) (λx hx=>?_) ?_
  ·obtain⟨k,hk,rfl⟩:=gS.mp hx
   refine⟨_,rfl,λτ Q hq=>?_⟩
   have vj:k<3:=by have:=hZ.mp hk;exact ai this hs
   have hp:(0:Int)<3^((k:Int)).toNat:=F8 (by decide)
   have qI:((3:Int)^((k:Int)).toNat)=((3^k:Nat):Int):=by refine aj (show((k:Int)).toNat=k by exact eY)▸?_;push_cast;rfl
   have CN:3^k<3^3:=P_ (by decide) vj
   lk
   refine⟨_,ux (aT _) (Fl vj rfl) (by decide),?_⟩
   refine⟨_,kG hp (by refine aj (qI)▸?_;exact rI CN (by decide)),?_⟩
   lk
   have e:(v:Int)/3^((k:Int)).toNat%3=((v/3^k%3:Nat):Int):=by push_cast;rfl
   refine aj (e)▸?_
   exact⟨_,sQ (aT _) (ZF) (e0 (v/3^k%3) (eJ _ (by decide))),hq⟩
  ·have e:([]++((aW s).map λ(k:Nat)=>PV.int k).map λx=>PV.int (pk (v/3^pn x%3)))=aZ ((aW s).map λk=>pk (v/3^k%3)):=by rw[bL,ng,aZ,ng];rfl
   refine aj (e)▸?_
   lk
   refine⟨_,nH (λx hx=>?_) (by simp;exact ai hs (aG rfl)),?_⟩
   ·obtain⟨k,_,rfl⟩:=gS.mp hx
    exact pk1 _
   ·exact h _ (by simp[dO];exact ai hs (aG rfl))
 have lp:∀(k s v:Nat) (ρ:af),s+k=3->(s=0->v<40)->(s=1->v<39)->(s=2->v<36)->(s=3->v<27)->get ρ 23=some (.int s)->get ρ 182=some (.int v)->dQ ⟨Head.dG (Head.top 63),n,true⟩ (.cmp .GtE (.v 182) (.bin .Pow (.int 3) (.v 23))) [.asg (.nm 182) (.bin .Sub (.v 182) (.bin .Pow (.int 3) (.v 23))),.asg (.nm 23) (.bin .Add (.v 23) (.int 1))] (λρ σ'=>aD ⟨Head.dG (Head.top 63),n,true⟩ [.ret (some (.cb 36 [.cp (.idx (.tup [.int 0,.int 97,.int 255]) (.bin .Mod (.bin .FloorDiv (.v 182) (.bin .Pow (.int 3) (.v 183))) (.int 3))) (.nm 183) (.cb 8 [.v 23]) none]))] ρ σ' (λ_ σ'=>Q .none σ') Q λex _ σ'=>X ex σ') Q (λex _ σ'=>X ex σ') (k+1) ρ σ:=by
  intro k
  induction k with
  |zero=>
   intro s v ρ hs _ _ _ h3 g1 g2
   have hs:s=3:=by exact hs.symm.symm
   subst hs
   have:=h3 rfl
   refine ey ?_
   lk
   refine⟨_,ux (by decide) (by decide) (by decide),?_⟩
   refine aj (show(3:Int)^(((3:Nat):Int)).toNat=27 from rfl)▸?_
   refine⟨_,xv,?_⟩
   refine jM (by lia) ?_
   exact fin (by lia) g1 g2
  |succ k ih=>
   intro s v ρ hs h0 h1 h2 h3 g1 g2
   refine ey ?_
   have hq:∃q:Nat,(3:Int)^((s:Int)).toNat=q/\(s=0->q=1)/\(s=1->q=3)/\(s=2->q=9):=by
    rcases(show s=0\/s=1\/s=2 by exact ZG hs.symm)with rfl|rfl|rfl
    ·exact⟨1,rfl,λ_=>rfl,λz=>DF z,λz=>DG z⟩
    ·exact⟨3,rfl,λz=>DF z.symm,λ_=>rfl,λz=>absurd z (by decide)⟩
    ·exact⟨9,rfl,λz=>DG z.symm,λz=>absurd z.symm (by decide),λ_=>rfl⟩
   obtain⟨q,eq,q0,q1,q2⟩:=hq
   lk
   refine⟨_,ux (aT _) (LZ hs.symm) (by decide),?_⟩
   refine aj (eq)▸?_
   lk
   refine aH (λhc=>?_) λhc=>fin (by lia) g1 g2
   lk
   refine⟨_,ux (aT _) (LZ hs.symm) (by decide),?_⟩
   refine aj (eq)▸?_
   lk
   refine aj (show(v:Int)-q=((v-q:Nat):Int) by exact(gR (d6.mp hc)).symm)▸?_
   exact ih (s+1) (v-q) _ (by lia) (λz=>(rK _ z).elim) (λz=>ZH h0 q0 z.symm) (λz=>ZI h1 q1 z.symm) (λz=>ZJ h2 q2 z.symm) (by k_is) (by k_is)
 lk
 refine gf 4 ?_
 exact lp 3 0 u _ rfl (λ_=>hu) (λz=>DF z) (λz=>DG z) (λz=>(rK _ z.symm).elim) rfl rfl
end
end
variable{sep:KN} {rs:List (KN×Nat)} {bs:List (List KN)} {bound:Option KN}
section
noncomputable def kn (p:KN):Key:=(p.1,(p.2:Int))
noncomputable def aX (x y:KN):Bool:=df x.1 (0-(x.2:Int)) y.1 (0-(y.2:Int))
noncomputable def hW (zs:List KN):Prop:=zs.Pairwise λx y=>aX x y=true
noncomputable def fh (z:KN):Prop:=z.1.length<=3/\z.2<1024
noncomputable def wj:PV->Bool
 |.int _=>true
 |.none=>true
 |.bytes _=>true
 |_=>false
theorem H4 (h:wj p=true):eqv (n+1) p p=some true:=by
 cases p<;>first|exact ff h|rfl|exact congrArg some (decide_eq_true rfl)
theorem H7 (l:List PV) (h:l.all wj=true):eT (eqv (n+1)) l l=some true:=by
 induction l with
 |nil=>rfl
 |cons a l ih=>
  have h:=ak h
  show((eqv (n+1) a a).bind λx=>(eT (eqv (n+1)) l l).bind λy=>some (x&&y))=_
  rw[H4 h.1,ih h.2];rfl
theorem uU (l:List PV) (h:l.all wj=true):eT (eqv 50) l l=some true:=H7 (n:=49) l h
theorem Sj (hp:wj p=true) (h:l.all wj=true):eT (eqv 50) [p,.tup l] [p,.tup l]=some true:=by
 show((eqv (49+1) p p).bind λx=>((eT (eqv (48+1)) l l).bind λz=>(eT (eqv 50) [] []).bind λy=>some (z&&y)).bind λy=>some (x&&y))=_
 rw[H4 hp,H7 l h];rfl
theorem Xd (p:KN):∀zs:List KN,sR (bn p) (zs.map bn)=some (decide (p∈zs)):=by
 intro bD
 induction bD with
 |nil=>
  exact rfl
 |cons z zs ih=>
  have e:eqv 50 (bn z) (bn p)=some (decide (z=p)):=by
   show some (decide (z.1=p.1)&&(decide ((z.2:Int)=(p.2:Int))&&true))=_
   by_cases h:z=p
   ·subst h;simp
   ·by_cases h1:z.1=p.1
    ·have:¬(z.2:Int)=p.2:=λh2=>h (uf h1 (cU.mp h2))
     simp[this,h]
    ·simp[h1,h]
  show((eqv 50 (bn z) (bn p)).bind λa=>(sR (bn p) (zs.map bn)).bind λb=>some (a||b))=_
  rw[e,ih]
  show some (decide (z=p)||decide (p∈zs))=_
  by_cases h1:p=z
  ·subst h1;simp
  ·have:¬z=p:=λh=>h1 h.symm
   simp[h1,this]
section
theorem abY {X:Ex->af->aa->Prop} (ht:aC≠[]) (hz:aC.length<=1000):
  ∀(xs:List PV) (zs:List KN) (k:Nat) (ρ:af),zs.length+xs.length<=5->zs.Nodup->(∀z∈zs,fh z)->get ρ 179=some (.lst (aZ aC))->get ρ 1=some (.ref a)->get ρ 187=some (.lst (zs.map bn))->
   (∀(p6:List KN) k' ρ',p6.length<=zs.length+xs.length->p6.Nodup->(∀z∈p6,fh z)->get ρ' 187=some (.lst (p6.map bn))->N' ρ' (upd σ a (.av [.int (k':Nat)])))->
   dP ⟨sc,n+1,true⟩ (.nm 183) [.asg (.nm 189) (.cf 188 [.v 179,.v 1,.int 16777216]),.asg (.nm 185) (.tup [.cf 190 [.bin .Mod (.v 189) (.int 40)],.bin .Add (.bin .Mult (.bin .Add (.int 1) (.bin .Mod (.v 189) (.int 3))) (.int 256)) (.idx (.tup [.int 0,.int 1,.int 0,.int 1,.int 0,.int 1,.int 2]) (.bin .Mod (.v 189) (.int 7)))]),.ite (.cmp .NotIn (.v 185) (.v 187)) [.asg (.nm 187) (.bin .Add (.v 187) (.lst [.v 185]))] []] N' R X xs ρ (upd σ a (.av [.int k])):=by
 intro xs
 induction xs with
 |nil=>intro zs k ρ hl nd ok g1 g2 g3 kN;exact kN zs k ρ (by simp) nd ok g3
 |cons x xs ih=>
  intro zs k ρ hl nd ok g1 g2 g3 kN
  rw[ej]at hl kN
  refine⟨_,rfl,?_⟩
  lk
  refine i7 (m:=16777216) n ht hz ⟨k,ay _ _ _⟩ (by decide) λv k' hv=>?_
  rw[aL]
  lk
  rw[show(v:Int)%40=((v%40:Nat):Int) by exact rfl.symm]
  refine Kh n (eJ _ (by decide)) λw hw=>?_
  lk
  have e0:∃q:Nat,q<=2/\([PV.int 0,.int 1,.int 0,.int 1,.int 0,.int 1,.int 2]:List PV)[((v:Int)%7).toNat]?=some (.int q):=by
   refine aj (show((v:Int)%7).toNat=v%7 by exact rfl)▸?_
   rcases(show v%7=0\/v%7=1\/v%7=2\/v%7=3\/v%7=4\/v%7=5\/v%7=6 by exact ZK)with e|e|e|e|e|e|e<;>refine aj (e)▸?_
   ·exact⟨0,by decide,rfl⟩
   ·exact⟨1,by decide,rfl⟩
   ·exact⟨0,by decide,rfl⟩
   ·exact⟨1,by decide,rfl⟩
   ·exact⟨0,by decide,rfl⟩
   ·exact⟨1,by decide,rfl⟩
   ·exact⟨2,by decide,rfl⟩
  obtain⟨q,hq,eq⟩:=e0
  refine⟨_,sQ (jB _ (by decide)) (Ap rfl rfl) eq,?_⟩
  lk
  have e1:(1+(v:Int)%3)*256+(q:Int)=(((1+v%3)*256+q:Nat):Int):=by exact rfl
  refine aj (e1)▸?_
  have hp:fh (w,(1+v%3)*256+q):=⟨hw,by show(1+v%3)*256+q<1024;exact ZL hq⟩
  refine⟨_,RT (Xd (w,(1+v%3)*256+q) zs),?_⟩
  refine Rg (λhc=>?_) λhc=>?_
  ·lk
   refine⟨_,nz (by simp;exact zb hl rfl),?_⟩
   have e2:zs.map bn++[PV.tup [.bytes w,.int (((1+v%3)*256+q:Nat):Int)]]=(zs++[(w,(1+v%3)*256+q)]).map bn:=by simp
   refine aj (e2)▸?_
   lk
   refine ih (zs++[(w,(1+v%3)*256+q)]) k' _ (by simp;exact om hl) ?_ ?_ ?_ ?_ ?_ λp6 iH ρ' eW=>kN p6 iH ρ' (by simp at eW;lia)
   ·exact List.nodup_append.mpr ⟨nd,by simp,λx hx y hy=>by simp at hy;rintro rfl;rw[hy]at hx;exact hc hx⟩
   ·intro z hz
    rcases lA.mp hz with hz|hz
    ·exact ok z hz
    ·simp at hz;refine aj (hz)▸?_;exact hp
   ·k_is
   ·k_is
   ·k_is
  ·lk
   exact ih zs k' _ (bx hl) nd ok (by k_is) (by k_is) (by k_is) λp6 iH ρ' eW=>kN p6 iH ρ' (Gp eW)
theorem Dh (n:Nat) {aC:List Int} {a most:Nat} (ht:aC≠[]) (hz:aC.length<=1000) (ha:∃k:Nat,σ a=some (.av [.int k])) (hm:most<=5) (h:∀(zs:List KN) (k':Nat),zs.length<=most->hW zs->(∀z∈zs,fh z)->Q (.lst (zs.map bn)) (upd σ a (.av [.int k']))):Call (n+3) true 932 [.lst (aZ aC),.ref a,.int most] σ Q X:=by
 refine aK Ux rfl ?_
 lk
 refine oP rfl ?_
 lk
 rw[show(most:Int)+1=((most+1:Nat):Int) by exact(yL).symm]
 refine i7 (n+1) ht hz ha (cV _ _) λv k' hv=>?_
 refine⟨_,rfl,ZM hv hm,aT _,?_⟩
 rw[show((v:Int)).toNat=v by lia]
 refine abY (n:=n+1) ht hz _ [] k' _ (by simp;exact ai (fH hv) hm) .nil (λz hz=>by cases hz) rfl rfl rfl λzs iH ρ hl nd ok g=>?_
 lk
 refine QI rfl ?_
 lk
 refine⟨zs.map kn,by rw[ng];rfl,?_,?_,?_,λys hp hs=>?_⟩
 ·simp at hl⊢;lia
 ·exact adZ kn (λx y h e=>h (by obtain⟨e1,e2⟩:=Prod.mk.inj e;exact uf e1 (cU.mp e2))) nd
 ·intro x hx
  obtain⟨z,_,rfl⟩:=gS.mp hx
  exact nY n ⟨rfl,rfl⟩
 ·have hb:∀y∈ys,∃z∈zs,kn z=y:=λy hy=>gS.mp (hp.mem_iff.mp hy)
  have e1:∀y∈ys,kn (y.1,y.2.toNat)=y:=λy hy=>by
   obtain⟨z,_,rfl⟩:=hb y hy
   simp[kn]
  have e2:(ys.map λy=>(y.1,y.2.toNat)).map bn=ys.map bi:=by
   rw[ng]
   refine qd λy hy=>?_
   show bi (kn (y.1,y.2.toNat))=bi y
   rw[e1 y hy]
  refine(e2)▸?_
  refine h _ iH ?_ ?_ ?_
  ·have:=hp.length_eq;simp at this hl⊢;lia
  ·refine wR.mpr (hs.imp_of_mem λ{x y} hx hy WV=>?_)
   have:aX (x.1,x.2.toNat) (y.1,y.2.toNat)=klt (kn (x.1,x.2.toNat)) (kn (y.1,y.2.toNat)):=rfl
   rw[this,e1 x hx,e1 y hy];exact WV
  ·intro z hz
   obtain⟨y,hy,rfl⟩:=gS.mp hz
   obtain⟨z,W4,rfl⟩:=hb y hy
   have:=ok z W4
   simpa[kn]using this
end
end
section
noncomputable abbrev KV:=List UInt8×List UInt8
noncomputable abbrev gm (r:KV):PV:=.tup [.bytes r.1,.bytes r.2]
noncomputable def cP (l:List KV) (i:Nat):List UInt8:=(l.getD i ([],[])).1
noncomputable def eG (l:List KV) (i:Nat):List UInt8:=(l.getD i ([],[])).2
noncomputable def i8 (l:List KV):Nat->List UInt8
 |0=>[]
 |i+1=>cP l i
noncomputable def jQ (s:Nat) (r:KV):List UInt8:=[s.toUInt8,(r.1.length-s).toUInt8,r.2.length.toUInt8]++r.1.drop s++r.2
noncomputable def p9 (r:KV):Prop:=r.1.length<=30/\r.2.length<=6
theorem s9 {l m:List KV} (h:i<l.length):cP (l++m) i=cP l i:=by
 unfold cP;rw[be,tZ h,<-be]
theorem Ks {l m:List KV} (h:i<l.length):eG (l++m) i=eG l i:=by
 unfold eG;rw[be,tZ h,<-be]
theorem vM {l:List KV} {r:KV}:cP (l++[r]) l.length=r.1:=by
 unfold cP;rw[be,p_ (aP _)];simp
theorem Kt {l:List KV} {r:KV}:eG (l++[r]) l.length=r.2:=by
 unfold eG;rw[be,p_ (aP _)];simp
theorem yw {l m:List KV} (h:i<=l.length):i8 (l++m) i=i8 l i:=by
 cases i with
 |zero=>rfl
 |succ i=>exact s9 h
structure Part (l:List KV) (out:List UInt8) (marks:List Nat) (off sh:Nat->Nat):Prop where
 o0:off 0=0
 oe:off l.length=out.length
 nx:∀i<l.length,off (i+1)=off i+3+((cP l i).length-sh i)+(eG l i).length
 en:∀i<l.length,∃r,out.drop (off i)=jQ (sh i) (cP l i,eG l i)++r
 sk:∀i<l.length,sh i<=(cP l i).length
 sp:∀i<l.length,sh i<=(i8 l i).length
 se:∀i<l.length,(cP l i).take (sh i)=(i8 l i).take (sh i)
 m0:marks[0]?=some 0
 mp:marks.Pairwise (· < ·)
 me:∀p∈marks,p=0\/∃i<l.length,p=off i
 ms:∀i<l.length,off i∈marks->sh i=0
 ml:marks.length<=l.length+1
 ol:out.length<=39*l.length
theorem Part.lt {l:List KV} {out marks off sh} (h:Part l out marks off sh):∀{j i:Nat},i<j->j<=l.length->off i<off j
 |0,i,eA,_=>by exact vR eA
 |j+1,i,eA,hj=>by
  have h1:=h.nx j (hj)
  by_cases e:i=j
  ·subst e;exact L8 h1.symm
  ·have:=h.lt (j:=j) (i:=i) (L9 eA e) (bx hj);exact ZN this h1
theorem Part.nil:Part [] [] [0] (λ_=>0) (λ_=>0):=
 ⟨rfl,rfl,(λi h=>by cases h),(λi h=>by cases h),(λi h=>by cases h),(λi h=>by cases h),(λi h=>by cases h),rfl,by simp,λp h=>.inl (by simpa using h),(λi h=>by cases h),by decide,by decide⟩
theorem HR {s:Nat} {r:KV}:(jQ s r).length=3+(r.1.length-s)+r.2.length:=by simp[jQ];lia
theorem Part.snoc {l:List KV} {out marks off sh} (h:Part l out marks off sh) {r:KV} {s:Nat} {kT:List Nat} (hr:p9 r) (h1:s<=r.1.length) (h2:s<=(i8 l l.length).length) (h3:r.1.take s=(i8 l l.length).take s)
  (hm:kT=marks\/(0<out.length/\s=0/\kT=marks++[out.length])):
  Part (l++[r]) (out++jQ s r) kT (λi=>if i<=l.length then off i else out.length+(jQ s r).length) (λi=>if i=l.length then s else sh i):=by
 have e1:∀{i},i<l.length->(if i=l.length then s else sh i)=sh i:=λh=>if_neg (zai h)
 have e2:∀{i},i<=l.length->(if i<=l.length then off i else out.length+(jQ s r).length)=off i:=λh=>if_pos h
 have ll:(l++[r]).length=l.length+1:=by simp
 have oh:∀i<l.length,off i<out.length:=λi hi=>by refine(h.oe)▸?_;exact h.lt hi (aP _)
 have lJ:∀{P:Nat->Prop},(∀i<l.length,P i)->P l.length->∀i<(l++[r]).length,P i:=λa b i hi=>by
  rw[ll]at hi
  rcases qg i l.length with q|q
  ·exact a i q
  ·have:i=l.length:=by lia
   subst this;exact b
 constructor
 ·refine aj (e2 (eQ _))▸?_;exact h.o0
 ·rw[ll,if_neg (by exact eI _),bf]
 ·refine lJ (λi hi=>?_) ?_
  ·rw[e2 (show i+1<=l.length by exact hi),e2 (by exact bx hi),e1 hi,s9 hi,Ks hi];exact h.nx i hi
  ·rw[if_neg (by exact eI _),e2 (aP _),if_pos rfl,vM,Kt,HR,h.oe];lia
 ·refine lJ (λi hi=>?_) ?_
  ·obtain⟨q,hq⟩:=h.en i hi
   rw[e2 (bx hi),e1 hi,s9 hi,Ks hi,wM (bx (oh i hi)),hq]
   exact⟨q++jQ s r,by rw[dq]⟩
  ·rw[e2 (aP _),if_pos rfl,vM,Kt,h.oe,kv]
   exact⟨[],by simp⟩
 ·refine lJ (λi hi=>?_) ?_
  ·rw[e1 hi,s9 hi];exact h.sk i hi
  ·rw[if_pos rfl,vM];exact h1
 ·refine lJ (λi hi=>?_) ?_
  ·rw[e1 hi,yw (bx hi)];exact h.sp i hi
  ·rw[if_pos rfl,yw (aP _)];exact h2
 ·refine lJ (λi hi=>?_) ?_
  ·rw[e1 hi,s9 hi,yw (bx hi)];exact h.se i hi
  ·rw[if_pos rfl,vM,yw (aP _)];exact h3
 ·rcases hm with rfl|⟨_,_,rfl⟩
  ·exact h.m0
  ·have:=(eh.mp h.m0).1
   refine aj (tZ this)▸?_;exact h.m0
 ·rcases hm with rfl|⟨q,_,rfl⟩
  ·exact h.mp
  ·refine PN.mpr ⟨h.mp,by simp,λx hx y hy=>?_⟩
   simp at hy
   refine aj (hy)▸?_
   rcases h.me x hx with e|⟨i,hi,e⟩
   ·lia
   ·refine aj (e)▸?_;exact oh i hi
 ·intro p hp
  have old:p∈marks->p=0\/∃i<(l++[r]).length,p=if i<=l.length then off i else out.length+(jQ s r).length:=λhp=>by
   rcases h.me p hp with e|⟨i,hi,e⟩
   ·exact .inl e
   ·exact .inr ⟨i,rj hi ll,by refine aj (e2 (bx hi))▸?_;exact e⟩
  rcases hm with rfl|⟨q,_,rfl⟩
  ·exact old hp
  ·rcases lA.mp hp with hp|hp
   ·exact old hp
   ·simp at hp
    exact .inr ⟨l.length,bM ll.symm,by rw[e2 (aP _),h.oe];exact hp⟩
 ·refine lJ (λi hi hp=>?_) λhp=>?_
  ·refine aj (e1 hi)▸?_
   rw[e2 (bx hi)]at hp
   rcases hm with rfl|⟨q,_,rfl⟩
   ·exact h.ms i hi hp
   ·rcases lA.mp hp with hp|hp
    ·exact h.ms i hi hp
    ·simp at hp;have:=oh i hi;exact js this hp
  ·refine aj (if_pos rfl)▸?_
   rw[e2 (aP _),h.oe]at hp
   rcases hm with rfl|⟨q,e,rfl⟩
   ·rcases h.me _ hp with e|⟨i,hi,e⟩
    ·by_cases q:l.length=0
     ·rw[q]at h2;exact PZ.mp h2
     ·have:=oh 0 (qh q);exact wD this e.symm
    ·have:=oh i hi;exact js this e.symm
   ·exact e
 ·have:=h.ml
  rcases hm with rfl|⟨q,e,rfl⟩
  ·lia
  ·refine aj (bf)▸?_;simp;exact this
 ·have:=h.ol
  rw[bf,HR,ll]
  obtain⟨a,b⟩:=hr
  exact ZO this a b
end
section
noncomputable def ez (ms:List Nat):List UInt8:=ms.flatMap λm=>eU m 4
noncomputable def fK (l:List KV) (out:List UInt8) (marks:List Nat) (off sh:Nat->Nat) (more:List UInt8):bq:=
 {D:=out++more++ez marks++eU marks.length 4,L:=out.length+more.length,rs:=marks,n:=l.length,off:=off,sh:=sh,un:=λi=>(cP l i).length-sh i,vl:=λi=>(eG l i).length,key:=cP l,bad:=decide (more≠[])}
theorem oZ (D:List UInt8) (i j:Nat):D.getD (i+j) 0=(D.drop i).getD j 0:=by
 rw[be,be,Gf]
theorem pV (n:Nat) (h:n<256):n.toUInt8.toNat=n:=by
 show(UInt8.ofNat n).toNat=n
 rw[QC,ub h]
theorem S' (n:Nat):eU n 4=[(n%256).toUInt8,(n/256%256).toUInt8,(n/65536%256).toUInt8,(n/16777216%256).toUInt8]:=by
 simp[eU,PQ]
theorem yz {D:List UInt8} {r:List UInt8} (h:D.drop i=eU n 4++r):eH D i=n%4294967296:=by
 unfold eH
 rw[oZ D i 1,oZ D i 2,oZ D i 3,show D.getD i 0=(D.drop i).getD 0 0 from oZ D i 0,h,S']
 simp only[ck,PC,PB]
 rw[pV _ (eJ _ (by decide)),pV _ (eJ _ (by decide)),pV _ (eJ _ (by decide)),pV _ (eJ _ (by decide))]
 exact BP n
theorem jS (ms:List Nat):(ez ms).length=4*ms.length:=by
 induction ms with
 |nil=>rfl
 |cons a r ih=>
  show(eU a 4++ez r).length=_
  rw[bf,jk,ih,ej];exact(wY _ _).symm
theorem B6:∀{ms:List Nat} {t p:Nat},ms[t]?=some p->∃r,(ez ms).drop (4*t)=eU p 4++r
 |[],t,p,h=>by simp at h
 |a::ms,0,p,h=>by
  simp at h;subst h
  exact⟨ez ms,rfl⟩
 |a::ms,t+1,p,h=>by
  simp at h
  obtain⟨r,hr⟩:=B6 (ms:=ms) h
  refine⟨r,?_⟩
  show(eU a 4++ez ms).drop (4*(t+1))=_
  rw[List.drop_append,jk,show 4*(t+1)-4=4*t by exact rfl,AR (by rw[jk];exact cV _ _),hr];rfl
structure kA (B:bq) (l:List KV) (bad:Bool):Prop where
 ok:B.Ok
 lay:B.Lay
 n:B.n=l.length
 key:∀i<l.length,B.key i=cP l i
 val:∀i<l.length,B.val i=eG l i
 bad:B.bad=bad
 len:B.D.length<=44*l.length+12
noncomputable def cj (bad:Bool):List UInt8:=if bad=true then[200,1,0,0]else[]
theorem Part.made {l:List KV} {out marks off sh} (h:Part l out marks off sh) (hl:l.length<=100) (hk:∀i<l.length,(cP l i).length<=30/\(eG l i).length<=6) (bad:Bool):kA (fK l out marks off sh (cj bad)) l bad:=by
 have sI:(cj bad).length<=4:=by unfold cj;split<;>decide
 have eM:=h.ml
 have lO:=h.ol
 have hD:(fK l out marks off sh (cj bad)).D=out++(cj bad++(ez marks++eU marks.length 4)):=by simp[fK,dq]
 have hlen:(fK l out marks off sh (cj bad)).D.length=out.length+(cj bad).length+4*marks.length+4:=by
  refine aj (hD)▸?_;simp only[bf,jS,jk];exact(lD _ _ _).symm
 have u4:(fK l out marks off sh (cj bad)).L=out.length+(cj bad).length:=rfl
 have oh:∀i<l.length,off i<out.length:=λi hi=>by refine(h.oe)▸?_;exact h.lt hi (aP _)
 have of1:∀i<l.length,off (i+1)<=out.length:=λi hi=>by
  refine(h.oe)▸?_
  by_cases q:i+1=l.length
  ·refine aj (q)▸?_;exact aP _
  ·exact bx (h.lt (vS hi q) (aP _))
 have en:∀i<l.length,∃r,(fK l out marks off sh (cj bad)).D.drop (off i)=jQ (sh i) (cP l i,eG l i)++r:=λi hi=>by
  obtain⟨r,hr⟩:=h.en i hi
  rw[hD,wM (bx (oh i hi)),hr,dq]
  exact⟨_,rfl⟩
 have prev:∀i,(fK l out marks off sh (cj bad)).prev i=i8 l i:=λi=>by cases i<;>rfl
 have d3:∀i<l.length,∃r,(fK l out marks off sh (cj bad)).D.drop (off i+3)=(cP l i).drop (sh i)++(eG l i++r):=λi hi=>by
  obtain⟨r,hr⟩:=en i hi
  refine⟨r,?_⟩
  rw[<-oF,hr]
  simp[jQ,dq]
 have uw:bad=true->cj bad=[200,1,0,0]:=λe=>by refine aj (e)▸?_;rfl
 have QY:bad=false->cj bad=[]:=λe=>by refine aj (e)▸?_;rfl
 have BU:(fK l out marks off sh (cj bad)).bad=bad:=by
  show decide (cj bad≠[])=bad
  cases bad<;>rfl
 have Ec:∀i<l.length,∀j<3,oct (fK l out marks off sh (cj bad)).D (off i+j)=(([(sh i).toUInt8,((cP l i).length-sh i).toUInt8,(eG l i).length.toUInt8]:List UInt8).getD j 0).toNat:=λi hi j hj=>by
  obtain⟨r,hr⟩:=en i hi
  unfold oct
  rw[oZ,hr]
  unfold jQ
  rw[dq,dq,be,tZ (by simpa using hj),<-be]
 refine⟨⟨by refine aj (hlen)▸?_;exact L_ eM lO hl sI,by rw[hlen,u4];exact Ma,λi hi=>?_,h.nx,h.o0,λe=>?_,λe=>?_,λi hi=>?_,λi hi=>?_,λi hi=>?_,h.m0,?_,h.mp,h.me,h.ms⟩,⟨by refine aj (hlen)▸?_;exact L_ eM lO hl sI,?_,?_,h.m0,h.mp,λp hp=>?_,λt p hp=>?_⟩,rfl,λi hi=>rfl,λi hi=>?_,BU,by refine aj (hlen)▸?_;lia⟩
 ·have hi:i<l.length:=hi
  obtain⟨k1,k2⟩:=hk i hi
  have s1:=h.sk i hi
  have e0:=Ec i hi 0 (by decide)
  have e1:=Ec i hi 1 (by decide)
  have e2:=Ec i hi 2 (by decide)
  simp only[PC,PB]at e0 e1 e2
  rw[pV _ (by lia)]at e0 e1 e2
  have:=h.nx i hi
  have:=of1 i hi
  refine⟨e0,e1,e2,by show sh i<128;exact Ln k1 s1,by show(cP l i).length-sh i<128;exact Lo k1,by show(eG l i).length<128;exact Mb k2,?_,by rw[hlen,u4];exact Ma⟩
  show off i+3+((cP l i).length-sh i)+(eG l i).length<=out.length+_
  lia
 ·have:bad=false:=BU.symm.trans e
  show off l.length=out.length+(cj bad).length
  rw[QY this,h.oe];rfl
 ·have:bad=true:=BU.symm.trans e
  have eD:∀j,(fK l out marks off sh (cj bad)).D.getD (off l.length+j) 0=((cj bad)++(ez marks++eU marks.length 4)).getD j 0:=λj=>by
   rw[oZ,hD,h.oe,kv]
  refine⟨?_,?_,?_,?_,?_⟩
  ·show off l.length+4=out.length+(cj bad).length
   rw[uw this,h.oe];rfl
  ·show((fK l out marks off sh (cj bad)).D.getD (off l.length+0) 0).toNat=200
   rw[eD 0,uw this];rfl
  ·show((fK l out marks off sh (cj bad)).D.getD (off l.length+1) 0).toNat=1
   rw[eD 1,uw this];rfl
  ·show((fK l out marks off sh (cj bad)).D.getD (off l.length+2) 0).toNat=0
   rw[eD 2,uw this];rfl
  ·show((fK l out marks off sh (cj bad)).D.getD (off l.length+3) 0).toNat=0
   rw[eD 3,uw this];rfl
 ·rw[prev];exact h.sp i hi
 ·obtain⟨r,hr⟩:=d3 i hi
  rw[prev]
  show cP l i=(i8 l i).take (sh i)++(((fK l out marks off sh (cj bad)).D.drop (off i+3)).take ((cP l i).length-sh i))
  rw[hr,<-h.se i hi,List.take_left' (by rw[m_]),wV]
 ·have:=(hk i hi).1
  show(cP l i).length<200
  exact aaB this
 ·show marks.length<=100000
  exact ZP eM hl
 ·rw[hlen,u4]
  show _+4*(marks.length+1)=_
  exact rfl
 ·show eH (fK l out marks off sh (cj bad)).D ((fK l out marks off sh (cj bad)).D.length-4)=marks.length
  rw[yz (n:=marks.length) (r:=[]) (by
   rw[hlen,hD,<-dq,<-dq,show out.length+(cj bad).length+4*marks.length+4-4=(out++cj bad++ez marks).length by simp only[bf,jS];exact rfl,kv];simp)]
  exact ub (ZQ eM hl)
 ·rcases h.me p hp with e|⟨i,hi,e⟩
  ·exact .inl e
  ·refine .inr ?_
   rw[u4,e]
   have:=oh i hi
   exact gN this
 ·have hp:marks[t]?=some p:=hp
  obtain⟨r,hr⟩:=B6 hp
  have tl:=(eh.mp hp).1
  rw[yz (n:=p) (r:=r++eU marks.length 4) (by
   rw[u4,hD,<-dq,<-oF,show out.length+(cj bad).length=(out++cj bad).length by rw[bf],kv,wM (by rw[jS];exact bT _ (nk tl)),hr,dq])]
  refine ub ?_
  rcases h.me p (gc hp)with e|⟨i,hi,e⟩
  ·lia
  ·have:=oh i hi;exact ZR this lO hl e
 ·obtain⟨r,hr⟩:=d3 i hi
  have s1:=h.sk i hi
  show((fK l out marks off sh (cj bad)).D.drop (off i+3+((cP l i).length-sh i))).take (off (i+1)-(off i+3+((cP l i).length-sh i)))=eG l i
  rw[h.nx i hi,<-oF,hr,List.drop_left' (by rw[m_]),nj,wW]
end
section
theorem EZ {v:Nat} (h:v<128):bP v=[v.toUInt8]:=if_pos h
noncomputable abbrev Bt:ME:=(.an [.cmp .Lt (.v 196) (.cb 9 [.v 115]),.cmp .Lt (.v 196) (.cb 9 [.v 166]),.cmp .Eq (.idx (.v 115) (.v 196)) (.idx (.v 166) (.v 196)),.cmp .Lt (.v 196) (.bin .Mod (.v 189) (.int 11))])
noncomputable abbrev Bu:List MS:=[.asg (.nm 196) (.bin .Add (.v 196) (.int 1))]
noncomputable abbrev Bv:List MS:=[.asg (.nm 194) (.bin .Add (.bin .Add (.bin .Add (.bin .Add (.bin .Add (.v 194) (.cf 184 [.v 196])) (.cf 184 [.bin .Sub (.cb 9 [.v 115]) (.v 196)])) (.cf 184 [.cb 9 [.v 154]])) (.e9 (.v 115) (some (.v 196)) none)) (.v 154)),.asg (.nm 166) (.v 115),.asg (.nm 189) (.bin .FloorDiv (.v 189) (.int 3))]
noncomputable abbrev Bs:List MS:=.asg (.nm 196) (.int 0)::.ite (.an [.cmp .Gt (.cb 9 [.v 194]) (.int 0),.cmp .Eq (.bin .Mod (.v 189) (.int 3)) (.int 0)]) [.asg (.nm 195) (.bin .Add (.v 195) (.lst [.cb 9 [.v 194]]))] [.dj Bt Bu]::Bv
section
theorem aco {X:Ex->af->aa->Prop} {key last:List UInt8} (hk:key.length<=100) (hl:last.length<=100):
  ∀(q s:Nat) (ρ:af),s<=key.length->s<=last.length->key.take s=last.take s->key.length<s+q->get ρ 115=some (.bytes key)->get ρ 166=some (.bytes last)->get ρ 189=some (.int x)->get ρ 196=some (.int s)->
   (∀s',s'<=key.length->s'<=last.length->key.take s'=last.take s'->∀ρ',(∀y,y≠196->get ρ' y=get ρ y)->get ρ' 196=some (.int s')->N' ρ' σ)->
   dQ ⟨sc,d,true⟩ Bt Bu N' R X q ρ σ:=by
 intro bD
 induction bD with
 |zero=>
  intro s ρ h1 h2 h3 h4 g1 g2 g3 g4 k
  lia
 |succ q ih=>
  intro s ρ h1 h2 h3 h4 g1 g2 g3 g4 k
  have fin:N' ρ σ:=k s h1 h2 h3 ρ (λ_ _=>rfl) g4
  refine ey ?_
  lk
  refine aH (λhc=>?_) λhc=>b4 fin
  lk
  refine aH (λbB=>?_) λhc=>b4 fin
  lk
  refine⟨_,fR s rfl (a_.mp hc) (Mc hk),?_⟩
  lk
  refine⟨_,fR s rfl (a_.mp bB) (Mc hl),?_⟩
  lk
  refine aH (λdc=>?_) λhc=>b4 fin
  lk
  refine aH (λjT=>?_) λhc=>b4 fin
  lk
  rw[show(s:Int)+1=((s+1:Nat):Int) by exact(yL).symm]
  have e:key.take (s+1)=last.take (s+1):=by
   have q1:s<key.length:=by exact a_.mp hc
   have q2:s<last.length:=by exact a_.mp bB
   rw[wU,wU,h3,bQ q1,bQ q2]
   rw[be,be,bQ q1,bQ q2]at dc
   have:key[s]=last[s]:=UInt8.toNat_inj.mp (by simp at dc;exact cU.mp dc)
   rw[this]
  refine ih (s+1) _ (a_.mp hc) (a_.mp bB) e (tM h4) (by k_is) (by k_is) (by k_is) (by k_is) λs' a b c ρ' d1 d2=>k s' a b c ρ' (λy hy=>(d1 y hy).trans ?_) d2
  rw[cJ,if_neg hy]
theorem aba {X:Ex->af->aa->Prop}:
  ∀(ms:List Nat) (out:List UInt8) (ρ:af),out.length+4*ms.length<=1000000->get ρ 194=some (.bytes out)->(∀ρ',get ρ' 194=some (.bytes (out++ez ms))->(∀y,y≠194->y≠197->get ρ' y=get ρ y)->N' ρ' σ)->
   dP ⟨sc,d+1,true⟩ (.nm 197) [.asg (.nm 194) (.bin .Add (.v 194) (.cf 186 [.v 197,.int 4]))] N' R X (dN ms) ρ σ:=by
 intro bD
 induction bD with
 |nil=>
  intro out ρ hl g k
  exact k ρ (by rw[show out++ez []=out from ly _];exact g) λ_ _ _=>rfl
 |cons m ms ih=>
  intro out ρ hl g k
  replace hl:=ej▸hl
  refine⟨_,rfl,?_⟩
  lk
  refine sU (w:=4) d (by decide) ?_
  refine⟨_,b9 (by rw[jk];exact Am hl rfl),?_⟩
  lk
  refine ih (out++eU m 4) _ (by rw[bf,jk];lia) (by k_is) λρ' h1 h2=>k ρ' ?_ λy a b=>(h2 y a b).trans ?_
  ·rw[h1,dq];rfl
  ·rw[cJ,if_neg a,cJ,if_neg b]
theorem Rb {X:Ex->af->aa->Prop}:
  ∀(todo done:List KV) (out:List UInt8) (marks:List Nat) (off sh:Nat->Nat) (x:Nat) (ρ:af),Part done out marks off sh->(∀r∈todo,p9 r)->done.length+todo.length<=100->(i8 done done.length).length<=30->get ρ 194=some (.bytes out)->get ρ 195=some (.lst (dN marks))->get ρ 166=some (.bytes (i8 done done.length))->get ρ 189=some (.int x)->
   (∀zf kT abN sh' ρ',Part (done++todo) zf kT abN sh'->get ρ' 194=some (.bytes zf)->get ρ' 195=some (.lst (dN kT))->get ρ' 193=get ρ 193->N' ρ' σ)->
   dP ⟨sc,d+2,true⟩ (.tup [115,154]) Bs N' R X (todo.map gm) ρ σ:=by
 intro bD
 induction bD with
 |nil=>
  intro done out marks off sh x ρ P ok hl Jd g1 g2 g3 g4 k
  exact k out marks off sh ρ (by rw[ly];exact P) g1 g2 rfl
 |cons r todo ih=>
  intro done out marks off sh x ρ P ok hl Jd g1 g2 g3 g4 k
  obtain⟨r1,r2⟩:=ok r (.head _)
  have lO:=P.ol
  have eM:=P.ml
  replace hl:=ej▸hl
  have next:∀{ρ':af} {s:Nat} {kT:List Nat},s<=r.1.length->s<=(i8 done done.length).length->r.1.take s=(i8 done done.length).take s->(kT=marks\/(0<out.length/\s=0/\kT=marks++[out.length]))->get ρ' 196=some (.int s)->get ρ' 115=some (.bytes r.1)->get ρ' 154=some (.bytes r.2)->get ρ' 194=some (.bytes out)->get ρ' 195=some (.lst (dN kT))->get ρ' 189=some (.int x)->get ρ' 193=get ρ 193->
    aD ⟨sc,d+2,true⟩ Bv ρ' σ (λρ' σ'=>dP ⟨sc,d+2,true⟩ (.tup [115,154]) Bs N' R X (todo.map gm) ρ' σ') R X:=by
   intro ρ' s kT s1 s2 s3 hm a1 a2 a3 a4 a5 a6 a7
   have P':=P.snoc ⟨r1,r2⟩ s1 s2 s3 hm
   lk
   refine lR d (aaC r1 s1) ?_
   rw[EZ (Ln r1 s1)]
   refine⟨_,b9 (by simp;exact tN lO (ai (b6 _ _) hl) rfl),?_⟩
   lk
   rw[show(r.1.length:Int)-s=((r.1.length-s:Nat):Int) by exact(gR s1).symm]
   refine lR d (aaD r1) ?_
   rw[EZ (Lo r1)]
   refine⟨_,b9 (by simp;exact tN lO (ai (b6 _ _) hl) rfl),?_⟩
   lk
   refine lR d (aaE r2) ?_
   rw[EZ (Mb r2)]
   refine⟨_,b9 (by simp;exact tN lO (ai (b6 _ _) hl) rfl),?_⟩
   lk
   refine⟨_,rfl,aT _,?_⟩
   lk
   refine⟨_,gK (ai r1 (aG rfl)),?_⟩
   rw[xA r.1 s rfl]
   refine⟨_,b9 (by simp;exact ZS hl lO r1),?_⟩
   lk
   refine⟨_,b9 (by simp;exact ZT hl lO r1 r2),?_⟩
   lk
   have eo:out++[s.toUInt8]++[(r.1.length-s).toUInt8]++[r.2.length.toUInt8]++r.1.drop s++r.2=out++jQ s r:=by simp[jQ]
   rw[eo,show(x:Int)/3=((x/3:Nat):Int) by exact rfl.symm]
   have el:i8 (done++[r]) (done++[r]).length=r.1:=by
    rw[bf];exact vM
   refine ih (done++[r]) _ kT _ _ (x/3) _ P' (λy hy=>ok y (.tail _ hy)) (by rw[bf];simp;exact om hl) (by rw[el];exact r1) (by k_is) (by k_is) (by rw[el];k_is) (by k_is) λzf m' o' s' ot p1 p2 p3 p4=>k zf m' o' s' ot (by rw[List.append_cons];exact p1) p2 p3 (p4.trans ?_)
   rw[cJ,if_neg (by decide),cJ,if_neg (by decide),cJ,if_neg (by decide)]
   exact a7
  refine⟨put (put ρ 115 (.bytes r.1)) 154 (.bytes r.2),rfl,?_⟩
  have wh:∀{ρ':af},get ρ' 196=some (.int 0)->get ρ' 115=some (.bytes r.1)->get ρ' 154=some (.bytes r.2)->get ρ' 194=some (.bytes out)->get ρ' 195=some (.lst (dN marks))->get ρ' 166=some (.bytes (i8 done done.length))->get ρ' 189=some (.int x)->get ρ' 193=get ρ 193->
    SV ⟨sc,d+2,true⟩ (.dj Bt Bu) ρ' σ (λρ' σ'=>aD ⟨sc,d+2,true⟩ [] ρ' σ' (λρ' σ'=>aD ⟨sc,d+2,true⟩ Bv ρ' σ' (λρ' σ'=>dP ⟨sc,d+2,true⟩ (.tup [115,154]) Bs N' R X (todo.map gm) ρ' σ') R X) R X) R X:=by
   intro ρ' a1 a2 a3 a4 a5 a6 a7 a8
   refine gf (r.1.length+1) (aco (last:=i8 done done.length) (Md r1) (Md Jd) _ 0 ρ' (eQ _) (eQ _) (by simp) (cV _ _) a2 a6 a7 a1 λs' s1 s2 s3 ot e1 e2=>aE ?_)
   exact next s1 s2 s3 (.inl rfl) e2 ((e1 _ (by decide)).trans a2) ((e1 _ (by decide)).trans a3) ((e1 _ (by decide)).trans a4) ((e1 _ (by decide)).trans a5) ((e1 _ (by decide)).trans a7) ((e1 _ (by decide)).trans a8)
  lk
  refine aH (λhc=>?_) λhc=>?_
  ·lk
   refine aH (λbB=>?_) λbB=>?_
   ·lk
    refine⟨_,nz (by simp[dN];exact ZU hl eM),?_⟩
    have e:dN marks++[PV.int (out.length:Int)]=dN (marks++[out.length]):=by simp[dN]
    rw[e]
    refine aE ?_
    exact next (s:=0) (eQ _) (eQ _) rfl (.inr ⟨a_.mp hc,rfl,rfl⟩) (by k_is) (by k_is) (by k_is) (by k_is) (by k_is) (by k_is) (by rw[cJ,if_neg (by decide),cJ,if_neg (by decide),cJ,if_neg (by decide),cJ,if_neg (by decide)])
   ·refine b4 (aA ?_)
    exact wh (by k_is) (by k_is) (by k_is) (by k_is) (by k_is) (by k_is) (by k_is) (by rw[cJ,if_neg (by decide),cJ,if_neg (by decide),cJ,if_neg (by decide)])
  ·refine b4 (aA ?_)
   exact wh (by k_is) (by k_is) (by k_is) (by k_is) (by k_is) (by k_is) (by k_is) (by rw[cJ,if_neg (by decide),cJ,if_neg (by decide),cJ,if_neg (by decide)])
theorem De (n:Nat) {rows:List KV} {x:Nat} {bad:Bool} (ok:∀r∈rows,p9 r) (hl:rows.length<=100) (h:∀B,kA B rows bad->Q (.bytes B.D) σ):Call (n+3) true 939 [.lst (rows.map gm),.int x,.bytes (cj bad)] σ Q X:=by
 refine aK Up rfl ?_
 lk
 refine xb rfl ?_
 lk
 refine⟨_,rfl,?_⟩
 have sI:(cj bad).length<=4:=by unfold cj;split<;>decide
 refine Rb rows [] [] [0] _ _ x _ Part.nil ok (by simpa using hl) (by decide) rfl rfl rfl rfl λout marks off sh ρ P g1 g2 g3=>?_
 rw[bL]at P
 have g3:get ρ 193=some (.bytes (cj bad)):=g3
 have ol:=P.ol
 have ml:=P.ml
 lk
 refine⟨_,b9 (ZV ol hl sI),?_⟩
 lk
 refine xb rfl ?_
 lk
 refine⟨_,rfl,?_⟩
 refine aba marks (out++cj bad) _ (by rw[bf];exact ZW ml ol hl sI) (by k_is) λρ' h1 h2=>?_
 have g5:get ρ' 195=some (.lst (dN marks)):=(h2 _ (by decide) (by decide)).trans (by k_is)
 lk
 refine⟨_,dD (by rw[iN];lia),?_⟩
 rw[iN]
 lk
 refine sU (w:=4) (n+1) (by decide) ?_
 refine⟨_,b9 (by rw[jk];simp only[bf,jS];exact ZX ml ol hl sI),?_⟩
 refine h (fK rows out marks off sh (cj bad)) (P.made hl (λi hi=>?_) bad)
 have:=ok (rows[i]) (kx hi)
 unfold cP eG
 rw[be,bQ hi]
 exact this
noncomputable def rb (l:List UInt8):Nat:=(l.map λx=>x.toNat).sum
noncomputable def cO (B:List UInt8) (fault:Nat):List UInt8:=B++[if fault=1 then 3 else 0]
noncomputable def cR (B:List UInt8) (fault:Nat):List UInt8:=cO B fault++eU (rb (cO B fault)*251+(cO B fault).length*65537+7+if fault=2 then 1 else 0) 4
theorem yn (n:Nat) {B:List UInt8} {fault:Nat} (hl:B.length<=100000) (h:Q (.bytes (cR B fault)) σ):Call (n+2) true 946 [.bytes B,.int fault] σ Q X:=by
 refine aK UC rfl ?_
 have fin2:∀{q:Nat},(q=if fault=2 then 1 else 0)->Call (n+1) true 904 [.int (jw (cO B fault)*251+((cO B fault).length:Int)*65537+7+(q:Int)),.int 4] σ (B1 .Add Q (.bytes (cO B fault))) (λex σ'=>X ex σ'):=by
  intro q hq
  have i4:(cO B fault).length<=100001:=by simp[cO];exact Me hl
  have e:jw (cO B fault)*251+((cO B fault).length:Int)*65537+7+(q:Int)=((rb (cO B fault)*251+(cO B fault).length*65537+7+q:Nat):Int):=by unfold jw rb;exact rfl.symm
  refine aj (e)▸?_
  refine sU (w:=4) n (by decide) ?_
  refine⟨_,b9 (by rw[jk];exact ai (dW i4 _) (aG rfl)),?_⟩
  refine aj (hq)▸?_
  exact h
 have fin:∀{sc:b7} {ρ:af},get ρ 198=some (.int fault)->get ρ 109=some (.bytes (cO B fault))->aD ⟨sc,n+1,true⟩ [.asg (.nm 199) (.bin .Add (.bin .Add (.bin .Add (.bin .Mult (.cb 21 [.v 109]) (.int 251)) (.bin .Mult (.cb 9 [.v 109]) (.int 65537))) (.int 7)) (.ite (.cmp .Eq (.v 198) (.int 2)) (.int 1) (.int 0))),.ret (some (.bin .Add (.v 109) (.cf 186 [.v 199,.int 4])))] ρ σ (λ_ σ'=>Q .none σ') Q (λex _ σ'=>X ex σ'):=by
  intro sc ρ g1 g2
  have i4:(cO B fault).length<=100001:=by simp[cO];exact Me hl
  lk
  refine⟨_,Hq (ai i4 (aG rfl)),?_⟩
  lk
  refine aH (λhc=>?_) λhc=>?_
  ·lk
   exact fin2 (q:=1) (by rw[if_pos ((ta hc).symm)])
  ·lk
   exact fin2 (q:=0) (by rw[if_neg (yM hc)])
 lk
 refine aH (λhc=>?_) λhc=>?_
 ·refine aI ?_
  refine bc ⟨by decide,?_⟩
  refine bc ?_
  refine⟨_,nH (ns:=[3]) (λx hx=>by simp at hx;lia) (aG rfl),?_⟩
  refine⟨_,b9 (by show B.length+1<=_;exact Mf hl),?_⟩
  refine fin rfl ?_
  have:cO B fault=B++dO [3]:=by unfold cO;refine aj (if_pos ((tc hc).symm))▸?_;rfl
  refine aj (this)▸?_;rfl
 ·refine aI ?_
  refine bc ⟨by decide,?_⟩
  refine bc ?_
  refine⟨_,nH (ns:=[0]) (λx hx=>by simp at hx;lia) (aG rfl),?_⟩
  refine⟨_,b9 (by show B.length+1<=_;exact Mf hl),?_⟩
  refine fin rfl ?_
  have:cO B fault=B++dO [0]:=by unfold cO;refine aj (if_neg (vT hc))▸?_;rfl
  refine aj (this)▸?_;rfl
noncomputable def fW (off len fault:Nat):List UInt8:=bP (off+if fault=4 then 2000 else 0)++bP len++(if fault=3 then[1]else[])
theorem jy (v:Nat):(bP v).length<=2:=by unfold bP;split<;>simp
theorem Di (n:Nat) {off fault:Nat} {B:List UInt8} (h1:off<10000) (h2:B.length<10000) (h:Q (.bytes (fW off B.length fault)) σ):Call (n+3) true 953 [.int off,.bytes B,.int fault] σ Q X:=by
 refine aK Uy rfl ?_
 have fin2:∀{sc:b7} {ρ:af},get ρ 198=some (.int fault)->get ρ 201=some (.bytes (bP (off+if fault=4 then 2000 else 0)++bP B.length))->aD ⟨sc,n+2,true⟩ [.ret (some (.bin .Add (.v 201) (.ite (.cmp .Eq (.v 198) (.int 3)) (.aQ [1]) (.aQ []))))] ρ σ (λ_ σ'=>Q .none σ') Q (λex _ σ'=>X ex σ'):=by
  intro sc ρ g1 g2
  have q1:=jy (off+if fault=4 then 2000 else 0)
  have q2:=jy B.length
  unfold fW at h
  lk
  refine aH (λhc=>?_) λhc=>?_
  ·rw[if_pos (show fault=3 by exact(yN hc).symm)]at h
   lk
   exact⟨_,b9 (by refine aj (bf)▸?_;simp;exact ai (aM q1 q2) (aG rfl)),h⟩
  ·rw[if_neg (show¬fault=3 by exact vU hc)]at h
   lk
   exact⟨_,b9 (by refine aj (bf)▸?_;simp;exact DH q1 q2),h⟩
 lk
 refine aH (λhc=>?_) λhc=>?_
 ·lk
  refine lR (v:=off+2000) n (aaF h1) ?_
  have q1:=jy (off+2000)
  have q2:=jy B.length
  lk
  refine lR n (yO h2) ?_
  refine⟨_,b9 (DH q1 q2),?_⟩
  exact fin2 rfl (by refine aj (if_pos (show fault=4 by exact(KH hc).symm))▸?_;rfl)
 ·lk
  refine lR (v:=off+0) n (yO h1) ?_
  have q1:=jy (off+0)
  have q2:=jy B.length
  lk
  refine lR n (yO h2) ?_
  refine⟨_,b9 (DH q1 q2),?_⟩
  exact fin2 rfl (by refine aj (if_neg (show¬fault=4 by exact DI hc))▸?_;rfl)
end
end
section
noncomputable def iQ (w:Nat):List UInt8:=if w=1\/w=5 then bV 8 255++[2]else if w=2 then bV 8 0++[2]else if w≠4 then bV 8 0++[31]else[]
noncomputable def spS (w:Nat):Bool:=!(decide ((2:Int)=w)||(decide ((4:Int)=w)||false))
noncomputable def bU (ws:List Nat):List UInt8:=ws.flatMap iQ
noncomputable def g_ (ws:List Nat):List Nat:=(aW ws.length).map λi=>(bU (ws.take i)).length
theorem Nm (ws:List Nat) (w:Nat):bU (ws++[w])=bU ws++iQ w:=by simp[bU]
theorem acF (ws:List Nat) (w:Nat):g_ (ws++[w])=g_ ws++[(bU ws).length]:=by
 unfold g_
 rw[bf,show ws.length+[w].length=ws.length+1 from rfl,PQ,t6,List.map_singleton,wW]
 congr 1
 refine qd λi hi=>?_
 rw[List.take_append_of_le_length (bx (hZ.mp hi))]
theorem Iv (ms:List Nat) (m:Nat):ez (ms++[m])=ez ms++eU m 4:=by simp[ez]
theorem acE (w:Nat):(iQ w).length<=9:=by
 unfold iQ
 split
 ·simp
 ·split
  ·simp
  ·split<;>simp
theorem acG (a b:List Nat):bU (a++b)=bU a++bU b:=by simp[bU]
theorem zF:∀ws:List Nat,(bU ws).length<=9*ws.length
 |[]=>by decide
 |w::ws=>by
  have:=acE w
  have:=zF ws
  show(iQ w++bU ws).length<=_
  rw[bf,ej];exact ZY this ‹_›
noncomputable def mc (ws:List Nat):List UInt8:=bU ws++ez (g_ ws++[(bU ws).length])++[6]
theorem lu (ws:List Nat):(g_ ws).length=ws.length:=by simp[g_]
theorem acH (ws:List Nat) (h3:ws.length<=3):Flt (mc ws) (bU ws).length ws.length (λi=>(ws.map spS).getD i true):=by
 have l1:=zF ws
 have hlen:(mc ws).length=(bU ws).length+4*(ws.length+1)+1:=by
  unfold mc;simp only[bf,jS,lu,ej,lz]
 have M0:∀i,i<=ws.length->(bU (ws.take i)).length<=(bU ws).length:=λi _=>by
  have:bU ws=bU (ws.take i)++bU (ws.drop i):=by unfold bU;rw[<-List.flatMap_append,wV]
  rw[this,bf];exact b6 _ _
 have abg:∀i,i<=ws.length->(g_ ws++[(bU ws).length])[i]?=some (bU (ws.take i)).length:=λi hi=>by
  by_cases q:i<ws.length
  ·rw[tZ (by rw[lu];exact q)]
   unfold g_
   rw[mj,PD q];rfl
  ·have:i=ws.length:=by exact qP hi q
   subst this
   rw[p_ (by rw[lu];exact aP _),lu,Qb,PR];rfl
 have Du:∀i,i<=ws.length->eH (mc ws) ((bU ws).length+4*i)=(bU (ws.take i)).length:=λi hi=>by
  obtain⟨r,hr⟩:=B6 (abg i hi)
  rw[yz (n:=(bU (ws.take i)).length) (r:=r++[6]) (by
   unfold mc
   rw[dq,<-oF,kv,wM (by rw[jS,bf,lu];simp;exact bT _ (Gp hi)),hr,dq])]
  have:=M0 i hi
  exact ub (ZZ l1 h3 this)
 refine⟨Z0 l1 h3 hlen,hlen.symm,?_,?_,λi hi=>?_⟩
 ·have:=Du ws.length (aP _)
  rw[PR]at this
  rw[hlen,show(bU ws).length+4*(ws.length+1)+1-5=(bU ws).length+4*ws.length by exact rfl]
  exact this
 ·unfold oct
  rw[hlen,w1]
  unfold mc
  rw[be,p_ (by simp only[bf,jS,lu,ej,lz];exact aP _)]
  rw[show(bU ws).length+4*(ws.length+1)-(bU ws++ez (g_ ws++[(bU ws).length])).length=0 by simp only[bf,jS,lu,ej,lz];lia]
  rfl
 ·obtain⟨w,hw⟩:∃w,ws[i]?=some w:=⟨_,bQ hi⟩
  have tk:ws.take (i+1)=ws.take i++[w]:=by rw[wU,hw];rfl
  have e1:bU (ws.take (i+1))=bU (ws.take i)++iQ w:=by rw[tk,Nm]
  have says:(ws.map spS).getD i true=spS w:=by
   rw[be,mj,hw];rfl
  have dr:∃r,(mc ws).drop (bU (ws.take i)).length=iQ w++r:=by
   have:=acG (ws.take (i+1)) (ws.drop (i+1))
   rw[wV,e1,dq]at this
   unfold mc
   generalize ez (g_ ws++[(bU ws).length])=F
   rw[this]
   refine⟨bU (ws.drop (i+1))++(F++[6]),?_⟩
   rw[dq,dq,kv,dq]
  obtain⟨r,dr⟩:=dr
  have og:∀j,oct (mc ws) ((bU (ws.take i)).length+j)=((iQ w++r).getD j 0).toNat:=λj=>by unfold oct;rw[oZ,dr]
  refine⟨_,_,Du i (bx hi),by rw[lD];exact Du (i+1) (hi),M0 (i+1) (hi),?_⟩
  rw[e1,bf,says]
  by_cases h1:w=1\/w=5
  ·have eb:iQ w=bV 8 255++[2]:=if_pos h1
   rw[eb]at og⊢
   refine .inr ⟨rfl,.inr (.inl ⟨?_,og 8,λj hj=>?_⟩)⟩
   ·unfold spS;rcases h1 with rfl|rfl<;>rfl
   ·rw[og j]
    rcases(show j=0\/j=1\/j=2\/j=3\/j=4\/j=5\/j=6\/j=7 by exact DJ hj)with rfl|rfl|rfl|rfl|rfl|rfl|rfl|rfl<;>rfl
  ·by_cases h2:w=2
   ·have eb:iQ w=bV 8 0++[2]:=by unfold iQ;rw[if_neg h1,if_pos h2]
    rw[eb]at og⊢
    refine .inr ⟨rfl,.inr (.inr ⟨?_,og 8,λj hj=>?_⟩)⟩
    ·subst h2;rfl
    ·rw[og j]
     rcases(show j=0\/j=1\/j=2\/j=3\/j=4\/j=5\/j=6\/j=7 by exact DJ hj)with rfl|rfl|rfl|rfl|rfl|rfl|rfl|rfl<;>rfl
   ·by_cases h4:w=4
    ·have eb:iQ w=[]:=by unfold iQ;rw[if_neg h1,if_neg h2,if_neg λz=>z h4]
     rw[eb]
     exact .inl ⟨rfl,by subst h4;rfl⟩
    ·have eb:iQ w=bV 8 0++[31]:=by unfold iQ;rw[if_neg h1,if_neg h2,if_pos h4]
     rw[eb]at og⊢
     refine .inr ⟨rfl,.inl ⟨?_,og 8⟩⟩
     unfold spS
     rw[decide_eq_false (by exact Ov h2),decide_eq_false (by exact Ov h4)];rfl
section
noncomputable abbrev EN:List MS:=[.asg (.nm 204) (.cf 188 [.v 179,.v 1,.int 6]),.asg (.nm 202) (.bin .Add (.v 202) (.lst [.cmp .NotIn (.v 204) (.tup [.int 2,.int 4])])),.asg (.nm 203) (.bin .Add (.v 203) (.cf 186 [.cb 9 [.v 194],.int 4])),.ite (.or [.cmp .Eq (.v 204) (.int 1),.cmp .Eq (.v 204) (.int 5)]) [.asg (.nm 194) (.bin .Add (.v 194) (.cb 36 [.bin .Add (.rep [.int 255] (.int 8)) (.lst [.int 2])]))] [.ite (.cmp .Eq (.v 204) (.int 2)) [.asg (.nm 194) (.bin .Add (.bin .Add (.v 194) (.cb 36 [.int 8])) (.aQ [2]))] [.ite (.cmp .NotEq (.v 204) (.int 4)) [.asg (.nm 194) (.bin .Add (.bin .Add (.v 194) (.cb 36 [.int 8])) (.aQ [31]))] []]]]
theorem acI {X:Ex->af->aa->Prop} (ht:aC≠[]) (hz:aC.length<=1000):
  ∀(xs:List PV) (ws:List Nat) (k:Nat) (ρ:af),ws.length+xs.length<=3->get ρ 179=some (.lst (aZ aC))->get ρ 1=some (.ref a)->get ρ 202=some (.lst ((ws.map spS).map PV.bool))->get ρ 194=some (.bytes (bU ws))->get ρ 203=some (.bytes (ez (g_ ws)))->
   (∀(zY:List Nat) k' ρ',zY.length<=3->get ρ' 202=some (.lst ((zY.map spS).map PV.bool))->get ρ' 194=some (.bytes (bU zY))->get ρ' 203=some (.bytes (ez (g_ zY)))->N' ρ' (upd σ a (.av [.int (k':Nat)])))->
   dP ⟨sc,n+1,true⟩ (.nm 183) EN N' R X xs ρ (upd σ a (.av [.int k])):=by
 intro xs
 induction xs with
 |nil=>intro ws k ρ hl g1 g2 g3 g4 g5 kN;exact kN ws k ρ (by simpa using hl) g3 g4 g5
 |cons x xs ih=>
  intro ws k ρ hl g1 g2 g3 g4 g5 kN
  rw[ej]at hl
  have l1:=zF ws
  refine⟨_,rfl,?_⟩
  lk
  refine i7 (m:=6) n ht hz ⟨k,ay _ _ _⟩ (by decide) λw k' hw=>?_
  rw[aL]
  lk
  refine⟨_,RU (b:=decide ((2:Int)=w)||(decide ((4:Int)=w)||false)) rfl,?_⟩
  lk
  refine⟨_,nz (by simp;exact zb hl rfl),?_⟩
  lk
  refine sU (w:=4) n (by decide) ?_
  refine⟨_,b9 (by rw[jk,jS,lu];exact Z1 hl),?_⟩
  have es:((ws.map spS).map PV.bool)++[.bool (!(decide ((2:Int)=w)||(decide ((4:Int)=w)||false)))]=((ws++[w]).map spS).map PV.bool:=by simp[spS]
  have ef:ez (g_ ws)++eU (bU ws).length 4=ez (g_ (ws++[w])):=by rw[acF,Iv]
  rw[es,ef]
  have go:∀{ρ':af},get ρ' 179=some (.lst (aZ aC))->get ρ' 1=some (.ref a)->get ρ' 202=some (.lst (((ws++[w]).map spS).map PV.bool))->get ρ' 194=some (.bytes (bU (ws++[w])))->get ρ' 203=some (.bytes (ez (g_ (ws++[w]))))->dP ⟨sc,n+1,true⟩ (.nm 183) EN N' R X xs ρ' (upd σ a (.av [.int (k':Nat)])):=λa1 a2 a3 a4 a5=>
   ih (ws++[w]) k' _ (by rw[bf];simp;exact om hl) a1 a2 a3 a4 a5 kN
  rw[Nm]at go
  unfold iQ at go
  lk
  by_cases h1:w=1\/w=5
  ·rw[if_pos h1]at go
   have tl:∀{ρ':af},get ρ' 179=some (.lst (aZ aC))->get ρ' 1=some (.ref a)->get ρ' 202=some (.lst (((ws++[w]).map spS).map PV.bool))->get ρ' 194=some (.bytes (bU ws))->get ρ' 203=some (.bytes (ez (g_ (ws++[w]))))->aD ⟨sc,n+1,true⟩ [.asg (.nm 194) (.bin .Add (.v 194) (.cb 36 [.bin .Add (.rep [.int 255] (.int 8)) (.lst [.int 2])]))] ρ' (upd σ a (.av [.int (k':Nat)])) (λρ' σ'=>aD ⟨sc,n+1,true⟩ [] ρ' σ' (λρ' σ'=>dP ⟨sc,n+1,true⟩ (.nm 183) EN N' R X xs ρ' σ') R X) R X:=by
    intro ρ' a1 a2 a3 a4 a5
    lk
    refine⟨_,rfl,by decide,by decide,?_⟩
    lk
    refine⟨_,nz (by decide),?_⟩
    lk
    refine⟨_,nH (ns:=bV 8 255++[2]) (by decide) (by decide),?_⟩
    refine⟨_,b9 (by show _+9<=_;exact zmr l1 (ai (b6 _ _) hl) rfl),?_⟩
    repeat(refine aE ?_)
    exact go (by k_is) (by k_is) (by k_is) (by k_is) (by k_is)
   rcases h1 with rfl|rfl
   ·refine BA rfl ?_
    refine du ?_
    exact tl (by k_is) (by k_is) (by k_is) (by k_is) (by k_is)
   ·refine uA (by decide) ?_
    refine jG (aY (aq (by k_is) (aI ⟨_,dw,?_⟩)))
    refine BA rfl ?_
    refine du ?_
    exact tl (by k_is) (by k_is) (by k_is) (by k_is) (by k_is)
  ·rw[if_neg h1]at go
   refine uA (by lia) ?_
   refine jG (aY (aq (by k_is) (aI ⟨_,dw,?_⟩)))
   refine uA (by lia) ?_
   refine rN (b4 ?_)
   refine aA (bR (aY (aq (by k_is) (aI ⟨_,dw,?_⟩))))
   by_cases h2:w=2
   ·rw[if_pos h2]at go
    refine jN (by lia) ?_
    lk
    refine⟨_,xu (by decide) (by decide),?_⟩
    refine⟨_,b9 (by simp;exact KI hl l1),?_⟩
    refine mz ?_
    refine⟨_,b9 (by simp;exact KJ hl l1),?_⟩
    rw[dq]
    repeat(refine aE ?_)
    exact go (by k_is) (by k_is) (by k_is) (by k_is) (by k_is)
   ·rw[if_neg h2]at go
    refine jM (Ou h2) ?_
    refine aA (bR (aY (aq (by k_is) (aI ⟨_,qt,?_⟩))))
    by_cases h4:w=4
    ·rw[if_neg λz=>z h4,ly]at go
     refine jM (by lia) ?_
     repeat(refine aE ?_)
     exact go (by k_is) (by k_is) (by k_is) (by k_is) (by k_is)
    ·rw[if_pos h4]at go
     refine jN (Ou h4) ?_
     lk
     refine⟨_,xu (by decide) (by decide),?_⟩
     refine⟨_,b9 (by simp;exact KI hl l1),?_⟩
     refine mz ?_
     refine⟨_,b9 (by simp;exact KJ hl l1),?_⟩
     rw[dq]
     repeat(refine aE ?_)
     exact go (by k_is) (by k_is) (by k_is) (by k_is) (by k_is)
theorem Yc (n:Nat) {aC:List Int} {a:Nat} (ht:aC≠[]) (hz:aC.length<=1000) (ha:∃k:Nat,σ a=some (.av [.int k]))
  (h:∀(says:List Bool) (FD:List UInt8) (k':Nat),says.length<=3->(∃cg,Flt FD cg says.length λi=>says.getD i true)->FD.length<=100->Q (.tup [.lst (says.map PV.bool),.bytes FD]) (upd σ a (.av [.int k']))):Call (n+2) true 960 [.lst (aZ aC),.ref a] σ Q X:=by
 refine aK UE rfl ?_
 lk
 refine oP rfl ?_
 lk
 refine i7 (m:=4) n ht hz ha (by decide) λv k' hv=>?_
 refine⟨_,rfl,Fl hv rfl,aT _,?_⟩
 rw[show((v:Int)).toNat=v by lia]
 refine acI ht hz _ [] k' _ (by simp;exact t9 hv) rfl rfl rfl rfl rfl λws iH ρ hl g3 g4 g5=>?_
 have l1:=zF ws
 lk
 refine⟨_,b9 (by rw[jS,lu];exact Z2 l1 hl),?_⟩
 lk
 refine sU (w:=4) n (by decide) ?_
 refine⟨_,b9 (by rw[jk,bf,jS,lu];exact Z3 l1 hl),?_⟩
 lk
 refine⟨_,b9 (by rw[bf,jk,bf,jS,lu];simp;exact Z4 l1 hl),?_⟩
 have e:bU ws++ez (g_ ws)++eU (bU ws).length 4++[6]=mc ws:=by
  unfold mc;rw[Iv,dq (bU ws)]
 rw[e]
 lk
 refine h _ _ iH (by simpa using hl) ⟨(bU ws).length,by rw[f'];exact acH ws hl⟩ ?_
 rw[<-e]
 simp only[bf,jS,lu,jk,ej,lz];exact Z5 l1 hl
end
end
section
noncomputable abbrev da (b:List KN):PV:=.lst (b.map bn)
noncomputable abbrev eZ (r:KN×Nat):PV:=.tup [bn r.1,.int r.2]
theorem MA (x:KN):aX x x=false:=Ew
theorem v7 {x y z:KN} (h:aX x y=true) (g:aX y z=true):aX x z=true:=M' h g
theorem aby {x y:KN} (h:aX x y=true):aX x (y.1,0)=true:=by
 unfold aX at*
 rw[kc]at*
 rcases h with h|⟨h1,h2⟩
 ·exact .inl h
 ·exact .inr ⟨h1,by show(0:Int)-x.2<0-((0:Nat):Int);lia⟩
structure jh (bs:List (List KN)) (rs:List (KN×Nat)):Prop where
 bl:bs.length<=5
 b:∀b∈bs,b.length<=2/\hW b/\∀z∈b,fh z
 rl:rs.length<=5
 g':hW (rs.map (·.1))
 ro:∀r∈rs,fh r.1/\r.2<bs.length
noncomputable abbrev zL:ME:=.cmp .Gt (.cb 9 [.v 187]) (.int 0)
noncomputable abbrev wu:List MS:=[.asg (.nm 192) (.bin .Add (.v 192) (.lst [.tup [.v 208,.cb 9 [.v 205]]])),.asg (.nm 205) (.bin .Add (.v 205) (.lst [.e9 (.v 187) none (some (.v 5))])),.asg (.nm 187) (.e9 (.v 187) (some (.v 5)) none)]
noncomputable abbrev zK:List MS:=.asg (.nm 5) (.cb 207 [.cb 9 [.v 187],.bin .Add (.int 1) (.cf 188 [.v 179,.v 1,.int 2])])::.asg (.nm 208) (.idx (.v 187) (.bin .Sub (.v 5) (.int 1)))::.asg (.nm 125) (.tup [.idx (.v 208) (.int 0),.int 0])::.ite (.an [.cmp .Eq (.cf 188 [.v 179,.v 1,.int 2]) (.int 0),.or [.cmp .Eq (.cb 9 [.v 187]) (.v 5),.cmp .Lt (.cf 191 [.v 125]) (.cf 191 [.idx (.v 187) (.v 5)])]]) [.asg (.nm 208) (.v 125)] []::wu
theorem R2 (ps:List KN) (n:Nat) {i:Int} (h:i=n):cut (ps.map bn) none (some i)=(ps.take n).map bn:=by rw[uN _ n h,PJ]
section
theorem ac0 {m:Nat} {X:Ex->af->aa->Prop} {ps:List KN} (hp:ps.length<=5) (hb:bs.length<=5) (hr:rs.length<=5) (hm:m<=ps.length) (g1:get ρ 208=some (bn sep)) (g2:get ρ 192=some (.lst (rs.map eZ))) (g3:get ρ 205=some (.lst (bs.map da))) (g4:get ρ 187=some (.lst (ps.map bn))) (g5:get ρ 5=some (.int m))
  (k:∀ρ',get ρ' 192=some (.lst ((rs++[(sep,bs.length)]).map eZ))->get ρ' 205=some (.lst ((bs++[ps.take m]).map da))->get ρ' 187=some (.lst ((ps.drop m).map bn))->get ρ' 179=get ρ 179->get ρ' 1=get ρ 1->N' ρ' σ):aD ⟨sc,n,true⟩ wu ρ σ N' R X:=by
 lk
 refine⟨_,dD (by simp;exact n7 hb),?_⟩
 lk
 refine⟨_,nz (by simp;exact DK hr),?_⟩
 have e1:rs.map eZ++[PV.tup [bn sep,.int ((bs.map da).length:Int)]]=(rs++[(sep,bs.length)]).map eZ:=by simp
 rw[e1]
 lk
 refine⟨_,rfl,aT _,_,EJ (by simp;exact n7 hp),?_⟩
 rw[R2 ps m rfl]
 lk
 refine⟨_,nz (by simp;exact DK hb),?_⟩
 have e2:bs.map da++[PV.lst ((ps.take m).map bn)]=(bs++[ps.take m]).map da:=by simp
 rw[e2]
 lk
 refine⟨_,rfl,aT _,?_⟩
 lk
 refine⟨_,EJ (by simp;exact n7 hp),?_⟩
 rw[xA (ps.map bn) m rfl,<-List.map_drop]
 lk
 refine k _ (by k_is) (by k_is) (by k_is) ?_ ?_
 ·rw[cJ,if_neg (by decide),cJ,if_neg (by decide),cJ,if_neg (by decide)]
 ·rw[cJ,if_neg (by decide),cJ,if_neg (by decide),cJ,if_neg (by decide)]
inductive Qi (bs:List (List KN)) (rs:List (KN×Nat)) (ps:List KN):Prop
 |mk (c1:jh bs rs) (c2:hW ps) (c3:∀z∈ps,fh z) (c4:∀r∈rs,∀z∈ps,aX r.1 z=true) (c5:rs.length=bs.length) (c6:bs.length+ps.length<=5)
theorem ab0 {ps:List KN} {m:Nat} {s:KN} (K:jh bs rs) (sp:hW ps) (po:∀z∈ps,fh z) (lo:∀r∈rs,∀z∈ps,aX r.1 z=true) (le:rs.length=bs.length) (l5:bs.length+ps.length<=5) (jm:1<=m) (vn:m<=2) (eM:m<=ps.length) (hs:ps[m-1]?=some s)
  (vu:sep=s\/(sep=(s.1,0)/\(ps.length=m\/∃y,ps[m]?=some y/\aX (s.1,0) y=true))):
  Qi (bs++[ps.take m]) (rs++[(sep,bs.length)]) (ps.drop m):=by
 have sO:=gc hs
 have gt:=rB.mp sp
 have ok:fh sep:=by
  rcases vu with rfl|⟨rfl,_⟩
  ·exact po _ sO
  ·exact⟨(po _ sO).1,Nat.zero_lt_succ _⟩
 have YS:∀r∈rs,aX r.1 sep=true:=λr hr=>by
  rcases vu with rfl|⟨rfl,_⟩
  ·exact lo r hr _ sO
  ·exact aby (lo r hr _ sO)
 have sm:∀z∈ps.drop m,∃i,∃(h:i<ps.length),m<=i/\ps[i]=z:=λz hz=>by
  obtain⟨j,hj,e⟩:=AV.mp hz
  rw[PE]at e
  rw[m_]at hj
  exact⟨m+j,Z6 hj,b6 _ _,e⟩
 obtain⟨WD,pB⟩:=eh.mp hs
 have up:∀z∈ps.drop m,aX sep z=true:=λz hz=>by
  obtain⟨i,hi,xX,rfl⟩:=sm z hz
  rcases vu with rfl|⟨rfl,e|⟨y,hy,e⟩⟩
  ·refine(pB)▸?_;exact gt _ _ WD hi (DL jm xX)
  ·lia
  ·obtain⟨h1,h2⟩:=eh.mp hy
   by_cases q:m=i
   ·subst q;refine aj (h2)▸?_;exact e
   ·exact v7 e (by refine(h2)▸?_;exact gt _ _ h1 hi (yP xX q))
 refine⟨⟨by simp;exact Z7 l5 jm eM,λb hb=>?_,by simp;exact Z8 l5 jm eM le,?_,λr hr=>?_⟩,sp.sublist (List.drop_sublist m ps),λz hz=>po z (PL hz),λr hr z hz=>?_,by simp;exact le,by simp;exact Z9 l5 jm eM⟩
 ·rcases lA.mp hb with hb|hb
  ·exact K.b b hb
  ·simp at hb
   subst hb
   exact⟨by refine aj (gu)▸?_;exact zao vn rfl,sp.sublist (List.take_sublist m ps),λz hz=>po z (List.mem_of_mem_take hz)⟩
 ·refine aj (t6)▸?_
  refine PN.mpr ⟨K.g',by simp,λx hx y hy=>?_⟩
  obtain⟨r,hr,rfl⟩:=gS.mp hx
  simp at hy
  subst hy
  exact YS r hr
 ·refine aj (bf)▸?_
  rcases lA.mp hr with hr|hr
  ·have:=K.ro r hr
   exact⟨this.1,by have:=this.2;simp;lia⟩
  ·simp at hr
   subst hr
   exact⟨ok,by simp⟩
 ·rcases lA.mp hr with hr|hr
  ·exact lo r hr z (PL hz)
  ·simp at hr
   subst hr
   exact up z hz
theorem acZ {X:Ex->af->aa->Prop} (ht:aC≠[]) (hz:aC.length<=1000):
  ∀(q:Nat) (ps:List KN) (bs:List (List KN)) (rs:List (KN×Nat)) (k:Nat) (ρ:af),ps.length<q->jh bs rs->hW ps->(∀z∈ps,fh z)->(∀r∈rs,∀z∈ps,aX r.1 z=true)->rs.length=bs.length->bs.length+ps.length<=5->get ρ 179=some (.lst (aZ aC))->get ρ 1=some (.ref a)->get ρ 187=some (.lst (ps.map bn))->get ρ 205=some (.lst (bs.map da))->get ρ 192=some (.lst (rs.map eZ))->
   (∀(iV:List (List KN)) (pS:List (KN×Nat)) k' ρ',jh iV pS->get ρ' 205=some (.lst (iV.map da))->get ρ' 192=some (.lst (pS.map eZ))->N' ρ' (upd σ a (.av [.int (k':Nat)])))->
   dQ ⟨sc,n+1,true⟩ zL zK N' R X q ρ (upd σ a (.av [.int k])):=by
 intro bD
 induction bD with
 |zero=>
  intro ps _ _ _ _ h _ _ _ _ _ _ _ _ _ _ _ _
  lia
 |succ q ih=>
  intro ps bs rs k ρ h K sp po lo le l5 g1 g2 g3 g4 g5 kN
  refine ey ?_
  lk
  refine⟨_,dD (by simp;exact zc l5 rfl),?_⟩
  rw[f']
  lk
  refine aH (λhc=>?_) λhc=>kN bs rs k ρ K g4 g5
  lk
  refine⟨_,dD (by simp;exact zc l5 rfl),?_⟩
  rw[f']
  lk
  refine i7 (m:=2) n ht hz ⟨k,ay _ _ _⟩ (by decide) λv k' hv=>?_
  rw[aL]
  lk
  refine⟨_,Ry,?_⟩
  obtain⟨m,em,jm,vn,eM⟩:∃m:Nat,(if(1+(v:Int))<(ps.length:Int)then 1+(v:Int)else(ps.length:Int))=(m:Int)/\1<=m/\m<=2/\m<=ps.length:=by
   by_cases q:(1+(v:Int))<(ps.length:Int)
   ·exact⟨1+v,by rw[if_pos q];exact rfl.symm,b6 _ _,by lia,by lia⟩
   ·exact⟨ps.length,by rw[if_neg q],a_.mp hc,Z_ hv q,aP _⟩
  rw[em]
  obtain⟨s,hs⟩:∃s,ps[m-1]?=some s:=⟨_,bQ (DL jm eM)⟩
  lk
  refine⟨_,gk (p:=bn s) (by lia) (by exact Z' l5 eM) (by rw[show((m:Int)-1).toNat=m-1 by exact yG,mj,hs];rfl),?_⟩
  lk
  have next:∀{ρ':af} {sep:KN} {k':Nat},(sep=s\/(sep=(s.1,0)/\(ps.length=m\/∃y,ps[m]?=some y/\aX (s.1,0) y=true)))->get ρ' 208=some (bn sep)->get ρ' 192=some (.lst (rs.map eZ))->get ρ' 205=some (.lst (bs.map da))->get ρ' 187=some (.lst (ps.map bn))->get ρ' 5=some (.int m)->get ρ' 179=some (.lst (aZ aC))->get ρ' 1=some (.ref a)->aD ⟨sc,n+1,true⟩ wu ρ' (upd σ a (.av [.int k'])) (λρ' σ'=>dQ ⟨sc,n+1,true⟩ zL zK N' R X q ρ' σ') R X:=by
   intro ρ' sep k' vu a1 a2 a3 a4 a5 a6 a7
   obtain⟨c1,c2,c3,c4,c5,c6⟩:=ab0 K sp po lo le l5 jm vn eM hs vu
   refine ac0 (ai (cV _ _) l5) (ai (b6 _ _) l5) (KL l5 le) eM a1 a2 a3 a4 a5 λot d1 d2 d3 d4 d5=>?_
   exact ih _ _ _ k' ot (by rw[m_];exact ad h jm hc) c1 c2 c3 c4 c5 c6 (d4.trans a6) (d5.trans a7) d3 d2 d1 kN
  refine i7 (m:=2) n ht hz ⟨k',ay _ _ _⟩ (by decide) λv' iH pC=>?_
  rw[aL]
  lk
  refine aH (λVR=>?_) λVR=>?_
  rotate_left
  ·repeat(refine b4 ?_)
   refine aE ?_
   exact next (sep:=s) (.inl rfl) (by k_is) (by k_is) (by k_is) (by k_is) (by k_is) (by k_is) (by k_is)
  refine fj (jG (aY ?_))
  lk
  refine⟨_,dD (by simp;exact zc l5 rfl),?_⟩
  rw[f']
  lk
  have yes:(ps.length=m\/∃y,ps[m]?=some y/\aX (s.1,0) y=true)->aD ⟨sc,n+1,true⟩ [.asg (.nm 208) (.v 125)] (put (put (put ρ 5 (.int m)) 208 (bn s)) 125 (.tup [.bytes s.1,.int 0])) (upd σ a (.av [.int iH])) (λρ' σ'=>aD ⟨sc,n+1,true⟩ wu ρ' σ' (λρ' σ'=>dQ ⟨sc,n+1,true⟩ zL zK N' R X q ρ' σ') R X) R X:=λhy=>by
   refine aA (cv (aq (by k_is) ?_) rfl)
   refine aE ?_
   exact next (sep:=(s.1,0)) (.inr ⟨rfl,hy⟩) (by rw[cJ,if_pos rfl];rfl) (by k_is) (by k_is) (by k_is) (by k_is) (by k_is) (by k_is)
  have no:aD ⟨sc,n+1,true⟩ [] (put (put (put ρ 5 (.int m)) 208 (bn s)) 125 (.tup [.bytes s.1,.int 0])) (upd σ a (.av [.int iH])) (λρ' σ'=>aD ⟨sc,n+1,true⟩ wu ρ' σ' (λρ' σ'=>dQ ⟨sc,n+1,true⟩ zL zK N' R X q ρ' σ') R X) R X:=
   aE (next (sep:=s) (.inl rfl) (by k_is) (by k_is) (by k_is) (by k_is) (by k_is) (by k_is) (by k_is))
  refine xp (λbB=>?_) λbB=>?_
  ·obtain⟨y,hy⟩:∃y,ps[m]?=some y:=⟨_,bQ (zgj eM bB)⟩
   refine jG (aY ?_)
   lk
   refine nY (p:=(s.1,0)) n ?_
   lk
   refine⟨_,gk (p:=bn y) (by exact aT _) (by exact am l5 eM) (by rw[show((m:Int)).toNat=m by exact eY,mj,hy];rfl),?_⟩
   lk
   refine nY n ?_
   refine⟨_,BM,?_⟩
   have e:df s.1 (0-((0:Nat):Int)) y.1 (0-(y.2:Int))=aX (s.1,0) y:=rfl
   cases hb:aX (s.1,0) y with
   |true=>
    rw[hb]at e
    rw[e]
    refine uB ?_
    refine du (my (du ?_))
    exact yes (.inr ⟨y,hy,hb⟩)
   |false=>
    rw[hb]at e
    rw[e]
    refine uC ?_
    refine rN (b4 (b4 ?_))
    exact no
  ·refine du (my (du ?_))
   exact yes (.inl (cU.mp bB))
theorem jh.nil:jh [] []:=⟨by decide,(λb hb=>by cases hb),by decide,.nil,(λr hr=>by cases hr)⟩
theorem Yh (n:Nat) {aC:List Int} {a:Nat} (ht:aC≠[]) (hz:aC.length<=1000) (ha:∃k:Nat,σ a=some (.av [.int k])) (h:∀bs rs (k':Nat),jh bs rs->Q (.tup [.lst (bs.map da),.lst (rs.map eZ)]) (upd σ a (.av [.int k']))):Call (n+4) true 967 [.lst (aZ aC),.ref a] σ Q X:=by
 refine aK UI rfl ?_
 lk
 refine Dh (most:=5) n ht hz ha (by decide) λzs k' hl hs ho=>?_
 lk
 refine gf (zs.length+1) ?_
 refine acZ (n:=n+2) ht hz _ zs [] [] k' _ (aP _) jh.nil hs ho (λr hr=>by cases hr) rfl (by simpa using hl) rfl rfl rfl rfl rfl λbs rs iH ρ K g1 g2=>?_
 lk
 exact h bs rs iH K
theorem ado {c:Cx} {D:Nat} {Q:List PV->aa->Prop} (hc:c.d=n+3) (hn:c.nh=true) (ht:aC≠[]) (hz:aC.length<=1000) (hD:σ D=none) (nO:D≠a) (g1:get ρ 179=some (.lst (aZ aC))) (g2:get ρ 1=some (.ref a)):
  ∀(xs:List PV) (bs:List (List KN)) (k:Nat),bs.length+xs.length<=5->(∀b∈bs,b.length<=2/\hW b/\∀z∈b,fh z)->
   (∀(iV:List (List KN)) (k':Nat),iV.length=bs.length+xs.length->(∀b∈iV,b.length<=2/\hW b/\∀z∈b,fh z)->Q (iV.map da) (upd σ a (.av [.int k'])))->
   gP c (.nm 183) (.cf 206 [.v 179,.v 1,.int 2]) none D ρ Q xs (bs.map da) (upd (upd σ a (.av [.int k])) D (.av (bs.map da))):=by
 obtain⟨sc,d,nh⟩:=c
 simp only at hc hn
 subst hc hn
 intro xs
 induction xs with
 |nil=>
  intro bs k hl hb hq
  show Q _ (del _ D)
  rw[uO (by rw[aw _ _ nO];exact hD)]
  exact hq bs k (by simp) hb
 |cons x xs ih=>
  intro bs k hl hb hq
  rw[ej]at hl hq
  refine⟨_,rfl,⟨λ_=>?_,λz=>(ff (aj z))⟩⟩
  have Vg:get (put ρ 183 x) 179=some (.lst (aZ aC)):=by k_is
  have Vh:get (put ρ 183 x) 1=some (.ref a):=by k_is
  lk
  refine Dh (most:=2) n ht hz ⟨k,by rw[aw _ _ (cN nO),ay]⟩ (by decide) λzs k' h1 h2 h3=>?_
  rw[wy _ _ _ nO,aL]
  refine⟨ay _ _ _,by simp;exact zb hl rfl,?_⟩
  rw[aL]
  have e:bs.map da++[PV.lst (zs.map bn)]=(bs++[zs]).map da:=by simp
  rw[e]
  refine ih (bs++[zs]) k' (by simp;exact om hl) (λb gA=>?_) λiV iH eW=>hq iV iH (by simp at eW;lia)
  rcases lA.mp gA with gA|gA
  ·exact hb b gA
  ·simp at gA;subst gA;exact⟨h1,h2,h3⟩
theorem adp {c:Cx} {D m:Nat} {bl:List PV} {Q:List PV->aa->Prop} (hc:c.d=n+1) (hn:c.nh=true) (ht:aC≠[]) (hz:aC.length<=1000) (hD:σ D=none) (nO:D≠a) (hm:0<m) (qB:bl.length=m) (Wf:m<=5) (g1:get ρ 179=some (.lst (aZ aC))) (g2:get ρ 1=some (.ref a)) (g3:get ρ 205=some (.lst bl)):
  ∀(zs:List KN) (rs:List (KN×Nat)) (k:Nat),rs.length+zs.length<=5->(∀r∈rs,r.2<m)->
   (∀(pS:List (KN×Nat)) (k':Nat),pS.map (·.1)=rs.map (·.1)++zs->(∀r∈pS,r.2<m)->Q (pS.map eZ) (upd σ a (.av [.int k'])))->
   gP c (.nm 208) (.tup [.v 208,.cf 188 [.v 179,.v 1,.cb 9 [.v 205]]]) none D ρ Q (zs.map bn) (rs.map eZ) (upd (upd σ a (.av [.int k])) D (.av (rs.map eZ))):=by
 obtain⟨sc,d,nh⟩:=c
 simp only at hc hn
 subst hc hn
 intro zs
 induction zs with
 |nil=>
  intro rs k hl hb hq
  show Q _ (del _ D)
  rw[uO (by refine aj (aw _ _ nO)▸?_;exact hD)]
  exact hq rs k (by simp) hb
 |cons z zs ih=>
  intro rs k hl hb hq
  replace hl:=ej▸hl
  refine⟨put ρ 208 (bn z),rfl,⟨λ_=>?_,λz=>(ff (aj z))⟩⟩
  have Vg:get (put ρ 208 (bn z)) 179=some (.lst (aZ aC)):=by k_is
  have Vh:get (put ρ 208 (bn z)) 1=some (.ref a):=by k_is
  have gg3:get (put ρ 208 (bn z)) 205=some (.lst bl):=by k_is
  lk
  refine⟨_,dD (KO Wf qB),?_⟩
  refine aj (qB)▸?_
  lk
  refine i7 n ht hz ⟨k,by rw[aw _ _ (cN nO),ay]⟩ hm λv k' hv=>?_
  rw[wy _ _ _ nO,aL]
  lk
  refine⟨ay _ _ _,by simp;exact zb hl rfl,?_⟩
  rw[aL]
  have e:rs.map eZ++[PV.tup [bn z,.int v]]=(rs++[(z,v)]).map eZ:=by simp
  refine aj (e)▸?_
  refine ih (rs++[(z,v)]) k' (by simp;exact om hl) (λr hr=>?_) λpS iH eW=>hq pS iH (by refine aj (eW)▸?_;simp)
  rcases lA.mp hr with hr|hr
  ·exact hb r hr
  ·simp at hr;subst hr;exact hv
theorem Yo (n:Nat) {aC:List Int} {a:Nat} (ht:aC≠[]) (hz:aC.length<=1000) (ha:∃k:Nat,σ a=some (.av [.int k])) (h:∀bs rs (k':Nat),jh bs rs->Q (.tup [.lst (bs.map da),.lst (rs.map eZ)]) (upd σ a (.av [.int k']))):Call (n+4) true 972 [.lst (aZ aC),.ref a] σ Q X:=by
 refine aK UL rfl ?_
 obtain⟨k0,Vz⟩:=ha
 refine aA (ui rfl (xd ?_))
 lk
 refine i7 (m:=3) (n+2) ht hz ⟨k0,Vz⟩ (by decide) λv k' hv=>?_
 lk
 refine⟨_,rfl,by lia,aT _,λD sc hD=>?_⟩
 (have zz:=dH hD;have nO:=zz.1;have Vo:=zz.2;clear zz)
 refine aj (show(1+(v:Int)).toNat=1+v by exact rfl)▸?_
 refine ado (n:=n) rfl rfl ht hz Vo nO rfl rfl _ [] k' (by simp;exact KP hv) (λb hb=>by cases hb) λbs k2 hl hb=>?_
 have hl:bs.length=1+v:=by simpa using hl
 lk
 refine Dh (most:=4) n ht hz ⟨k2,ay _ _ _⟩ (by decide) λzs k3 h1 h2 h3=>?_
 rw[aL]
 lk
 refine oR rfl (oQ ?_)
 lk
 refine⟨_,rfl,λD2 sc2 Vp=>?_⟩
 (have zz:=dH Vp;have Vs:=zz.1;have Vq:=zz.2;clear zz)
 refine adp (n:=n+2) (m:=1+v) (bl:=bs.map da) rfl rfl ht hz Vq Vs (b6 _ _) (by simp[hl]) (KP hv) rfl rfl rfl zs [] k3 (by simp;exact ai h1 (aG rfl)) (λr hr=>by cases hr) λrs k4 qJ cw=>?_
 have qJ:rs.map (·.1)=zs:=by simpa using qJ
 have WA:rs.length=zs.length:=by rw[<-qJ,f']
 lk
 refine h bs rs k4 ⟨ap hv hl.symm,hb,aaG h1 WA,by refine aj (qJ)▸?_;exact h2,λr hr=>⟨h3 _ (by refine(qJ)▸?_;exact List.mem_map_of_mem hr),by have:=cw r hr;exact iL this hl⟩⟩
end
end
section
theorem Q2 {l:List UInt8} {k:Int} (h1:l≠[]) (h2:l.length<=16) (h3:0<=k) (h4:k<=1000):eN .Mult (.bytes l) (.int k) (.bytes (bV k.toNat l).flatten):=λ{d nh w A σ s v1 v2 P E} i r1 r2 h=>by
 obtain⟨b,t,rfl,rfl⟩:=r1.aQ
 apply r2.cInt;intro _
 have e:b=b.toList.toArray:=by simp
 refine aj (e)▸?_
 refine bytes_mul_any h1 (by lia) (zw h4 rfl) h2 λt' k'=>?_
 refine h _ _ ?_ (.tok i.cn _)
 exact .bytes _ _
noncomputable def Sub (l ρ:af):Prop:=∀x p,get l x=some p->get ρ x=some p
theorem QA:Sub [] ρ:=λx p h=>(nn h)
theorem Qz {l:af} (h:get ρ k=some p) (t:Sub l ρ):Sub ((k,p)::l) ρ:=λx q e=>by
 simp only[u1,mH]at e
 cases hb:bh k x with
 |true=>
  rw[hb]at e
  have:=fG hb
  subst this
  cases e;exact h
 |false=>rw[hb]at e;exact t x q e
theorem cA.sub {l:af} (i:cA sc env ρ σ h) (s:Sub l ρ):cA sc env l σ h:=
 ⟨i.names,i.kind,i.glob,i.blt,λk p e hl=>i.vars k p (s k p e) hl,i.ns,i.cells,i.rT,i.i9,i.nL,i.gg⟩
theorem c_ {c:Cx} {ms:List MS} {l:af} {X:Ex->af->aa->Prop} (s:Sub l ρ) (h:aD c ms l σ N' R X):aD c ms ρ σ N' R X:=.intro λw A env es st hc hi tp=>h.out w A env es st hc ⟨hi.fi,hi.en.sub s⟩ tp
theorem comp_map {α:Type} {c:Cx} {t:MT} {e:ME} {D:Nat} {Q:List PV->aa->Prop} {f g:α->PV} (hD:σ D=none):
  ∀(ys:List α) (acc:List PV),acc.length+ys.length<=1000000->(∀y∈ys,∃bJ,lI t (f y) ρ=some bJ/\∀a Q,Q (g y) (upd σ D a)->V c e bJ (upd σ D a) Q F0)->Q (acc++ys.map g) σ->gP c t e none D ρ Q (ys.map f) acc (upd σ D (.av acc)):=by
 intro ys
 induction ys with
 |nil=>
  intro acc hl he hq
  show Q acc (del _ D)
  rw[uO hD];simpa using hq
 |cons y ys ih=>
  intro acc hl he hq
  obtain⟨bJ,hb,hv⟩:=he y (.head _)
  rw[ej]at hl
  refine⟨bJ,hb,⟨λ_=>hv _ _ ?_,λz=>(ff (aj z))⟩⟩
  refine⟨ay _ _ _,Dy hl,?_⟩
  rw[aL]
  exact ih (acc++[g y]) (by rw[bf];simp only[ej,lz];exact om hl) (λz hz=>he z (.tail _ hz)) (by simpa using hq)
noncomputable def turned (b:List KN):List KN:=if b.length=2 then b.reverse else b
structure je (par:Bool) (bs:List (List KN)) (rs:List (KN×Nat)):Prop where
 bl:bs.length<=5
 b:∀b∈bs,b.length<=2/\(par=true\/hW b)/\∀z∈b,fh z
 rl:rs.length<=5
 g':hW (rs.map (·.1))
 ro:∀r∈rs,fh r.1/\r.2<bs.length
theorem jh.ok {bs rs} (K:jh bs rs) (par:Bool):je par bs rs:=⟨K.bl,λb hb=>⟨(K.b b hb).1,.inr (K.b b hb).2.1,(K.b b hb).2.2⟩,K.rl,K.g',K.ro⟩
theorem jh.turn {bs rs} (K:jh bs rs):je true (bs.map turned) rs:=⟨by simpa using K.bl,λb hb=>by
 obtain⟨b,gA,rfl⟩:=gS.mp hb
 obtain⟨h1,h2,h3⟩:=K.b b gA
 unfold turned
 split
 ·exact⟨by simpa using h1,.inl rfl,λz hz=>h3 z (by simpa using hz)⟩
 ·exact⟨h1,.inl rfl,h3⟩,K.rl,K.g',λr hr=>⟨(K.ro r hr).1,by simpa using(K.ro r hr).2⟩⟩
section
theorem YL {α:Type} {l:List α} (h:l.length=2):∃p q,l=[p,q]:=by
 obtain⟨p,r,e,h⟩:=pI h
 obtain⟨q,r2,e2,h2⟩:=pI h
 exact⟨p,q,by rw[e,e2,Pt h2]⟩
theorem aa2 {X:Ex->af->aa->Prop} (ht:aC≠[]) (hz:aC.length<=1000) (ha:∃k:Nat,σ a=some (.av [.int k])) (ho:σ opt=some (de bits par))
  (k:∀(a9:Bool) bs rs (k':Nat),je par bs rs->aD ⟨sc,n+4,true⟩ rest [(179,.lst (aZ aC)),(1,.ref a),(210,.ref opt),(211,.bool a9),(205,.lst (bs.map da)),(192,.lst (rs.map eZ)),(5,.int bs.length)] (upd σ a (.av [.int k'])) N' R X):
  aD ⟨sc,n+4,true⟩ ((.asg (.nm 211) (.cmp .Eq (.cf 188 [.v 179,.v 1,.int 2]) (.int 0)))::(.ite (.v 211) [.asg (.tup [205,192]) (.cf 212 [.v 179,.v 1])] [.asg (.tup [205,192]) (.cf 213 [.v 179,.v 1])])::(.ite (.an [.at (.v 210) 51,.cmp .Eq (.cf 188 [.v 179,.v 1,.int 3]) (.int 0)]) [.asg (.nm 205) (.cp (.ite (.cmp .Eq (.cb 9 [.v 81]) (.int 2)) (.lst [.idx (.v 81) (.int 1),.idx (.v 81) (.int 0)]) (.v 81)) (.nm 81) (.v 205) none)] [])::(.asg (.nm 5) (.cb 9 [.v 205]))::rest) (p5 [179,1,210] [.lst (aZ aC),.ref a,.ref opt]) σ N' R X:=by
 have fO:opt≠a:=λe=>by obtain⟨k,ha⟩:=ha;rw[e,ha]at ho;cases ho
 lk
 refine i7 (m:=2) (n+3) ht hz ha (by decide) λv k1 hv=>?_
 lk
 have join:∀{bs rs} {k2:Nat},jh bs rs->aD ⟨sc,n+4,true⟩ ((.ite (.an [.at (.v 210) 51,.cmp .Eq (.cf 188 [.v 179,.v 1,.int 3]) (.int 0)]) [.asg (.nm 205) (.cp (.ite (.cmp .Eq (.cb 9 [.v 81]) (.int 2)) (.lst [.idx (.v 81) (.int 1),.idx (.v 81) (.int 0)]) (.v 81)) (.nm 81) (.v 205) none)] [])::(.asg (.nm 5) (.cb 9 [.v 205]))::rest) [(179,.lst (aZ aC)),(1,.ref a),(210,.ref opt),(211,.bool (decide ((v:Int)=0))),(205,.lst (bs.map da)),(192,.lst (rs.map eZ))] (upd σ a (.av [.int k2])) N' R X:=by
  intro bs rs k2 K
  have bl:=K.bl
  have cy:∀x,upd σ a x opt=some (de bits par):=λx=>(aw _ _ fO).trans ho
  have Wj:=cy (.av [.int k2])
  have fin:∀{k3:Nat} {iV:List (List KN)},je par iV rs->aD ⟨sc,n+4,true⟩ ((.asg (.nm 5) (.cb 9 [.v 205]))::rest) [(179,.lst (aZ aC)),(1,.ref a),(210,.ref opt),(211,.bool (decide ((v:Int)=0))),(205,.lst (iV.map da)),(192,.lst (rs.map eZ))] (upd σ a (.av [.int k3])) N' R X:=by
   intro k3 iV K'
   have bl:=K'.bl
   have hb:(iV.map da).length=iV.length:=by simp
   lk
   refine⟨_,dD (KO bl hb),?_⟩
   refine aj (hb)▸?_
   exact k _ iV rs k3 K'
  refine aA (bR (fj (nu (V_at (aq rfl ⟨opt,_,_,_,rfl,Wj,rfl,rfl,par,rfl,?_⟩)) rfl)))
  cases par with
  |false=>exact b4 (b4 (aE (fin (K.ok false))))
  |true=>
   refine du (fj (aY ?_))
   lk
   refine i7 (m:=3) (n+3) ht hz ⟨k2,ay _ _ _⟩ (by decide) λv3 k3 hv3=>?_
   rw[aL]
   lk
   refine aH (λhc=>?_) λhc=>?_
   ·refine my (du ?_)
    refine aA (ui rfl (oQ ?_))
    lk
    refine⟨_,rfl,λD zA hD=>?_⟩
    refine comp_map (g:=λb=>da (turned b)) hD bs [] (by simp;exact n7 bl) (λb hb=>⟨_,rfl,λac Q hq=>?_⟩) ?_
    ·have lb:=(K.b b hb).1
     have qB:(b.map bn).length=b.length:=by simp
     lk
     refine⟨_,dD (ai (bM qB) (ai lb (aG rfl))),?_⟩
     refine aj (qB)▸?_
     lk
     unfold turned at hq
     refine aH (λbB=>?_) λbB=>?_
     ·rw[if_pos ((ta bB).symm)]at hq
      obtain⟨p,q,e2⟩:=YL (show b.length=2 by exact(ta bB).symm)
      subst e2
      lk
      refine⟨_,gk (p:=bn q) (by decide) (by decide) rfl,?_⟩
      lk
      refine⟨_,gk (p:=bn p) (by decide) (by decide) rfl,?_⟩
      lk
      exact hq
     ·rw[if_neg (yM bB)]at hq
      lk
      exact hq
    ·refine aE ?_
     rw[bL]
     have:=fin (k3:=k3) K.turn
     rw[ng]at this
     exact this
   ·exact b4 (aE (fin (K.ok true)))
 cases hw:decide ((v:Int)=0)with
 |true=>
  rw[hw]at join
  lk
  refine Yo n ht hz ⟨k1,ay _ _ _⟩ λbs rs k2 K=>?_
  rw[aL]
  refine⟨_,rfl,rfl,?_⟩
  refine aE ?_
  exact join K
 |false=>
  rw[hw]at join
  lk
  refine Yh n ht hz ⟨k1,ay _ _ _⟩ λbs rs k2 K=>?_
  rw[aL]
  refine⟨_,rfl,rfl,?_⟩
  refine aE ?_
  exact join K
end
end
local macro_rules | `(tactic| k_extra "mine sub")=> `(tactic| (repeat (first | exact QA | refine Qz (by k_extra "gp") ?_)))
section
noncomputable def fa (ag ar i:Nat):Nat:=if i=ar/\0<ag/\ag<5 then ag else 0
noncomputable abbrev jR (ag ar n:Nat):List PV:=(aW (n+3)).map λi=>PV.int (fa ag ar i)
noncomputable def iT (σ τ:aa) (a:Nat):Prop:=(∀b y,σ b=some y->b≠a->τ b=some y)/\∃k:Nat,τ a=some (.av [.int k])
theorem iT.trans (h:iT σ τ a) (g:iT τ υ a):iT σ υ a:=⟨λb y e q=>g.1 b y (h.1 b y e q) q,g.2⟩
theorem iT.upd:iT σ (upd σ a (.av [.int k])) a:=⟨λb y e q=>(aw _ _ q).trans e,k,ay _ _ _⟩
theorem iT.new {x:AO} (h:iT σ τ a) (hb:τ b=none):iT σ (Mine.upd τ b x) a:=by
 obtain⟨h1,k,h2⟩:=h
 have dR:a≠b:=λe=>by rw[<-e,h2]at hb;(cases hb)
 exact⟨λc y e q=>(aw _ _ λz=>by have:=h1 c y e q;rw[z,hb]at this;(exact nn this)).trans (h1 c y e q),k,(aw _ _ dR).trans h2⟩
section
noncomputable abbrev EB (aC:List Int) (a opt:Nat) (a9:Bool) (bs:List (List KN)) (rs:List (KN×Nat)) (ag ar x:Nat) (data:List UInt8) (pa oa:Nat):af:=[(179,.lst (aZ aC)),(1,.ref a),(210,.ref opt),(211,.bool a9),(205,.lst (bs.map da)),(192,.lst (rs.map eZ)),(5,.int bs.length),(198,.int ag),(216,.lst (jR ag ar bs.length)),(189,.int x),(0,.bytes data),(217,.ref pa),(218,.ref oa)]
theorem acx {v:Nat}:(if(v:Int)-6>0 then(v:Int)-6 else 0)=((v-6:Nat):Int):=by
 by_cases q:(v:Int)-6>0
 ·rw[if_pos q];exact(gR (bx (a_.mp (Pj.mp q)))).symm
 ·rw[if_neg q,Gy (d6.mp (gQ.mp λk=>q (Pj.mpr k)))];rfl
theorem aa3 {X:Ex->af->aa->Prop} (ht:aC≠[]) (hz:aC.length<=1000) (ha:∃k:Nat,σ a=some (.av [.int k])) (K:je par bs rs)
  (k:∀(ag ar x pa oa:Nat) τ,ag<=7->ar<bs.length+3->iT σ τ a->τ pa=some (.av (bV bs.length (.tup [.int 0,.bytes []])))->τ oa=some (.av (bV bs.length (.int 0)))->pa≠oa->pa≠a->oa≠a->σ pa=none->σ oa=none->aD ⟨sc,n+4,true⟩ rest (EB aC a opt a9 bs rs ag ar x [] pa oa) τ N' R X):
  aD ⟨sc,n+4,true⟩ ((.asg (.nm 198) (.cb 214 [.int 0,.bin .Sub (.cf 188 [.v 179,.v 1,.int 14]) (.int 6)]))::(.asg (.nm 215) (.cf 188 [.v 179,.v 1,.bin .Add (.v 5) (.int 3)]))::(.asg (.nm 216) (.cp (.ite (.an [.cmp .Eq (.v 183) (.v 215),.cmp .Lt (.int 0) (.v 198),.cmp .Lt (.v 198) (.int 5)]) (.v 198) (.int 0)) (.nm 183) (.cb 8 [.bin .Add (.v 5) (.int 3)]) none))::(.asg (.nm 189) (.cf 188 [.v 179,.v 1,.int 16777216]))::(.asg (.nm 0) (.aQ []))::(.asg (.nm 217) (.pM [.tup [.int 0,.aQ []]] (.v 5)))::(.asg (.nm 218) (.pM [.int 0] (.v 5)))::rest) [(179,.lst (aZ aC)),(1,.ref a),(210,.ref opt),(211,.bool a9),(205,.lst (bs.map da)),(192,.lst (rs.map eZ)),(5,.int bs.length)] σ N' R X:=by
 have bl:=K.bl
 lk
 refine i7 (m:=14) (n+3) ht hz ha (by decide) λv k1 hv=>?_
 clear ha
 lk
 refine⟨_,Rx,?_⟩
 refine aj (show(if(v:Int)-6>0 then(v:Int)-6 else 0)=((v-6:Nat):Int) from acx)▸?_
 generalize V6:v-6=ag
 have V1:ag<=7:=by exact bv hv V6.symm
 lk
 refine aj (show(bs.length:Int)+3=((bs.length+3:Nat):Int) by exact rfl.symm)▸?_
 refine i7 (n+3) ht hz ⟨k1,ay _ _ _⟩ (cV _ _) λar k2 WQ=>?_
 rw[aL]
 refine aA (ui rfl (xd ?_))
 lk
 refine⟨_,rfl,by lia,by lia,λD zA hD=>?_⟩
 refine aj (show((bs.length:Int)+3).toNat=bs.length+3 by exact rfl)▸?_
 refine comp_map (g:=λi=>PV.int (fa ag ar i)) hD (aW (bs.length+3)) [] (by simp;exact ai bl (aG rfl)) (λi hi=>⟨_,rfl,λac Q hq=>?_⟩) ?_
 ·unfold fa at hq
  lk
  refine aH (λhc=>?_) λhc=>?_
  ·refine fj (aY ?_)
   lk
   refine aH (λbB=>?_) λbB=>?_
   ·refine fj (aY ?_)
    lk
    refine aH (λdc=>?_) λdc=>?_
    ·rw[if_pos ⟨cU.mp hc,a_.mp bB,a_.mp dc⟩]at hq
     refine my (du ?_)
     lk
     exact hq
    ·rw[if_neg (ca dc)]at hq
     refine b4 ?_
     lk
     exact hq
   ·rw[if_neg λh=>bB (a_.mpr h.2.1)]at hq
    refine b4 ?_
    lk
    exact hq
  ·rw[if_neg λh=>hc (congrArg _ h.1)]at hq
   refine b4 ?_
   lk
   exact hq
 lk
 refine i7 (m:=16777216) (n+3) ht hz ⟨k2,ay _ _ _⟩ (by decide) λx k3 hx=>?_
 rw[aL]
 lk
 refine⟨_,rfl,aT _,pZ bl rfl,λpa vr=>?_⟩
 lk
 refine⟨_,rfl,aT _,pZ bl rfl,λoa fO=>?_⟩
 lk
 (have zz:=dH fO;have sM:=zz.1;have Wk:=zz.2;clear zz)
 (have zz:=dH vr;have Wt:=zz.1;have Wr:=zz.2;clear zz)
 (have zz:=dH Wk;have Wm:=zz.1;have Wl:=zz.2;clear zz)
 refine c_ (l:=EB aC a opt a9 bs rs ag ar x [] pa oa) (by k_in) (k ag ar x pa oa _ V1 WQ ((iT.upd.new vr).new fO) ?_ ?_ (cN sM) Wt Wm Wr Wl)
 ·rw[aw _ _ (cN sM),ay];simp
 ·rw[ay];simp
end
end
section
noncomputable def fI (D:List UInt8) (off:Nat) (C:List UInt8) (f:Nat):Prop:=∃r,D.drop off=cR C f++r
theorem gJ (C:List UInt8) (f:Nat):(cR C f).length=C.length+5:=by simp[cR,cO,jk]
theorem fI.le {D:List UInt8} {C:List UInt8} {f:Nat} (h:fI D off C f):off+C.length+5<=D.length:=by
 obtain⟨r,hr⟩:=h
 have:=congrArg PF hr
 simp only[m_,bf,gJ]at this
 (exact ch this.symm)
theorem fI.app {D:List UInt8} {C:List UInt8} {f:Nat} (h:fI D off C f) (E:List UInt8):fI (D++E) off C f:=by
 have:=h.le
 obtain⟨r,hr⟩:=h
 exact⟨r++E,by rw[wM (by lia),hr,dq]⟩
theorem fI.new (D:List UInt8) (C:List UInt8) (f:Nat):fI (D++cR C f) D.length C f:=⟨[],by rw[kv,ly]⟩
noncomputable def gn (b:List KN):List KV:=b.map λp=>(bI p,j9 p)
noncomputable def cH (a9:Bool) (n s:Nat):Nat:=if a9=true then n-1-s else s
noncomputable def pQ (ro ag ar i:Nat):PV:=.int ((ro+if fa ag ar i=4 then 2000 else 0:Nat):Int)
noncomputable def l8 (ro len ag ar i:Nat):PV:=.tup [.int len,.bytes (fW ro len (fa ag ar i))]
structure ni (a9:Bool) (bs:List (List KN)) (ag ar t:Nat) (data:List UInt8) (B:Nat->bq) (ro:Nat->Nat) (fo fp:Nat->PV):Prop where
 dl:data.length<=110*t
 mb:∀s<t,kA (B (cH a9 bs.length s)) (gn (bs.getD (cH a9 bs.length s) [])) false
 se:∀s<t,fI data (ro (cH a9 bs.length s)) (B (cH a9 bs.length s)).D (fa ag ar (cH a9 bs.length s))
 fo:∀s<t,fo (cH a9 bs.length s)=pQ (ro (cH a9 bs.length s)) ag ar (cH a9 bs.length s)
 fp:∀s<t,fp (cH a9 bs.length s)=l8 (ro (cH a9 bs.length s)) (B (cH a9 bs.length s)).D.length ag ar (cH a9 bs.length s)
 inc:∀s1 s2,s1<s2->s2<t->ro (cH a9 bs.length s1)<ro (cH a9 bs.length s2)
theorem Yr {s:Nat} (hs:s<n) (ht:t<n) (h:cH a9 n s=cH a9 n t):s=t:=by
 cases a9 with
 |true=>exact(Gz (A1 hs)).symm.trans ((congrArg (n-1- ·) (show n-1-s=n-1-t from h)).trans (Gz (A1 ht)))
 |false=>exact h
theorem Ko {s:Nat} (hs:s<n):cH a9 n s<n:=by
 cases a9 with
 |true=>exact jD (kC (n-1) s) (A4 (jD (eQ s) hs) Gw)
 |false=>exact hs
theorem ni.step {pad:List UInt8} {B:Nat->bq} {ro:Nat->Nat} {fo:Nat->PV} {C:bq} (h:ni a9 bs ag ar t data B ro fo fp) (ht:t<bs.length) (hp:pad.length<=3) (hC:kA C (gn (bs.getD (cH a9 bs.length t) [])) false) (hl:(bs.getD (cH a9 bs.length t) []).length<=2):
  ni a9 bs ag ar (t+1) (data++pad++cR C.D (fa ag ar (cH a9 bs.length t))) (λj=>if j=cH a9 bs.length t then C else B j) (λj=>if j=cH a9 bs.length t then(data++pad).length else ro j)
   (λj=>if j=cH a9 bs.length t then pQ (data++pad).length ag ar j else fo j) (λj=>if j=cH a9 bs.length t then l8 (data++pad).length C.D.length ag ar j else fp j):=by
 have ne:∀s<t,¬cH a9 bs.length s=cH a9 bs.length t:=λs hs e=>by have:=Yr (n8 hs ht) ht e;lia
 have lJ:∀{P:Nat->Prop},(∀s<t,P s)->P t->∀s<t+1,P s:=λa b s hs=>by
  rcases qg s t with q|q
  ·exact a s q
  ·have:s=t:=by lia
   subst this;exact b
 have cl:=hC.len
 rw[show(gn (bs.getD (cH a9 bs.length t) [])).length=(bs.getD (cH a9 bs.length t) []).length by simp[gn]]at cl
 have dl:=h.dl
 refine⟨?_,lJ (λs hs=>?_) ?_,lJ (λs hs=>?_) ?_,lJ (λs hs=>?_) ?_,lJ (λs hs=>?_) ?_,λs1=>?_⟩
 ·rw[bf,bf,gJ];exact cr cl dl hl hp
 ·simp only[if_neg (ne s hs)];exact h.mb s hs
 ·simp only[if_pos];exact hC
 ·simp only[if_neg (ne s hs)];rw[dq];exact(h.se s hs).app _
 ·simp only[if_pos];exact fI.new _ _ _
 ·simp only[if_neg (ne s hs)];exact h.fo s hs
 ·simp only[if_pos]
 ·simp only[if_neg (ne s hs)];exact h.fp s hs
 ·simp only[if_pos]
 ·intro s2 lL h2
  rcases qg s2 t with q|q
  ·simp only[if_neg (ne s1 (n8 lL q)),if_neg (ne s2 q)];exact h.inc s1 s2 lL q
  ·have:s2=t:=by lia
   subst this
   simp only[if_neg (ne s1 lL),if_pos]
   have:=(h.se s1 lL).le
   rw[bf];lia
theorem Mi {f:Nat->PV}:((aW n).map f).set i p=(aW n).map λj=>if j=i then p else f j:=by
 apply List.ext_getElem?
 intro j
 rw[List.getElem?_set]
 by_cases hj:j<n
 ·by_cases e:i=j
  ·subst e;simp[hj]
  ·rw[if_neg e];simp[hj,cN e]
 ·by_cases e:i=j
  ·subst e;simp[hj]
  ·rw[if_neg e];simp[hj]
theorem oX (h:i<n+3):(jR ag ar n)[((i:Nat):Int).toNat]?=some (.int (fa ag ar i)):=by
 rw[show((i:Nat):Int).toNat=i by exact eY];simp[h]
theorem pJ (p:KN):(bI p).length=p.1.length+8:=Jz _ _
theorem Yu {b:List KN} (h:∀z∈b,fh z):∀r∈gn b,p9 r:=λr hr=>by
 obtain⟨z,hz,rfl⟩:=gS.mp hr
 have h3:=(h z hz).1
 refine⟨by show(bI z).length<=30;rw[pJ];exact KQ h3,?_⟩
 show(j9 z).length<=6
 unfold j9
 rw[t5];exact zo rfl rfl
noncomputable abbrev Dt:List MS:=[.asg (.nm 153) (.cf 221 [.cp (.tup [.cf 219 [.v 185],.cf 220 [.v 185]]) (.nm 185) (.idx (.v 205) (.v 183)) none,.bin .FloorDiv (.v 189) (.bin .Add (.int 1) (.v 183)),.aQ []]),.asg (.idx (.v 218) (.v 183)) (.bin .Add (.cb 9 [.v 0]) (.ite (.cmp .Eq (.idx (.v 216) (.v 183)) (.int 4)) (.int 2000) (.int 0))),.asg (.idx (.v 217) (.v 183)) (.tup [.cb 9 [.v 153],.cf 222 [.cb 9 [.v 0],.v 153,.idx (.v 216) (.v 183)]]),.asg (.nm 0) (.bin .Add (.v 0) (.cf 223 [.v 153,.idx (.v 216) (.v 183)]))]
section
theorem Y4 {fo:Nat->PV} {X:Ex->af->aa->Prop} (K:je par bs rs) (hi:i<bs.length) (hd:data.length<=1000) (pA:pa≠oa)
  (ho:σ oa=some (.av ((aW bs.length).map fo))) (hp:σ pa=some (.av ((aW bs.length).map fp)))
  (k:∀C,kA C (gn (bs.getD i [])) false->∀ρ',Sub (EB aC a opt a9 bs rs ag ar x (data++cR C.D (fa ag ar i)) pa oa) ρ'->N' ρ' (upd (upd σ oa (.av ((aW bs.length).map λj=>if j=i then pQ data.length ag ar j else fo j))) pa (.av ((aW bs.length).map λj=>if j=i then l8 data.length C.D.length ag ar j else fp j)))):
  aD ⟨sc,n+4,true⟩ Dt (EB aC a opt a9 bs rs ag ar x data pa oa++[(7,.int t),(183,.int i)]) σ N' R X:=by
 have bl:=K.bl
 obtain⟨b,hb⟩:∃b,bs[i]?=some b:=⟨_,bQ hi⟩
 have eb:bs.getD i []=b:=by rw[be,hb];rfl
 replace k:=eb▸k
 obtain⟨b1,_,b3⟩:=K.b b (gc hb)
 have qx:∀τ:aa,fe τ (.lst (jR ag ar bs.length)) (.int (i:Int)) (.int (fa ag ar i)):=λτ=>gk (aT _) (km hi bl rfl) (oX (gN hi))
 unfold EB
 simp only[ck,bL]
 lk
 refine oR rfl (oQ ?_)
 lk
 refine⟨_,gk (p:=da b) (by exact aT _) (by exact km hi bl rfl) (by rw[show((i:Int)).toNat=i by exact eY,mj,hb];rfl),?_⟩
 refine⟨_,rfl,λD zA hD=>?_⟩
 refine comp_map (g:=λp:KN=>gm (bI p,j9 p)) hD b [] (by simp;exact ai b1 (aG rfl)) (λp Wp=>⟨_,rfl,λac Q hq=>?_⟩) ?_
 ·have:=(b3 p Wp).1
  lk
  refine vF (n+2) (td this) ?_
  lk
  refine J5 (n+3) (td this) ?_
  lk
  exact hq
 rw[bL,show b.map (λp:KN=>gm (bI p,j9 p))=(gn b).map gm by simp[gn]]
 lk
 refine aj (show(x:Int)/(1+(i:Int))=((x/(1+i):Nat):Int) by push_cast;rfl)▸?_
 refine De (bad:=false) (n+1) (Yu b3) (by simp[gn];exact KR b1) λC hC=>?_
 have cl:=hC.len
 rw[show(gn b).length=b.length by simp[gn]]at cl
 have k:=k C hC
 lk
 refine⟨_,qx _,?_⟩
 lk
 have tl:∀{q:Nat},(q=if fa ag ar i=4 then 2000 else 0)->aD ⟨sc,n+4,true⟩ [.asg (.idx (.v 217) (.v 183)) (.tup [.cb 9 [.v 153],.cf 222 [.cb 9 [.v 0],.v 153,.idx (.v 216) (.v 183)]]),.asg (.nm 0) (.bin .Add (.v 0) (.cf 223 [.v 153,.idx (.v 216) (.v 183)]))] (EB aC a opt a9 bs rs ag ar x data pa oa++[(7,.int t),(183,.int i),(153,.bytes C.D)]) (upd σ oa (.av (((aW bs.length).map fo).set ((i:Int)).toNat (.int ((data.length:Int)+(q:Int)))))) N' R X:=by
  intro q hq
  have e1:((aW bs.length).map fo).set ((i:Int)).toNat (.int ((data.length:Int)+(q:Int)))=(aW bs.length).map λj=>if j=i then pQ data.length ag ar j else fo j:=by
   rw[show((i:Int)).toNat=i by exact eY,Mi]
   refine qd λj _=>?_
   by_cases e:j=i
   ·subst e;rw[if_pos rfl,if_pos rfl,hq];unfold pQ;congr 1
   ·rw[if_neg e,if_neg e]
  refine aj (e1)▸?_
  have qI:∀y,upd σ oa y pa=some (.av ((aW bs.length).map fp)):=λy=>(aw _ _ pA).trans hp
  unfold EB
  simp only[ck,bL]
  lk
  refine⟨_,qx _,?_⟩
  lk
  refine Di (n+1) (KS hd) (aaH cl b1) ?_
  lk
  refine⟨pa,_,_,rfl,rfl,qI _,aT _,by simp;exact hi,by simp;exact n7 bl,?_⟩
  have e2:((aW bs.length).map fp).set ((i:Int)).toNat (.tup [.int C.D.length,.bytes (fW data.length C.D.length (fa ag ar i))])=(aW bs.length).map λj=>if j=i then l8 data.length C.D.length ag ar j else fp j:=by
   rw[show((i:Int)).toNat=i by exact eY,Mi]
   refine qd λj _=>?_
   by_cases e:j=i
   ·subst e;rw[if_pos rfl,if_pos rfl];rfl
   ·rw[if_neg e,if_neg e]
  refine aj (e2)▸?_
  lk
  refine⟨_,qx _,?_⟩
  lk
  refine yn (n+2) (Ao cl b1 rfl) ?_
  refine⟨_,b9 (by rw[gJ];exact db cl hd b1),?_⟩
  lk
  exact k _ (by k_in)
 refine aH (λhc=>?_) λhc=>?_
 ·lk
  refine⟨oa,_,_,rfl,rfl,ho,aT _,by simp;exact hi,by simp;exact n7 bl,?_⟩
  exact tl (q:=2000) (by rw[if_pos ((KH hc).symm)])
 ·lk
  refine⟨oa,_,_,rfl,rfl,ho,aT _,by simp;exact hi,by simp;exact n7 bl,?_⟩
  exact tl (q:=0) (by rw[if_neg (DI hc)])
end
end
section
noncomputable abbrev Kv:List MS:=.asg (.nm 183) (.v 7)::.ite (.v 211) [.asg (.nm 183) (.bin .Sub (.bin .Sub (.v 5) (.int 1)) (.v 7)),.asg (.nm 0) (.bin .Add (.v 0) (.cb 36 [.rep [.int 7] (.bin .Mod (.v 189) (.int 4))]))] []::Dt
section
theorem YI {X:Ex->af->aa->Prop} (K:je par bs rs) (pA:pa≠oa):
  ∀(m t:Nat) (σ:aa) (data:List UInt8) (B:Nat->bq) (ro:Nat->Nat) (fo fp:Nat->PV) (ρ:af),t+m=bs.length->ni a9 bs ag ar t data B ro fo fp->σ oa=some (.av ((aW bs.length).map fo))->σ pa=some (.av ((aW bs.length).map fp))->Sub (EB aC a opt a9 bs rs ag ar x data pa oa) ρ->
   (∀τ data B ro fo fp ρ,ni a9 bs ag ar bs.length data B ro fo fp->τ oa=some (.av ((aW bs.length).map fo))->τ pa=some (.av ((aW bs.length).map fp))->(∀b,b≠oa->b≠pa->τ b=σ b)->Sub (EB aC a opt a9 bs rs ag ar x data pa oa) ρ->N' ρ τ)->
   dP ⟨sc,n+4,true⟩ (.nm 7) Kv N' R X ((oH t m).map λ(k:Nat)=>PV.int k) ρ σ:=by
 have bl:=K.bl
 intro m
 induction m with
 |zero=>
  intro t σ data B ro fo fp ρ ht L ho hp hs kN
  have:t=bs.length:=by exact ht
  subst this
  exact kN σ data B ro fo fp ρ L ho hp (λ_ _ _=>rfl) hs
 |succ m ih=>
  intro t σ data B ro fo fp ρ ht L ho hp hs kN
  rw[Gk]
  refine⟨_,rfl,?_⟩
  refine c_ (l:=put (EB aC a opt a9 bs rs ag ar x data pa oa) 7 (.int t)) (λy p e=>?_) ?_
  ·rw[cJ]at e⊢
   split at e
   ·rename_i q;rw[if_pos q];exact e
   ·rename_i q;rw[if_neg q];exact hs y p e
  have dl:=L.dl
  have bk:(bs.getD (cH a9 bs.length t) []).length<=2:=by
   have hk:cH a9 bs.length t<bs.length:=Ko (f9 ht)
   rw[be,bQ hk]
   exact(K.b _ (kx hk)).1
  have next:∀{pad:List UInt8},pad.length<=3->aD ⟨sc,n+4,true⟩ Dt (EB aC a opt a9 bs rs ag ar x (data++pad) pa oa++[(7,.int t),(183,.int (cH a9 bs.length t))]) σ (λρ' σ'=>dP ⟨sc,n+4,true⟩ (.nm 7) Kv N' R X ((oH (t+1) m).map λ(k:Nat)=>PV.int k) ρ' σ') R X:=by
   intro pad Jn
   refine Y4 K (Ko (f9 ht)) (by rw[bf];exact dL dl Jn bl ht) pA ho hp λC hC ρ' lP=>?_
   refine ih (t+1) _ _ _ _ _ _ ρ' (kj ht) (L.step (f9 ht) Jn hC bk) (by rw[aw _ _ (cN pA),ay]) (ay _ _ _) lP λτ d' B' r' o' p' ot L' a1 a2 a3 a4=>kN τ d' B' r' o' p' ot L' a1 a2 (λb q1 q2=>(a3 b q1 q2).trans ?_) a4
   rw[aw _ _ q2,aw _ _ q1]
  cases a9 with
  |false=>
   have ek:cH false bs.length t=t:=rfl
   rw[ek]at next
   have nx:=next (pad:=[]) (by decide)
   rw[ly]at nx
   refine aA (cv (aq rfl ?_) rfl)
   refine aA (bR (nu (aq rfl ⟨_,rfl,?_⟩) rfl))
   refine b4 (aE ?_)
   exact c_ (by k_in) nx
  |true=>
   have ek:((bs.length:Int)-1-(t:Int))=((cH true bs.length t:Nat):Int):=by
    show _=((bs.length-1-t:Nat):Int);exact(f8 ht.symm).symm
   refine aA (cv (aq rfl ?_) rfl)
   refine aA (bR (nu (aq rfl ⟨_,rfl,?_⟩) rfl))
   refine du ?_
   lk
   rw[ek]
   refine⟨_,rfl,jB _ (by decide),Aq rfl rfl,?_⟩
   have e7:bV ((x:Int)%4).toNat (PV.int 7)=aZ (bV (x%4) 7):=by
    rw[show((x:Int)%4).toNat=x%4 by exact rfl];simp[aZ]
   simp only[e7]
   lk
   refine⟨_,nH (λy hy=>by have:=(PM.mp hy).2;lia) (by rw[t5];exact zo rfl rfl),?_⟩
   refine⟨_,b9 (by simp[dO];exact im dl bl ht),?_⟩
   refine aE ?_
   exact c_ (by k_in) (next (by simp[dO];exact zo rfl rfl))
theorem aa4 {X:Ex->af->aa->Prop} (K:je par bs rs) (pA:pa≠oa)
  (hp:σ pa=some (.av (bV bs.length (.tup [.int 0,.bytes []])))) (ho:σ oa=some (.av (bV bs.length (.int 0))))
  (k:∀τ data B ro fo fp,ni a9 bs ag ar bs.length data B ro fo fp->τ oa=some (.av ((aW bs.length).map fo))->τ pa=some (.av ((aW bs.length).map fp))->(∀b,b≠oa->b≠pa->τ b=σ b)->aD ⟨sc,n+4,true⟩ rest (EB aC a opt a9 bs rs ag ar x data pa oa) τ N' R X):
  aD ⟨sc,n+4,true⟩ ((.fw (.nm 7) (.cb 8 [.v 5]) [.asg (.nm 183) (.v 7),.ite (.v 211) [.asg (.nm 183) (.bin .Sub (.bin .Sub (.v 5) (.int 1)) (.v 7)),.asg (.nm 0) (.bin .Add (.v 0) (.cb 36 [.rep [.int 7] (.bin .Mod (.v 189) (.int 4))]))] [],.asg (.nm 153) (.cf 221 [.cp (.tup [.cf 219 [.v 185],.cf 220 [.v 185]]) (.nm 185) (.idx (.v 205) (.v 183)) none,.bin .FloorDiv (.v 189) (.bin .Add (.int 1) (.v 183)),.aQ []]),.asg (.idx (.v 218) (.v 183)) (.bin .Add (.cb 9 [.v 0]) (.ite (.cmp .Eq (.idx (.v 216) (.v 183)) (.int 4)) (.int 2000) (.int 0))),.asg (.idx (.v 217) (.v 183)) (.tup [.cb 9 [.v 153],.cf 222 [.cb 9 [.v 0],.v 153,.idx (.v 216) (.v 183)]]),.asg (.nm 0) (.bin .Add (.v 0) (.cf 223 [.v 153,.idx (.v 216) (.v 183)]))])::rest) (EB aC a opt a9 bs rs ag ar x [] pa oa) σ N' R X:=by
 have bl:=K.bl
 refine aA (oP rfl ?_)
 lk
 refine⟨_,rfl,pZ bl rfl,aT _,?_⟩
 rw[show((bs.length:Nat):Int).toNat=bs.length by exact eY,Gl]
 refine YI K pA bs.length 0 σ [] (λ_=>⟨[],0,[],0,λ_=>0,λ_=>0,λ_=>0,λ_=>0,λ_=>[],false⟩) (λ_=>0) (λ_=>.int 0) (λ_=>.tup [.int 0,.bytes []]) _ (kD _) ⟨by simp,λs h=>by lia,λs h=>by lia,λs h=>vR h,λs h=>vR h,λs1 s2 _ h=>vR h⟩ (by rw[ho,PI,AU]) (by rw[hp,PI,AU]) (λ_ _ e=>e) λτ data B ro fo fp ρ L h1 h2 h3 h4=>c_ h4 (k τ data B ro fo fp L h1 h2 h3)
end
end
section
noncomputable def uY:List UInt8:=[102,105,108,116,101,114,46,111,116,104,101,114]
noncomputable def qu:List UInt8:=[115,116,97,116,115]
noncomputable def cZ (x:Nat):List KV:=if x%5=0 then[(uY,[0,0])]else[]
noncomputable def ju (x:Nat) (P:List UInt8):List KV:=cZ x++if x%7≠0 then[(fL,P)]else[]
noncomputable def lY (x:Nat) (P:List UInt8):List KV:=ju x P++if x%3=0 then[(qu,[])]else[]
noncomputable def lN (x bits f:Nat) (says:List Bool):PV:=if x%7≠0/\0<bits/\f=0 then .lst (says.map PV.bool)else .none
noncomputable abbrev ED (opt:Nat) (bs:List (List KN)) (rs:List (KN×Nat)) (ag ar x:Nat) (data:List UInt8) (pa oa:Nat) (fU:List KV) (held:PV):af:=[(210,.ref opt),(205,.lst (bs.map da)),(192,.lst (rs.map eZ)),(5,.int bs.length),(198,.int ag),(216,.lst (jR ag ar bs.length)),(189,.int x),(0,.bytes data),(217,.ref pa),(218,.ref oa),(145,.lst (fU.map gm)),(116,held)]
theorem Mo (x:Nat):(cZ x).length<=1:=by unfold cZ;split<;>simp
theorem Mp (x:Nat) (P:List UInt8):(ju x P).length<=2:=by unfold ju;have:=Mo x;split<;>simp<;>lia
theorem D3 (x:Nat) (P:List UInt8):(lY x P).length<=3:=by unfold lY;have:=Mp x P;split<;>simp<;>lia
section
theorem aa5 {X:Ex->af->aa->Prop} (ht:aC≠[]) (hz:aC.length<=1000) (K:je par bs rs) (ha:∃k:Nat,σ a=some (.av [.int k])) (ho:σ opt=some (de bits par)) (hd:data.length<=1000)
  (k:∀(says:List Bool) (FD:List UInt8) (k':Nat),says.length<=3->(∃cg,Flt FD cg says.length λi=>says.getD i true)->FD.length<=100->
   aD ⟨sc,n+4,true⟩ rest (ED opt bs rs ag ar x (data++cR FD (fa ag ar bs.length)) pa oa (lY x (fW data.length FD.length (fa ag ar bs.length))) (lN x bits (fa ag ar bs.length) says)) (upd σ a (.av [.int k'])) N' R X):
  aD ⟨sc,n+4,true⟩ ((.asg (.tup [202,153]) (.cf 224 [.v 179,.v 1]))::(.asg (.nm 145) (.lst []))::(.ite (.cmp .Eq (.bin .Mod (.v 189) (.int 5)) (.int 0)) [.asg (.nm 145) (.lst [.tup [.aQ [102,105,108,116,101,114,46,111,116,104,101,114],.aQ [0,0]]])] [])::(.asg (.nm 116) .none)::(.ite (.cmp .NotEq (.bin .Mod (.v 189) (.int 7)) (.int 0)) [.asg (.nm 145) (.bin .Add (.v 145) (.lst [.tup [.aQ [102,105,108,116,101,114,46,114,97,102,116,107,101,101,112,46,98,108,111,111,109],.cf 222 [.cb 9 [.v 0],.v 153,.idx (.v 216) (.v 5)]]])),.ite (.an [.cmp .Gt (.at (.v 210) 57) (.int 0),.cmp .Eq (.idx (.v 216) (.v 5)) (.int 0)]) [.asg (.nm 116) (.v 202)] []] [])::(.ite (.cmp .Eq (.bin .Mod (.v 189) (.int 3)) (.int 0)) [.asg (.nm 145) (.bin .Add (.v 145) (.lst [.tup [.aQ [115,116,97,116,115],.aQ []]]))] [])::(.asg (.nm 0) (.bin .Add (.v 0) (.cf 223 [.v 153,.idx (.v 216) (.v 5)])))::rest) (EB aC a opt a9 bs rs ag ar x data pa oa) σ N' R X:=by
 have bl:=K.bl
 have fO:opt≠a:=λe=>by obtain⟨k,ha⟩:=ha;simp only[e,ha]at ho;cases ho
 have qx:∀τ:aa,fe τ (.lst (jR ag ar bs.length)) (.int (bs.length:Int)) (.int (fa ag ar bs.length)):=λτ=>gk (aT _) (zj bl rfl) (oX (KU))
 refine aA (rM rfl ?_ rfl)
 lk
 refine Yc (n+2) ht hz ha λsays FD k' h1 h2 h3=>?_
 refine⟨_,rfl,rfl,?_⟩
 have k:=k says FD k' h1 h2 h3
 have cy:upd σ a (.av [.int k']) opt=some (de bits par):=(aw _ _ fO).trans ho
 generalize hP:fW data.length FD.length (fa ag ar bs.length)=P at k
 have FF:∀{fU:List KV} {held:PV},fU.length<=2->fU=ju x P->held=lN x bits (fa ag ar bs.length) says->aD ⟨sc,n+4,true⟩ ((.ite (.cmp .Eq (.bin .Mod (.v 189) (.int 3)) (.int 0)) [.asg (.nm 145) (.bin .Add (.v 145) (.lst [.tup [.aQ [115,116,97,116,115],.aQ []]]))] [])::(.asg (.nm 0) (.bin .Add (.v 0) (.cf 223 [.v 153,.idx (.v 216) (.v 5)])))::rest) (ED opt bs rs ag ar x data pa oa fU held++[(153,.bytes FD)]) (upd σ a (.av [.int k'])) N' R X:=by
  intro fU held hl hm hh
  subst hm hh
  have fin:∀{m3:List KV} {ρ:af},m3=lY x P->Sub (ED opt bs rs ag ar x data pa oa m3 (lN x bits (fa ag ar bs.length) says)++[(153,.bytes FD)]) ρ->aD ⟨sc,n+4,true⟩ ((.asg (.nm 0) (.bin .Add (.v 0) (.cf 223 [.v 153,.idx (.v 216) (.v 5)])))::rest) ρ (upd σ a (.av [.int k'])) N' R X:=by
   intro m3 ρ hm hs
   subst hm
   refine c_ hs ?_
   unfold ED
   simp only[ck,bL]
   lk
   refine⟨_,qx _,?_⟩
   lk
   refine yn (n+2) (ai h3 (aG rfl)) ?_
   refine⟨_,b9 (by rw[gJ];exact Fq hd h3 rfl),?_⟩
   refine c_ ?_ k
   k_in
  unfold ED
  simp only[ck,bL]
  lk
  refine aH (λhc=>?_) λhc=>?_
  ·lk
   refine⟨_,nz (by simp;exact ai hl (aG rfl)),?_⟩
   refine aE ?_
   have es:(ju x P).map gm++[PV.tup [.bytes [115,116,97,116,115],.bytes []]]=(ju x P++[(qu,[])]).map gm:=by rw[t6];rfl
   refine aj (es)▸?_
   refine fin (m3:=ju x P++[(qu,[])]) (by unfold lY;rw[if_pos (by exact(cU.mp hc.symm).symm)]) ?_
   unfold ED
   simp only[ck,bL]
   k_in
  ·refine aE ?_
   refine fin (m3:=ju x P) (by unfold lY;rw[if_neg λh=>hc (congrArg _ h),ly]) λ_ _ e=>e
 have FG:∀{fU:List KV} {ρ:af},fU.length<=1->fU=cZ x->Sub ((210,.ref opt)::(205,.lst (bs.map da))::(192,.lst (rs.map eZ))::(5,.int bs.length)::(198,.int ag)::(216,.lst (jR ag ar bs.length))::(189,.int x)::(0,.bytes data)::(217,.ref pa)::(218,.ref oa)::(145,.lst (fU.map gm))::(153,.bytes FD)::(202,.lst (says.map PV.bool))::[]) ρ->aD ⟨sc,n+4,true⟩ ((.asg (.nm 116) .none)::(.ite (.cmp .NotEq (.bin .Mod (.v 189) (.int 7)) (.int 0)) [.asg (.nm 145) (.bin .Add (.v 145) (.lst [.tup [.aQ [102,105,108,116,101,114,46,114,97,102,116,107,101,101,112,46,98,108,111,111,109],.cf 222 [.cb 9 [.v 0],.v 153,.idx (.v 216) (.v 5)]]])),.ite (.an [.cmp .Gt (.at (.v 210) 57) (.int 0),.cmp .Eq (.idx (.v 216) (.v 5)) (.int 0)]) [.asg (.nm 116) (.v 202)] []] [])::(.ite (.cmp .Eq (.bin .Mod (.v 189) (.int 3)) (.int 0)) [.asg (.nm 145) (.bin .Add (.v 145) (.lst [.tup [.aQ [115,116,97,116,115],.aQ []]]))] [])::(.asg (.nm 0) (.bin .Add (.v 0) (.cf 223 [.v 153,.idx (.v 216) (.v 5)])))::rest) ρ (upd σ a (.av [.int k'])) N' R X:=by
  intro fU ρ hl hm hs
  subst hm
  refine c_ hs ?_
  lk
  refine aH (λhc=>?_) λhc=>?_
  ·lk
   refine⟨_,qx _,?_⟩
   lk
   refine Di (n+1) (KS hd) (aaI h3) ?_
   refine aj (hP)▸?_
   lk
   refine⟨_,nz (by simp;exact ai hl (aG rfl)),?_⟩
   have em:(cZ x).map gm++[PV.tup [.bytes fL,.bytes P]]=(ju x P).map gm:=by
    unfold ju;rw[if_pos (DM hc),t6];rfl
   change aD _ _ (put _ _ (.lst ((cZ x).map gm++[PV.tup [.bytes fL,.bytes P]]))) _ _ _ _
   refine aj (em)▸?_
   have held:∀{hv:PV} {ρ:af},hv=lN x bits (fa ag ar bs.length) says->Sub (ED opt bs rs ag ar x data pa oa (ju x P) hv++[(153,.bytes FD)]) ρ->aD ⟨sc,n+4,true⟩ ((.ite (.cmp .Eq (.bin .Mod (.v 189) (.int 3)) (.int 0)) [.asg (.nm 145) (.bin .Add (.v 145) (.lst [.tup [.aQ [115,116,97,116,115],.aQ []]]))] [])::(.asg (.nm 0) (.bin .Add (.v 0) (.cf 223 [.v 153,.idx (.v 216) (.v 5)])))::rest) ρ (upd σ a (.av [.int k'])) N' R X:=λe hs=>c_ hs (FF (Mp x P) rfl e)
   refine aA (bR (fj (aY (V_at (aq rfl ⟨opt,_,_,_,rfl,cy,rfl,rfl,?_⟩)))))
   refine aI ⟨_,ip,?_⟩
   refine aH (λhb=>?_) λhb=>?_
   ·refine fj (aY (b8 (aq rfl (aq rfl ⟨_,qx _,?_⟩))))
    refine aI ⟨_,dw,?_⟩
    refine aH (λhf=>?_) λhf=>?_
    ·refine my (du ?_)
     refine aA (cv (aq rfl ?_) rfl)
     refine aE (aE ?_)
     refine held (hv:=.lst (says.map PV.bool)) (by unfold lN;rw[if_pos ⟨DM hc,a_.mp hb,(qS hf).symm⟩]) ?_
     unfold ED
     simp only[ck,bL]
     k_in
    ·refine b4 (aE (aE ?_))
     refine held (hv:=.none) (by unfold lN;rw[if_neg λh=>hf (congrArg _ h.2.2)]) ?_
     unfold ED
     simp only[ck,bL]
     k_in
   ·refine b4 (aE (aE ?_))
    refine held (hv:=.none) (by unfold lN;rw[if_neg λh=>hb (a_.mpr h.2.1)]) ?_
    unfold ED
    simp only[ck,bL]
    k_in
  ·refine aE ?_
   refine c_ (l:=ED opt bs rs ag ar x data pa oa (cZ x) .none++[(153,.bytes FD)]) ?_ (FF (by have:=Mo x;exact ai hl (aG rfl)) (by unfold ju;rw[if_neg (by lia),ly]) (by unfold lN;rw[if_neg (is hc)]))
   unfold ED
   simp only[ck,bL]
   k_in
 lk
 refine aH (λhc=>?_) λhc=>?_
 ·refine aA (cv (Bd (aO (qp (aO (mz (aO (mz (bc ⟨by decide,bc ⟨by decide,?_⟩⟩)))))))) rfl)
  refine aE ?_
  exact FG (fU:=[(uY,[0,0])]) (by decide) (by unfold cZ;rw[if_pos (by exact(cU.mp hc.symm).symm)]) (by k_in)
 ·refine aE ?_
  exact FG (fU:=[]) (by decide) (by unfold cZ;rw[if_neg λh=>hc (congrArg _ h)]) (by k_in)
end
end
section
noncomputable def eX (rs:List (KN×Nat)) (ro:Nat->Nat) (B:Nat->bq) (ag ar:Nat):List KV:=rs.map λr=>(bI r.1,fW (ro r.2) (B r.2).D.length (fa ag ar r.2))
noncomputable def mY (mo ml f1:Nat):List UInt8:=bP (mo+if f1=4 then 2000 else 0)++bP ml
noncomputable def mZ (mo ml io il f1 f2:Nat):List UInt8:=mY mo ml f1++fW io il f2
noncomputable def kh (mo ml io il f1 f2:Nat):List UInt8:=mZ mo ml io il f1 f2++if f1=3 then[1]else[]
theorem tA (o l f:Nat):(fW o l f).length<=5:=by
 unfold fW
 have h1:=jy (o+if f=4 then 2000 else 0)
 have h2:=jy l
 have h3:(if f=3 then[1]else[]:List UInt8).length<=1:=by split<;>simp
 simp only[bf];exact jp h3 h1 h2
theorem NJ (mo ml f1:Nat):(mY mo ml f1).length<=4:=by
 have h1:=jy (mo+if f1=4 then 2000 else 0)
 have h2:=jy ml
 unfold mY;rw[bf];exact zp h1 h2 rfl
theorem zN (mo ml io il f1 f2:Nat):(kh mo ml io il f1 f2).length<=10:=by
 have h1:=NJ mo ml f1
 have h2:=tA io il f2
 have h3:(if f1=3 then[1]else[]:List UInt8).length<=1:=by split<;>simp
 unfold kh mZ
 simp only[bf];exact kt h3 h1 h2
theorem W9 {par bs} (K:je par bs rs) (ro:Nat->Nat) (B:Nat->bq) (ag ar:Nat):∀r∈eX rs ro B ag ar,p9 r:=λr hr=>by
 obtain⟨z,hz,rfl⟩:=gS.mp hr
 have h3:=(K.ro z hz).1.1
 have:=tA (ro z.2) (B z.2).D.length (fa ag ar z.2)
 exact⟨by show(bI z.1).length<=30;rw[pJ];exact KQ h3,by show(fW _ _ _).length<=6;exact KW this⟩
theorem abo {P:List UInt8} (hP:P.length<=5):∀r∈lY x P,p9 r:=λr hr=>by
 unfold lY ju cZ at hr
 simp only[lA,or_assoc]at hr
 rcases hr with hr|hr|hr<;>split at hr<;>simp at hr<;>subst hr
 ·exact⟨by decide,by decide⟩
 ·exact⟨aG rfl,by show P.length<=6;exact KW hP⟩
 ·exact⟨by decide,by decide⟩
noncomputable abbrev EE (opt:Nat) (bs:List (List KN)) (rs:List (KN×Nat)) (ag ar x:Nat) (data:List UInt8) (pa oa:Nat) (held:PV) (mo:Nat):af:=[(210,.ref opt),(205,.lst (bs.map da)),(192,.lst (rs.map eZ)),(5,.int bs.length),(198,.int ag),(216,.lst (jR ag ar bs.length)),(189,.int x),(0,.bytes data),(217,.ref pa),(218,.ref oa),(116,held),(128,.int mo)]
noncomputable def dataE (data:List UInt8) (M I:bq) (f1 f2:Nat):List UInt8:=data++cR M.D f1++cR I.D f2++kh data.length M.D.length (data++cR M.D f1).length I.D.length f1 f2++bV (40-(kh data.length M.D.length (data++cR M.D f1).length I.D.length f1 f2).length) 0
section
theorem aa6 {fU:List KV} {held:PV} {ro:Nat->Nat} {B:Nat->bq} {X:Ex->af->aa->Prop} (K:je par bs rs) (hd:data.length<=2000) (jm:fU.length<=3) (vn:∀r∈fU,p9 r)
  (hp:σ pa=some (.av ((aW bs.length).map fp))) (Ct:∀i<bs.length,fp i=l8 (ro i) (B i).D.length ag ar i)
  (k:∀M I,kA M fU (decide (ag=7))->kA I (eX rs ro B ag ar) (decide (ag=6))->aD ⟨sc,n+4,true⟩ rest (EE opt bs rs ag ar x (dataE data M I (fa ag ar (bs.length+1)) (fa ag ar (bs.length+2))) pa oa held data.length) σ N' R X):
  aD ⟨sc,n+4,true⟩ ((.asg (.nm 128) (.cb 9 [.v 0]))::(.asg (.nm 153) (.cf 221 [.v 145,.bin .FloorDiv (.v 189) (.int 2),.ite (.cmp .Eq (.v 198) (.int 7)) (.aQ [200,1,0,0]) (.aQ [])]))::(.asg (.nm 132) (.bin .Add (.cf 184 [.bin .Add (.v 128) (.ite (.cmp .Eq (.idx (.v 216) (.bin .Add (.v 5) (.int 1))) (.int 4)) (.int 2000) (.int 0))]) (.cf 184 [.cb 9 [.v 153]])))::(.asg (.nm 0) (.bin .Add (.v 0) (.cf 223 [.v 153,.idx (.v 216) (.bin .Add (.v 5) (.int 1))])))::(.asg (.nm 153) (.cf 221 [.cp (.tup [.cf 219 [.v 208],.idx (.idx (.v 217) (.v 183)) (.int 1)]) (.tup [208,183]) (.v 192) none,.bin .FloorDiv (.v 189) (.int 4),.ite (.cmp .Eq (.v 198) (.int 6)) (.aQ [200,1,0,0]) (.aQ [])]))::(.asg (.nm 132) (.bin .Add (.v 132) (.cf 222 [.cb 9 [.v 0],.v 153,.idx (.v 216) (.bin .Add (.v 5) (.int 2))])))::(.ite (.cmp .Eq (.idx (.v 216) (.bin .Add (.v 5) (.int 1))) (.int 3)) [.asg (.nm 132) (.bin .Add (.v 132) (.aQ [1]))] [])::(.asg (.nm 0) (.bin .Add (.bin .Add (.bin .Add (.v 0) (.cf 223 [.v 153,.idx (.v 216) (.bin .Add (.v 5) (.int 2))])) (.v 132)) (.cb 36 [.bin .Sub (.int 40) (.cb 9 [.v 132])])))::rest) (ED opt bs rs ag ar x data pa oa fU held) σ N' R X:=by
 have bl:=K.bl
 have rl:=K.rl
 have qw:∀τ:aa,fe τ (.lst (jR ag ar bs.length)) (.int ((bs.length:Int)+1)) (.int (fa ag ar (bs.length+1))):=λτ=>gk (aT _) (KX bl) (oX (n:=bs.length) (i:=bs.length+1) (KY))
 have sq:∀τ:aa,fe τ (.lst (jR ag ar bs.length)) (.int ((bs.length:Int)+2)) (.int (fa ag ar (bs.length+2))):=λτ=>gk (aT _) (KZ bl) (oX (n:=bs.length) (i:=bs.length+2) (aP _))
 generalize I3:fa ag ar (bs.length+1)=f1 at k qw
 generalize Cr:fa ag ar (bs.length+2)=f2 at k sq
 have Xw:∀{M:bq} {ρ:af},kA M fU (decide (ag=7))->Sub (EE opt bs rs ag ar x data pa oa held data.length++[(153,.bytes M.D)]) ρ->aD ⟨sc,n+4,true⟩ ((.asg (.nm 132) (.bin .Add (.cf 184 [.bin .Add (.v 128) (.ite (.cmp .Eq (.idx (.v 216) (.bin .Add (.v 5) (.int 1))) (.int 4)) (.int 2000) (.int 0))]) (.cf 184 [.cb 9 [.v 153]])))::(.asg (.nm 0) (.bin .Add (.v 0) (.cf 223 [.v 153,.idx (.v 216) (.bin .Add (.v 5) (.int 1))])))::(.asg (.nm 153) (.cf 221 [.cp (.tup [.cf 219 [.v 208],.idx (.idx (.v 217) (.v 183)) (.int 1)]) (.tup [208,183]) (.v 192) none,.bin .FloorDiv (.v 189) (.int 4),.ite (.cmp .Eq (.v 198) (.int 6)) (.aQ [200,1,0,0]) (.aQ [])]))::(.asg (.nm 132) (.bin .Add (.v 132) (.cf 222 [.cb 9 [.v 0],.v 153,.idx (.v 216) (.bin .Add (.v 5) (.int 2))])))::(.ite (.cmp .Eq (.idx (.v 216) (.bin .Add (.v 5) (.int 1))) (.int 3)) [.asg (.nm 132) (.bin .Add (.v 132) (.aQ [1]))] [])::(.asg (.nm 0) (.bin .Add (.bin .Add (.bin .Add (.v 0) (.cf 223 [.v 153,.idx (.v 216) (.bin .Add (.v 5) (.int 2))])) (.v 132)) (.cb 36 [.bin .Sub (.int 40) (.cb 9 [.v 132])])))::rest) ρ σ N' R X:=by
  intro M ρ hM hs
  have ml:=hM.len
  refine c_ hs ?_
  have JN:∀{ρ:af},Sub (EE opt bs rs ag ar x data pa oa held data.length++[(153,.bytes M.D),(132,.bytes (mY data.length M.D.length f1))]) ρ->aD ⟨sc,n+4,true⟩ ((.asg (.nm 0) (.bin .Add (.v 0) (.cf 223 [.v 153,.idx (.v 216) (.bin .Add (.v 5) (.int 1))])))::(.asg (.nm 153) (.cf 221 [.cp (.tup [.cf 219 [.v 208],.idx (.idx (.v 217) (.v 183)) (.int 1)]) (.tup [208,183]) (.v 192) none,.bin .FloorDiv (.v 189) (.int 4),.ite (.cmp .Eq (.v 198) (.int 6)) (.aQ [200,1,0,0]) (.aQ [])]))::(.asg (.nm 132) (.bin .Add (.v 132) (.cf 222 [.cb 9 [.v 0],.v 153,.idx (.v 216) (.bin .Add (.v 5) (.int 2))])))::(.ite (.cmp .Eq (.idx (.v 216) (.bin .Add (.v 5) (.int 1))) (.int 3)) [.asg (.nm 132) (.bin .Add (.v 132) (.aQ [1]))] [])::(.asg (.nm 0) (.bin .Add (.bin .Add (.bin .Add (.v 0) (.cf 223 [.v 153,.idx (.v 216) (.bin .Add (.v 5) (.int 2))])) (.v 132)) (.cb 36 [.bin .Sub (.int 40) (.cb 9 [.v 132])])))::rest) ρ σ N' R X:=by
   intro ρ hs
   refine c_ hs ?_
   have Xx:∀{I:bq} {ρ:af},kA I (eX rs ro B ag ar) (decide (ag=6))->Sub (EE opt bs rs ag ar x (data++cR M.D f1) pa oa held data.length++[(153,.bytes I.D),(132,.bytes (mY data.length M.D.length f1))]) ρ->aD ⟨sc,n+4,true⟩ ((.asg (.nm 132) (.bin .Add (.v 132) (.cf 222 [.cb 9 [.v 0],.v 153,.idx (.v 216) (.bin .Add (.v 5) (.int 2))])))::(.ite (.cmp .Eq (.idx (.v 216) (.bin .Add (.v 5) (.int 1))) (.int 3)) [.asg (.nm 132) (.bin .Add (.v 132) (.aQ [1]))] [])::(.asg (.nm 0) (.bin .Add (.bin .Add (.bin .Add (.v 0) (.cf 223 [.v 153,.idx (.v 216) (.bin .Add (.v 5) (.int 2))])) (.v 132)) (.cb 36 [.bin .Sub (.int 40) (.cb 9 [.v 132])])))::rest) ρ σ N' R X:=by
    intro I ρ hI hs
    have il:=hI.len
    rw[show(eX rs ro B ag ar).length=rs.length by simp[eX]]at il
    have k:=k M I hM hI
    have q1:=NJ data.length M.D.length f1
    have q2:=tA (data++cR M.D f1).length I.D.length f2
    have q3:=zN data.length M.D.length (data++cR M.D f1).length I.D.length f1 f2
    have q4:(data++cR M.D f1).length<=2500:=by rw[bf,gJ];exact kw ml hd jm
    refine c_ hs ?_
    have JP:∀{ρ:af} {T:List UInt8},T=kh data.length M.D.length (data++cR M.D f1).length I.D.length f1 f2->Sub (EE opt bs rs ag ar x (data++cR M.D f1) pa oa held data.length++[(153,.bytes I.D),(132,.bytes T)]) ρ->aD ⟨sc,n+4,true⟩ ((.asg (.nm 0) (.bin .Add (.bin .Add (.bin .Add (.v 0) (.cf 223 [.v 153,.idx (.v 216) (.bin .Add (.v 5) (.int 2))])) (.v 132)) (.cb 36 [.bin .Sub (.int 40) (.cb 9 [.v 132])])))::rest) ρ σ N' R X:=by
     intro ρ T hT hs
     subst hT
     refine c_ hs ?_
     unfold EE
     simp only[ck,bL]
     lk
     refine⟨_,sq _,?_⟩
     lk
     refine yn (n+2) (Ao il rl rfl) ?_
     refine⟨_,b9 (by rw[gJ];exact lc il q4 rl),?_⟩
     lk
     refine⟨_,b9 (by rw[bf,gJ];exact lf il q3 q4 rl),?_⟩
     lk
     refine⟨_,xu (by lia) (LN),?_⟩
     refine⟨_,b9 (by rw[bf,bf,gJ,t5];lia),?_⟩
     refine c_ ?_ k
     unfold dataE
     rw[show((40:Int)-((kh data.length M.D.length (data++cR M.D f1).length I.D.length f1 f2).length:Int)).toNat=40-(kh data.length M.D.length (data++cR M.D f1).length I.D.length f1 f2).length by exact LO]
     k_in
    unfold EE
    simp only[ck,bL]
    lk
    refine⟨_,sq _,?_⟩
    lk
    refine Di (n+1) (aaJ q4) (aaK il rl) ?_
    refine⟨_,b9 (ai (aM q1 q2) (aG rfl)),?_⟩
    lk
    refine⟨_,qw _,?_⟩
    lk
    refine aH (λhc=>?_) λhc=>?_
    ·refine aA (cv (dC (aq rfl (mz ⟨_,b9 (by rw[bf];show _+1<=_;exact zpr q1 q2 rfl),?_⟩))) rfl)
     refine aE ?_
     refine JP (T:=mZ data.length M.D.length (data++cR M.D f1).length I.D.length f1 f2++[1]) (by unfold kh;rw[if_pos (cU.mp hc)]) ?_
     unfold EE mZ
     simp only[ck,bL]
     k_in
    ·refine aE ?_
     refine JP (T:=mZ data.length M.D.length (data++cR M.D f1).length I.D.length f1 f2) (by unfold kh;rw[if_neg (vU hc),ly]) ?_
     unfold EE mZ
     simp only[ck,bL]
     k_in
   unfold EE
   simp only[ck,bL]
   lk
   refine⟨_,qw _,?_⟩
   lk
   refine yn (n+2) (Ao ml jm rfl) ?_
   refine⟨_,b9 (by rw[gJ];lia),?_⟩
   lk
   refine oR rfl (oQ ?_)
   lk
   refine⟨_,rfl,λD zA hD=>?_⟩
   refine comp_map (g:=λr:KN×Nat=>gm (bI r.1,fW (ro r.2) (B r.2).D.length (fa ag ar r.2))) hD rs [] (by simp;exact n7 rl) (λr hr=>?_) ?_
   ·have cw:=(K.ro r hr).2
    have qJ:=(K.ro r hr).1.1
    refine⟨put (put _ 208 (bn r.1)) 183 (.int r.2),rfl,λac Q hq=>?_⟩
    have Wq:upd σ D ac pa=some (.av ((aW bs.length).map fp)):=(aw _ _ (by exact λe=>by rw[e,hD]at hp;(exact nn hp))).trans hp
    lk
    refine vF (n+2) (td qJ) ?_
    lk
    refine⟨_,i6 (p:=l8 (ro r.2) (B r.2).D.length ag ar r.2) Wq (by exact aT _) (by exact km cw bl rfl) (by rw[show((r.2:Nat):Int).toNat=r.2 by exact eY];simp[cw,Ct r.2 cw]),?_⟩
    unfold l8
    lk
    exact hq
   rw[bL,show rs.map (λr:KN×Nat=>gm (bI r.1,fW (ro r.2) (B r.2).D.length (fa ag ar r.2)))=(eX rs ro B ag ar).map gm by simp[eX]]
   have JO:∀{b:List UInt8} {ρ:af},b=cj (decide (ag=6))->Sub (EE opt bs rs ag ar x (data++cR M.D f1) pa oa held data.length++[(132,.bytes (mY data.length M.D.length f1))]) ρ->Call (n+4) true 939 [.lst ((eX rs ro B ag ar).map gm),.int ((x:Int)/4),.bytes b] σ (λp σ'=>aD ⟨sc,n+4,true⟩ ((.asg (.nm 132) (.bin .Add (.v 132) (.cf 222 [.cb 9 [.v 0],.v 153,.idx (.v 216) (.bin .Add (.v 5) (.int 2))])))::(.ite (.cmp .Eq (.idx (.v 216) (.bin .Add (.v 5) (.int 1))) (.int 3)) [.asg (.nm 132) (.bin .Add (.v 132) (.aQ [1]))] [])::(.asg (.nm 0) (.bin .Add (.bin .Add (.bin .Add (.v 0) (.cf 223 [.v 153,.idx (.v 216) (.bin .Add (.v 5) (.int 2))])) (.v 132)) (.cb 36 [.bin .Sub (.int 40) (.cb 9 [.v 132])])))::rest) (put ρ 153 p) σ' N' R X) (λex σ'=>X ex ρ σ'):=by
    intro b ρ hb hs
    subst hb
    rw[show(x:Int)/4=((x/4:Nat):Int) by exact rfl]
    refine De (n+1) (W9 K ro B ag ar) (by simp[eX];exact ai rl (aG rfl)) λI hI=>?_
    refine Xx hI λy p e=>?_
    unfold EE at e hs
    simp only[ck,bL]at e hs
    rw[cJ]
    by_cases q:y=153
    ·subst q;rw[if_pos rfl];exact e
    ·rw[if_neg q]
     refine hs y p ?_
     simp only[u1,mH]at e⊢
     have:bh 153 y=false:=by cases hb:bh 153 y with|false=>rfl|true=>exact absurd (fG hb).symm q
     rw[this]at e
     exact e
   lk
   refine aH (λhc=>?_) λhc=>?_
   ·refine mz (bc ?_)
    refine JO (by rw[decide_eq_true (show ag=6 by exact cU.mp hc)];rfl) ?_
    unfold EE
    simp only[ck,bL]
    k_in
   ·refine mz (bc ?_)
    refine JO (by rw[decide_eq_false (show¬ag=6 by exact K0 hc)];rfl) ?_
    unfold EE
    simp only[ck,bL]
    k_in
  unfold EE
  simp only[ck,bL]
  lk
  refine⟨_,qw _,?_⟩
  lk
  refine aH (λhc=>?_) λhc=>?_
  ·lk
   refine lR (v:=data.length+2000) (n+2) (aaL hd) ?_
   have v1:=jy (data.length+2000)
   have v2:=jy M.D.length
   lk
   refine lR (n+2) (Lp ml jm) ?_
   refine⟨_,b9 (zp v1 v2 rfl),?_⟩
   refine JN ?_
   unfold EE mY
   rw[if_pos (show f1=4 by exact cU.mp hc)]
   simp only[ck,bL]
   k_in
  ·lk
   refine lR (v:=data.length+0) (n+2) (aaM hd) ?_
   have v1:=jy (data.length+0)
   have v2:=jy M.D.length
   lk
   refine lR (n+2) (Lp ml jm) ?_
   refine⟨_,b9 (zp v1 v2 rfl),?_⟩
   refine JN ?_
   unfold EE mY
   rw[if_neg (show¬f1=4 by exact DI hc)]
   simp only[ck,bL]
   k_in
 have Hm:∀{b:List UInt8} {ρ:af},b=cj (decide (ag=7))->(∀M:bq,Sub (EE opt bs rs ag ar x data pa oa held data.length++[(153,.bytes M.D)]) (put ρ 153 (.bytes M.D)))->Call (n+4) true 939 [.lst (fU.map gm),.int ((x:Int)/2),.bytes b] σ (λp σ'=>aD ⟨sc,n+4,true⟩ ((.asg (.nm 132) (.bin .Add (.cf 184 [.bin .Add (.v 128) (.ite (.cmp .Eq (.idx (.v 216) (.bin .Add (.v 5) (.int 1))) (.int 4)) (.int 2000) (.int 0))]) (.cf 184 [.cb 9 [.v 153]])))::(.asg (.nm 0) (.bin .Add (.v 0) (.cf 223 [.v 153,.idx (.v 216) (.bin .Add (.v 5) (.int 1))])))::(.asg (.nm 153) (.cf 221 [.cp (.tup [.cf 219 [.v 208],.idx (.idx (.v 217) (.v 183)) (.int 1)]) (.tup [208,183]) (.v 192) none,.bin .FloorDiv (.v 189) (.int 4),.ite (.cmp .Eq (.v 198) (.int 6)) (.aQ [200,1,0,0]) (.aQ [])]))::(.asg (.nm 132) (.bin .Add (.v 132) (.cf 222 [.cb 9 [.v 0],.v 153,.idx (.v 216) (.bin .Add (.v 5) (.int 2))])))::(.ite (.cmp .Eq (.idx (.v 216) (.bin .Add (.v 5) (.int 1))) (.int 3)) [.asg (.nm 132) (.bin .Add (.v 132) (.aQ [1]))] [])::(.asg (.nm 0) (.bin .Add (.bin .Add (.bin .Add (.v 0) (.cf 223 [.v 153,.idx (.v 216) (.bin .Add (.v 5) (.int 2))])) (.v 132)) (.cb 36 [.bin .Sub (.int 40) (.cb 9 [.v 132])])))::rest) (put ρ 153 p) σ' N' R X) (λex σ'=>X ex ρ σ'):=by
  intro b ρ hb hs
  subst hb
  rw[show(x:Int)/2=((x/2:Nat):Int) by exact rfl]
  exact De (n+1) vn (ai jm (aG rfl)) λM hM=>Xw hM (hs M)
 lk
 refine aH (λhc=>?_) λhc=>?_
 ·refine mz (bc ?_)
  refine Hm (by rw[decide_eq_true (show ag=7 by exact cU.mp hc)];rfl) λM=>?_
  unfold EE
  simp only[ck,bL]
  k_in
 ·refine mz (bc ?_)
  refine Hm (by rw[decide_eq_false (show¬ag=7 by exact λh=>hc (congrArg _ h))];rfl) λM=>?_
  unfold EE
  simp only[ck,bL]
  k_in
end
end
section
noncomputable def iM:List Int:=[87,251,128,139,36,117,71,219]
noncomputable def dU (ag x:Nat):List Int:=if ag=5 then iM.set (x%8) (jA (iM.getD (x%8) 0) 1)else iM
theorem DZ {P:Nat->Prop} (h:∀k<8,P k) (x:Nat):P (x%8):=h _ (eJ _ (by decide))
theorem Mk (ag x:Nat):(∀n∈dU ag x,0<=n/\n<256)/\(dU ag x).length=8:=by
 unfold dU
 split
 ·exact DZ (P:=λk=>(∀n∈iM.set k (jA (iM.getD k 0) 1),0<=n/\n<256)/\(iM.set k (jA (iM.getD k 0) 1)).length=8) (by decide) x
 ·decide
theorem abe (ag x:Nat):fT (dO (dU ag x)) 0=15800726617472432983↔ag≠5:=by
 unfold dU
 split
 ·rename_i e
  refine⟨λh=>absurd h ?_,λh=>absurd e h⟩
  exact DZ (P:=λk=>¬fT (dO (iM.set k (jA (iM.getD k 0) 1))) 0=15800726617472432983) (by decide) x
 ·rename_i e
  exact⟨λ_=>e,λ_=>by decide⟩
set_option genInjectivity false in
structure cB where
 sep:KN
 ps:List KN
 off:Nat
 size:Nat
 fault:Nat
noncomputable abbrev dF (r:cB):PV:=.tup [bn r.sep,da r.ps,.int r.off,.int r.size,.int r.fault]
noncomputable def mT (bs:List (List KN)) (ro:Nat->Nat) (B:Nat->bq) (ag ar:Nat) (r:KN×Nat):cB:=⟨r.1,bs.getD r.2 [],ro r.2+(if fa ag ar r.2=4 then 2000 else 0),(B r.2).D.length,fa ag ar r.2⟩
noncomputable def qO:cB:=⟨(bV 9 255,0),[],0,0,3⟩
noncomputable def n6 (bs:List (List KN)) (rs:List (KN×Nat)) (ro:Nat->Nat) (B:Nat->bq) (ag ar:Nat):List cB:=rs.map (mT bs ro B ag ar)++if ag=6 then[qO]else[]
noncomputable def l7 (ag f1 f2:Nat):Bool:=decide (ag≠5/\f1=0/\f2=0)
noncomputable def tz (ag f0 f1 f2 x bits:Nat) (par:Bool):Bool:=if par=true/\0<bits/\x%7≠0/\0<f0 then false else l7 ag f1 f2
noncomputable def qW (ag f0 f1 f2 x bits:Nat) (par:Bool):Bool:=if ag=7/\0<bits/\x%7=0/\x%3≠0 then false else tz ag f0 f1 f2 x bits par
section
noncomputable abbrev EF (opt:Nat) (bs:List (List KN)) (rs:List (KN×Nat)) (ag ar x:Nat) (data:List UInt8) (pa oa:Nat) (held:PV) (mo:Nat) (index:List cB):af:=[(210,.ref opt),(5,.int bs.length),(198,.int ag),(216,.lst (jR ag ar bs.length)),(189,.int x),(0,.bytes data),(116,held),(128,.int mo),(129,.lst (index.map dF))]
theorem aa7 {mo:Nat} {held:PV} {ro:Nat->Nat} {B:Nat->bq} {fo:Nat->PV} {X:Ex->af->aa->Prop} (K:je par bs rs) (hd:data.length<=10000)
  (hp:σ pa=some (.av ((aW bs.length).map fp))) (ho:σ oa=some (.av ((aW bs.length).map fo))) (Ct:∀i<bs.length,fp i=l8 (ro i) (B i).D.length ag ar i) (xR:∀i<bs.length,fo i=pQ (ro i) ag ar i)
  (k:∀ma x',σ ma=none->aD ⟨sc,n+4,true⟩ rest (EF opt bs rs ag ar x (data++dO (dU ag x)) pa oa held mo (n6 bs rs ro B ag ar)) (upd σ ma x') N' R X):
  aD ⟨sc,n+4,true⟩ ((.asg (.nm 225) (.n9 [.int 87,.int 251,.int 128,.int 139,.int 36,.int 117,.int 71,.int 219]))::(.ite (.cmp .Eq (.v 198) (.int 5)) [.asg (.idx (.v 225) (.bin .Mod (.v 189) (.int 8))) (.bin .BitXor (.idx (.v 225) (.bin .Mod (.v 189) (.int 8))) (.int 1))] [])::(.asg (.nm 0) (.bin .Add (.v 0) (.cb 36 [.v 225])))::(.asg (.nm 129) (.cp (.tup [.v 208,.idx (.v 205) (.v 183),.idx (.v 218) (.v 183),.idx (.idx (.v 217) (.v 183)) (.int 0),.idx (.v 216) (.v 183)]) (.tup [208,183]) (.v 192) none))::(.ite (.cmp .Eq (.v 198) (.int 6)) [.asg (.nm 129) (.bin .Add (.v 129) (.lst [.tup [.tup [.bin .Mult (.aQ [255]) (.int 9),.int 0],.lst [],.int 0,.int 0,.int 3]]))] [])::rest) (EE opt bs rs ag ar x data pa oa held mo) σ N' R X:=by
 have bl:=K.bl
 have rl:=K.rl
 unfold EE
 lk
 intro ma qF
 have k:=λx'=>k ma x' qF
 have Wu:pa≠ma:=(by exact λe=>by simp only[e,qF]at hp;(exact nn hp))
 have CJ:oa≠ma:=(by exact λe=>by simp only[e,qF]at ho;(exact nn ho))
 have JQ:∀{ρ:af} {ns:List Int},ns=dU ag x->Sub (EE opt bs rs ag ar x data pa oa held mo++[(225,.ref ma)]) ρ->aD ⟨sc,n+4,true⟩ ((.asg (.nm 0) (.bin .Add (.v 0) (.cb 36 [.v 225])))::(.asg (.nm 129) (.cp (.tup [.v 208,.idx (.v 205) (.v 183),.idx (.v 218) (.v 183),.idx (.idx (.v 217) (.v 183)) (.int 0),.idx (.v 216) (.v 183)]) (.tup [208,183]) (.v 192) none))::(.ite (.cmp .Eq (.v 198) (.int 6)) [.asg (.nm 129) (.bin .Add (.v 129) (.lst [.tup [.tup [.bin .Mult (.aQ [255]) (.int 9),.int 0],.lst [],.int 0,.int 0,.int 3]]))] [])::rest) ρ (upd σ ma (.av (aZ ns))) N' R X:=by
  intro ρ ns hn hs
  subst hn
  obtain⟨m1,m2⟩:=Mk ag x
  refine c_ hs ?_
  unfold EE
  simp only[ck,bL]
  lk
  refine⟨_,Ru (ay _ _ _) m1 (by lia),?_⟩
  refine⟨_,b9 (by simp[dO];exact lm hd m2.symm),?_⟩
  refine aA (ui rfl (oQ ?_))
  lk
  refine⟨_,rfl,λD zA hD=>?_⟩
  refine comp_map (g:=λr=>dF (mT bs ro B ag ar r)) hD rs [] (by simp;exact n7 rl) (λr hr=>?_) ?_
  ·have cw:=(K.ro r hr).2
   obtain⟨b,hb⟩:∃b,bs[r.2]?=some b:=⟨_,bQ cw⟩
   have eb:bs.getD r.2 []=b:=by rw[be,hb];rfl
   have eD:∀{q z},q≠ma->σ q=some z->upd (upd σ ma (.av (aZ (dU ag x)))) D z=upd (upd σ ma (.av (aZ (dU ag x)))) D z:=λ_ _=>rfl
   have nD:∀{q z},upd σ ma (.av (aZ (dU ag x))) q=some z->q≠D:=λh e=>by simp only[e,hD]at h;(exact nn h)
   have Jm:upd σ ma (.av (aZ (dU ag x))) pa=some (.av ((aW bs.length).map fp)):=(aw _ _ Wu).trans hp
   have dS:upd σ ma (.av (aZ (dU ag x))) oa=some (.av ((aW bs.length).map fo)):=(aw _ _ CJ).trans ho
   refine⟨put (put _ 208 (bn r.1)) 183 (.int r.2),rfl,λac Q hq=>?_⟩
   have qI:upd (upd σ ma (.av (aZ (dU ag x)))) D ac pa=some (.av ((aW bs.length).map fp)):=(aw _ _ (nD Jm)).trans Jm
   have cy:upd (upd σ ma (.av (aZ (dU ag x)))) D ac oa=some (.av ((aW bs.length).map fo)):=(aw _ _ (nD dS)).trans dS
   lk
   refine⟨_,gk (p:=da b) (by exact aT _) (by exact km cw bl rfl) (by rw[show((r.2:Nat):Int).toNat=r.2 by exact eY,mj,hb];rfl),?_⟩
   lk
   refine⟨_,i6 (p:=pQ (ro r.2) ag ar r.2) cy (by exact aT _) (by exact km cw bl rfl) (by rw[show((r.2:Nat):Int).toNat=r.2 by exact eY];simp[cw,xR r.2 cw]),?_⟩
   lk
   refine⟨_,i6 (p:=l8 (ro r.2) (B r.2).D.length ag ar r.2) qI (by exact aT _) (by exact km cw bl rfl) (by rw[show((r.2:Nat):Int).toNat=r.2 by exact eY];simp[cw,Ct r.2 cw]),?_⟩
   unfold l8
   lk
   refine⟨_,gk (aT _) (km cw bl rfl) (oX (n:=bs.length) (gN cw)),?_⟩
   lk
   unfold mT at hq
   rw[eb]at hq
   exact hq
  rw[bL]
  lk
  have e1:rs.map (λr=>dF (mT bs ro B ag ar r))=(rs.map (mT bs ro B ag ar)).map dF:=by simp
  refine aH (λhc=>?_) λhc=>?_
  ·lk
   refine⟨_,Q2 (by simp) (by decide) (by decide) (by decide),?_⟩
   lk
   refine⟨_,nz (by simp;exact DK rl),?_⟩
   refine aE ?_
   refine c_ ?_ (k _)
   have e2:rs.map (λr=>dF (mT bs ro B ag ar r))++[PV.tup [.tup [.bytes ((bV ((9:Int)).toNat [255]).flatten),.int 0],.lst [],.int 0,.int 0,.int 3]]=(n6 bs rs ro B ag ar).map dF:=by
    unfold n6
    rw[if_pos ((cU.mp hc.symm).symm),t6,<-e1];rfl
   rw[e2]
   k_in
  ·refine aE ?_
   refine c_ ?_ (k _)
   have e2:rs.map (λr=>dF (mT bs ro B ag ar r))=(n6 bs rs ro B ag ar).map dF:=by
    unfold n6
    rw[if_neg (K0 hc),ly,e1]
   rw[e2]
   k_in
 lk
 have eg:((x:Int)%8).toNat=x%8:=by exact rfl
 have hx8:x%8<8:=eJ _ (by decide)
 have eb:([PV.int 87,.int 251,.int 128,.int 139,.int 36,.int 117,.int 71,.int 219]:List PV)=aZ iM:=rfl
 rw[eb]
 refine aH (λhc=>?_) λhc=>?_
 ·lk
  refine⟨_,i6 (p:=.int (iM.getD (x%8) 0)) (ay _ _ _) (yH) (Ap rfl rfl) (by rw[eg];exact DZ (P:=λk=>(aZ iM)[k]?=some (.int (iM.getD k 0))) (λk hk=>by
   rcases(show k=0\/k=1\/k=2\/k=3\/k=4\/k=5\/k=6\/k=7 by exact DJ hk)with rfl|rfl|rfl|rfl|rfl|rfl|rfl|rfl<;>rfl) x),?_⟩
  lk
  refine⟨ma,_,_,rfl,rfl,ay _ _ _,yH,by show(x:Int)%8<8;exact Ap rfl rfl,by decide,?_⟩
  rw[aL,eg]
  have e3:(aZ iM).set (x%8) (.int (jA (iM.getD (x%8) 0) 1))=aZ (dU ag x):=by
   unfold dU
   rw[if_pos ((cU.mp hc.symm).symm)]
   unfold aZ
   rw[List.map_set]
  rw[e3]
  refine aE ?_
  exact JQ rfl (by k_in)
 ·refine aE ?_
  refine JQ (ns:=iM) (by unfold dU;rw[if_neg λh=>hc (congrArg _ h)]) ?_
  unfold EE
  simp only[ck,bL]
  k_in
theorem aa8 {mo:Nat} {held:PV} {index:List cB} (K:je par bs rs) (ho:σ opt=some (de bits par))
  (k:Q (.tup [.bytes data,.lst (index.map dF),held,.int mo,.bool (qW ag (fa ag ar bs.length) (fa ag ar (bs.length+1)) (fa ag ar (bs.length+2)) x bits par)]) σ):
  aD ⟨sc,n+4,true⟩ [.asg (.nm 226) (.an [.cmp .NotEq (.v 198) (.int 5),.cmp .Eq (.idx (.v 216) (.bin .Add (.v 5) (.int 1))) (.int 0),.cmp .Eq (.idx (.v 216) (.bin .Add (.v 5) (.int 2))) (.int 0)]),.ite (.an [.at (.v 210) 51,.cmp .Gt (.at (.v 210) 57) (.int 0),.cmp .NotEq (.bin .Mod (.v 189) (.int 7)) (.int 0),.cmp .Gt (.idx (.v 216) (.v 5)) (.int 0)]) [.asg (.nm 226) (.bool false)] [],.ite (.an [.cmp .Eq (.v 198) (.int 7),.cmp .Gt (.at (.v 210) 57) (.int 0),.cmp .Eq (.bin .Mod (.v 189) (.int 7)) (.int 0),.cmp .NotEq (.bin .Mod (.v 189) (.int 3)) (.int 0)]) [.asg (.nm 226) (.bool false)] [],.ret (some (.tup [.v 0,.v 129,.v 116,.v 128,.v 226]))] (EF opt bs rs ag ar x data pa oa held mo index) σ (λ_ σ'=>Q .none σ') Q (λex _ σ'=>X ex σ'):=by
 have bl:=K.bl
 have IW:∀τ:aa,fe τ (.lst (jR ag ar bs.length)) (.int ((bs.length:Int))) (.int (fa ag ar (bs.length))):=λτ=>gk (aT _) (zj bl rfl) (oX (n:=bs.length) (KU))
 have qw:∀τ:aa,fe τ (.lst (jR ag ar bs.length)) (.int ((bs.length:Int)+1)) (.int (fa ag ar (bs.length+1))):=λτ=>gk (aT _) (KX bl) (oX (n:=bs.length) (i:=bs.length+1) (KY))
 have sq:∀τ:aa,fe τ (.lst (jR ag ar bs.length)) (.int ((bs.length:Int)+2)) (.int (fa ag ar (bs.length+2))):=λτ=>gk (aT _) (KZ bl) (oX (n:=bs.length) (i:=bs.length+2) (aP _))
 generalize fa ag ar bs.length=f0 at k IW
 generalize fa ag ar (bs.length+1)=f1 at k qw
 generalize fa ag ar (bs.length+2)=f2 at k sq
 have JS:∀{ρ:af} {o:Bool},o=qW ag f0 f1 f2 x bits par->Sub (EF opt bs rs ag ar x data pa oa held mo index++[(226,.bool o)]) ρ->aD ⟨sc,n+4,true⟩ [.ret (some (.tup [.v 0,.v 129,.v 116,.v 128,.v 226]))] ρ σ (λ_ σ'=>Q .none σ') Q (λex _ σ'=>X ex σ'):=by
  intro ρ o h hs
  subst h
  refine c_ hs ?_
  unfold EF
  simp only[ck,bL]
  lk
  exact k
 have JR:∀{ρ:af} {o:Bool},o=tz ag f0 f1 f2 x bits par->Sub (EF opt bs rs ag ar x data pa oa held mo index++[(226,.bool o)]) ρ->aD ⟨sc,n+4,true⟩ [.ite (.an [.cmp .Eq (.v 198) (.int 7),.cmp .Gt (.at (.v 210) 57) (.int 0),.cmp .Eq (.bin .Mod (.v 189) (.int 7)) (.int 0),.cmp .NotEq (.bin .Mod (.v 189) (.int 3)) (.int 0)]) [.asg (.nm 226) (.bool false)] [],.ret (some (.tup [.v 0,.v 129,.v 116,.v 128,.v 226]))] ρ σ (λ_ σ'=>Q .none σ') Q (λex _ σ'=>X ex σ'):=by
  intro ρ o h hs
  subst h
  have no:¬(ag=7/\0<bits/\x%7=0/\x%3≠0)->aD ⟨sc,n+4,true⟩ [.ret (some (.tup [.v 0,.v 129,.v 116,.v 128,.v 226]))] (EF opt bs rs ag ar x data pa oa held mo index++[(226,.bool (tz ag f0 f1 f2 x bits par))]) σ (λ_ σ'=>Q .none σ') Q (λex _ σ'=>X ex σ'):=λq=>JS (by unfold qW;rw[if_neg q]) λ_ _ e=>e
  unfold EF at no hs
  simp only[ck,bL]at no hs
  refine c_ hs ?_
  refine aA (bR (fj (aY (aq rfl (aI ⟨_,dw,?_⟩)))))
  refine aH (λh1=>?_) λh1=>b4 (aE (no λh=>h1 (congrArg _ h.1)))
  refine fj (aY (V_at (aq rfl ⟨opt,_,_,_,rfl,ho,rfl,rfl,?_⟩)))
  refine aI ⟨_,ip,?_⟩
  refine aH (λh2=>?_) λh2=>b4 (aE (no λh=>h2 (a_.mpr h.2.1)))
  refine fj (aY (dC (aq rfl (aI ⟨_,gz (by decide),?_⟩))))
  refine aI ⟨_,dw,?_⟩
  refine aH (λh3=>?_) λh3=>b4 (aE (no λh=>h3 (congrArg _ h.2.2.1)))
  refine fj (aY (dC (aq rfl (aI ⟨_,gz (by decide),?_⟩))))
  refine aI ⟨_,qt,?_⟩
  refine aH (λh4=>?_) λh4=>b4 (aE (no (ln h4)))
  refine my (du ?_)
  refine aA (cv (lF ?_) rfl)
  refine aE ?_
  refine JS (o:=false) (by unfold qW;rw[if_pos (lw h2 h1 h3.symm h4)]) ?_
  unfold EF
  simp only[ck,bL]
  k_in
 have Dc:∀{ρ:af} {o:Bool},o=l7 ag f1 f2->Sub (EF opt bs rs ag ar x data pa oa held mo index++[(226,.bool o)]) ρ->aD ⟨sc,n+4,true⟩ [.ite (.an [.at (.v 210) 51,.cmp .Gt (.at (.v 210) 57) (.int 0),.cmp .NotEq (.bin .Mod (.v 189) (.int 7)) (.int 0),.cmp .Gt (.idx (.v 216) (.v 5)) (.int 0)]) [.asg (.nm 226) (.bool false)] [],.ite (.an [.cmp .Eq (.v 198) (.int 7),.cmp .Gt (.at (.v 210) 57) (.int 0),.cmp .Eq (.bin .Mod (.v 189) (.int 7)) (.int 0),.cmp .NotEq (.bin .Mod (.v 189) (.int 3)) (.int 0)]) [.asg (.nm 226) (.bool false)] [],.ret (some (.tup [.v 0,.v 129,.v 116,.v 128,.v 226]))] ρ σ (λ_ σ'=>Q .none σ') Q (λex _ σ'=>X ex σ'):=by
  intro ρ o h hs
  subst h
  have no:¬(par=true/\0<bits/\x%7≠0/\0<f0)->aD ⟨sc,n+4,true⟩ [.ite (.an [.cmp .Eq (.v 198) (.int 7),.cmp .Gt (.at (.v 210) 57) (.int 0),.cmp .Eq (.bin .Mod (.v 189) (.int 7)) (.int 0),.cmp .NotEq (.bin .Mod (.v 189) (.int 3)) (.int 0)]) [.asg (.nm 226) (.bool false)] [],.ret (some (.tup [.v 0,.v 129,.v 116,.v 128,.v 226]))] (EF opt bs rs ag ar x data pa oa held mo index++[(226,.bool (l7 ag f1 f2))]) σ (λ_ σ'=>Q .none σ') Q (λex _ σ'=>X ex σ'):=λq=>JR (by unfold tz;rw[if_neg q]) λ_ _ e=>e
  unfold EF at no hs
  simp only[ck,bL]at no hs
  refine c_ hs ?_
  refine aA (bR (fj (nu (V_at (aq rfl ⟨opt,_,_,_,rfl,ho,rfl,rfl,par,rfl,?_⟩)) rfl)))
  refine⟨λh1=>?_,λh1=>b4 (aE (no (by rw[h1];simp)))⟩
  refine fj (aY (V_at (aq rfl ⟨opt,_,_,_,rfl,ho,rfl,rfl,?_⟩)))
  refine aI ⟨_,ip,?_⟩
  refine aH (λh2=>?_) λh2=>b4 (aE (no λh=>h2 (a_.mpr h.2.1)))
  refine fj (aY (dC (aq rfl (aI ⟨_,gz (by decide),?_⟩))))
  refine aI ⟨_,qt,?_⟩
  refine aH (λh3=>?_) λh3=>b4 (aE (no (mt h3)))
  refine fj (aY (b8 (aq rfl (aq rfl ⟨_,IW _,?_⟩))))
  refine aI ⟨_,ip,?_⟩
  refine aH (λh4=>?_) λh4=>b4 (aE (no (pc h4)))
  refine my (du ?_)
  refine aA (cv (lF ?_) rfl)
  refine aE ?_
  refine JR (o:=false) (by unfold tz;rw[if_pos ⟨h1,a_.mp h2,DM h3,a_.mp h4⟩]) ?_
  unfold EF
  simp only[ck,bL]
  k_in
 unfold EF at Dc⊢
 simp only[ck,bL]at Dc
 refine aA (cv ?_ rfl)
 refine xf (uk (aq rfl (aI ⟨_,qt,?_⟩)))
 refine⟨_,rfl,?_⟩
 have fin:∀{o:Bool},o=l7 ag f1 f2->aD ⟨sc,n+4,true⟩ [.ite (.an [.at (.v 210) 51,.cmp .Gt (.at (.v 210) 57) (.int 0),.cmp .NotEq (.bin .Mod (.v 189) (.int 7)) (.int 0),.cmp .Gt (.idx (.v 216) (.v 5)) (.int 0)]) [.asg (.nm 226) (.bool false)] [],.ite (.an [.cmp .Eq (.v 198) (.int 7),.cmp .Gt (.at (.v 210) 57) (.int 0),.cmp .Eq (.bin .Mod (.v 189) (.int 7)) (.int 0),.cmp .NotEq (.bin .Mod (.v 189) (.int 3)) (.int 0)]) [.asg (.nm 226) (.bool false)] [],.ret (some (.tup [.v 0,.v 129,.v 116,.v 128,.v 226]))] (put (EF opt bs rs ag ar x data pa oa held mo index) 226 (.bool o)) σ (λ_ σ'=>Q .none σ') Q (λex _ σ'=>X ex σ'):=λh=>Dc h (by unfold EF;k_in)
 refine aH (λh1=>?_) λh1=>fin (decide_eq_false (pi h1)).symm
 refine xf (uk (b8 (aq rfl ?_)))
 lk
 refine⟨_,qw _,?_⟩
 refine aI ⟨_,dw,?_⟩
 refine⟨_,rfl,?_⟩
 refine aH (λh2=>?_) λh2=>fin (decide_eq_false (by lia)).symm
 refine Bb (uk (b8 (aq rfl ?_)))
 lk
 refine⟨_,sq _,?_⟩
 refine aI ⟨_,dw,?_⟩
 refine fin ?_
 unfold l7
 rw[decide_eq_decide]
 exact pr h2 h1
end
end
variable{ix:List cB}
section
set_option genInjectivity false in
structure TD where
 a9:Bool
 bs:List (List KN)
 rs:List (KN×Nat)
 ag:Nat
 ar:Nat
 x:Nat
 says:List Bool
 FD:List UInt8
 dat:List UInt8
 B:Nat->bq
 ro:Nat->Nat
 fo:Nat->PV
 fp:Nat->PV
 M:bq
 I:bq
namespace TD
noncomputable def f (d:TD) (i:Nat):Nat:=fa d.ag d.ar i
noncomputable def f0 (d:TD):Nat:=d.f d.bs.length
noncomputable def f1 (d:TD):Nat:=d.f (d.bs.length+1)
noncomputable def f2 (d:TD):Nat:=d.f (d.bs.length+2)
noncomputable def d1 (d:TD):List UInt8:=d.dat++cR d.FD d.f0
noncomputable def D (d:TD):List UInt8:=dataE d.d1 d.M d.I d.f1 d.f2++dO (dU d.ag d.x)
noncomputable def P (d:TD):List UInt8:=fW d.dat.length d.FD.length d.f0
noncomputable def idx (d:TD):List cB:=n6 d.bs d.rs d.ro d.B d.ag d.ar
noncomputable def op (d:TD) (bits:Nat) (par:Bool):Bool:=qW d.ag d.f0 d.f1 d.f2 d.x bits par
structure Ok (d:TD) (par:Bool):Prop where
 K:je par d.bs d.rs
 f7:d.ag<=7
 vl:d.ar<d.bs.length+3
 L:ni d.a9 d.bs d.ag d.ar d.bs.length d.dat d.B d.ro d.fo d.fp
 sl:d.says.length<=3
 fl:∃cg,Flt d.FD cg d.says.length λi=>d.says.getD i true
 S4:d.FD.length<=100
 M:kA d.M (lY d.x d.P) (decide (d.ag=7))
 I:kA d.I (eX d.rs d.ro d.B d.ag d.ar) (decide (d.ag=6))
end TD
theorem ni.xK {a9 bs ag ar data B ro fo fp} (h:ni a9 bs ag ar bs.length data B ro fo fp):(∀i<bs.length,fp i=l8 (ro i) (B i).D.length ag ar i)/\∀i<bs.length,fo i=pQ (ro i) ag ar i:=by
 have ex:∀i<bs.length,∃s<bs.length,cH a9 bs.length s=i:=λi hi=>by
  cases a9 with
  |false=>exact⟨i,hi,rfl⟩
  |true=>exact⟨bs.length-1-i,by(exact DN hi),by show bs.length-1-(bs.length-1-i)=i;(exact(DO hi).symm)⟩
 refine⟨λi hi=>?_,λi hi=>?_⟩
 ·obtain⟨s,hs,rfl⟩:=ex i hi;exact h.fp s hs
 ·obtain⟨s,hs,rfl⟩:=ex i hi;exact h.fo s hs
section
theorem Ye (n:Nat) {a opt bits:Nat} {par:Bool} {aC:List Int} (ht:aC≠[]) (hz:aC.length<=1000) (ha:∃k:Nat,σ a=some (.av [.int k])) (ho:σ opt=some (de bits par))
  (h:∀(d:TD) τ,d.Ok par->iT σ τ a->Q (.tup [.bytes d.D,.lst (d.idx.map dF),lN d.x bits d.f0 d.says,.int d.d1.length,.bool (d.op bits par)]) τ):Call (n+5) true 984 [.lst (aZ aC),.ref a,.ref opt] σ Q X:=by
 refine aK UH rfl ?_
 have fO:opt≠a:=λe=>by obtain⟨k,ha⟩:=ha;simp only[e,ha]at ho;(cases ho)
 refine aa2 ht hz ha ho λa9 bs rs k1 K=>?_
 clear ha
 have bl:=K.bl
 refine aa3 ht hz ⟨k1,ay _ _ _⟩ K λag ar x pa oa τ hf hv k2 hp qH pA vr Jj np no=>?_
 refine aa4 K pA hp qH λυ data B ro fo fp L h1 h2 h3=>?_
 obtain⟨xK,Te⟩:=L.xK
 have opa:opt≠pa:=λe=>by rw[<-e,aw _ _ fO,ho]at np;(cases np)
 have ooa:opt≠oa:=λe=>by rw[<-e,aw _ _ fO,ho]at no;(cases no)
 have CM:υ opt=some (de bits par):=by rw[h3 _ ooa opa];exact k2.1 _ _ ((aw _ _ fO).trans ho) fO
 have dl:=L.dl
 have k3:iT (upd σ a (.av [.int k1])) υ a:=⟨λb y e q=>by
  rw[h3 b (by exact λz=>by simp only[z,no]at e;(exact nn e)) (by exact λz=>by simp only[z,np]at e;(exact nn e))];exact k2.1 b y e q,by
  obtain⟨k,hk⟩:=k2.2
  exact⟨k,by rw[h3 a (cN Jj) (cN vr)];exact hk⟩⟩
 refine aa5 ht hz K k3.2 CM (tN dl bl rfl) λsays FD k4 s1 s2 s3=>?_
 have Cg:upd υ a (.av [.int k4]) oa=some (.av ((aW bs.length).map fo)):=(aw _ _ Jj).trans h1
 have qy:upd υ a (.av [.int k4]) pa=some (.av ((aW bs.length).map fp)):=(aw _ _ vr).trans h2
 have pl:=tA data.length FD.length (fa ag ar bs.length)
 refine aa6 K (by rw[bf,gJ];exact pt dl s3 bl) (D3 _ _) (abo pl) qy xK λM I hM hI=>?_
 have ml:=hM.len
 have il:=hI.len
 have m3:=D3 x (fW data.length FD.length (fa ag ar bs.length))
 have rl:=K.rl
 rw[show(eX rs ro B ag ar).length=rs.length by simp[eX]]at il
 refine aa7 K ?_ qy Cg xK Te λma x' qF=>?_
 ·unfold dataE
  have t3:=zN (data++cR FD (fa ag ar bs.length)).length M.D.length (data++cR FD (fa ag ar bs.length)++cR M.D (fa ag ar (bs.length+1))).length I.D.length (fa ag ar (bs.length+1)) (fa ag ar (bs.length+2))
  generalize kh (data++cR FD (fa ag ar bs.length)).length M.D.length (data++cR FD (fa ag ar bs.length)++cR M.D (fa ag ar (bs.length+1))).length I.D.length (fa ag ar (bs.length+1)) (fa ag ar (bs.length+2))=T3 at t3
  simp only[bf,gJ,t5]
  clear s2
  exact pu ml il dl t3 s3 m3 rl bl
 have CJ:opt≠ma:=λe=>by rw[<-e,aw _ _ fO,CM]at qF;(cases qF)
 refine aa8 K ((aw _ _ CJ).trans ((aw _ _ fO).trans CM)) ?_
 exact h ⟨a9,bs,rs,ag,ar,x,says,FD,data,B,ro,fo,fp,M,I⟩ _ ⟨K,hf,hv,L,s1,s2,s3,hM,hI⟩ ((iT.upd.trans k3).trans (iT.upd.new qF))
end
end
section
noncomputable def mL:Option (List Bool)->PV
 |none=>.none
 |some l=>.lst (l.map PV.bool)
noncomputable def g7:Option (List Bool)->Nat->Bool
 |none,_=>false
 |some l,off=>decide (off/64<l.length)&&!l.getD (off/64) true
noncomputable def Ei:Option KN->PV
 |none=>.none
 |some p=>rn p
noncomputable def iO (l:Option KN) (p:KN):Bool:=match l with
 |none=>false
 |some q=>!aX q p
noncomputable def j6 (held:Option (List Bool)) (sep:KN) (off:Nat) (bound:Option KN):List KN->Option KN->Option (Option KN)
 |[],last=>some last
 |p::ps,last=>if(iO last p||iO bound p)=true then none else if(decide (1<p.2%256)||(aX sep p||g7 held off))=true then none else j6 held sep off bound ps (some p)
noncomputable def lS (held:Option (List Bool)):List cB->Nat->Option KN->Option KN->Bool
 |[],_,_,_=>true
 |r::rs,e,last,bound=>if 0<r.fault\/r.off≠e then false else(j6 held r.sep r.off bound r.ps last).elim false λdZ=>lS held rs (r.off+r.size+5) dZ (some r.sep)
theorem Ds {p:KN} {last:Option KN} {ps:List KN}:j6 held sep off bound (p::ps) last=if(iO last p||iO bound p)=true then none else if(decide (1<p.2%256)||(aX sep p||g7 held off))=true then none else j6 held sep off bound ps (some p):=rfl
theorem YG {last:Option KN}:lS held [] e last bound=true:=rfl
theorem yy {r:cB} {rs:List cB} {last:Option KN}:lS held (r::rs) e last bound=if 0<r.fault\/r.off≠e then false else(j6 held r.sep r.off bound r.ps last).elim false λdZ=>lS held rs (r.off+r.size+5) dZ (some r.sep):=rfl
theorem qo {l:af} (h:Sub l ρ) (x:Nat) (p:PV):Sub (put l x p) (put ρ x p):=λy q e=>by
 rw[cJ]at e⊢
 split at e
 ·rename_i z;rw[if_pos z];exact e
 ·rename_i z;rw[if_neg z];exact h y _ e
section
theorem J3 (n:Nat) {held:Option (List Bool)} {off:Nat} (hl:∀l,held=some l->l.length<=1000) (h:Q (.bool (g7 held off)) σ):Call (n+1) true 991 [mL held,.int off] σ Q X:=by
 refine aK Ur rfl ?_
 cases held with
 |none=>
  unfold mL
  lk
  exact h
 |some l=>
  have hl:=hl l rfl
  have pj:(l.map PV.bool).length=l.length:=by simp
  unfold mL
  lk
  refine⟨_,dD (vQ hl pj),?_⟩
  rw[pj]
  lk
  have h:Q (.bool (decide (off/64<l.length)&&!l.getD (off/64) true)) σ:=h
  refine aH (λhc=>?_) λhc=>?_
  ·have kJ:off/64<l.length:=by exact a_.mp hc
   rw[decide_eq_true kJ,rt]at h
   lk
   refine⟨_,gk (p:=.bool (l.getD (off/64) true)) (by exact aT _) (by exact zv hl hc rfl) (by rw[show((off:Int)/64).toNat=off/64 by exact rfl];simp[be,kJ]),?_⟩
   exact⟨_,rfl,h⟩
  ·rw[decide_eq_false (show¬off/64<l.length by exact λh=>hc (a_.mpr h))]at h
   exact h
noncomputable abbrev Kx:List MS:=[.asg (.nm 227) (.cf 191 [.v 185]),.ite (.or [.an [.cmp .IsNot (.v 166) .none,.cmp .GtE (.v 166) (.v 227)],.an [.cmp .IsNot (.v 167) .none,.cmp .GtE (.v 167) (.v 227)]]) [.ret (some (.bool false))] [],.ite (.or [.cmp .Gt (.bin .Mod (.idx (.v 185) (.int 1)) (.int 256)) (.int 1),.cmp .Gt (.v 227) (.cf 191 [.v 208]),.cf 228 [.v 116,.v 200]]) [.ret (some (.bool false))] [],.asg (.nm 166) (.v 227)]
theorem GH {c:Cx} {m:Nat} {l:Option KN} {p:KN} {Q:Bool->aa->Prop} (g1:get ρ m=some (Ei l)) (g2:get ρ 227=some (rn p)) (h:Q (iO l p) σ):T c (.an [.cmp .IsNot (.v m) .none,.cmp .GtE (.v m) (.v 227)]) ρ σ Q X:=by
 cases l with
 |none=>
  have g1:get ρ m=some .none:=g1
  refine fj (aY (aq g1 (jI ⟨_,HA,b4 h⟩)))
 |some q=>
  have g1:get ρ m=some (rn q):=g1
  refine fj (aY (aq g1 (jI ⟨_,HC,du ?_⟩)))
  refine fj (aY (aq g1 (aq g2 ⟨_,RN,?_⟩)))
  have e:iO (some q) p=!df q.1 (0-(q.2:Int)) p.1 (0-(p.2:Int)):=rfl
  refine(e)▸?_
  cases he:iO (some q) p with
  |true=>rw[he]at h;exact du (my h)
  |false=>rw[he]at h;exact b4 h
noncomputable abbrev EC (held:Option (List Bool)) (e:Nat) (last bound:Option KN):af:=[(116,mL held),(79,.int e),(166,Ei last),(167,Ei bound)]
theorem YR {X:Ex->af->aa->Prop} (hl:∀l,held=some l->l.length<=1000):
  ∀(ps:List KN) (last:Option KN) (ρ:af),Sub (EC held e last bound++[(208,bn sep),(200,.int off)]) ρ->
   (∀dZ ρ',j6 held sep off bound ps last=some dZ->Sub (EC held e dZ bound++[(208,bn sep),(200,.int off)]) ρ'->N' ρ' σ)->(j6 held sep off bound ps last=none->R (.bool false) σ)->
   dP ⟨sc,n+1,true⟩ (.nm 185) Kx N' R X (ps.map bn) ρ σ:=by
 intro ps
 induction ps with
 |nil=>intro last ρ hs kN kR;exact kN last ρ rfl hs
 |cons p ps ih=>
  intro last ρ hs kN kR
  rw[Ds]at kN kR
  refine⟨_,rfl,?_⟩
  refine c_ (l:=put (EC held e last bound++[(208,bn sep),(200,.int off)]) 185 (bn p)) (qo hs _ _) ?_
  unfold EC
  simp only[ck,bL]
  refine aA (cv (dX rfl (aO (aq rfl (bc (nY n ?_))))) rfl)
  refine aA (bR (jG (GH rfl rfl ?_)))
  cases h1:iO last p with
  |true=>
   rw[h1,if_pos (by rfl)]at kR
   refine uB (du ?_)
   refine aA (gT (lF ?_))
   exact kR rfl
  |false=>
   refine uC (jG (GH rfl rfl ?_))
   cases h2:iO bound p with
   |true=>
    rw[h1,h2,if_pos (by rfl)]at kR
    refine uB (du ?_)
    refine aA (gT (lF ?_))
    exact kR rfl
   |false=>
    rw[h1,h2,if_neg (by decide)]at kN kR
    refine uC (rN (b4 (aE ?_)))
    have bad:(decide (1<p.2%256)||(aX sep p||g7 held off))=true->R (.bool false) σ:=λz=>by rw[if_pos z]at kR;exact kR rfl
    refine aA (bR (jG (aY (dC (b8 (aq rfl (aI ⟨_,nV,?_⟩)))))))
    refine aI ⟨_,gz (by decide),?_⟩
    refine aI ⟨_,ip,?_⟩
    refine xp (λh3=>?_) λh3=>du (aA (gT (lF (bad (by refine aj (decide_eq_true (a_.mp h3))▸?_;rfl)))))
    refine jG (aY (aq rfl (dX rfl (aO (aq rfl (bc (nY n ?_)))))))
    refine⟨_,RO,?_⟩
    have e4:df sep.1 (0-(sep.2:Int)) p.1 (0-(p.2:Int))=aX sep p:=rfl
    refine aj (e4)▸?_
    cases h4:aX sep p with
    |true=>exact uB (du (aA (gT (lF (bad (by refine aj (h4)▸?_;simp))))))
    |false=>
     refine uC (jG (nu (dX rfl (aO (aq rfl (aO (aq rfl (bc (J3 n hl ?_))))))) rfl))
     refine⟨_,rfl,?_⟩
     cases h5:g7 held off with
     |true=>exact uB (du (aA (gT (lF (bad (by refine aj (h5)▸?_;simp))))))
     |false=>
      rw[decide_eq_false (show¬1<p.2%256 by exact λh=>h3 (a_.mpr h)),h4,h5,if_neg (by decide)]at kN kR
      refine uC (rN (b4 (aE ?_)))
      refine aA (cv (aq rfl ?_) rfl)
      refine aE ?_
      exact ih (some p) _ (by k_in) kN kR
theorem XM (n:Nat) {held:Option (List Bool)} {ix:List cB} (hl:∀l,held=some l->l.length<=1000) (h:Q (.bool (lS held ix 0 none none)) σ):Call (n+2) true 998 [.lst (ix.map dF),mL held] σ Q X:=by
 refine aK Uq rfl ?_
 have lp:∀{sc:b7} (ix:List cB) (e:Nat) (last bound:Option KN) (ρ:af),Sub (EC held e last bound) ρ->Q (.bool (lS held ix e last bound)) σ->dP ⟨sc,n+1,true⟩ (.tup [208,187,200,23,198]) [.ite (.or [.cmp .Gt (.v 198) (.int 0),.cmp .NotEq (.v 200) (.v 79)]) [.ret (some (.bool false))] [],.asg (.nm 79) (.bin .Add (.bin .Add (.v 200) (.v 23)) (.int 5)),.fw (.nm 185) (.v 187) Kx,.asg (.nm 167) (.cf 191 [.v 208])] (λρ' σ'=>aD ⟨sc,n+1,true⟩ [.ret (some (.bool true))] ρ' σ' (λ_ σ'=>Q .none σ') Q λex _ σ'=>X ex σ') Q (λex _ σ'=>X ex σ') (ix.map dF) ρ σ:=by
  intro sc ix
  induction ix with
  |nil=>intro e last bound ρ hs hq;exact aA (gT (lF hq))
  |cons r ix ih=>
   intro e last bound ρ hs hq
   rw[yy]at hq
   refine⟨gH ρ [208,187,200,23,198] [bn r.sep,da r.ps,.int r.off,.int r.size,.int r.fault],rfl,?_⟩
   refine c_ (l:=gH (EC held e last bound) [208,187,200,23,198] [bn r.sep,da r.ps,.int r.off,.int r.size,.int r.fault]) (qo (qo (qo (qo (qo hs _ _) _ _) _ _) _ _) _ _) ?_
   refine aA (bR (jG (aY (aq rfl (aI ⟨_,ip,?_⟩)))))
   refine xp (λh1=>?_) λh1=>du (aA (gT (lF (by rw[if_pos (by lia)]at hq;exact hq))))
   refine jG (aY (aq rfl (aq rfl ⟨_,qt,?_⟩)))
   refine xp (λh2=>?_) λh2=>du (aA (gT (lF (by rw[if_pos (by lia)]at hq;exact hq))))
   rw[if_neg (py h1 h2)]at hq
   refine rN (b4 (aE ?_))
   refine aA (cv (dC (dC (aq rfl (aq rfl ⟨_,oU,?_⟩)))) rfl)
   refine aI ⟨_,oU,?_⟩
   rw[show(r.off:Int)+(r.size:Int)+5=((r.off+r.size+5:Nat):Int) by exact(LY).symm]
   refine aA (xb rfl (aq rfl ⟨_,rfl,?_⟩))
   refine YR (e:=r.off+r.size+5) hl r.ps last _ (by k_in) (λdZ ρ' e2 pB=>?_) λe2=>?_
   ·rw[e2]at hq
    refine c_ pB ?_
    refine aA (cv (dX rfl (aO (aq rfl (bc (nY n ?_))))) rfl)
    refine aE ?_
    exact ih _ dZ (some r.sep) _ (by k_in) hq
   ·rw[e2]at hq
    exact hq
 refine aA (cv (aI ?_) rfl)
 refine aA (cv (jI ?_) rfl)
 refine aA (cv (jI ?_) rfl)
 refine aA (xb rfl (aq rfl ⟨_,rfl,?_⟩))
 exact lp ix 0 none none _ (by k_in) h
end
end
section
noncomputable def lr (ix:List cB) (i:Nat):cB:=ix.getD i qO
noncomputable def iK (ix:List cB):Nat->Nat->Option (Nat×Nat)×Nat
 |0,_=>(none,0)
 |k+1,i=>if 0<(lr ix i).fault then(none,1)else if 0<(lr ix i).ps.length then(some (i,0),0)else iK ix k (i+1)
noncomputable def j8 (ix:List cB):Nat->Option (Nat×Nat)×Nat
 |0=>(none,0)
 |i+1=>if 0<(lr ix i).fault then(none,1)else if 0<(lr ix i).ps.length then(some (i,(lr ix i).ps.length-1),0)else j8 ix i
section
theorem YN:iK ix 0 i=(none,0):=rfl
theorem yC:iK ix (k+1) i=if 0<(lr ix i).fault then(none,1)else if 0<(lr ix i).ps.length then(some (i,0),0)else iK ix k (i+1):=rfl
theorem yU:j8 ix (i+1)=if 0<(lr ix i).fault then(none,1)else if 0<(lr ix i).ps.length then(some (i,(lr ix i).ps.length-1),0)else j8 ix i:=rfl
end
noncomputable def cz (ix:List cB) (t:KN):Nat:=(ix.filter λr=>aX r.sep t).length
noncomputable def iJ (ps:List KN) (t:KN):Nat:=(ps.filter λp=>aX p t).length
noncomputable def lseek (ix:List cB) (t:KN):Option (Nat×Nat)×Nat:=
 if cz ix t=ix.length then(none,0)else if(lr ix (cz ix t)).fault=0 then(if iJ (lr ix (cz ix t)).ps t<(lr ix (cz ix t)).ps.length then(some (cz ix t,iJ (lr ix (cz ix t)).ps t),0)else iK ix (ix.length-(cz ix t+1)) (cz ix t+1))else(none,1)
noncomputable def d9 (ix:List cB) (pos:Option (Nat×Nat)) (move:Nat) (t:KN):Option (Nat×Nat)×Nat:=
 if move=0 then iK ix ix.length 0 else if move=1 then j8 ix ix.length else if move=2 then lseek ix t else
 match pos with
 |none=>(none,2)
 |some (i,j)=>if move=3 then(if j+1<(lr ix i).ps.length then(some (i,j+1),0)else iK ix (ix.length-(i+1)) (i+1))else if 0<j then(some (i,j-1),0)else j8 ix i
noncomputable def pR:Option (Nat×Nat)->PV
 |none=>.none
 |some (i,j)=>.tup [.int i,.int j]
noncomputable abbrev wc (r:Option (Nat×Nat)×Nat):PV:=.tup [pR r.1,.int r.2]
structure mi (ix:List cB):Prop where
 n:ix.length<=100
 p:∀r∈ix,r.ps.length<=100
theorem mi.lr (h:mi ix) {i:Nat} (hi:i<ix.length):(lr ix i).ps.length<=100:=by
 unfold Mine.lr
 rw[be,bQ hi]
 exact h.p _ (kx hi)
theorem gi (h:mi ix) (hi:i<ix.length) (τ:aa):fe τ (.lst (ix.map dF)) (.int (i:Nat)) (dF (lr ix i)):=gk (aT _) (by have:=h.n;exact km hi this rfl) (by
 rw[show((i:Nat):Int).toNat=i by exact eY]
 simp[lr,hi])
theorem HI {α:Type} {c:Cx} {t:MT} {e:ME} {D:Nat} {Q:List PV->aa->Prop} {f:α->PV} {q:α->Bool} (hD:σ D=none):
  ∀(ys:List α) (acc:List PV),acc.length+ys.length<=1000000->(∀y∈ys,∃bJ,lI t (f y) ρ=some bJ/\(∀τ Q,Q (q y) τ->T c m bJ τ Q F0)/\∀τ Q,Q (f y) τ->V c e bJ τ Q F0)->Q (acc++(ys.filter q).map f) σ->gP c t e (some m) D ρ Q (ys.map f) acc (upd σ D (.av acc)):=by
 intro ys
 induction ys with
 |nil=>
  intro acc hl he hq
  show Q acc (del _ D)
  rw[uO hD];simpa using hq
 |cons x xs ih=>
  intro acc hl he hq
  obtain⟨bJ,hb,ht,hv⟩:=he x (.head _)
  rw[ej]at hl
  refine⟨bJ,hb,?_⟩
  show T c m bJ _ _ F0
  refine ht _ _ ⟨λhx=>hv _ _ ?_,λhx=>?_⟩
  ·refine⟨ay _ _ _,Dy hl,?_⟩
   rw[aL]
   exact ih (acc++[f x]) (by rw[bf];simp only[ej,lz];exact om hl) (λy hy=>he y (.tail _ hy)) (by rw[Px hx]at hq;simpa using hq)
  ·refine⟨ay _ _ _,?_⟩
   exact ih acc (bx hl) (λy hy=>he y (.tail _ hy)) (by rw[Gd (by rw[hx];decide)]at hq;exact hq)
section
theorem Df (n:Nat) {ix:List cB} {i k:Nat} (H:mi ix) (hi:i+k=ix.length) (h:Q (wc (iK ix k i)) σ):Call (n+1) true 1005 [.lst (ix.map dF),.int i] σ Q X:=by
 refine aK Ut rfl ?_
 have hn:=H.n
 have hl:(ix.map dF).length=ix.length:=by simp
 have lp:∀{sc:b7} (k i:Nat) (ρ:af),i+k=ix.length->get ρ 129=some (.lst (ix.map dF))->get ρ 183=some (.int i)->Q (wc (iK ix k i)) σ->dQ ⟨sc,n,true⟩ (.cmp .Lt (.v 183) (.cb 9 [.v 129])) [.ite (.cmp .Gt (.idx (.idx (.v 129) (.v 183)) (.int 4)) (.int 0)) [.ret (some (.tup [.none,.int 1]))] [],.ite (.cmp .Gt (.cb 9 [.idx (.idx (.v 129) (.v 183)) (.int 1)]) (.int 0)) [.ret (some (.tup [.tup [.v 183,.int 0],.int 0]))] [],.asg (.nm 183) (.bin .Add (.v 183) (.int 1))] (λρ' σ'=>aD ⟨sc,n,true⟩ [.ret (some (.tup [.none,.int 0]))] ρ' σ' (λ_ σ'=>Q .none σ') Q λex _ σ'=>X ex σ') Q (λex _ σ'=>X ex σ') (k+1) ρ σ:=by
  intro sc k
  induction k with
  |zero=>
   intro i ρ hi g1 g2 h
   refine ey (aY (aq g2 (jH rfl rfl (aO (aq g1 (bc ⟨_,dD (lT hn hl),?_⟩))))))
   rw[hl]
   refine⟨_,rY,jM (by lia) ?_⟩
   lk
   exact h
  |succ k ih=>
   intro i ρ hi g1 g2 h
   have dx:i<ix.length:=by exact f9 hi
   have g:=gi H dx
   have hp:=H.lr dx
   have gY:((lr ix i).ps.map bn).length=(lr ix i).ps.length:=by simp
   rw[yC]at h
   refine ey (aY (aq g2 (jH rfl rfl (aO (aq g1 (bc ⟨_,dD (lT hn hl),?_⟩))))))
   rw[hl]
   refine⟨_,rY,jN (rc hi) ?_⟩
   refine aA (bR (aY (b8 (b8 (aq g1 (aq g2 ⟨_,g _,?_⟩))))))
   refine aI ⟨_,vA,?_⟩
   refine aI ⟨_,ip,?_⟩
   refine aH (λhc=>?_) λhc=>aE ?_
   ·rw[if_pos (a_.mp hc)]at h
    lk
    exact h
   rw[if_neg (qR hc)]at h
   refine aA (bR (aY (jH rfl rfl (aO (b8 (b8 (aq g1 (aq g2 ⟨_,g _,?_⟩))))))))
   refine aI ⟨_,nV,?_⟩
   refine bc ⟨_,dD (lT hp gY),?_⟩
   rw[gY]
   refine aI ⟨_,ip,?_⟩
   refine aH (λhc=>?_) λhc=>aE ?_
   ·rw[if_pos (a_.mp hc)]at h
    lk
    exact h
   rw[if_neg (qR hc)]at h
   refine aA (cv (dC (aq g2 (aI ⟨_,oU,?_⟩))) rfl)
   refine aE ?_
   exact ih (i+1) _ (kj hi) (by k_is) (by k_is) h
 exact aA (gf (k+1) (lp k i _ hi rfl rfl h))
theorem J9 (n:Nat) {ix:List cB} {k:Nat} (H:mi ix) (hi:k<=ix.length) (h:Q (wc (j8 ix k)) σ):Call (n+1) true 1012 [.lst (ix.map dF),.int ((k:Int)-1)] σ Q X:=by
 refine aK UA rfl ?_
 have hn:=H.n
 have lp:∀{sc:b7} (k:Nat) (ρ:af),k<=ix.length->get ρ 129=some (.lst (ix.map dF))->get ρ 183=some (.int ((k:Int)-1))->Q (wc (j8 ix k)) σ->dQ ⟨sc,n,true⟩ (.cmp .GtE (.v 183) (.int 0)) [.ite (.cmp .Gt (.idx (.idx (.v 129) (.v 183)) (.int 4)) (.int 0)) [.ret (some (.tup [.none,.int 1]))] [],.ite (.cmp .Gt (.cb 9 [.idx (.idx (.v 129) (.v 183)) (.int 1)]) (.int 0)) [.ret (some (.tup [.tup [.v 183,.bin .Sub (.cb 9 [.idx (.idx (.v 129) (.v 183)) (.int 1)]) (.int 1)],.int 0]))] [],.asg (.nm 183) (.bin .Sub (.v 183) (.int 1))] (λρ' σ'=>aD ⟨sc,n,true⟩ [.ret (some (.tup [.none,.int 0]))] ρ' σ' (λ_ σ'=>Q .none σ') Q λex _ σ'=>X ex σ') Q (λex _ σ'=>X ex σ') (k+1) ρ σ:=by
  intro sc k
  induction k with
  |zero=>
   intro ρ hi g1 g2 h
   refine ey (aY (aq g2 (aI ⟨_,xv,jM (by lia) ?_⟩)))
   lk
   exact h
  |succ i ih=>
   intro ρ hi g1 g2 h
   have dx:i<ix.length:=by exact hi
   have g:=gi H dx
   have hp:=H.lr dx
   have gY:((lr ix i).ps.map bn).length=(lr ix i).ps.length:=by simp
   rw[yU]at h
   rw[show((i+1:Nat):Int)-1=(i:Int) by exact K1]at g2
   refine ey (aY (aq g2 (aI ⟨_,xv,jN (aT _) ?_⟩)))
   refine aA (bR (aY (b8 (b8 (aq g1 (aq g2 ⟨_,g _,?_⟩))))))
   refine aI ⟨_,vA,?_⟩
   refine aI ⟨_,ip,?_⟩
   refine aH (λhc=>?_) λhc=>aE ?_
   ·rw[if_pos (a_.mp hc)]at h
    lk
    exact h
   rw[if_neg (qR hc)]at h
   refine aA (bR (aY (jH rfl rfl (aO (b8 (b8 (aq g1 (aq g2 ⟨_,g _,?_⟩))))))))
   refine aI ⟨_,nV,?_⟩
   refine bc ⟨_,dD (lT hp gY),?_⟩
   rw[gY]
   refine aI ⟨_,ip,?_⟩
   refine aH (λhc=>?_) λhc=>aE ?_
   ·rw[if_pos (a_.mp hc)]at h
    refine aA (gT (qp (aO (qp (aO (aq g2 (aO (dC (jH rfl rfl (aO (b8 (b8 (aq g1 (aq g2 ⟨_,g _,?_⟩))))))))))))))
    refine aI ⟨_,nV,?_⟩
    refine bc ⟨_,dD (lT hp gY),?_⟩
    rw[gY]
    refine aI ⟨_,xl,?_⟩
    rw[show((lr ix i).ps.length:Int)-1=(((lr ix i).ps.length-1:Nat):Int) by exact(K2 hc).symm]
    lk
    exact h
   rw[if_neg (qR hc)]at h
   refine aA (cv (dC (aq g2 (aI ⟨_,xl,?_⟩))) rfl)
   refine aE ?_
   exact ih _ (bx hi) (by k_is) (by k_is) h
 exact aA (gf (k+1) (lp k _ hi rfl rfl h))
theorem J_ (n:Nat) {ix:List cB} {t:KN} (H:mi ix) (h:Q (.int (cz ix t)) σ):Call (n+2) true 1017 [.lst (ix.map dF),rn t] σ Q X:=by
 refine aK UB rfl ?_
 have hn:=H.n
 lk
 refine oR rfl (oQ (aq rfl ⟨_,rfl,λD sc hD=>?_⟩))
 refine HI (q:=λr=>aX r.sep t) hD ix [] (by simp;exact yQ hn) (λr hr=>⟨_,rfl,λτ Q hq=>?_,λτ Q hq=>aq (by k_is) hq⟩) ?_
 ·refine aY (dX rfl (aO (b8 (aq (by k_is) (aI ⟨_,C1,?_⟩)))))
  refine bc (nY n ?_)
  refine aq (by k_is) ⟨_,BM,hq⟩
 ·have:=wQ (λr:cB=>aX r.sep t) ix
  refine bc ⟨_,dD (by simp;exact K3 hn this),?_⟩
  rw[show(([]:List PV)++(ix.filter λr:cB=>aX r.sep t).map dF).length=cz ix t by simp[cz]]
  exact h
theorem JZ (n:Nat) {ps:List KN} {t:KN} (hl:ps.length<=100) (h:Q (.int (iJ ps t)) σ):Call (n+2) true 1022 [.lst (ps.map bn),rn t] σ Q X:=by
 refine aK Uo rfl ?_
 lk
 refine oR rfl (oQ (aq rfl ⟨_,rfl,λD sc hD=>?_⟩))
 refine HI (q:=λp=>aX p t) hD ps [] (by simp;exact yQ hl) (λr hr=>⟨_,rfl,λτ Q hq=>?_,λτ Q hq=>aq (by k_is) hq⟩) ?_
 ·refine aY (dX rfl (aO (aq (by k_is) ?_)))
  refine bc (nY n ?_)
  refine aq (by k_is) ⟨_,BM,hq⟩
 ·have:=wQ (λp:KN=>aX p t) ps
  refine bc ⟨_,dD (by simp;exact K3 hl this),?_⟩
  rw[show(([]:List PV)++(ps.filter λp:KN=>aX p t).map bn).length=iJ ps t by simp[iJ]]
  exact h
end
end
section
section
theorem Dw (ix:List cB) (t:KN):cz ix t<=ix.length:=wQ _ _
theorem Ku (ps:List KN) (t:KN):iJ ps t<=ps.length:=wQ _ _
theorem JY (n:Nat) {ix:List cB} {pos:Option (Nat×Nat)} {move:Nat} {t:KN} (H:mi ix) (hv:∀i j,pos=some (i,j)->i<ix.length/\j<1000) (h:Q (wc (d9 ix pos move t)) σ):Call (n+3) true 1029 [.lst (ix.map dF),pR pos,.int move,rn t] σ Q X:=by
 refine aK Un rfl ?_
 have hn:=H.n
 have hl:(ix.map dF).length=ix.length:=by simp
 unfold d9 at h
 refine aA (bR (aY (aq rfl (aI ⟨_,dw,?_⟩))))
 refine aH (λhc=>?_) λhc=>aE ?_
 ·rw[if_pos ((qS hc).symm)]at h
  lk
  exact Df (n+1) (i:=0) (k:=ix.length) H (kD _) h
 rw[if_neg (yR hc)]at h
 refine aA (bR (aY (aq rfl (aI ⟨_,dw,?_⟩))))
 refine aH (λhc=>?_) λhc=>aE ?_
 ·rw[if_pos ((tc hc).symm)]at h
  lk
  refine⟨_,dD (lT hn hl),?_⟩
  rw[hl]
  lk
  exact J9 (n+1) H (aP _) h
 rw[if_neg (vT hc)]at h
 refine aA (bR (aY (aq rfl (aI ⟨_,dw,?_⟩))))
 refine aH (λhc=>?_) λhc=>aE ?_
 ·rw[if_pos ((ta hc).symm)]at h
  unfold lseek at h
  have hle:=Dw ix t
  lk
  refine J_ n H ?_
  generalize hi:cz ix t=i at h hle
  lk
  refine⟨_,dD (lT hn hl),?_⟩
  rw[hl]
  lk
  refine aH (λhc=>?_) λhc=>?_
  ·rw[if_pos (cU.mp hc)]at h
   lk
   exact h
  rw[if_neg (K4 hc)]at h
  have dx:i<ix.length:=by exact Fk hle hc
  have g:=gi H dx
  have hp:=H.lr dx
  have gY:((lr ix i).ps.map bn).length=(lr ix i).ps.length:=by simp
  have We:=Ku (lr ix i).ps t
  refine aE ?_
  refine aA (cv (dX rfl (aO (b8 (b8 (aq rfl (aq rfl ⟨_,g _,?_⟩)))))) rfl)
  refine aI ⟨_,nV,?_⟩
  refine aO (aq rfl (bc (JZ n hp ?_)))
  generalize hj:iJ (lr ix i).ps t=j at h We
  refine aA (bR (fj (aY (b8 (b8 (aq rfl (aq rfl ⟨_,g _,?_⟩)))))))
  refine aI ⟨_,vA,?_⟩
  refine aI ⟨_,dw,?_⟩
  refine aH (λbB=>?_) λbB=>b4 (aE ?_)
  ·rw[if_pos ((qS bB).symm)]at h
   refine fj (aY (aq rfl (jH rfl rfl (aO (b8 (b8 (aq rfl (aq rfl ⟨_,g _,?_⟩))))))))
   refine aI ⟨_,nV,?_⟩
   refine bc ⟨_,dD (lT hp gY),?_⟩
   rw[gY]
   refine⟨_,rY,?_⟩
   refine aH (λdc=>?_) λdc=>b4 (aE ?_)
   ·rw[if_pos (a_.mp dc)]at h
    refine my (du ?_)
    lk
    exact h
   ·rw[if_neg (K5 dc)]at h
    refine aA (gT (um (aY (b8 (b8 (aq rfl (aq rfl ⟨_,g _,?_⟩)))))))
    refine aI ⟨_,vA,?_⟩
    refine aI ⟨_,dw,?_⟩
    refine jN (bB.symm.symm) ?_
    lk
    rw[show(i:Int)+1=((i+1:Nat):Int) by exact(yL).symm]
    exact Df (n+1) H (re hle hc) h
  ·rw[if_neg (yR bB)]at h
   refine aA (gT (um (aY (b8 (b8 (aq rfl (aq rfl ⟨_,g _,?_⟩)))))))
   refine aI ⟨_,vA,?_⟩
   refine aI ⟨_,dw,?_⟩
   refine jM (bB) ?_
   lk
   exact h
 rw[if_neg (yM hc)]at h
 rcases pos with _|⟨i,j⟩
 ·unfold pR
  refine aA (bR (aY (aq rfl (jI ⟨_,Hx,du ?_⟩))))
  lk
  exact h
 ·obtain⟨dx,hj⟩:=hv i j rfl
  have g:=gi H dx
  have hp:=H.lr dx
  have gY:((lr ix i).ps.map bn).length=(lr ix i).ps.length:=by simp
  dsimp only at h
  unfold pR
  refine aA (bR (aY (aq rfl (jI ⟨_,Hz,b4 (aE ?_)⟩))))
  refine aA (rM rfl (aq rfl ⟨_,rfl,rfl,?_⟩) rfl)
  refine aA (bR (aY (aq rfl (aI ⟨_,dw,?_⟩))))
  refine aH (λdc=>?_) λdc=>aE ?_
  ·rw[if_pos ((yN dc).symm)]at h
   refine aA (gT (um (aY (dC (aq rfl (aI ⟨_,oU,?_⟩))))))
   refine jH rfl rfl (aO (b8 (b8 (aq rfl (aq rfl ⟨_,g _,?_⟩)))))
   refine aI ⟨_,nV,?_⟩
   refine bc ⟨_,dD (lT hp gY),?_⟩
   rw[gY]
   refine⟨_,rY,?_⟩
   refine aH (λjT=>?_) λjT=>?_
   ·rw[if_pos (a_.mp jT)]at h
    lk
    exact h
   ·rw[if_neg λh=>jT (a_.mpr h)]at h
    lk
    rw[show(i:Int)+1=((i+1:Nat):Int) by exact(yL).symm]
    exact Df (n+1) H (rD dx) h
  ·rw[if_neg (vU dc)]at h
   refine aA (gT (um (aY (aq rfl (aI ⟨_,ip,?_⟩)))))
   refine aH (λjT=>?_) λjT=>?_
   ·rw[if_pos (a_.mp jT)]at h
    lk
    rw[show(j:Int)-1=((j-1:Nat):Int) by exact(K2 jT).symm]
    exact h
   ·rw[if_neg (qR jT)]at h
    lk
    exact J9 (n+1) H (bx dx) h
noncomputable def i_ (ix:List cB) (i j:Nat):KN:=(lr ix i).ps.getD j ([],0)
noncomputable def kQ (ix:List cB) (held:Option (List Bool)) (mo c7:Nat) (t:KN):PV:=
 if 1<c7 then(match(if c7=2 then iK ix ix.length 0 else j8 ix ix.length)with
  |(none,b)=>.tup [.int (if b=1 then 1 else 2),.none]
  |(some (i,j),_)=>.tup [.int 0,.bytes (bI (i_ ix i j))])
 else if cz ix t=ix.length then .tup [.int 0,if c7=0 then .none else .int mo]
 else if(lr ix (cz ix t)).fault=3 then .tup [.int 1,.none]
 else if c7=1 then .tup [.int 0,.int (lr ix (cz ix t)).off]
 else if g7 held (lr ix (cz ix t)).off=true then .tup [.int 0,.none]
 else if 0<(lr ix (cz ix t)).fault then .tup [.int 1,.none]
 else if iJ (lr ix (cz ix t)).ps t<(lr ix (cz ix t)).ps.length then .tup [.int 0,.tup [.bytes (bI (i_ ix (cz ix t) (iJ (lr ix (cz ix t)).ps t))),.bytes (j9 (i_ ix (cz ix t) (iJ (lr ix (cz ix t)).ps t)))]]
 else .tup [.int 0,.none]
theorem yD:∀(k i:Nat) {i' j' c},i+k=ix.length->iK ix k i=(some (i',j'),c)->i'<ix.length/\j'<(lr ix i').ps.length:=by
 intro bD
 induction bD with
 |zero=>
  intro i i' j' c hi h
  cases h
 |succ k ih=>
  intro i i' j' c hi h
  replace h:=yC▸h
  exact gF h (λ_ h=>nn (congrArg oK h)) λ_ h=>gF h (λhl h=>wb (P:=λi j=>i<ix.length/\j<(lr ix i).ps.length) h ⟨f9 hi,hl⟩) λ_ h=>ih (i+1) (kj hi) h
theorem DW:∀(k:Nat) {i' j' c},k<=ix.length->j8 ix k=(some (i',j'),c)->i'<ix.length/\j'<(lr ix i').ps.length:=by
 intro bD
 induction bD with
 |zero=>
  intro i' j' c hi h
  cases h
 |succ k ih=>
  intro i' j' c hi h
  replace h:=yU▸h
  exact gF h (λ_ h=>nn (congrArg oK h)) λ_ h=>gF h (λhl h=>wb (P:=λi j=>i<ix.length/\j<(lr ix i).ps.length) h ⟨hi,pK hl⟩) λ_ h=>ih (bx hi) h
theorem gp (H:mi ix) (hi:i<ix.length) (hj:j<(lr ix i).ps.length) (τ:aa):fe τ (.lst ((lr ix i).ps.map bn)) (.int (j:Nat)) (bn (i_ ix i j)):=gk (aT _) (by have:=H.lr hi;exact km hj this rfl) (by
 rw[show((j:Nat):Int).toNat=j by exact eY]
 simp[i_,hj])
theorem Yn (n:Nat) {ix:List cB} {held:Option (List Bool)} {mo c7:Nat} {t:KN} (H:mi ix) (hk:∀r∈ix,∀p∈r.ps,p.1.length<=1000) (hl:∀l,held=some l->l.length<=1000) (hw:c7<=3) (h:Q (kQ ix held mo c7 t) σ):Call (n+4) true 1064 [.lst (ix.map dF),mL held,.int mo,.int c7,rn t] σ Q X:=by
 refine aK UK rfl ?_
 have hn:=H.n
 have pj:(ix.map dF).length=ix.length:=by simp
 have xV:∀i j,i<ix.length->j<(lr ix i).ps.length->(i_ ix i j).1.length<=1000:=λi j hi hj=>by
  unfold i_
  rw[be,bQ hj]
  refine hk (lr ix i) ?_ _ (kx hj)
  unfold lr
  rw[be,bQ hi]
  exact kx hi
 unfold kQ at h
 refine aA (bR (aY (aq rfl (aI ⟨_,ip,?_⟩))))
 refine aH (λhc=>?_) λhc=>aE ?_
 ·rw[if_pos (a_.mp hc)]at h
  refine aA (rM rfl (dX rfl (aO (aq rfl (aO (jI (aO (dC (aq rfl (aI ⟨_,xl,?_⟩))))))))) rfl)
  rw[show(c7:Int)-2=((c7-2:Nat):Int) by exact(gR (d6.mp hc)).symm]
  refine aO (aq rfl (bc (JY n (pos:=none) H (λi j e=>(nn e)) ?_)))
  have ea:d9 ix none (c7-2) t=(if c7=2 then iK ix ix.length 0 else j8 ix ix.length):=by
   unfold d9
   by_cases q:c7=2
   ·rw[if_pos q,if_pos ((PY q.symm).symm)]
   ·rw[if_neg q,if_neg (sB hc q),if_pos ((sK hw hc q).symm)]
  have ok:∀i j c,d9 ix none (c7-2) t=(some (i,j),c)->i<ix.length/\j<(lr ix i).ps.length:=λi j c e=>by
   rw[ea]at e
   split at e
   ·exact yD _ _ (kD _) e
   ·exact DW _ (aP _) e
  rw[<-ea]at h
  refine⟨_,rfl,rfl,?_⟩
  generalize d9 ix none (c7-2) t=r at h ok
  rcases r with⟨_|⟨i,j⟩,c⟩
  ·dsimp only at h
   refine aA (bR (aY (aq rfl (jI ⟨_,Hx,du ?_⟩))))
   lk
   refine aH (λbB=>?_) λbB=>?_
   ·rw[if_pos ((tc bB).symm)]at h
    lk
    exact h
   ·rw[if_neg (vT bB)]at h
    lk
    exact h
  ·have hi:=(ok i j c rfl).1;have hj:=(ok i j c rfl).2
   dsimp only at h
   refine aA (bR (aY (aq rfl (jI ⟨_,Hz,b4 (aE ?_)⟩))))
   refine aA (gT (qp (aO (aI (aO (dX rfl (aO (b8 (b8 (b8 (aq rfl (b8 (aq rfl (aI ⟨_,C1,?_⟩))))))))))))))
   refine⟨_,gi H hi _,?_⟩
   refine aI ⟨_,nV,?_⟩
   refine b8 (aq rfl (aI ⟨_,nV,?_⟩))
   refine⟨_,gp H hi hj _,?_⟩
   refine bc (vF (n+1) (xV i j hi hj) ?_)
   lk
   exact h
 rw[if_neg λh=>hc (a_.mpr h)]at h
 refine aA (cv (dX rfl (aO (aq rfl (aO (aq rfl (bc (J_ (n+1) H ?_))))))) rfl)
 have hle:=Dw ix t
 generalize hi:cz ix t=i at h hle
 refine aA (bR (aY (aq rfl (jH rfl rfl (aO (aq rfl (bc ⟨_,dD (lT hn pj),?_⟩)))))))
 rw[pj]
 refine⟨_,dw,?_⟩
 refine aH (λbB=>?_) λbB=>aE ?_
 ·rw[if_pos (cU.mp bB)]at h
  lk
  refine aH (λdc=>?_) λdc=>?_
  ·rw[if_pos ((qS dc).symm)]at h
   lk
   exact h
  ·rw[if_neg (yR dc)]at h
   lk
   exact h
 rw[if_neg (K4 bB)]at h
 have dx:i<ix.length:=by exact Fk hle bB
 have hp:=H.lr dx
 have gY:((lr ix i).ps.map bn).length=(lr ix i).ps.length:=by simp
 refine aA (rM rfl (b8 (aq rfl (aq rfl ⟨_,gi H dx _,?_⟩))) rfl)
 refine⟨_,rfl,rfl,?_⟩
 refine aA (bR (aY (aq rfl (aI ⟨_,dw,?_⟩))))
 refine aH (λdc=>?_) λdc=>aE ?_
 ·rw[if_pos ((yN dc).symm)]at h
  lk
  exact h
 rw[if_neg (vU dc)]at h
 refine aA (bR (aY (aq rfl (aI ⟨_,dw,?_⟩))))
 refine aH (λjT=>?_) λjT=>aE ?_
 ·rw[if_pos ((tc jT).symm)]at h
  lk
  exact h
 rw[if_neg (vT jT)]at h
 refine aA (bR (nu (dX rfl (aO (aq rfl (aO (aq rfl (bc (J3 (n+2) hl ?_))))))) rfl))
 refine⟨_,rfl,?_⟩
 cases hd:g7 held (lr ix i).off with
 |true=>
  rw[hd,if_pos rfl]at h
  refine du ?_
  lk
  exact h
 |false=>
  rw[hd,if_neg (by decide)]at h
  refine b4 (aE ?_)
  refine aA (bR (aY (aq rfl (aI ⟨_,ip,?_⟩))))
  refine aH (λCp=>?_) λCp=>aE ?_
  ·rw[if_pos (a_.mp Cp)]at h
   lk
   exact h
  rw[if_neg (qR Cp)]at h
  refine aA (cv (dX rfl (aO (aq rfl (aO (aq rfl (bc (JZ (n+1) hp ?_))))))) rfl)
  generalize hj:iJ (lr ix i).ps t=j at h
  refine aA (gT (qp (aO (aI (aO (um (aY (aq rfl (jH rfl rfl (aO (aq rfl (bc ⟨_,dD (lT hp gY),?_⟩))))))))))))
  rw[gY]
  refine⟨_,rY,?_⟩
  refine aH (λu7=>?_) λu7=>?_
  ·rw[if_pos (a_.mp u7)]at h
   refine dX rfl (aO (b8 (aq rfl (aq rfl ⟨_,gp H dx (a_.mp u7) _,?_⟩))))
   refine bc (Ka n (xV i j dx (a_.mp u7)) ?_)
   lk
   exact h
  ·rw[if_neg (K5 u7)]at h
   lk
   exact h
end
end
section
structure dp (T:Tb) (ix:List cB):Prop where
 len:ix.length=T.I.n+(if T.I.bad=true then 1 else 0)
 Ms:T.I.n<=50
 bad:T.I.bad=true->lr ix T.I.n=qO
 sep:∀i<T.I.n,T.I.key i=bI (lr ix i).sep
 Nk:∀i<T.I.n,fh (lr ix i).sep
 off:∀i<T.I.n,(lr ix i).off=(T.R i).off
 size:∀i<T.I.n,(lr ix i).size=(T.R i).size
 ag:∀i<T.I.n,(lr ix i).fault=(T.R i).fault
 bn:∀i<T.I.n,(T.R i).fault=0->(T.R i).B.n=(lr ix i).ps.length
 bk:∀i<T.I.n,(T.R i).fault=0->∀j<(lr ix i).ps.length,(T.R i).B.key j=bI (i_ ix i j)/\(T.R i).B.val j=j9 (i_ ix i j)
 En:∀i<T.I.n,∀p∈(lr ix i).ps,fh p
 pl:∀i<T.I.n,(lr ix i).ps.length<=2
 g':∀i j,i<j->j<T.I.n->aX (lr ix i).sep (lr ix j).sep=true
noncomputable def t7 (T:Tb) (ix:List cB):Prop:=∀i<T.I.n,(T.R i).fault=0->hW (lr ix i).ps
noncomputable def ig (t:KN):Prop:=(t.1.length<=3/\t.2<65536)\/t=qO.sep
theorem ig.lim {t:KN} (h:ig t):t.1.length<=9/\t.2<65536:=by
 rcases h with h|rfl
 ·exact s4 h
 ·decide
theorem fh.tg {t:KN} (h:fh t):ig t:=.inl ⟨h.1,by have:=h.2;exact vV this⟩
theorem nI {t:KN} (h:t.2<65536):dec (bI t)=t:=R3 t.1 (ai h (aG rfl))
theorem HQ {t:KN} (u:Nat) (h:t.1.length<=9):p7 (.internal u) (bI t):=⟨by rw[pJ];exact ai (dW h _) (aG rfl),by rw[pJ];exact cV _ _⟩
theorem Kj {a b:KN}:dM a b=if aX a b=true then-1 else if aX b a=true then 1 else 0:=rfl
theorem Mz {a b:KN} (h:aX a b=true):aX b a=false:=by
 cases e:aX b a with
 |false=>rfl
 |true=>have:=v7 h e;rw[MA]at this;(exact ff this)
theorem abz {a b:KN}:aX a b=true\/a=b\/aX b a=true:=by
 by_cases h1:a.1=b.1
 ·by_cases h2:a.2=b.2
  ·exact .inr (.inl (uf h1 h2))
  ·rcases Ey (a:=a.1) (b:=b.1) (i:=0-(a.2:Int)) (j:=0-(b.2:Int)) (.inr (by lia))with h|h
   ·exact .inl h
   ·exact .inr (.inr h)
 ·rcases Ey (a:=a.1) (b:=b.1) (i:=0-(a.2:Int)) (j:=0-(b.2:Int)) (.inl h1)with h|h
  ·exact .inl h
  ·exact .inr (.inr h)
theorem vJ {a b:KN}:dM a b<0↔aX a b=true:=by
 rw[Kj];split
 ·simp_all
 ·split<;>simp_all
theorem vK {a b:KN}:0<dM a b↔aX b a=true:=by
 refine aj (Kj)▸?_;split
 ·rename_i h;simp[Mz h]
 ·split<;>simp_all
theorem HE {t:KN}:∀{l:List KN},hW l->∀i (h:i<l.length),aX l[i] t=true↔i<(l.filter λp=>aX p t).length:=by
 intro bD
 induction bD with
 |nil=>
  intro _ i h
  simp at h
 |cons a l ih=>
  intro hs i h
  obtain⟨h1,h2⟩:=Gj.mp hs
  by_cases q:aX a t=true
  ·refine aj (Px (p:=λp=>aX p t) q)▸?_
   cases i with
   |zero=>simp[q]
   |succ i=>simpa using ih h2 i (by simpa using h)
  ·refine aj (Gd (p:=λp=>aX p t) q)▸?_
   have e:l.filter (λp=>aX p t)=[]:=Py.mpr λp hp z=>q (v7 (h1 p hp) z)
   refine aj (e)▸?_
   cases i with
   |zero=>simp[q]
   |succ i=>
    have hm:l[i]'(by simpa using h)∈l:=kx _
    have:¬aX (l[i]'(by simpa using h)) t=true:=λz=>q (v7 (h1 _ hm) z)
    simpa using this
theorem Nq {u m:Nat} {s:Nat->KN} {t:KN} (ht:ig t) (hs:∀i<B.n,B.key i=bI (s i)) (so:∀i<B.n,fh (s i)) (sr:∀i j,i<j->j<B.n->aX (s i) (s j)=true) (hm:m<=B.n) (hc:∀i<B.n,aX (s i) t=true↔i<m):ic B (.internal u) (bI t) m:=by
 obtain⟨t1,t2⟩:=ht.lim
 have ec:∀i<B.n,uK (.internal u) (B.key i) (bI t)=dM (s i) t:=λi hi=>by
  show dM (dec (B.key i)) (dec (bI t))=_
  rw[hs i hi,nI (by have:=(so i hi).2;exact vV this),nI t2]
 refine⟨HQ u t1,λi hi=>?_,hm,λi hi=>?_,λi hi hn=>?_,λi hi e=>?_⟩
 ·refine aj (hs i hi)▸?_;exact HQ u (by have:=(so i hi).1;exact ai this (aG rfl))
 ·refine aj (ec i (ai hi hm))▸?_;exact vJ.mpr ((hc i (ai hi hm)).mpr hi)
 ·refine aj (ec i hn)▸?_
  have:¬dM (s i) t<0:=λz=>by have:=(hc i hn).mp (vJ.mp z);exact absurd this (w5 hi)
  exact gQ.mp this
 ·replace e:=ec i hi▸e
  have n1:¬aX (s i) t=true:=λz=>by have:=vJ.mpr z;lia
  have n2:¬aX t (s i)=true:=λz=>by have:=vK.mpr z;lia
  have e1:s i=t:=by
   rcases abz (a:=s i) (b:=t)with z|z|z
   ·exact absurd z n1
   ·exact z
   ·exact absurd z n2
  have i1:¬i<m:=λz=>n1 ((hc i hi).mpr z)
  rcases qg m i with z|z
  ·have:=sr m i z hi
   replace this:=e1▸this
   have:=(hc m (n8 z hi)).mp this
   exact vP this
  ·lia
theorem aa9 {w:List UInt8} (h:w.length<=3):w<bV 9 (255:UInt8):=by
 have step:∀(a:UInt8) (l m:List UInt8),l<m->a::l<255::m:=λa l m h=>by
  rcases UInt8.lt_or_eq_of_le (show a<=255 from UInt8.le_iff_toNat_le.mpr (by have:=a.toNat_lt;show a.toNat<=255;exact t9 this))with q|q
  ·exact List.Lex.rel q
  ·subst q;exact List.Lex.cons h
 have all:∀(w:List UInt8) (n:Nat),w.length<n->w<bV n (255:UInt8):=λw=>by
  induction w with
  |nil=>intro n h;cases n with
   |zero=>exact absurd h (P9 _)
   |succ n=>exact List.Lex.nil
  |cons a l ih=>intro n h;cases n with
   |zero=>exact absurd h (P9 _)
   |succ n=>exact step a _ _ (ih n (Nat.lt_of_succ_lt_succ h))
 exact all w 9 (jD h (by decide))
theorem abx {t:KN} (h:ig t):aX qO.sep t=false:=by
 rcases h with⟨h,_⟩|rfl
 ·exact Mz (by unfold aX;rw[kc];exact .inl (aa9 h))
 ·exact MA _
section
variable{T:Tb}
theorem dp.num (H:dp T ix) {t:KN} (ht:ig t):cz ix t<=T.I.n/\∀i<T.I.n,aX (lr ix i).sep t=true↔i<cz ix t:=by
 have gl:∀i (h:i<ix.length),ix[i]=lr ix i:=λi h=>by unfold lr;rw[be,bQ h];rfl
 have bu:=H.len
 have tk:(ix.take T.I.n).length=T.I.n:=by rw[gu,bu];lia
 have e1:cz ix t=((ix.take T.I.n).map (·.sep)|>.filter λp=>aX p t).length:=by
  have:ix=ix.take T.I.n++ix.drop T.I.n:=(wV _ _).symm
  have e2:(ix.drop T.I.n).filter (λr=>aX r.sep t)=[]:=Py.mpr λr hr=>by
   obtain⟨j,hj,e⟩:=AV.mp hr
   replace e:=PE▸e
   replace hj:=m_▸hj
   by_cases hb:T.I.bad=true
   ·replace bu:=if_pos hb▸bu
    have:j=0:=by exact(s5 hj bu).symm
    subst this
    simp only[gl _ (bM bu.symm),rE,H.bad hb]at e
    rw[<-e,abx ht];decide
   ·replace bu:=if_neg hb▸bu;exact tt hj bu
  unfold cz
  conv=>lhs;rw[this]
  rw[List.filter_append,e2,ly,List.filter_map,f'];rfl
 have g':hW ((ix.take T.I.n).map (·.sep)):=by
  refine rB.mpr λi j hi hj eA=>?_
  simp only[f',tk]at hi hj
  rw[wO,wO,Gh,Gh,gl i (rj hi bu),gl j (rj hj bu)]
  exact H.g' i j eA hj
 refine⟨?_,λi hi=>?_⟩
 ·rw[e1]
  refine ai (wQ _ _) ?_
  rw[f',tk];exact aP _
 ·have:=HE (t:=t) g' i (by rw[f',tk];exact hi)
  rw[e1,<-this,wO,Gh,gl i (rj hi bu)]
theorem dp.EO (H:dp T ix) {t:KN} (ht:ig t):ic T.I (.internal T.u) (bI t) (cz ix t):=
 Nq ht H.sep H.Nk H.g' (H.num ht).1 (H.num ht).2
theorem dp.Np (H:dp T ix) (S:t7 T ix) {t:KN} (ht:ig t):∀i<T.I.n,(T.R i).fault=0->ic (T.R i).B (.internal T.u) (bI t) (iJ (lr ix i).ps t):=λi hi hf=>by
 have hb:=H.bn i hi hf
 have lp:∀j (h:j<(lr ix i).ps.length),(lr ix i).ps[j]=i_ ix i j:=λj h=>by unfold i_;rw[be,bQ h];rfl
 refine Nq (s:=λj=>i_ ix i j) ht (λj hj=>(H.bk i hi hf j (iL hj hb.symm)).1) (λj hj=>?_) (λj k Jc hk=>?_) (by refine aj (hb)▸?_;exact Ku _ _) λj hj=>?_
 ·refine(lp j (iL hj hb.symm))▸?_;exact H.En i hi _ (kx _)
 ·have:=rB.mp (S i hi hf) j k (DP Jc hk hb.symm) (iL hk hb.symm) Jc
  simp only[lp,lp]at this;exact this
 ·refine(lp j (iL hj hb.symm))▸?_;exact HE (S i hi hf) j (iL hj hb.symm)
noncomputable def hG (r:Option (Nat×Nat)×Bool):Option (Nat×Nat)×Nat:=(r.1,if r.2=true then 1 else 0)
theorem dp.front (H:dp T ix):∀(k i:Nat),i+k=T.I.n->iK ix (ix.length-i) i=hG (front T k i):=by
 intro bD
 induction bD with
 |zero=>
  intro i hi
  have bu:=H.len
  have:i=T.I.n:=by exact hi
  subst this
  by_cases hb:T.I.bad=true
  ·rw[if_pos hb]at bu
   rw[show ix.length-T.I.n=0+1 by lia,yC,H.bad hb,IG,hb];rfl
  ·rw[if_neg hb]at bu
   rw[show ix.length-T.I.n=0 by exact((Gy (bM bu)).symm).symm,YN,IG]
   unfold hG;rw[if_neg hb]
 |succ k ih=>
  intro i hi
  have bu:=H.len
  have dx:i<T.I.n:=by exact f9 hi
  rw[show ix.length-i=(ix.length-(i+1))+1 by exact(ul hi bu).symm,yC,sj,H.ag i dx]
  by_cases hf:(T.R i).fault=0
  ·rw[if_neg (yI hf.symm),if_pos hf,<-H.bn i dx hf]
   by_cases h0:0<(T.R i).B.n
   ·rw[if_pos h0,if_pos h0];rfl
   ·rw[if_neg h0,if_neg h0];exact ih (i+1) (kj hi)
  ·rw[if_pos (qh hf),if_neg hf];rfl
theorem dp.iP (H:dp T ix):∀(k:Nat),k<=T.I.n->j8 ix k=hG (iP T k):=by
 intro bD
 induction bD with
 |zero=>
  intro _
  exact rfl
 |succ k ih=>
  intro hk
  have dx:k<T.I.n:=by exact hk
  rw[yU,tB,H.ag k dx]
  by_cases hf:(T.R k).fault=0
  ·rw[if_neg (yI hf.symm),if_pos hf,<-H.bn k dx hf]
   by_cases h0:0<(T.R k).B.n
   ·rw[if_pos h0,if_pos h0];rfl
   ·rw[if_neg h0,if_neg h0];exact ih (bx hk)
  ·rw[if_pos (qh hf),if_neg hf];rfl
theorem dp.last (H:dp T ix):j8 ix ix.length=hG (lastOf T):=by
 have bu:=H.len
 unfold lastOf
 by_cases hb:T.I.bad=true
 ·rw[if_pos hb]at bu⊢
  rw[bu,yU,H.bad hb];rfl
 ·rw[if_neg hb]at bu⊢
  rw[bu];exact H.iP _ (aP _)
theorem dp.first (H:dp T ix):iK ix ix.length 0=hG (Mine.front T T.I.n 0):=by
 have:=H.front T.I.n 0 (kD _)
 rwa[Qc]at this
theorem dp.ahead (H:dp T ix) {i j:Nat} (hi:i<T.I.n) (hf:(T.R i).fault=0):(if j<(lr ix i).ps.length then(some (i,j),0)else iK ix (ix.length-(i+1)) (i+1))=hG (ahead T i j):=by
 unfold Mine.ahead
 refine(H.bn i hi hf)▸?_
 by_cases h:j<(T.R i).B.n
 ·rw[if_pos h,if_pos h];rfl
 ·rw[if_neg h,if_neg h];exact H.front _ _ (rD hi)
theorem dp.seek (H:dp T ix) {t:KN} (ht:ig t):lseek ix t=hG (l_ T (cz ix t) λi=>iJ (lr ix i).ps t):=by
 have bu:=H.len
 obtain⟨h1,_⟩:=H.num ht
 unfold lseek l_
 generalize cz ix t=m at h1
 by_cases hm:m<T.I.n
 ·rw[if_neg (DQ hm bu),if_pos hm,H.ag m hm]
  by_cases hf:(T.R m).fault=0
  ·rw[if_pos hf,if_pos hf];exact H.ahead hm hf
  ·rw[if_neg hf,if_neg hf];rfl
 ·have:m=T.I.n:=by exact qP h1 hm
  subst this
  rw[if_neg hm]
  by_cases hb:T.I.bad=true
  ·rw[if_pos hb]at bu
   rw[if_neg (DR bu.symm),H.bad hb,hb];rfl
  ·rw[if_neg hb]at bu
   rw[if_pos (by exact bu.symm)]
   unfold hG;rw[if_neg hb]
end
end
section
section
variable{w:Nat} {T:Tb}
theorem XY (n:Nat) {pos:Option (Nat×Nat)} {move:Nat} {key:KN} (H:TabAt σ t T) (L:dp T ix) (S:t7 T ix) (W:d7 σ t w T oi p pos) (hm:move<=4) (tg:ig key)
  (h:∀τ p',c8 σ τ w oi p p'->TabAt τ t T->d7 τ t w T oi p' (d9 ix pos move key).1->Q (.int (d9 ix pos move key).2) τ):Call (n+9) true 1036 [.ref w,.int move,.bytes (bI key)] σ Q X:=by
 refine aK Uw rfl ?_
 obtain⟨P,x,hw,_⟩:=W.dest
 have Ml:∀{sc:b7} {ρ:af},pos=none->3<=move->nv ⟨sc,n+8,true⟩ (λρ' σ'=>aD ⟨sc,n+8,true⟩ [.ret (some (.int 0))] ρ' σ' (λ_ σ'=>Q .none σ') Q λex _ σ'=>X ex σ') Q (λex _ σ'=>X ex σ') .ja [(11,[.ret (some (.int 1))]),(86,[.ret (some (.int 2))])] ρ σ:=by
  intro sc ρ hp h3
  have e:d9 ix pos move key=(none,2):=by
   unfold d9
   rw[if_neg (zx h3 rfl),if_neg (zx h3 rfl),if_neg (zx h3 rfl),hp]
  have h:=h σ p c8.refl H (by refine aj (e)▸?_;refine(hp)▸?_;exact W)
  rw[e]at h
  refine⟨_,rfl,λz=>absurd z (by decide),λ_=>⟨_,rfl,λ_=>?_,λz=>absurd z (by decide)⟩⟩
  refine oO ?_
  lk
  exact h
 have BO:∀{sc:b7} {ρ:af} {τ:aa},Q (.int 1) τ->nv ⟨sc,n+8,true⟩ (λρ' σ'=>aD ⟨sc,n+8,true⟩ [.ret (some (.int 0))] ρ' σ' (λ_ σ'=>Q .none σ') Q λex _ σ'=>X ex σ') Q (λex _ σ'=>X ex σ') .b_ [(11,[.ret (some (.int 1))]),(86,[.ret (some (.int 2))])] ρ τ:=by
  intro sc ρ τ h
  refine⟨_,rfl,λ_=>?_,λz=>absurd z (by decide)⟩
  refine oO ?_
  lk
  exact h
 have u3:∀{sc:b7} {ρ:af} {r:Option (Nat×Nat)×Bool},d9 ix pos move key=hG r->Goes σ t w oi T p (λ_ σ'=>aD ⟨sc,n+8,true⟩ [.ret (some (.int 0))] ρ σ' (λ_ σ'=>Q .none σ') Q λex _ σ'=>X ex σ') (λex σ'=>nv ⟨sc,n+8,true⟩ (λρ' σ'=>aD ⟨sc,n+8,true⟩ [.ret (some (.int 0))] ρ' σ' (λ_ σ'=>Q .none σ') Q λex _ σ'=>X ex σ') Q (λex _ σ'=>X ex σ') ex [(11,[.ret (some (.int 1))]),(86,[.ret (some (.int 2))])] ρ σ') r:=by
  intro sc ρ r e τ p' a b c
  have h:=h τ p' a b (by refine aj (e)▸?_;exact c)
  rw[e]at h
  refine⟨λz=>?_,λz=>?_⟩
  ·lk
   unfold hG at h
   rw[z]at h
   exact h
  ·refine BO ?_
   unfold hG at h
   rw[z]at h
   exact h
 refine aA (qm (by decide) ?_)
 refine aA (bR (aY (aq rfl (aI ⟨_,dw,?_⟩))))
 refine aH (λhc=>?_) λhc=>?_
 ·have e:d9 ix pos move key=hG (front T T.I.n 0):=by unfold d9;refine aj (if_pos ((qS hc).symm))▸?_;exact L.first
  lk
  refine Kd n H W λτ p' a b c=>?_
  obtain⟨g1,g2⟩:=u3 e τ p' a b c
  exact⟨λz=>aE (aE (g1 z)),g2⟩
 refine aA (bR (aY (aq rfl (aI ⟨_,dw,?_⟩))))
 refine aH (λhc=>?_) λhc=>?_
 ·have e:d9 ix pos move key=hG (lastOf T):=by unfold d9;rw[if_neg (zn hc rfl),if_pos ((tc hc).symm)];exact L.last
  lk
  refine Ke n H W λτ p' a b c=>?_
  obtain⟨g1,g2⟩:=u3 e τ p' a b c
  exact⟨λz=>aE (aE (aE (g1 z))),g2⟩
 refine aA (bR (aY (aq rfl (aI ⟨_,dw,?_⟩))))
 refine aH (λhc=>?_) λhc=>?_
 ·have e:d9 ix pos move key=hG (l_ T (cz ix key) λi=>iJ (lr ix i).ps key):=by unfold d9;rw[if_neg (zn hc rfl),if_neg (zn hc rfl),if_pos ((ta hc).symm)];exact L.seek tg
  lk
  refine Yj n H W (L.EO tg) (L.Np S tg) λτ p' a b c=>?_
  obtain⟨g1,g2⟩:=u3 e τ p' a b c
  exact⟨λz=>aE (aE (aE (aE (g1 z)))),g2⟩
 refine aA (bR (aY (aq rfl (aI ⟨_,dw,?_⟩))))
 refine aH (λhc=>?_) λhc=>?_
 ·lk
  refine Yk n H W (λq=>Ml q (by lia)) λi j q τ p' a b c=>?_
  subst q
  have hi:=W.1.hi
  have hf:=W.1.hf
  have e:d9 ix (some (i,j)) move key=hG (ahead T i (j+1)):=by unfold d9;rw[if_neg (zn hc rfl),if_neg (zn hc rfl),if_neg (zn hc rfl)];dsimp only;refine aj (if_pos ((yN hc).symm))▸?_;exact L.ahead hi hf
  obtain⟨g1,g2⟩:=u3 e τ p' a b c
  exact⟨λz=>aE (aE (aE (aE (aE (g1 z))))),g2⟩
 ·lk
  refine Yi n H W (λq=>Ml q (by lia)) λi j q τ p' a b c=>?_
  subst q
  have hi:=W.1.hi
  have e:d9 ix (some (i,j)) move key=hG (if 0<j then(some (i,j-1),false)else iP T i):=by
   unfold d9;rw[if_neg (yR ‹_›),if_neg (vT ‹_›),if_neg (yM ‹_›)];dsimp only;refine aj (if_neg (vU hc))▸?_
   by_cases q:0<j
   ·rw[if_pos q,if_pos q];rfl
   ·rw[if_neg q,if_neg q];exact L.iP i (bx hi)
  obtain⟨g1,g2⟩:=u3 e τ p' a b c
  exact⟨λz=>aE (aE (aE (aE (aE (g1 z))))),g2⟩
theorem dp.JM (L:dp T ix):mi ix:=by
 have bu:=L.len
 have Ms:=L.Ms
 refine⟨by split at bu<;>lia,λr hr=>?_⟩
 obtain⟨i,hi,rfl⟩:=AV.mp hr
 have e:ix[i]=lr ix i:=by unfold lr;rw[be,bQ hi];rfl
 refine aj (e)▸?_
 by_cases q:i<T.I.n
 ·have:=L.pl i q;exact KR this
 ·by_cases hb:T.I.bad=true
  ·rw[if_pos hb]at bu
   have:i=T.I.n:=by lia
   subst this
   refine aj (L.bad hb)▸?_;decide
  ·rw[if_neg hb]at bu;exact K6 hi bu q
theorem dp.n5 (L:dp T ix) {i j:Nat} (hi:i<T.I.n) (hj:j<(lr ix i).ps.length):(i_ ix i j).1.length<=3:=by
 have:=L.En i hi ((lr ix i).ps[j]) (kx _)
 unfold i_
 rw[be,bQ hj]
 exact this.1
theorem Kc (n:Nat) {pos:Option (Nat×Nat)} (H:TabAt σ t T) (L:dp T ix) (W:d7 σ t w T oi p pos) (h:Q (.bool true) σ):Call (n+5) true 1050 [.ref w,.lst (ix.map dF),pR pos] σ Q X:=by
 refine aK UG rfl ?_
 obtain⟨P,x,hw,_⟩:=W.dest
 have io:=L.JM
 rcases pos with _|⟨i,j⟩
 ·unfold pR
  refine aA (bR (aY (aq rfl (jI ⟨_,HA,b4 (aE ?_)⟩))))
  lk
  refine vH (n+2) H W ?_
  refine⟨false,rfl,?_⟩
  lk
  refine qm (by decide) ?_
  lk
  refine yr n H W (λi' j' e=>(nn e)) λ_=>?_
  refine⟨_,rfl,λ_=>?_,λz=>absurd z (by decide)⟩
  refine oO ?_
  lk
  refine qm (by decide) ?_
  lk
  refine Kf n H W (λi' j' e=>(nn e)) λ_=>?_
  refine⟨_,rfl,λ_=>?_,λz=>absurd z (by decide)⟩
  refine oO ?_
  lk
  exact h
 ·have hi:=W.1.hi
  have hf:=W.1.hf
  have hj:=W.2
  have bu:=L.len
  have dx:i<ix.length:=by exact rj hi bu
  replace hj:=L.bn i hi hf▸hj
  obtain⟨k1,k2⟩:=L.bk i hi hf j hj
  unfold pR
  refine aA (bR (aY (aq rfl (jI ⟨_,HC,du ?_⟩))))
  lk
  refine vH (n+2) H W ?_
  refine⟨true,rfl,?_⟩
  lk
  refine yr n H W (λi' j' e=>?_) λe=>(nn (aj e))
  cases e
  rw[k1]
  lk
  refine Kf n H W (λi' j' e=>?_) λe=>(nn (aj e))
  cases e
  rw[k2]
  lk
  refine⟨_,gi io dx _,?_⟩
  lk
  refine⟨_,gp io dx hj _,?_⟩
  lk
  refine Ka (n+1) (by have:=L.n5 hi hj;exact td this) ?_
  exact⟨true,RM (uU _ rfl),h⟩
end
end
section
section
variable{w:Nat} {T:Tb} {mo:Nat} {key:KN}
noncomputable def Bg (r:Option PV):PV:=match r with
 |none=>.tup [.int 1,.none]
 |some v=>.tup [.int 0,v]
theorem Vf (L:dp T ix) (tg:ig key) (hd:∀off,den T.held off=g7 held off):Bg (mG T (cz ix key) λi=>iJ (lr ix i).ps key)=kQ ix held mo 0 key:=by
 have bu:=L.len
 have h1:=(L.num tg).1;have _:=(L.num tg).2
 unfold mG kQ
 rw[if_neg (show¬1<0 by decide)]
 dsimp only
 generalize cz ix key=m at h1
 by_cases hm:m<T.I.n
 ·rw[if_pos hm,if_neg (show¬m=ix.length by exact DQ hm bu),L.ag m hm,L.off m hm]
  by_cases h3:(T.R m).fault=3
  ·rw[if_pos h3,if_pos h3];rfl
  ·rw[if_neg h3,if_neg h3,if_neg (show¬0=1 by decide),hd]
   by_cases h4:g7 held (T.R m).off=true
   ·rw[if_pos h4,if_pos h4];rfl
   ·rw[if_neg h4,if_neg h4]
    by_cases hf:(T.R m).fault=0
    ·rw[if_neg (show¬(T.R m).fault≠0 by exact LX hf.symm),if_neg (show¬0<(T.R m).fault by exact yI hf.symm),L.bn m hm hf]
     by_cases hj:iJ (lr ix m).ps key<(lr ix m).ps.length
     ·rw[if_pos hj,if_pos hj]
      have k1:=(L.bk m hm hf _ hj).1;have k2:=(L.bk m hm hf _ hj).2
      rw[k1,k2];rfl
     ·rw[if_neg hj,if_neg hj];rfl
    ·rw[if_pos hf,if_pos (show 0<(T.R m).fault by exact qh hf)];rfl
 ·have:m=T.I.n:=by exact qP h1 hm
  subst this
  rw[if_neg hm]
  by_cases hb:T.I.bad=true
  ·rw[if_pos hb]at bu
   rw[if_pos hb,if_neg (show¬T.I.n=ix.length by exact DR bu.symm),L.bad hb];rfl
  ·rw[if_neg hb]at bu
   rw[if_neg hb,if_pos (show T.I.n=ix.length by exact bu.symm)];rfl
theorem abO (L:dp T ix) (tg:ig key) (nS:T.mo=mo):Bg (qV T (cz ix key))=kQ ix held mo 1 key:=by
 have bu:=L.len
 have h1:=(L.num tg).1;have _:=(L.num tg).2
 unfold qV kQ
 rw[if_neg (show¬1<1 by decide)]
 generalize cz ix key=m at h1
 by_cases hm:m<T.I.n
 ·rw[if_pos hm,if_neg (show¬m=ix.length by exact DQ hm bu),L.ag m hm,L.off m hm]
  by_cases h3:(T.R m).fault=3
  ·rw[if_pos h3,if_pos h3];rfl
  ·rw[if_neg h3,if_neg h3,if_pos rfl];rfl
 ·have:m=T.I.n:=by exact qP h1 hm
  subst this
  rw[if_neg hm]
  by_cases hb:T.I.bad=true
  ·rw[if_pos hb]at bu
   rw[if_pos hb,if_neg (show¬T.I.n=ix.length by exact DR bu.symm),L.bad hb];rfl
  ·rw[if_neg hb]at bu
   rw[if_neg hb,if_pos (show T.I.n=ix.length by exact bu.symm),if_neg (show¬1=0 by decide),nS];rfl
theorem U0:∀(k i:Nat) {i' j' c},i+k=T.I.n->front T k i=(some (i',j'),c)->i'<T.I.n/\(T.R i').fault=0/\j'<(T.R i').B.n/\c=false:=by
 intro bD
 induction bD with
 |zero=>
  intro i i' j' c hi h
  cases h
 |succ k ih=>
  intro i i' j' c hi h
  replace h:=sj▸h
  exact gF h (λhf h=>gF h (λhl h=>M2 (P:=λi j c=>i<T.I.n/\(T.R i).fault=0/\j<(T.R i).B.n/\c=false) h ⟨f9 hi,hf,hl,rfl⟩) λ_ h=>ih (i+1) (kj hi) h) λ_ h=>nn (congrArg oK h)
theorem ab8:∀(k:Nat) {i' j' c},k<=T.I.n->iP T k=(some (i',j'),c)->i'<T.I.n/\(T.R i').fault=0/\j'<(T.R i').B.n/\c=false:=by
 intro bD
 induction bD with
 |zero=>
  intro i' j' c hi h
  cases h
 |succ k ih=>
  intro i' j' c hi h
  replace h:=tB▸h
  exact gF h (λhf h=>gF h (λhl h=>M2 (P:=λi j c=>i<T.I.n/\(T.R i).fault=0/\j<(T.R i).B.n/\c=false) h ⟨hi,hf,pK hl,rfl⟩) λ_ h=>ih (bx hi) h) λ_ h=>nn (congrArg oK h)
theorem Kn (L:dp T ix) {r:Option (Nat×Nat)×Bool} {c7:Nat} (hw:1<c7) (e:(if c7=2 then iK ix ix.length 0 else j8 ix ix.length)=hG r) (ok:∀i j c,r=(some (i,j),c)->i<T.I.n/\(T.R i).fault=0/\j<(T.R i).B.n/\c=false)
  (h:∀τ,Ext σ τ->Q (kQ ix held mo c7 key) τ):AM σ T (λv τ=>Q (.tup [.int 0,v]) τ) (λex τ=>(ex=.b_->Q (.tup [.int 1,.none]) τ)/\(ex=.j_->Q (.tup [.int 2,.none]) τ)/\(ex=.b_\/ex=.j_)) r:=by
 intro τ cL
 have h:=h τ cL
 unfold kQ at h
 rw[if_pos hw,e]at h
 refine⟨λi j q=>?_,λq=>?_,λq=>?_⟩
 ·obtain⟨h1,h2,h3,_⟩:=ok i j _ q
  subst q
  obtain⟨k1,_⟩:=L.bk i h1 h2 j (by rw[<-L.bn i h1 h2];exact h3)
  rw[k1];exact h
 ·subst q
  exact⟨λz=>(nomatch z),λ_=>h,.inr rfl⟩
 ·obtain⟨r1,r2⟩:=r
  dsimp only at q
  subst q
  rcases r1 with _|⟨i,j⟩
  ·exact⟨λ_=>h,λz=>(nomatch z),.inl rfl⟩
  ·exact absurd (ok i j _ rfl).2.2.2 (by decide)
theorem XS (n:Nat) {c7:Nat} (H:TabAt σ t T) (L:dp T ix) (S:t7 T ix) (hd:∀off,den T.held off=g7 held off) (nS:T.mo=mo) (hw:c7<=3) (tg:ig key)
  (h:∀τ,Ext σ τ->Q (kQ ix held mo c7 key) τ):Call (n+10) true 1057 [.ref t,.int c7,.bytes (bI key)] σ Q X:=by
 refine aK Uu rfl ?_
 have ob:=H.ob
 have gD:∀{sc:b7} {ρ:af} {ex:Ex} {τ:aa},(ex=.b_->Q (.tup [.int 1,.none]) τ)/\(ex=.j_->Q (.tup [.int 2,.none]) τ)/\(ex=.b_\/ex=.j_)->nv ⟨sc,n+9,true⟩ (λρ' σ'=>aD ⟨sc,n+9,true⟩ [] ρ' σ' (λ_ σ'=>Q .none σ') Q λex _ σ'=>X ex σ') Q (λex _ σ'=>X ex σ') ex [(11,[.ret (some (.tup [.int 1,.none]))]),(164,[.ret (some (.tup [.int 2,.none]))])] ρ τ:=by
  intro sc ρ ex τ ⟨h1,h2,h3⟩
  rcases h3 with rfl|rfl
  ·refine⟨_,rfl,λ_=>?_,λz=>absurd z (by decide)⟩
   refine oO ?_
   lk
   exact h1 rfl
  ·refine⟨_,rfl,λz=>absurd z (by decide),λ_=>⟨_,rfl,λ_=>?_,λz=>absurd z (by decide)⟩⟩
   refine oO ?_
   lk
   exact h2 rfl
 have says:∀{r:Option PV},Bg r=kQ ix held mo c7 key->A6 σ (λv τ=>Q (.tup [.int 0,v]) τ) (λex τ=>(ex=.b_->Q (.tup [.int 1,.none]) τ)/\(ex=.j_->Q (.tup [.int 2,.none]) τ)/\(ex=.b_\/ex=.j_)) r:=by
  intro r e τ cL
  have h:=h τ cL
  rw[<-e]at h
  refine⟨λv q=>?_,λq=>?_⟩
  ·subst q;exact h
  ·subst q;exact⟨λ_=>h,λz=>(nomatch z),.inl rfl⟩
 refine aA (qm (by decide) ?_)
 refine aA (bR (aY (aq rfl (aI ⟨_,dw,?_⟩))))
 refine aH (λhc=>?_) λhc=>aE ?_
 ·have hc:c7=0:=by exact(qS hc).symm
  subst hc
  lk
  refine XR (n+1) H (L.EO tg) (L.Np S tg) λτ cL=>?_
  obtain⟨g1,g2⟩:=says (Vf L tg hd) τ cL
  refine⟨λv q=>?_,λq=>gD (g2 q)⟩
  lk
  exact g1 v q
 refine aA (bR (aY (aq rfl (aI ⟨_,dw,?_⟩))))
 refine aH (λhc=>?_) λhc=>aE ?_
 ·have hc:c7=1:=by exact(tc hc).symm
  subst hc
  lk
  refine X1 (n+1) H (L.EO tg) λτ cL=>?_
  obtain⟨g1,g2⟩:=says (abO L tg nS) τ cL
  refine⟨λv q=>?_,λq=>gD (g2 q)⟩
  lk
  exact g1 v q
 refine aA (bR (aY (aq rfl (aI ⟨_,dw,?_⟩))))
 refine aH (λhc=>?_) λhc=>aE ?_
 ·have hc:c7=2:=by exact(ta hc).symm
  subst hc
  lk
  refine XQ n H λτ cL=>?_
  obtain⟨g1,g2,g3⟩:=Kn L (by lia) (by rw[if_pos rfl];exact L.first) (λi j c q=>U0 _ _ (kD _) q) h τ cL
  refine⟨λi j q=>?_,λq=>gD (g2 q),λq=>gD (g3 q)⟩
  lk
  exact g1 i j q
 ·have hc:c7=3:=by lia
  subst hc
  lk
  refine XU n H λτ cL=>?_
  obtain⟨g1,g2,g3⟩:=Kn L (by lia) (by rw[if_neg (by lia)];exact L.last) (λi j c q=>by
   unfold lastOf at q
   split at q
   ·cases q
   ·exact ab8 _ (aP _) q) h τ cL
  refine⟨λi j q=>?_,λq=>gD (g2 q),λq=>gD (g3 q)⟩
  lk
  exact g1 i j q
end
end
section
theorem Ed {A B:List UInt8}:oct (A++B) (A.length+j)=oct B j:=by unfold oct;rw[Cc rfl]
theorem abM {D:List UInt8}:oct D (i+j)=oct (D.drop i) j:=by unfold oct;rw[oZ]
theorem MQ {A B:List UInt8}:oct (A++B) A.length=oct B 0:=Ed (j:=0)
theorem tL {A r:List UInt8} {v:Nat} (hv:v<16384):gU (A++(bP v++r)) A.length v (A.length+(bP v).length):=by
 unfold bP
 by_cases h:v<128
 ·rw[if_pos h]
  have e:oct (A++([v.toUInt8]++r)) A.length=v:=by rw[MQ];show v.toUInt8.toNat=v;exact pV v (ai h (aG rfl))
  exact .inl ⟨by simp,by lia,e.symm,by simp⟩
 ·rw[if_neg h]
  have e0:oct (A++([(v%128+128).toUInt8,(v/128).toUInt8]++r)) A.length=v%128+128:=by rw[MQ];show(v%128+128).toUInt8.toNat=_;exact pV _ (aaN)
  have e1:oct (A++([(v%128+128).toUInt8,(v/128).toUInt8]++r)) (A.length+1)=v/128:=by rw[Ed];show(v/128).toUInt8.toNat=_;exact pV _ (ut hv)
  exact .inr ⟨by simp,by lia,u8 hv e1,v6 e0.symm e1.symm,by simp⟩
theorem gU.det {D:List UInt8} {v v' j':Nat} (h:gU D i v j) (g:gU D i v' j'):v=v'/\j=j':=by
 rcases h with⟨_,h1,h2,h3⟩|⟨_,h1,_,h2,h3⟩<;>rcases g with⟨_,g1,g2,g3⟩|⟨_,g1,_,g2,g3⟩<;>lia
theorem MZ {l f:Nat} (ho:o<10000) (hl:l<10000):AB (fW o l f) (o+if f=4 then 2000 else 0) l f:=by
 have h4:(o+if f=4 then 2000 else 0)<16384:=by split<;>lia
 have h1:=tL (A:=[]) (r:=bP l++if f=3 then[1]else[]) h4
 have h2:=tL (A:=bP (o+if f=4 then 2000 else 0)) (r:=if f=3 then[1]else[]) (v:=l) (yO hl)
 rw[bL,<-dq]at h1
 rw[<-dq]at h2
 refine⟨_,_,h1,by rw[lz,kD];exact h2,?_⟩
 unfold fW
 rw[bf,bf]
 by_cases h:f=3
 ·rw[if_pos h];simp[h]
 ·rw[if_neg h];simp[h]
theorem fI.facts {D:List UInt8} {C:List UInt8} {f:Nat} (h:fI D o C f):(D.drop o).take C.length=C/\(uj D o C.length↔f≠1/\f≠2):=by
 obtain⟨r,hr⟩:=h
 have dY:D.drop o=cO C f++(eU (rb (cO C f)*251+(cO C f).length*65537+7+if f=2 then 1 else 0) 4++r):=by rw[hr];unfold cR;rw[dq]
 have bl:(cO C f).length=C.length+1:=by simp[cO]
 have e1:(D.drop o).take (C.length+1)=cO C f:=by rw[dY,<-bl,wW]
 have e2:(D.drop o).take C.length=C:=by
  rw[dY];unfold cO
  rw[dq,wW]
 have e3:oct D (o+C.length)=if f=1 then 3 else 0:=by
  rw[abM,dY]
  unfold cO
  rw[dq,show C.length=C.length+0 from rfl,Ed]
  split<;>rfl
 have e4:eH D (o+C.length+1)=(rb (cO C f)*251+(cO C f).length*65537+7+if f=2 then 1 else 0)%4294967296:=yz (r:=r) (by
  rw[lD,<-oF,dY,<-bl,kv])
 refine⟨e2,?_⟩
 unfold uj
 rw[e1,e3,e4]
 unfold BH jw
 rw[show((cO C f).map (·.toNat)).sum=rb (cO C f) from rfl]
 generalize rb (cO C f)=s
 generalize(cO C f).length=l
 by_cases h1:f=1
 ·simp[h1]
 ·by_cases h2:f=2
  ·rw[if_neg h1,if_pos h2]
   refine⟨λ⟨z,_⟩=>?_,λz=>absurd h2 z.2⟩
   lia
  ·rw[if_neg h1,if_neg h2]
   refine⟨λ_=>⟨h1,h2⟩,λ_=>⟨?_,rfl⟩⟩
   exact rfl.symm
theorem fI.snd {D:List UInt8} {E:Nat} {C:List UInt8} {f:Nat} (h:fI D o C f) (h1:o+C.length+5<=E) (h2:E<2000) (h4:f<=4):mx D E (o+if f=4 then 2000 else 0) C.length↔f=0\/f=3:=by
 have:=h.facts.2
 unfold mx
 by_cases q:f=4
 ·rw[if_pos q];constructor
  ·rintro⟨z,_⟩;lia
  ·rintro(e|e)<;>exact absurd (q.symm.trans e) (by decide)
 ·rw[if_neg q]
  simp only[rE]
  rw[this]
  exact(and_iff_right h1).trans ((by decide:∀x,x<5->¬x=4->((x≠1/\x≠2)↔(x=0\/x=3))) f (Nat.lt_succ_of_le h4) q)
theorem xG:fa ag ar i<=4:=by unfold fa;split<;>lia
namespace TD
noncomputable def E (d:TD):Nat:=d.d1.length+(d.M.D.length+5)+(d.I.D.length+5)
noncomputable def mo (d:TD):Nat:=d.d1.length+if d.f1=4 then 2000 else 0
noncomputable def nW (d:TD):Nat:=(d.d1++cR d.M.D d.f1).length
noncomputable def io (d:TD):Nat:=d.nW+if d.f2=4 then 2000 else 0
noncomputable def T3 (d:TD):List UInt8:=kh d.d1.length d.M.D.length d.nW d.I.D.length d.f1 d.f2
noncomputable def hd (d:TD):List UInt8:=d.T3++bV (40-d.T3.length) 0
noncomputable def oS (d:TD):List UInt8:=d.d1++cR d.M.D d.f1++cR d.I.D d.f2
theorem ru (d:TD):d.D=d.oS++(d.hd++dO (dU d.ag d.x)):=by
 unfold D oS hd T3 nW dataE
 simp only[dq]
theorem Cq (d:TD):d.hd.length=40:=by
 have:d.T3.length<=10:=zN _ _ _ _ _ _
 unfold hd;rw[bf,t5];lia
theorem Ha (d:TD):d.oS.length=d.E:=by
 unfold oS E;simp only[bf,gJ]
theorem abf (d:TD):(dO (dU d.ag d.x)).length=8:=by
 have:=(Mk d.ag d.x).2
 simpa[dO]using this
theorem ry (d:TD):d.D.length=d.E+48:=by
 rw[ru,bf,bf,Ha,Cq,abf]
theorem NH (d:TD):jc d.D=d.hd++dO (dU d.ag d.x):=by
 unfold jc
 rw[ry,w1,ru,<-Ha,kv]
theorem VW (d:TD):pf d.D=d.hd:=by
 unfold pf;rw[NH,<-Cq d,wW]
theorem aa' (d:TD):fT (jc d.D) 40=15800726617472432983↔d.ag≠5:=by
 rw[NH,<-abe d.ag d.x,<-Cq d]
 have:fT (d.hd++dO (dU d.ag d.x)) d.hd.length=fT (dO (dU d.ag d.x)) 0:=by
  have g:∀j,(d.hd++dO (dU d.ag d.x)).getD (d.hd.length+j) 0=(dO (dU d.ag d.x)).getD j 0:=λj=>Cc rfl
  unfold fT eH
  simp only[lD,g]
  rw[show(d.hd++dO (dU d.ag d.x)).getD d.hd.length 0=(dO (dU d.ag d.x)).getD 0 0 from g 0]
 rw[this]
variable{d:TD}
inductive E2 (d:TD):Prop
 |mk (e1:d.E<2000) (e2:d.dat.length<=550) (e3:d.FD.length<=100) (e4:d.M.D.length<=144) (e5:d.I.D.length<=232)
theorem Ok.uP (H:d.Ok par):E2 d:=by
 have q:d.E<2000/\d.dat.length<=550/\d.FD.length<=100/\d.M.D.length<=144/\d.I.D.length<=232:=by
  have h1:=H.L.dl
  have h2:=H.M.len
  have h3:=H.I.len
  have h4:=D3 d.x d.P
  have h5:=H.K.rl
  have h6:=H.K.bl
  have h7:=H.S4
  rw[show(eX d.rs d.ro d.B d.ag d.ar).length=d.rs.length by simp[eX]]at h3
  unfold E d1
  rw[bf,gJ]
  exact wf h2 h3 h1 h7 h4 h5 h6
 exact⟨q.1,q.2.1,q.2.2.1,q.2.2.2.1,q.2.2.2.2⟩
theorem Ok.Ng (H:d.Ok par):fI d.D d.d1.length d.M.D d.f1:=by
 rw[ru];unfold oS
 exact((fI.new d.d1 d.M.D d.f1).app _).app _
theorem Ok.Nf (H:d.Ok par):fI d.D d.nW d.I.D d.f2:=by
 rw[ru];unfold oS nW
 exact(fI.new _ d.I.D d.f2).app _
theorem Ok.seF (H:d.Ok par):fI d.D d.dat.length d.FD d.f0:=by
 rw[ru];unfold oS d1
 exact(((fI.new d.dat d.FD d.f0).app _).app _).app _
theorem Ok.nA (H:d.Ok par) {i:Nat} (hi:i<d.bs.length):kA (d.B i) (gn (d.bs.getD i [])) false/\fI d.D (d.ro i) (d.B i).D (d.f i)/\d.ro i+(d.B i).D.length+5<=d.dat.length:=by
 have ex:∃s<d.bs.length,cH d.a9 d.bs.length s=i:=by
  cases h:d.a9 with
  |false=>exact⟨i,hi,rfl⟩
  |true=>exact⟨d.bs.length-1-i,DN hi,by show d.bs.length-1-(d.bs.length-1-i)=i;exact(DO hi).symm⟩
 obtain⟨s,hs,rfl⟩:=ex
 have se:=H.L.se s hs
 refine⟨H.L.mb s hs,?_,se.le⟩
 rw[ru];unfold oS d1
 exact(((se.app _).app _).app _).app _
theorem Ok.inj (H:d.Ok par) {i j:Nat} (hi:i<d.bs.length) (hj:j<d.bs.length) (e:d.ro i=d.ro j):i=j:=by
 have ex:∀i<d.bs.length,∃s<d.bs.length,cH d.a9 d.bs.length s=i:=λi hi=>by
  cases h:d.a9 with
  |false=>exact⟨i,hi,rfl⟩
  |true=>exact⟨d.bs.length-1-i,DN hi,by show d.bs.length-1-(d.bs.length-1-i)=i;exact(DO hi).symm⟩
 obtain⟨s,hs,rfl⟩:=ex i hi
 obtain⟨t,ht,rfl⟩:=ex j hj
 rcases A3 s t with q|q|q
 ·have:=H.L.inc s t q ht;exact js this e
 ·rw[q]
 ·have:=H.L.inc t s q hs;exact js this e.symm
theorem Ok.foot (H:d.Ok par):AA d.D d.mo d.M.D.length d.io d.I.D.length (decide (d.f1≠3/\d.f2≠3)):=by
 obtain⟨e1,e2,e3,e4,e5⟩:=H.uP
 have u_:d.d1.length<=700:=by unfold d1;rw[bf,gJ];exact Fq e2 e3 rfl
 have eC:d.nW<=900:=by unfold nW;rw[bf,gJ];exact Fq u_ e4 rfl
 refine⟨by rw[ry];exact Lq e1,by rw[ry];exact Lr,?_⟩
 rw[VW]
 have nS:d.mo<16384:=by unfold mo;split<;>lia
 have V9:d.io<16384:=by unfold io;split<;>lia
 have heq:d.hd=bP d.mo++(bP d.M.D.length++(bP d.io++(bP d.I.D.length++((if d.f2=3 then[1]else[])++((if d.f1=3 then[1]else[])++bV (40-d.T3.length) 0))))):=by
  unfold hd T3 kh mZ mY fW mo io
  simp only[dq]
 have tl:d.T3.length=(bP d.mo).length+(bP d.M.D.length).length+(bP d.io).length+(bP d.I.D.length).length+((if d.f2=3 then[1]else[]:List UInt8).length+(if d.f1=3 then[1]else[]:List UInt8).length):=by
  unfold T3 kh mZ mY fW mo io
  simp only[bf];lia
 have t3:d.T3.length<=10:=zN _ _ _ _ _ _
 generalize hz:40-d.T3.length=z at heq
 have v1:=tL (A:=[]) (v:=d.mo) (r:=bP d.M.D.length++(bP d.io++(bP d.I.D.length++((if d.f2=3 then[1]else[])++((if d.f1=3 then[1]else[])++bV z 0))))) nS
 have v2:=tL (A:=bP d.mo) (v:=d.M.D.length) (r:=bP d.io++(bP d.I.D.length++((if d.f2=3 then[1]else[])++((if d.f1=3 then[1]else[])++bV z 0)))) (aaO e4)
 have v3:=tL (A:=bP d.mo++bP d.M.D.length) (v:=d.io) (r:=bP d.I.D.length++((if d.f2=3 then[1]else[])++((if d.f1=3 then[1]else[])++bV z 0))) V9
 have v4:=tL (A:=bP d.mo++bP d.M.D.length++bP d.io) (v:=d.I.D.length) (r:=(if d.f2=3 then[1]else[])++((if d.f1=3 then[1]else[])++bV z 0)) (aaP e5)
 rw[heq]
 simp only[dq,bL,bf,lz,kD,lD]at v1 v2 v3 v4⊢
 refine⟨_,_,_,_,v1,v2,v3,v4,?_⟩
 have e6:(bP d.mo++(bP d.M.D.length++(bP d.io++(bP d.I.D.length++((if d.f2=3 then[1]else[])++((if d.f1=3 then[1]else[])++bV z 0)))))).drop ((bP d.mo).length+((bP d.M.D.length).length+((bP d.io).length+(bP d.I.D.length).length)))=(if d.f2=3 then[1]else[])++((if d.f1=3 then[1]else[])++bV z 0):=by
  rw[<-oF,kv,<-oF,kv,<-oF,kv,kv]
 rw[e6]
 generalize hj:(bP d.mo).length+((bP d.M.D.length).length+((bP d.io).length+(bP d.I.D.length).length))=j
 by_cases h2:d.f2=3
 ·rw[if_pos h2]at tl⊢
  rw[decide_eq_false λh=>h.2 h2]
  obtain⟨k,hk⟩:∃k,40-j=k+1:=⟨40-j-1,by simp only[ej,lz]at tl;exact(K7 t3 tl hj.symm).symm⟩
  rw[hk,AX]
  simp
 ·rw[if_neg h2]at tl⊢
  by_cases h1:d.f1=3
  ·rw[if_pos h1]at tl⊢
   rw[decide_eq_false λh=>h.1 h1]
   obtain⟨k,hk⟩:∃k,40-j=k+1:=⟨40-j-1,by simp only[ej,lz]at tl;exact(K7 t3 tl hj.symm).symm⟩
   rw[hk,AX]
   simp
  ·rw[if_neg h1]at tl⊢
   rw[decide_eq_true ⟨h1,h2⟩]
   rw[show 40-j=z by simp only[lz]at tl;exact(wl hz tl hj.symm).symm]
   simp
end TD
end
section
theorem Yt {l m:List KV}:cP (l++m) (l.length+i)=cP m i:=by
 unfold cP;rw[be,p_ (b6 _ _),nj,<-be]
theorem Yv {l m:List KV}:eG (l++m) (l.length+i)=eG m i:=by
 unfold eG;rw[be,p_ (b6 _ _),nj,<-be]
theorem G9:ji uY fL=-1:=by decide+kernel
theorem QZ:ji fL fL=0:=by decide+kernel
theorem G_:ji qu fL=1:=by decide+kernel
noncomputable def kW (x:Nat) (P:List UInt8):List KV:=(if x%7≠0 then[(fL,P)]else[])++if x%3=0 then[(qu,[])]else[]
theorem pN (x:Nat) (P:List UInt8):lY x P=cZ x++kW x P:=by unfold lY ju kW;rw[dq]
theorem abn (h:i<(cZ x).length):cP (cZ x) i=uY:=by
 unfold cZ at*
 split at h
 ·rename_i q;rw[if_pos q];simp at h;subst h;rfl
 ·simp at h
theorem Mr {P:List UInt8} (h:i<(kW x P).length):(i=0/\x%7≠0/\cP (kW x P) i=fL/\eG (kW x P) i=P)\/((0<i\/x%7=0)/\x%3=0/\cP (kW x P) i=qu):=by
 unfold kW at*
 by_cases h7:x%7≠0
 ·rw[if_pos h7]at h⊢
  by_cases h3:x%3=0
  ·rw[if_pos h3]at h⊢
   simp at h
   rcases(show i=0\/i=1 by lia)with rfl|rfl
   ·exact .inl ⟨rfl,h7,rfl,rfl⟩
   ·exact .inr ⟨.inl (by decide),h3,rfl⟩
  ·rw[if_neg h3]at h⊢
   simp at h
   subst h
   exact .inl ⟨rfl,h7,rfl,rfl⟩
 ·rw[if_neg h7]at h⊢
  by_cases h3:x%3=0
  ·rw[if_pos h3]at h⊢
   simp at h
   subst h
   exact .inr ⟨.inr ((K9 h7).symm),h3,rfl⟩
  ·rw[if_neg h3]at h
   simp at h
theorem D4 {P:List UInt8}:(0<(kW x P).length↔x%7≠0\/x%3=0):=by
 unfold kW
 by_cases h7:x%7≠0<;>by_cases h3:x%3=0<;>simp[h7,h3]
namespace TD
variable{d:TD}
noncomputable def rk (d:TD) (i:Nat):KN×Nat:=d.rs.getD i (([],0),0)
noncomputable def row (d:TD) (i:Nat):Row:=⟨d.ro (d.rk i).2+(if d.f (d.rk i).2=4 then 2000 else 0),(d.B (d.rk i).2).D.length,d.f (d.rk i).2,fW (d.ro (d.rk i).2) (d.B (d.rk i).2).D.length (d.f (d.rk i).2),d.B (d.rk i).2⟩
noncomputable def u0 (d:TD):Row:=⟨d.dat.length+(if d.f0=4 then 2000 else 0),d.FD.length,d.f0,d.P,d.B 0⟩
noncomputable def jq (d:TD) (bits:Nat) (par:Bool):iR:=⟨d.D,bits,par,d.I,d.row,d.M,d.mo,d.M.D.length,d.io,d.I.D.length,(cZ d.x).length,if d.x%7≠0 then some d.u0 else none,(d.says.length,λi=>d.says.getD i true)⟩
theorem JA (d:TD):(d.jq bits par).E=d.E:=by
 show d.D.length-48=d.E
 rw[ry];exact rfl
theorem Ok.ka (H:d.Ok par) {i:Nat} (hi:i<d.I.n):(d.rk i)∈d.rs/\(d.rk i).2<d.bs.length/\fh (d.rk i).1:=by
 have hn:=H.I.n
 rw[show(eX d.rs d.ro d.B d.ag d.ar).length=d.rs.length by simp[eX]]at hn
 have hm:d.rk i∈d.rs:=by
  unfold rk
  rw[be,bQ (iL hi hn.symm)]
  exact kx _
 exact⟨hm,(H.K.ro _ hm).2,(H.K.ro _ hm).1⟩
theorem Ok.In (H:d.Ok par):d.I.n=d.rs.length:=by
 have hn:=H.I.n
 rwa[show(eX d.rs d.ro d.B d.ag d.ar).length=d.rs.length by simp[eX]]at hn
theorem Ok.jX (H:d.Ok par) {i:Nat} (hi:i<d.I.n):d.I.key i=bI (d.rk i).1/\d.I.val i=(d.row i).P:=by
 have hr:=H.In
 have hl:(eX d.rs d.ro d.B d.ag d.ar).length=d.rs.length:=by simp[eX]
 have e:(eX d.rs d.ro d.B d.ag d.ar).getD i ([],[])=(bI (d.rk i).1,(d.row i).P):=by
  unfold eX row rk
  rw[be,mj,be,bQ (show i<d.rs.length by exact iL hi hr.symm)];rfl
 refine⟨(H.I.key i (DS hi hl hr)).trans ?_,(H.I.val i (DS hi hl hr)).trans ?_⟩
 ·unfold cP;rw[e]
 ·unfold eG;rw[e]
theorem Ok.Bw (H:d.Ok par) {i j:Nat} (hi:i<d.bs.length) (hj:j<(d.B i).n):(d.B i).n=(d.bs.getD i []).length/\(d.B i).key j=bI ((d.bs.getD i []).getD j ([],0))/\(d.B i).val j=j9 ((d.bs.getD i []).getD j ([],0))/\(d.bs.getD i []).getD j ([],0)∈d.bs.getD i []:=by
 have M:=(H.nA hi).1;have _:=(H.nA hi).2
 have hn:=M.n
 have hl:(gn (d.bs.getD i [])).length=(d.bs.getD i []).length:=by simp[gn]
 have mO:j<(d.bs.getD i []).length:=by exact DS hj hl.symm hn
 have e:(gn (d.bs.getD i [])).getD j ([],[])=(bI ((d.bs.getD i []).getD j ([],0)),j9 ((d.bs.getD i []).getD j ([],0))):=by
  unfold gn
  rw[be,mj,be (l:=d.bs.getD i []),bQ mO];rfl
 refine⟨K_ hn hl.symm,(M.key j (iL hj hn.symm)).trans ?_,(M.val j (iL hj hn.symm)).trans ?_,?_⟩
 ·unfold cP;rw[e]
 ·unfold eG;rw[e]
 ·rw[be (l:=d.bs.getD i []),bQ mO];exact kx _
theorem Ok.uD (H:d.Ok par) {i:Nat} (hi:i<d.bs.length):d.bs.getD i []∈d.bs:=by
 rw[be,bQ hi];exact kx _
theorem Ok.Ez (H:d.Ok par) {i:Nat} (hi:i<d.I.n):w9 d.D d.E (d.row i):=by
 obtain⟨e1,e2,e3,e4,e5⟩:=H.uP
 obtain⟨_,hk,_⟩:=H.ka hi
 obtain⟨M,S,le⟩:=H.nA hk
 have hE:d.ro (d.rk i).2+(d.B (d.rk i).2).D.length+5<=d.E:=by unfold E d1;rw[bf,gJ];lia
 have sn:=S.snd hE e1 xG
 refine⟨ai (tA _ _ _) (by decide),MZ (ww le e2) (by lia),λn3=>?_,λz=>?_⟩
 ·have n3:d.f (d.rk i).2≠3:=n3
  show d.f (d.rk i).2=0↔mx d.D d.E (d.ro (d.rk i).2+if d.f (d.rk i).2=4 then 2000 else 0) (d.B (d.rk i).2).D.length
  rw[sn]
  constructor
  ·exact .inl
  ·rintro(z|z)
   ·exact z
   ·exact absurd z n3
 ·have z:d.f (d.rk i).2=0:=z
  refine⟨?_,M.ok,M.lay,M.bad⟩
  show(d.B (d.rk i).2).D=(d.D.drop (d.ro (d.rk i).2+if d.f (d.rk i).2=4 then 2000 else 0)).take (d.B (d.rk i).2).D.length
  rw[if_neg (tO z.symm rfl),rE,S.facts.1]
theorem Ok.same (H:d.Ok par) {i j:Nat} (hi:i<d.I.n) (hj:j<d.I.n) (e:(d.row i).P=(d.row j).P) (hf:(d.row i).fault=0):(d.row j).fault=0/\(d.row i).B=(d.row j).B:=by
 obtain⟨e1,e2,e3,e4,e5⟩:=H.uP
 obtain⟨j1,k1,v1,_,_⟩:=(H.Ez hi).hd
 obtain⟨j2,k2,v2,_,_⟩:=(H.Ez hj).hd
 rw[e]at v1
 have eo:=(v1.det v2).1
 have hf:d.f (d.rk i).2=0:=hf
 have eo:d.ro (d.rk i).2+(if d.f (d.rk i).2=4 then 2000 else 0)=d.ro (d.rk j).2+(if d.f (d.rk j).2=4 then 2000 else 0):=eo
 obtain⟨_,a1,_⟩:=H.ka hi
 obtain⟨_,a2,_⟩:=H.ka hj
 have b1:=(H.nA a1).2.2
 rw[if_neg (tO hf.symm rfl)]at eo
 have q:¬d.f (d.rk j).2=4:=λz=>by rw[if_pos z]at eo;lia
 rw[if_neg q]at eo
 have ek:=H.inj a1 a2 (eo)
 refine⟨?_,?_⟩
 ·show d.f (d.rk j).2=0
  rw[<-ek];exact hf
 ·show d.B (d.rk i).2=d.B (d.rk j).2
  rw[ek]
theorem Ok.met (H:d.Ok par):AZ (d.jq bits par):=by
 obtain⟨e1,e2,e3,e4,e5⟩:=H.uP
 have M:=H.M
 have hn:=M.n
 have hP:d.P.length<=5:=tA _ _ _
 rw[pN,bf]at hn
 have kl:∀i<(cZ d.x).length,d.M.key i=uY:=λi hi=>by
  rw[M.key i (by rw[pN,bf];exact gN hi),pN,s9 hi,abn hi]
 have kr:∀i<(kW d.x d.P).length,d.M.key ((cZ d.x).length+i)=cP (kW d.x d.P) i/\d.M.val ((cZ d.x).length+i)=eG (kW d.x d.P) i:=λi hi=>by
  rw[M.key _ (by rw[pN,bf];exact La hi),M.val _ (by rw[pN,bf];exact La hi),pN,Yt,Yv];exact⟨rfl,rfl⟩
 have Dr:∀i,(cZ d.x).length<=i->i<d.M.n->(i=(cZ d.x).length/\d.x%7≠0/\d.M.key i=fL)\/(((cZ d.x).length<i\/d.x%7=0)/\d.M.key i=qu):=λi h1 h2=>by
  have hk:=kr (i-(cZ d.x).length) (Lb h2 h1 hn.symm)
  rw[show(cZ d.x).length+(i-(cZ d.x).length)=i by exact rD h1]at hk
  rcases Mr (x:=d.x) (P:=d.P) (i:=i-(cZ d.x).length) (Lb h2 h1 hn.symm)with⟨a,b,c,_⟩|⟨a,b,c⟩
  ·exact .inl ⟨(wE h1 a.symm).symm,b,hk.1.trans c⟩
  ·exact .inr ⟨wP a,hk.1.trans c⟩
 refine⟨⟨by show fL.length<=1000000;decide,λi hi=>?_,by show(cZ d.x).length<=d.M.n;exact rG hn.symm,λi hi=>?_,λi h1 h2=>?_,λi hi e=>?_⟩,λhf hm=>?_,λr hr=>?_⟩
 ·have:=M.ok.n5 i hi
  show(d.M.key i).length<=1000000
  exact aaQ this
 ·show ji (d.M.key i) fL<0
  rw[kl i hi,G9];decide
 ·show 0<=ji (d.M.key i) fL
  rcases Dr i h1 h2 with⟨_,_,z⟩|⟨_,z⟩
  ·rw[z,QZ];decide
  ·rw[z,G_];decide
 ·show i=(cZ d.x).length
  have e:ji (d.M.key i) fL=0:=e
  rcases qg i (cZ d.x).length with q|q
  ·rw[kl i q,G9]at e;(cases e)
  ·rcases Dr i q hi with⟨z,_⟩|⟨_,z⟩
   ·exact z
   ·rw[z,G_]at e;(cases e)
 ·have hf:(if d.x%7≠0 then some d.u0 else none)=none:=hf
  have h7:d.x%7=0:=by
   split at hf
   ·(cases hf)
   ·exact(K9 ‹_›).symm
  show d.M.key (cZ d.x).length≠fL
  rcases Dr (cZ d.x).length (aP _) hm with⟨_,z,_⟩|⟨_,z⟩
  ·exact absurd h7.symm z.symm
  ·rw[z];decide
 ·have hr:(if d.x%7≠0 then some d.u0 else none)=some r:=hr
  by_cases h7:d.x%7≠0
  ·rw[if_pos h7]at hr
   (cases hr)
   have h0:=(D4 (P:=d.P)).mpr (.inl h7)
   have hk:=kr 0 h0
   rw[rE]at hk
   rcases Mr h0 with⟨_,_,c1,c2⟩|⟨c,_⟩
   ·refine⟨by show(cZ d.x).length<d.M.n;lia,hk.1.trans c1,hk.2.trans c2,?_⟩
    show FP d.D (d.jq bits par).E d.u0 (d.says.length,λi=>d.says.getD i true)
    rw[JA]
    have S:=H.seF
    have hE:d.dat.length+d.FD.length+5<=d.E:=by unfold E d1;rw[bf,gJ];lia
    have sn:=S.snd hE e1 xG
    refine⟨by show d.P.length<=1000;exact aaR hP,MZ (aaS e2) (wS hE e1),λn3=>?_,λz=>?_⟩
    ·have n3:d.f0≠3:=n3
     show d.f0=0↔mx d.D d.E (d.dat.length+if d.f0=4 then 2000 else 0) d.FD.length
     rw[sn]
     constructor
     ·exact .inl
     ·rintro(z|z)
      ·exact z
      ·exact absurd z n3
    ·have z:d.f0=0:=z
     obtain⟨cg,fl⟩:=H.fl
     refine⟨cg,?_⟩
     show Flt ((d.D.drop (d.dat.length+if d.f0=4 then 2000 else 0)).take d.FD.length) cg _ _
     rw[if_neg (tO z.symm rfl),rE,S.facts.1]
     exact fl
   ·lia
  ·rw[if_neg h7]at hr;(exact nn hr)
theorem Ok.jq (H:d.Ok par) (hb:bits<=10):FV (d.jq bits par) (decide (d.ag≠5)) (decide (d.f1≠3/\d.f2≠3)) (decide (d.f2=0\/d.f2=3)) (decide (d.f1=0\/d.f1=3)):=by
 obtain⟨e1,e2,e3,e4,e5⟩:=H.uP
 have hE:=JA (bits:=bits) (par:=par) d
 have hI:d.nW+d.I.D.length+5<=d.E:=by unfold E nW;rw[bf,gJ];exact aP _
 have hM:d.d1.length+d.M.D.length+5<=d.E:=by unfold E;exact b6 _ _
 refine⟨by show d.D.length<=1000000;rw[ry];exact Lq e1,by show 48<=d.D.length;rw[ry];exact Lr,hb,?_,λ_=>H.foot,?_,λz=>?_,?_,λz=>?_,λi hi=>?_,λi hi=>(H.jX hi).2,λi j hi hj=>H.same hi hj,λi hi=>?_,λi hi hf j hj=>?_⟩
 ·rw[decide_eq_true_iff];exact(aa' d).symm
 ·rw[decide_eq_true_iff,hE];exact(H.Nf.snd hI e1 xG).symm
 ·have z:=of_decide_eq_true z
  refine⟨?_,H.I.ok,H.I.lay⟩
  show d.I.D=(d.D.drop d.io).take d.I.D.length
  unfold io
  rw[if_neg (by lia),rE,H.Nf.facts.1]
 ·rw[decide_eq_true_iff,hE];exact(H.Ng.snd hM e1 xG).symm
 ·have z:=of_decide_eq_true z
  refine⟨?_,H.M.ok,H.M.lay,H.met⟩
  show d.M.D=(d.D.drop d.mo).take d.M.D.length
  unfold mo
  rw[if_neg (by lia),rE,H.Ng.facts.1]
 ·rw[hE];exact H.Ez hi
 ·show Dk (d.I.key i)
  rw[(H.jX hi).1]
  have:=(H.ka hi).2.2.1
  exact⟨by rw[pJ];exact Lc this,by rw[pJ];exact cV _ _⟩
 ·have hk:=(H.ka hi).2.1
  obtain⟨_,b1,_,b2⟩:=H.Bw (i:=(d.rk i).2) hk hj
  show Dk ((d.B (d.rk i).2).key j)
  rw[b1]
  have:=((H.K.b _ (H.uD hk)).2.2 _ b2).1
  exact⟨by rw[pJ];exact Lc this,by rw[pJ];exact cV _ _⟩
end TD
end
section
theorem YF {b:Option KN}:∀(ps:List KN) (l:Option KN) {r},j6 held sep off b ps l=some r->(∀q,l=some q->∀p∈ps,aX q p=true)/\hW ps:=by
 intro bD
 induction bD with
 |nil=>
  intro l r h
  exact⟨(λq _ p hp=>by(cases hp)),.nil⟩
 |cons p ps ih=>
  intro l r h
  rw[Ds]at h
  split at h
  ·(exact nn h)
  ·rename_i h1
   split at h
   ·(exact nn h)
   ·obtain⟨a,s⟩:=ih (some p) h
    have a:=a p rfl
    refine⟨λq hq y hy=>?_,Gj.mpr ⟨a,s⟩⟩
    subst hq
    have e:aX q p=true:=by
     cases hn:aX q p with
     |true=>rfl
     |false=>exact absurd (by rw[show iO (some q) p=!aX q p from rfl,hn];rfl) h1
    rcases eP.mp hy with rfl|hy
    ·exact e
    ·exact v7 e (a y hy)
theorem YH:∀(ix:List cB) (e:Nat) (l b:Option KN),lS held ix e l b=true->∀r∈ix,hW r.ps:=by
 intro bD
 induction bD with
 |nil=>
  intro _ _ _ _ r hr
  (cases hr)
 |cons x ix ih=>
  intro e l b h r hr
  rw[yy]at h
  split at h
  ·(exact ff h)
  ·cases hi:j6 held x.sep x.off b x.ps l with
   |none=>rw[hi]at h;(exact ff h)
   |some l'=>
    rw[hi]at h
    rcases eP.mp hr with rfl|hr
    ·exact(YF _ _ hi).2
    ·exact ih _ _ _ h r hr
section
variable{T:Tb}
noncomputable def Sm (l:Option KN):Prop:=∀q,l=some q->q.2<65536
theorem Rf:∀x l b n d:Bool,(!x&&!l&&!b&&!n&&!d)=(!(l||b)&&!(x||(n||d))):=by decide
theorem adl {p:KN} {l b:Option KN} (hd:den T.held off=g7 held off) (hp:p.2<65536) (hs:sep.2<65536) (hl:Sm l) (hb:Sm b):
  vk T (bI p) (bI sep) (l.map bI) (b.map bI) off=(!(iO l p||iO b p)&&!(decide (1<p.2%256)||(aX sep p||g7 held off))):=by
 have e1:s_ (l.map bI) (bI p)=!iO l p:=by
  cases l with
  |none=>rfl
  |some q=>
   show decide (dM (dec (bI q)) (dec (bI p))<0)=!!aX q p
   rw[nI (hl q rfl),nI hp,Fz]
   cases h:aX q p with
   |true=>exact decide_eq_true (vJ.mpr h)
   |false=>exact decide_eq_false λz=>by replace h:=vJ.mp z▸h;cases h
 have e2:uz (b.map bI) (bI p)=!iO b p:=by
  cases b with
  |none=>rfl
  |some q=>
   show decide (0<dM (dec (bI p)) (dec (bI q)))=!!aX q p
   rw[nI (hb q rfl),nI hp,Fz]
   cases h:aX q p with
   |true=>exact decide_eq_true (vK.mpr h)
   |false=>exact decide_eq_false λz=>by replace h:=vK.mp z▸h;cases h
 have e3:decide (dM (dec (bI p)) (dec (bI sep))<=0)=!aX sep p:=by
  rw[nI hs,nI hp]
  cases h:aX sep p with
  |true=>exact decide_eq_false λz=>by have:=vK.mpr h;exact absurd this (gQ.mpr z)
  |false=>exact decide_eq_true (by
    have:¬0<dM p sep:=λz=>by replace h:=vK.mp z▸h;cases h
    exact gQ.mp this)
 unfold vk
 rw[e1,e2,e3,hd,nI hp]
 have e4:decide (p.2%256<=1)=!decide (1<p.2%256):=by
  by_cases h:1<p.2%256
  ·rw[decide_eq_true h,decide_eq_false (P8 h)];rfl
  ·rw[decide_eq_false h,decide_eq_true (t8 h)];rfl
 refine aj (e4)▸?_
 exact Rf _ _ _ _ _
theorem ac_ {b:Option KN} {ps:List KN} (hd:den T.held off=g7 held off) (hs:sep.2<65536) (hb:Sm b) (hk:∀j<ps.length,B.key j=bI (ps.getD j ([],0))) (hp:∀p∈ps,p.2<65536):
  ∀(k j:Nat) (l:Option KN),j+k=ps.length->Sm l->jx T (bI sep) (b.map bI) off B k j (l.map bI)=(j6 held sep off b (ps.drop j) l).map (Option.map bI)/\∀r,j6 held sep off b (ps.drop j) l=some r->Sm r:=by
 intro bD
 induction bD with
 |zero=>
  intro j l hj hl
  rw[AR (by exact bM hj.symm)];exact⟨rfl,λr hr=>by(cases hr);exact hl⟩
 |succ k ih=>
  intro j l hj hl
  have Cz:j<ps.length:=by exact f9 hj
  have eg:ps.getD j ([],0)=ps[j]:=by rw[be,bQ Cz];rfl
  have Jo:=hp ps[j] (kx _)
  obtain⟨W_,Xa⟩:=ih (j+1) (some ps[j]) (kj hj) (λq hq=>by(cases hq);exact Jo)
  rw[Gc Cz,ac9,Ds,hk j Cz,eg,adl hd Jo hs hl hb]
  cases h1:(iO l ps[j]||iO b ps[j])with
  |true=>exact⟨rfl,λr hr=>by(exact nn hr)⟩
  |false=>
   cases h2:(decide (1<ps[j].2%256)||(aX sep ps[j]||g7 held off))with
   |true=>exact⟨rfl,λr hr=>by(exact nn hr)⟩
   |false=>exact⟨W_,Xa⟩
end
namespace TD
variable{d:TD} {T:Tb} {held:Option (Nat×(Nat->Bool))}
noncomputable def lh (d:TD) (bits:Nat):Option (List Bool):=if d.x%7≠0/\0<bits/\d.f0=0 then some d.says else none
noncomputable def th (d:TD) (bits:Nat):Option (Nat×(Nat->Bool)):=if d.x%7≠0/\0<bits/\d.f0=0 then some (d.says.length,λi=>d.says.getD i true)else none
theorem VX (d:TD):lN d.x bits d.f0 d.says=mL (d.lh bits):=by unfold lN lh;split<;>rfl
theorem HM (d:TD) (off:Nat):den (d.th bits) off=g7 (d.lh bits) off:=by
 unfold th lh
 split
 ·show(!nN d.says.length (λi=>d.says.getD i true) off)=(decide (off/64<d.says.length)&&!d.says.getD (off/64) true)
  unfold nN
  split
  ·rename_i h;rw[decide_eq_true h,rt]
  ·rename_i h;rw[decide_eq_false h];rfl
 ·rfl
theorem lU (H:d.Ok par) {i:Nat} (hi:i<d.I.n):lr d.idx i=mT d.bs d.ro d.B d.ag d.ar (d.rk i):=by
 have hr:=H.In
 unfold lr idx n6 rk
 rw[be,tZ (by simp;exact iL hi hr.symm),mj,be,bQ (show i<d.rs.length by exact iL hi hr.symm)];rfl
theorem C0 (H:d.Ok par):d.idx.length=d.I.n+if d.I.bad=true then 1 else 0:=by
 have hr:=H.In
 refine aj (H.I.bad)▸?_
 unfold idx n6
 by_cases h:d.ag=6
 ·rw[if_pos h,if_pos (decide_eq_true h)];simp;exact hr.symm
 ·rw[if_neg h,if_neg (by refine aj (decide_eq_false h)▸?_;decide)];simp;exact hr.symm
theorem Mg (H:d.Ok par) (hb:d.I.bad=true):lr d.idx d.I.n=qO:=by
 have hr:=H.In
 rw[H.I.bad]at hb
 have hf:=of_decide_eq_true hb
 unfold lr idx n6
 rw[if_pos hf,be,p_ (by simp;exact bM hr.symm)]
 rw[show d.I.n-(d.rs.map (mT d.bs d.ro d.B d.ag d.ar)).length=0 by simp;exact((Gy (bM hr)).symm).symm];rfl
theorem Ok.link (H:d.Ok par) (hT:T.of (d.jq bits par) held):dp T d.idx:=by
 obtain⟨_,_,hI,hR,_,_⟩:=hT
 have hI:T.I=d.I:=hI
 have hR:T.R=d.row:=hR
 have hr:=H.In
 have rl:=H.K.rl
 have ps:∀i<d.I.n,(lr d.idx i).ps=d.bs.getD (d.rk i).2 []:=λi hi=>by refine aj (lU H hi)▸?_;rfl
 refine⟨by refine aj (hI)▸?_;exact C0 H,by refine aj (hI)▸?_;exact ai (bM hr) (ai rl (aG rfl)),λhb=>by rw[hI]at hb⊢;exact Mg H hb,λi hi=>?_,λi hi=>?_,λi hi=>?_,λi hi=>?_,λi hi=>?_,λi hi hf=>?_,λi hi hf j hj=>?_,λi hi p hp=>?_,λi hi=>?_,λi j eA hj=>?_⟩
 all_goals (try rw[hI]at hi)
 all_goals (try refine aj (hR)▸?_)
 ·rw[hI,lU H hi];exact(H.jX hi).1
 ·refine aj (lU H hi)▸?_;exact(H.ka hi).2.2
 ·refine aj (lU H hi)▸?_;rfl
 ·refine aj (lU H hi)▸?_;rfl
 ·refine aj (lU H hi)▸?_;rfl
 ·have hk:=(H.ka hi).2.1
  have hn:=(H.nA hk).1.n
  refine aj (ps i hi)▸?_
  show(d.B (d.rk i).2).n=_
  refine aj (hn)▸?_;simp[gn]
 ·have hk:=(H.ka hi).2.1
  have hn:=(H.nA hk).1.n
  rw[ps i hi]at hj
  have vo:(d.B (d.rk i).2).n=(d.bs.getD (d.rk i).2 []).length:=by refine aj (hn)▸?_;simp[gn]
  obtain⟨_,b1,b2,_⟩:=H.Bw hk (j:=j) (iL hj vo)
  unfold i_
  refine aj (ps i hi)▸?_
  exact⟨b1,b2⟩
 ·have hk:=(H.ka hi).2.1
  rw[ps i hi]at hp
  exact(H.K.b _ (H.uD hk)).2.2 _ hp
 ·have hk:=(H.ka hi).2.1
  refine aj (ps i hi)▸?_
  exact(H.K.b _ (H.uD hk)).1
 ·rw[hI]at hj
  rw[lU H hj,lU H (show i<d.I.n by exact n8 eA hj)]
  show aX (d.rk i).1 (d.rk j).1=true
  have:=rB.mp H.K.g' i j (by simp;exact DP eA hj hr.symm) (by simp;exact iL hj hr.symm) eA
  simp only[wO,wO]at this
  unfold rk
  rw[be,be,bQ (show i<d.rs.length by exact DP eA hj hr.symm),bQ (show j<d.rs.length by exact iL hj hr.symm)]
  exact this
theorem Ok.aa1 (H:d.Ok par) (hT:T.of (d.jq bits par) held) (hc:par=true->lS (d.lh bits) d.idx 0 none none=true):t7 T d.idx:=λi hi _=>by
 obtain⟨_,_,hI,_,_,_⟩:=hT
 have hI:T.I=d.I:=hI
 replace hi:=hI▸hi
 have hk:=(H.ka hi).2.1
 rw[lU H hi]
 show hW (d.bs.getD (d.rk i).2 [])
 rcases(H.K.b _ (H.uD hk)).2.1 with hp|hs
 ·have:=YH _ _ _ _ (hc hp) (lr d.idx i) (by
   have hl:=C0 H
   have h2:i<d.idx.length:=by exact rj hi hl
   unfold lr
   rw[be,bQ h2]
   exact kx _)
  replace this:=lU H hi▸this
  exact this
 ·exact hs
theorem Ok.adm (H:d.Ok par) (hT:T.of (d.jq bits par) (d.th bits)):∀(k i e:Nat) (l b:Option KN),i+k=d.I.n->Sm l->Sm b->f6 T k i e (l.map bI) (b.map bI)=lS (d.lh bits) (d.idx.drop i) e l b:=by
 obtain⟨_,_,hI,hR,_,hh⟩:=hT
 have hI:T.I=d.I:=hI
 have hR:T.R=d.row:=hR
 have hl:=C0 H
 intro k
 induction k with
 |zero=>
  intro i e l b hi h1 h2
  have:i=d.I.n:=by exact hi
  subst this
  rw[adg,hI]
  by_cases hb:d.I.bad=true
  ·rw[if_pos hb]at hl
   have pj:d.I.n<d.idx.length:=by exact bM hl.symm
   rw[Gc pj]
   have:d.idx[d.I.n]=qO:=by
    have:=Mg H hb
    unfold lr at this
    rw[be,bQ pj]at this
    exact this
   rw[this,yy,if_pos (.inl (by decide)),hb];rfl
  ·rw[if_neg hb]at hl
   rw[AR (by exact bM hl),YG]
   cases h:d.I.bad with
   |true=>exact absurd h hb
   |false=>rfl
 |succ k ih=>
  intro i e l b hi h1 h2
  have sC:i<d.I.n:=by exact f9 hi
  have dx:i<d.idx.length:=by exact wT hi hl
  have hk:=(H.ka sC).2.1
  have Jq:=(H.ka sC).2.2
  have er:d.idx[i]=mT d.bs d.ro d.B d.ag d.ar (d.rk i):=by
   have:=lU H sC
   unfold lr at this
   rw[be,bQ dx]at this
   exact this
  rw[Gc dx,er,adf,yy,hI,hR]
  show(if d.f (d.rk i).2=3 then false else if d.ro (d.rk i).2+(if d.f (d.rk i).2=4 then 2000 else 0)≠e then false else if d.f (d.rk i).2≠0 then false else(jx T (d.I.key i) (b.map bI) (d.ro (d.rk i).2+(if d.f (d.rk i).2=4 then 2000 else 0)) (d.B (d.rk i).2) (d.B (d.rk i).2).n 0 (l.map bI)).elim false λdZ=>f6 T k (i+1) (d.ro (d.rk i).2+(if d.f (d.rk i).2=4 then 2000 else 0)+(d.B (d.rk i).2).D.length+5) dZ (some (d.I.key i)))=
   if 0<d.f (d.rk i).2\/d.ro (d.rk i).2+(if d.f (d.rk i).2=4 then 2000 else 0)≠e then false else(j6 (d.lh bits) (d.rk i).1 (d.ro (d.rk i).2+(if d.f (d.rk i).2=4 then 2000 else 0)) b (d.bs.getD (d.rk i).2 []) l).elim false λdZ=>lS (d.lh bits) (d.idx.drop (i+1)) (d.ro (d.rk i).2+(if d.f (d.rk i).2=4 then 2000 else 0)+(d.B (d.rk i).2).D.length+5) dZ (some (d.rk i).1)
  generalize aff:d.ro (d.rk i).2+(if d.f (d.rk i).2=4 then 2000 else 0)=off
  by_cases hf:d.f (d.rk i).2=0
  ·rw[if_neg (tO hf.symm rfl)]
   by_cases ho:off≠e
   ·rw[if_pos ho,if_pos (.inr ho)]
   ·rw[if_neg ho,if_neg λz=>z hf,if_neg (xz hf.symm ho)]
    have hn:=(H.nA hk).1.n
    have vo:(d.B (d.rk i).2).n=(d.bs.getD (d.rk i).2 []).length:=by rw[hn];simp[gn]
    have sO:Sm (some (d.rk i).1):=λq hq=>by cases hq;have:=Jq.2;exact vV this
    obtain⟨v1,v2⟩:=ac_ (T:=T) (held:=d.lh bits) (sep:=(d.rk i).1) (b:=b) (off:=off) (B:=d.B (d.rk i).2) (ps:=d.bs.getD (d.rk i).2 []) (by rw[hh];exact d.HM off) (by have:=Jq.2;exact vV this) h2 (λj hj=>(H.Bw hk (iL hj vo)).2.1) (λp hp=>by have:=((H.K.b _ (H.uD hk)).2.2 p hp).2;exact vV this) (d.B (d.rk i).2).n 0 l (by lia) h1
    rw[(H.jX sC).1,v1]
    rw[Pr]at v2⊢
    cases hc:j6 (d.lh bits) (d.rk i).1 off b (d.bs.getD (d.rk i).2 []) l with
    |none=>rfl
    |some l'=>exact ih (i+1) _ l' (some (d.rk i).1) (kj hi) (v2 l' hc) sO
  ·rw[if_pos (show 0<d.f (d.rk i).2\/off≠e from .inl (qh hf))]
   by_cases h3:d.f (d.rk i).2=3
   ·rw[if_pos h3]
   ·rw[if_neg h3]
    by_cases ho:off≠e
    ·rw[if_pos ho]
    ·rw[if_neg ho,if_pos hf]
theorem Ok.It (H:d.Ok par):(if 0<(d.jq bits par).bits then iW (d.jq bits par)else some none)=if d.ag=7/\0<bits/\d.x%7=0/\d.x%3≠0 then none else if par=true/\0<bits/\d.x%7≠0/\0<d.f0 then none else some (d.th bits):=by
 have hn:=H.M.n
 simp only[pN,bf]at hn
 have hb:=H.M.bad
 have hr:=D4 (x:=d.x) (P:=d.P)
 show(if 0<bits then iW (d.jq bits par)else some none)=_
 by_cases qA:0<bits
 ·rw[if_pos qA]
  unfold iW th
  show(match(if d.x%7≠0 then some d.u0 else none)with
   |none=>if(cZ d.x).length=d.M.n/\d.M.bad=true then none else some none
   |some r=>if r.fault=0 then some (some (d.says.length,λi=>d.says.getD i true))else if par=true then none else some none)=_
  rw[hb]
  by_cases h7:d.x%7≠0
  ·rw[if_pos h7]
   show(if d.f0=0 then _ else _)=_
   rw[if_neg (show¬(d.ag=7/\0<bits/\d.x%7=0/\d.x%3≠0) by exact λh=>h7 h.2.2.1)]
   by_cases h0:d.f0=0
   ·rw[if_pos h0,if_neg (by rintro⟨_,_,_,z⟩;lia),if_pos ⟨h7,qA,h0⟩]
   ·rw[if_neg h0,if_neg (show¬(d.x%7≠0/\0<bits/\d.f0=0) by exact λh=>h0 h.2.2)]
    by_cases hp:par=true
    ·rw[if_pos hp,if_pos ⟨hp,qA,h7,qh h0⟩]
    ·rw[if_neg hp,if_neg λz=>hp z.1]
  ·rw[if_neg h7,if_neg (show¬(d.x%7≠0/\0<bits/\d.f0=0) by exact λh=>h7 h.1)]
   dsimp only
   by_cases hq:d.ag=7/\0<bits/\d.x%7=0/\d.x%3≠0
   ·rw[if_pos hq,if_pos ⟨by lia,decide_eq_true hq.1⟩]
   ·rw[if_neg hq,if_neg (show¬(par=true/\0<bits/\d.x%7≠0/\0<d.f0) from λz=>by lia),if_neg]
    rintro⟨z1,z2⟩
    have z2:=of_decide_eq_true z2
    lia
 ·rw[if_neg qA,if_neg λh=>qA h.2.1,if_neg λh=>qA h.2.1]
  unfold th;rw[if_neg λh=>qA h.2.1]
theorem Ok.opens (H:d.Ok par) (v:Bool):qX (d.jq bits par) (decide (d.ag≠5)) (decide (d.f1≠3/\d.f2≠3)) (decide (d.f2=0\/d.f2=3)) (decide (d.f1=0\/d.f1=3)) v=if d.op bits par=true/\¬(par=true/\v=false)then some (d.th bits)else none:=by
 have hn:=H.M.n
 rw[pN,bf]at hn
 have hb:=H.M.bad
 have hr:=D4 (x:=d.x) (P:=d.P)
 unfold qX
 have e1:(decide (d.ag≠5)&&decide (d.f1≠3/\d.f2≠3)&&decide (d.f2=0\/d.f2=3)&&decide (d.f1=0\/d.f1=3))=l7 d.ag d.f1 d.f2:=by
  unfold l7
  rw[<-Fy,<-Fy,<-Fy,decide_eq_decide]
  exact xL
 rw[e1]
 rw[H.It (bits:=bits)]
 show(if l7 d.ag d.f1 d.f2=true then(match(if d.ag=7/\0<bits/\d.x%7=0/\d.x%3≠0 then none else if par=true/\0<bits/\d.x%7≠0/\0<d.f0 then none else some (d.th bits))with|none=>none|some held=>if par=true/\v=false then none else some held)else none)=_
 by_cases c1:d.ag=7/\0<bits/\d.x%7=0/\d.x%3≠0
 ·have ho:d.op bits par=false:=if_pos c1
  rw[if_pos c1,if_neg (show¬(d.op bits par=true/\¬(par=true/\v=false)) from λz=>by replace z:=ho▸z;cases z.1)]
  split<;>rfl
 ·rw[if_neg c1]
  by_cases c2:par=true/\0<bits/\d.x%7≠0/\0<d.f0
  ·have ho:d.op bits par=false:=(if_neg c1).trans (if_pos c2)
   rw[if_pos c2,if_neg (show¬(d.op bits par=true/\¬(par=true/\v=false)) from λz=>by replace z:=ho▸z;cases z.1)]
   split<;>rfl
  ·have ho:d.op bits par=l7 d.ag d.f1 d.f2:=(if_neg c1).trans (if_neg c2)
   rw[if_neg c2]
   dsimp only
   by_cases c3:l7 d.ag d.f1 d.f2=true
   ·rw[if_pos c3]
    by_cases c4:par=true/\v=false
    ·rw[if_pos c4,if_neg (show¬(d.op bits par=true/\¬(par=true/\v=false)) from λz=>z.2 c4)]
    ·rw[if_neg c4,if_pos (show d.op bits par=true/\¬(par=true/\v=false) from⟨ho.trans c3,c4⟩)]
   ·rw[if_neg c3,if_neg (show¬(d.op bits par=true/\¬(par=true/\v=false)) from λz=>c3 (ho.symm.trans z.1))]
end TD
end
section
noncomputable abbrev MW:AO:=.inst 358 [(47,.int 1),(48,.int 32768),(49,.bool true),(50,.bool true),(51,.bool false),(52,.int 4194304),(53,.int 12),(54,.tup [.int 1,.int 2,.int 1,.int 3,.int 1,.int 2,.int 1,.int 4]),(55,.int 4096),(56,.int 16),(57,.int 10),(58,.int 11),(59,.int 2097152),(60,.int 7),(61,.int 4),(62,.int 12),(63,.int 10485760),(64,.int 10),(65,.int 2),(66,.int 10),(67,.int 25)]
section
theorem XG (n:Nat) (ha:σ a=some (.inst 358 [])) (h:Q .none (upd σ a MW)):Call (n+1) true 341 [.ref a] σ Q X:=by
 refine aK TO rfl ?_
 lk
 simp only[aL]
 exact h
theorem XH (n:Nat) (ha:σ a=some MW) (h:Q (.ref a) (upd σ a (de 4 false))):Call (n+1) true 355 [.ref a] σ Q X:=by
 refine aK TP rfl ?_
 lk
 simp only[aL]
 exact h
theorem XF (n:Nat) (ha:σ a=some (.inst 325 [])) (h:∀u,σ u=none->Q .none (upd (upd σ u (.inst 271 [])) a (.inst 325 [(41,.ref u)]))):Call (n+1) true 287 [.ref a] σ Q X:=by
 refine aK TM rfl ?_
 refine aA (w' (GN rfl rfl rfl λu hu=>?_) rfl)
 have hua:a≠u:=λe=>by rw[<-e,ha]at hu;cases hu
 lk
 exact h u hu
theorem Yg (n:Nat) {aC:List Int} {a m:Nat} (ht:aC≠[]) (hz:aC.length<=1000) (ha:∃k:Nat,σ a=some (.av [.int k])) (hm:0<m) (h:∀(v k':Nat),v<m->1<=k'->Q (.int v) (upd σ a (.av [.int k']))):Call (n+1) true 894 [.lst (aZ aC),.ref a,.int m] σ Q X:=by
 refine aK IA rfl ?_
 obtain⟨k,ha⟩:=ha
 have hl:0<aC.length:=PG.mpr ht
 have i4:(aZ aC).length=aC.length:=by simp[aZ]
 have q0:=jB (k:Int) (show(aC.length:Int)≠0 by exact yK hl)
 have q1:=oD (k:Int) (show(0:Int)<aC.length by exact hV.mpr hl)
 have g1:∀τ:aa,fe τ (.lst (aZ aC)) (.int ((k:Int)%(aC.length:Int))) (.int (aC.getD (k%aC.length) 0)):=λτ=>gk (by lia) (zv hz q1 rfl) (by
  have:((k:Int)%(aC.length:Int)).toNat=k%aC.length:=by lia
  refine aj (this)▸?_
  have br:=eJ k hl
  simp[aZ,be,bQ br])
 refine aA (cv (b8 (aq rfl (aI ⟨_,i6 ha (by decide) (by decide) rfl,?_⟩))) rfl)
 refine aA (Qv (dC (aq rfl (aI ⟨_,oU,?_⟩))) rfl)
 refine aq rfl (aI ⟨a,_,_,rfl,rfl,ha,Pg _,Pk,aG rfl,?_⟩)
 refine aA (gT (dC (dC (b8 (aq rfl (dC (aq rfl (jH rfl rfl (aO (aq rfl (bc ⟨_,dD (vQ hz i4),?_⟩)))))))))))
 refine aj (i4)▸?_
 refine⟨_,gz (hV.mpr hl),?_⟩
 refine⟨_,g1 _,?_⟩
 refine dC (dC (aq rfl (jH rfl rfl (aO (aq rfl (bc ⟨_,dD (vQ hz i4),?_⟩))))))
 refine aj (i4)▸?_
 refine⟨_,kG (hV.mpr hl) (by lia),?_⟩
 refine aI ⟨_,jJ (by decide),?_⟩
 refine⟨_,oU,?_⟩
 refine aq rfl ⟨_,gz (hV.mpr hm),?_⟩
 have e0:=jB (aC.getD (k%aC.length) 0+(k:Int)/(aC.length:Int)*7) (show(m:Int)≠0 by exact yK hm)
 have e1:=oD (aC.getD (k%aC.length) 0+(k:Int)/(aC.length:Int)*7) (show(0:Int)<m by exact hV.mpr hm)
 obtain⟨v,hv⟩:=p8 e0
 refine aj (hv)▸?_
 exact h v (k+1) (zu e1 hv.symm) (cV _ _)
end
section
variable{w:Nat} {T:Tb} {mo:Nat}
theorem d7.ext {pos:Option (Nat×Nat)} (W:d7 σ t w T oi p pos) (k:Ext σ τ):d7 τ t w T oi p pos:=by
 cases pos with
 |none=>obtain⟨h1,P,h2,x,h3,h4⟩:=W;exact⟨h1,P,k _ _ h2,x,k _ _ h3,h4⟩
 |some ij=>
  obtain⟨i,j⟩:=ij
  obtain⟨⟨h1,h2,h3,h4,h5,ii,b,rr,y,h6,h7,h8,h9,sA,lL⟩,xN⟩:=W
  exact⟨⟨h1,h2,h3,k _ _ h4,k _ _ h5,ii,b,rr,y,h6,h7,⟨h8.ok,k _ _ h8.hb,k _ _ h8.hr⟩,k _ _ h9,sA,lL⟩,xN⟩
theorem TabAt.at_ {x:AO} (H:TabAt σ t T) (ha:σ a=some (.av l)) (hr:a≠T.ri):TabAt (upd σ a x) t T:=by
 have k:∀{b C fs},σ b=some (.inst C fs)->upd σ a x b=some (.inst C fs):=λh=>(aw _ _ (kY h ha rfl)).trans h
 refine⟨H.zD,H.hE,k H.ob,k H.op,⟨k H.od.1,k H.od.2⟩,⟨H.ib.ok,k H.ib.hb,(aw _ _ (cN hr)).trans H.ib.hr⟩,k H.ft,k H.fm,?_,H.rw,H.pl,H.same⟩
 rcases H.fl with⟨h1,h2⟩|⟨fa,bl,FD,cg,m,says,bits,p,h1,h2,h3,h4,h5⟩
 ·exact .no h1 h2
 ·exact .yes fa bl FD cg m says bits p h1 (k h2) (k h3) h4 h5
theorem d7.at_ {x:AO} {pos:Option (Nat×Nat)} (W:d7 σ t w T oi p pos) (ha:σ a=some (.av [.int k])) (hk:pos=none\/1<=k):d7 (upd σ a x) t w T oi p pos:=by
 have kk:∀{b C fs},σ b=some (.inst C fs)->upd σ a x b=some (.inst C fs):=λh=>(aw _ _ (kY h ha rfl)).trans h
 cases pos with
 |none=>
  obtain⟨h1,P,h2,y,h3,h4⟩:=W
  obtain⟨_,_,_,_,_,rfl⟩:=h4.it
  exact⟨h1,P,kk h2,_,kk h3,h4⟩
 |some ij=>
  (have zz:=ij;have i:=zz.1;have j:=zz.2;clear zz)
  obtain⟨⟨h1,h2,h3,h4,h5,ii,b,rr,y,h6,h7,h8,h9,sA,lL⟩,xN⟩:=W
  have iy:1<=k:=by
   rcases hk with q|q
   ·cases q
   ·exact q
  have:=sA xN
  subst this
  refine⟨⟨h1,h2,h3,kk h4,kk h5,ii,b,rr,_,h6,h7,⟨h8.ok,kk h8.hb,(aw _ _ λe=>?_).trans h8.hr⟩,kk h9,sA,lL⟩,xN⟩
  have hr:=h8.hr
  rw[e,ha]at hr
  have h0:=mV h8.ok.l9
  injection hr with hr
  injection hr with hr
  rw[<-hr]at h0
  simp at h0
  lia
theorem c8.at_ {pos:Option (Nat×Nat)} (A:c8 σ τ w oi p p') (W:d7 σ t w T oi p pos) (ha:σ a=some (.av [.int k])):τ a=some (.av [.int k]):=by
 obtain⟨P,x,hw,ho,hx,hI⟩:=W.dest
 refine A.but a _ ha λz=>?_
 rcases z with rfl|rfl|z
 ·replace ha:=hw▸ha;cases ha
 ·obtain⟨_,_,_,_,_,rfl⟩:=hx.it
  replace ha:=ho▸ha;cases ha
 ·rcases hI with q|⟨_,ii,_,_,y,_,_,_,q,_,_,q2,q3⟩
  ·replace z:=q▸z;cases z
  ·replace z:=q▸z
   cases z
   obtain⟨_,_,_,_,_,rfl⟩:=q3.it
   replace ha:=q2▸ha;cases ha
theorem aa_ (ix:List cB) (held:Option (List Bool)) (mo c7:Nat) (t:KN):∃l,kQ ix held mo c7 t=.tup l/\eT (eqv 50) l l=some true:=by
 unfold kQ
 split
 ·split
  ·exact⟨_,rfl,uU _ rfl⟩
  ·exact⟨_,rfl,uU _ rfl⟩
 ·split
  ·split<;>exact⟨_,rfl,uU _ rfl⟩
  ·repeat' split
   all_goals exact⟨_,rfl,by first|exact uU _ rfl|exact Sj rfl rfl⟩
end
end
section
noncomputable abbrev AP:List MS:=(.asg (.nm 227) (.cf 191 [.v 185]))::(.asg (.nm 115) (.cf 219 [.v 185]))::(.asg (.tup [72,252]) (.cf 243 [.v 129,.v 72,.v 230,.v 227]))::(.ite (.or [.cmp .NotEq (.cf 253 [.v 150,.v 230,.v 115]) (.v 252),.no (.cf 251 [.v 150,.v 129,.v 72])]) [.ret (some (.bool false))] [])::(.asg (.nm 204) (.idx (.tup [.int 0,.int 1,.int 2,.int 0,.int 3]) (.v 7)))::(.ite (.cmp .NotEq (.cf 254 [.v 237,.v 204,.v 115]) (.cf 255 [.v 129,.v 116,.v 128,.v 204,.v 227])) [.ret (some (.bool false))] [])::[]
noncomputable abbrev AN:List MS:=(.asg (.nm 185) (.tup [.cf 190 [.bin .Mod (.bin .FloorDiv (.v 189) (.int 9)) (.int 40)],.bin .Add (.bin .Mult (.bin .Mod (.bin .FloorDiv (.v 189) (.int 2)) (.int 5)) (.int 256)) (.bin .Mod (.v 189) (.int 2))]))::(.ite (.an [.cmp .Gt (.cb 9 [.v 129]) (.int 0),.cmp .Eq (.bin .Mod (.bin .FloorDiv (.v 189) (.int 4)) (.int 2)) (.int 0)]) [.asg (.nm 185) (.idx (.idx (.v 129) (.bin .Mod (.bin .FloorDiv (.v 189) (.int 8)) (.cb 9 [.v 129]))) (.int 0))] [])::AP
noncomputable abbrev F':List MS:=(.ite (.cmp .Eq (.v 7) (.int 0)) [.asg (.nm 230) (.int 0)] [])::AN
noncomputable abbrev tj:List MS:=(.asg (.nm 189) (.cf 188 [.v 179,.v 1,.int 16777216]))::(.asg (.nm 230) (.bin .Mod (.v 189) (.int 9)))::(.ite (.cmp .Gt (.v 230) (.int 4)) [.asg (.nm 230) (.bin .Add (.bin .Mod (.v 230) (.int 3)) (.int 2))] [])::F'
section
variable{w:Nat} {T:Tb} {mo:Nat}
noncomputable abbrev EL (aC:List Int) (a:Nat) (ix:List cB) (held:Option (List Bool)) (mo t w:Nat) (pos:Option (Nat×Nat)):af:=[(179,.lst (aZ aC)),(1,.ref a),(129,.lst (ix.map dF)),(116,mL held),(128,.int mo),(237,.ref t),(150,.ref w),(72,pR pos)]
theorem Yx {pos:Option (Nat×Nat)} {move:Nat} {key:KN} (hv:∀i j,pos=some (i,j)->i<ix.length/\j<(lr ix i).ps.length) {i j c} (e:d9 ix pos move key=(some (i,j),c)):i<ix.length/\j<(lr ix i).ps.length:=by
 unfold d9 at e
 refine gF e (λ_ e=>yD _ _ (kD _) e) λ_ e=>gF e (λ_ e=>DW _ (aP _) e) λ_ e=>gF e (λ_ e=>?_) λ_ e=>?_
 ·unfold lseek at e
  have:=Dw ix key
  exact gF e (λ_ e=>nn (congrArg oK e)) λhn e=>gF e (λ_ e=>gF e (λhl e=>wb (P:=λi j=>i<ix.length/\j<(lr ix i).ps.length) e ⟨yP this hn,hl⟩) λ_ e=>yD _ _ (aaa this hn) e) λ_ e=>nn (congrArg oK e)
 ·cases pos with
  |none=>exact nn (congrArg oK e)
  |some q=>
   obtain⟨i',j'⟩:=q
   obtain⟨h1,h2⟩:=hv i' j' rfl
   exact gF e (λ_ e=>gF e (λhl e=>wb (P:=λi j=>i<ix.length/\j<(lr ix i).ps.length) e ⟨h1,hl⟩) λ_ e=>yD _ _ (rD h1) e) λ_ e=>gF e (λ_ e=>wb (P:=λi j=>i<ix.length/\j<(lr ix i).ps.length) e ⟨h1,Fs h2⟩) λ_ e=>DW _ (bx h1) e
theorem YC {X:Ex->af->aa->Prop} (ht:aC≠[]) (hz:aC.length<=1000) (L:dp T ix) (S:t7 T ix) (hd:∀off,den T.held off=g7 held off) (hl:∀l,held=some l->l.length<=1000) (nS:T.mo=mo) (kM:a≠T.ri) (hN:∀ρ τ,N' ρ τ):
  ∀(m tn:Nat) (σ:aa) (p:PV) (pos:Option (Nat×Nat)) (k:Nat) (ρ:af),tn+m=5->TabAt σ t T->d7 σ t w T oi p pos->σ a=some (.av [.int k])->(pos=none\/1<=k)->(∀i j,pos=some (i,j)->i<ix.length/\j<(lr ix i).ps.length)->Sub (EL aC a ix held mo t w pos) ρ->
   dP ⟨sc,n+10,true⟩ (.nm 7) tj N' R X ((oH tn m).map λ(k:Nat)=>PV.int k) ρ σ:=by
 have io:=L.JM
 have hn:=io.n
 intro m
 induction m with
 |zero=>intro tn σ p pos k ρ _ _ _ _ _ _ _;exact hN ρ σ
 |succ m ih=>
  intro tn σ p pos k ρ CW H W ha hk hv hs
  rw[Gk]
  refine⟨_,rfl,?_⟩
  refine c_ (qo hs _ _) ?_
  unfold EL
  refine aA (cv (dX rfl (aO (aq rfl (aO (aq rfl (aO (aI (bc (Yg (m:=16777216) (n+9) ht hz ⟨k,ha⟩ (by decide) λx k1 hx iy=>?_))))))))) rfl)
  have H1:TabAt (upd σ a (.av [.int k1])) t T:=H.at_ ha kM
  have W1:d7 (upd σ a (.av [.int k1])) t w T oi p pos:=W.at_ ha hk
  have iu:upd σ a (.av [.int k1]) a=some (.av [.int k1]):=ay _ _ _
  generalize upd σ a (.av [.int k1])=d0 at H1 W1 iu
  have j5:∀{ρ:af} {move:Nat} {key:KN},move<=4->ig key->Sub (EL aC a ix held mo t w pos++[(7,.int tn),(230,.int move),(185,bn key)]) ρ->aD ⟨sc,n+10,true⟩ AP ρ d0 (λρ' σ'=>dP ⟨sc,n+10,true⟩ (.nm 7) tj N' R X ((oH (tn+1) m).map λ(k:Nat)=>PV.int k) ρ' σ') R X:=by
   intro ρ move key hm tg hs
   obtain⟨t1,t2⟩:=tg.lim
   refine c_ hs ?_
   unfold EL
   simp only[ck,bL]
   refine aA (cv (dX rfl (aO (aq rfl (bc (nY (n+9) ?_))))) rfl)
   refine aA (cv (dX rfl (aO (aq rfl (bc (vF (n+8) (ai t1 (aG rfl)) ?_))))) rfl)
   refine aA (rM rfl (dX rfl (aO (aq rfl (aO (aq rfl (aO (aq rfl (aO (aq rfl (bc (JY (n+7) io (λi j e=>?_) ?_))))))))))) rfl)
   ·have:=hv i j e
    have:=io.lr this.1
    exact⟨(hv i j e).1,aab this ‹_›⟩
   refine⟨_,rfl,rfl,?_⟩
   have WO:∀i j,(d9 ix pos move key).1=some (i,j)->i<ix.length/\j<(lr ix i).ps.length:=λi j e=>by
    generalize hr:d9 ix pos move key=r at e
    obtain⟨r1,r2⟩:=r
    dsimp only at e
    subst e
    exact Yx hv hr
   refine aA (bR (jG (aY (dX rfl (aO (aq rfl (aO (aq rfl (aO (aq rfl (bc (XY (n+1) H1 L S W1 hm tg λτ p' A H2 W2=>?_))))))))))))
   refine aq rfl ⟨_,qt,?_⟩
   refine uA (λz=>z rfl) ?_
   have pd:=A.at_ W1 iu
   refine jG (A_ (nu (dX rfl (aO (aq rfl (aO (aq rfl (aO (aq rfl (bc (Kc (n+5) H2 L W2 ?_))))))))) rfl))
   refine⟨true,rfl,?_⟩
   refine Ri (rN (b4 (aE ?_)))
   have c7:∃q:Nat,q<=3/\([PV.int 0,.int 1,.int 2,.int 0,.int 3]:List PV)[((tn:Nat):Int).toNat]?=some (.int q):=by
    rw[show((tn:Nat):Int).toNat=tn by exact eY]
    rcases(show tn=0\/tn=1\/tn=2\/tn=3\/tn=4 by exact aac CW)with rfl|rfl|rfl|rfl|rfl
    ·exact⟨0,by decide,rfl⟩
    ·exact⟨1,by decide,rfl⟩
    ·exact⟨2,by decide,rfl⟩
    ·exact⟨0,by decide,rfl⟩
    ·exact⟨3,by decide,rfl⟩
   obtain⟨q,hq,eq⟩:=c7
   refine aA (cv (b8 (qp (aO (aI (aO (aI (aO (aI (aO (aI (aO (aI (bc ⟨by decide,?_⟩))))))))))))) rfl)
   refine aq rfl ⟨_,sQ (aT _) (aad CW) eq,?_⟩
   refine aA (bR (aY (dX rfl (aO (aq rfl (aO (aq rfl (aO (aq rfl (bc (XS n H2 L S hd nS hq tg λυ jd=>?_)))))))))))
   refine dX rfl (aO (aq rfl (aO (aq rfl (aO (aq rfl (aO (aq rfl (aO (aq rfl (bc (Yn (n+6) io (λr hr pp hp=>?_) hl hq ?_))))))))))))
   ·obtain⟨i,hi,rfl⟩:=AV.mp hr
    have e:ix[i]=lr ix i:=by unfold lr;rw[be,bQ hi];rfl
    replace hp:=e▸hp
    have bu:=L.len
    by_cases qn:i<T.I.n
    ·have:=(L.En i qn pp hp).1;exact td this
    ·by_cases hb:T.I.bad=true
     ·replace bu:=if_pos hb▸bu
      have:i=T.I.n:=by exact Ld hi bu qn
      subst this
      replace hp:=L.bad hb▸hp;cases hp
     ·replace bu:=if_neg hb▸bu;exact K6 hi bu qn
   obtain⟨l,el,es⟩:=aa_ ix held mo q key
   rw[el]
   refine⟨_,RS es,?_⟩
   refine b4 (aE (aE ?_))
   refine ih (tn+1) υ p' _ k1 _ (kj CW) (H2.ext jd) (W2.ext jd) (jd _ _ pd) (.inr iy) WO ?_
   k_in
  have j4:∀{ρ:af} {move:Nat},move<=4->Sub (EL aC a ix held mo t w pos++[(7,.int tn),(189,.int x),(230,.int move)]) ρ->aD ⟨sc,n+10,true⟩ AN ρ d0 (λρ' σ'=>dP ⟨sc,n+10,true⟩ (.nm 7) tj N' R X ((oH (tn+1) m).map λ(k:Nat)=>PV.int k) ρ' σ') R X:=by
   intro ρ move hm hs
   refine c_ hs ?_
   unfold EL
   simp only[ck,bL]
   refine aA (cv ?_ rfl)
   lk
   rw[show(x:Int)/9%40=((x/9%40:Nat):Int) by exact rfl]
   refine Kh (n+9) (eJ _ (by decide)) λwd hw=>?_
   lk
   rw[show(x:Int)/2%5*256+(x:Int)%2=((x/2%5*256+x%2:Nat):Int) by exact rfl]
   have tg1:ig (wd,x/2%5*256+x%2):=.inl ⟨hw,by show x/2%5*256+x%2<65536;exact aae⟩
   refine⟨_,dD (by simp;exact yQ hn),?_⟩
   rw[f']
   refine aI ⟨_,ip,?_⟩
   have no:aD ⟨sc,n+10,true⟩ AP (put (EL aC a ix held mo t w pos++[(7,.int tn),(189,.int x),(230,.int move)]) 185 (bn (wd,x/2%5*256+x%2))) d0 (λρ' σ'=>dP ⟨sc,n+10,true⟩ (.nm 7) tj N' R X ((oH (tn+1) m).map λ(k:Nat)=>PV.int k) ρ' σ') R X:=by
    refine j5 hm tg1 ?_
    unfold EL
    simp only[ck,bL]
    k_in
   unfold EL at no
   simp only[ck,bL]at no
   refine aH (λhc=>?_) λhc=>b4 (aE no)
   refine fj (aY (dC (dC (aq rfl (aI ⟨_,kG (by decide) (by decide),?_⟩)))))
   refine aI ⟨_,gz (by decide),?_⟩
   refine aI ⟨_,dw,?_⟩
   refine aH (λbB=>?_) λbB=>b4 (aE no)
   refine my (du ?_)
   have CP:0<ix.length:=by exact a_.mp hc
   have br:x/8%ix.length<ix.length:=eJ _ CP
   refine aA (cv (b8 (b8 (aq rfl (dC (dC (aq rfl (aI ⟨_,kG (by decide) (by decide),?_⟩))))))) rfl)
   refine jH rfl rfl (aO (aq rfl (bc ⟨_,dD (by simp;exact yQ hn),?_⟩)))
   rw[f']
   refine⟨_,gz (hc),?_⟩
   rw[show(x:Int)/8%(ix.length:Int)=((x/8%ix.length:Nat):Int) by push_cast;rfl]
   refine⟨_,gi io br _,?_⟩
   refine aI ⟨_,C1,?_⟩
   refine aE ?_
   have tg2:ig (lr ix (x/8%ix.length)).sep:=by
    have bu:=L.len
    by_cases q:x/8%ix.length<T.I.n
    ·exact(L.Nk _ q).tg
    ·by_cases hb:T.I.bad=true
     ·replace bu:=if_pos hb▸bu
      have e:x/8%ix.length=T.I.n:=by exact Ld br bu q
      rw[e,L.bad hb];exact .inr rfl
     ·replace bu:=if_neg hb▸bu;lia
   refine j5 hm tg2 ?_
   unfold EL
   simp only[ck,bL]
   k_in
  have j3:∀{ρ:af} {move:Nat},move<=4->Sub (EL aC a ix held mo t w pos++[(7,.int tn),(189,.int x),(230,.int move)]) ρ->aD ⟨sc,n+10,true⟩ F' ρ d0 (λρ' σ'=>dP ⟨sc,n+10,true⟩ (.nm 7) tj N' R X ((oH (tn+1) m).map λ(k:Nat)=>PV.int k) ρ' σ') R X:=by
   intro ρ move hm hs
   refine c_ hs ?_
   have same:aD ⟨sc,n+10,true⟩ AN (EL aC a ix held mo t w pos++[(7,.int tn),(189,.int x),(230,.int move)]) d0 (λρ' σ'=>dP ⟨sc,n+10,true⟩ (.nm 7) tj N' R X ((oH (tn+1) m).map λ(k:Nat)=>PV.int k) ρ' σ') R X:=j4 hm λ_ _ e=>e
   unfold EL at same⊢
   simp only[ck,bL]at same⊢
   refine aA (bR (aY (aq rfl (aI ⟨_,dw,?_⟩))))
   refine aH (λhc=>?_) λhc=>aE same
   refine aA (cv (aI ?_) rfl)
   refine aE ?_
   refine j4 (move:=0) (by decide) ?_
   unfold EL
   simp only[ck,bL]
   k_in
  refine aA (cv (dC (aq rfl (aI ⟨_,gz (by decide),?_⟩))) rfl)
  refine aA (bR (aY (aq rfl (aI ⟨_,ip,?_⟩))))
  refine aH (λhc=>?_) λhc=>?_
  ·refine aA (cv (dC (dC (aq rfl (aI ⟨_,gz (by decide),?_⟩)))) rfl)
   refine aI ⟨_,oU,?_⟩
   rw[show(x:Int)%9%3+2=((x%9%3+2:Nat):Int) by exact rfl]
   refine aE ?_
   refine j3 (move:=x%9%3+2) (Ox rfl rfl) ?_
   unfold EL
   simp only[ck,bL]
   k_in
  ·rw[show(x:Int)%9=((x%9:Nat):Int) by exact rfl]
   refine aE ?_
   refine j3 (move:=x%9) (aaf hc) ?_
   unfold EL
   simp only[ck,bL]
   k_in
end
end
section
section
theorem Rh {x:Bool} {A B:Prop} (e:x=true) (h:B):Br (!x) A B:=e▸Hk h
theorem YD {d:TD} (ht:aC≠[]) (hz:aC.length<=1000) (hb:bits<=10) (H:d.Ok par) (ha:∃k:Nat,σ a=some (.av [.int k])) (ho:σ o=some (de bits par)) (h:∀τ,Q (.bool true) τ):
  aD ⟨sc,n+11,true⟩ [.asg (.nm 226) (.an [.v 226,.no (.an [.at (.v 210) 51,.no (.cf 248 [.v 129,.v 116])])]),.tr [.asg (.nm 237) (.cc 250 [.v 0,.v 210,.cc 249 []])] [(11,[.ret (some (.no (.v 226)))])],.ite (.no (.v 226)) [.ret (some (.bool false))] [],.asg (.nm 150) (.cm (.v 237) 150 []),.asg (.nm 72) .none,.ite (.no (.cf 251 [.v 150,.v 129,.v 72])) [.ret (some (.bool false))] [],.fw (.nm 7) (.cb 8 [.int 5]) [.asg (.nm 189) (.cf 188 [.v 179,.v 1,.int 16777216]),.asg (.nm 230) (.bin .Mod (.v 189) (.int 9)),.ite (.cmp .Gt (.v 230) (.int 4)) [.asg (.nm 230) (.bin .Add (.bin .Mod (.v 230) (.int 3)) (.int 2))] [],.ite (.cmp .Eq (.v 7) (.int 0)) [.asg (.nm 230) (.int 0)] [],.asg (.nm 185) (.tup [.cf 190 [.bin .Mod (.bin .FloorDiv (.v 189) (.int 9)) (.int 40)],.bin .Add (.bin .Mult (.bin .Mod (.bin .FloorDiv (.v 189) (.int 2)) (.int 5)) (.int 256)) (.bin .Mod (.v 189) (.int 2))]),.ite (.an [.cmp .Gt (.cb 9 [.v 129]) (.int 0),.cmp .Eq (.bin .Mod (.bin .FloorDiv (.v 189) (.int 4)) (.int 2)) (.int 0)]) [.asg (.nm 185) (.idx (.idx (.v 129) (.bin .Mod (.bin .FloorDiv (.v 189) (.int 8)) (.cb 9 [.v 129]))) (.int 0))] [],.asg (.nm 227) (.cf 191 [.v 185]),.asg (.nm 115) (.cf 219 [.v 185]),.asg (.tup [72,252]) (.cf 243 [.v 129,.v 72,.v 230,.v 227]),.ite (.or [.cmp .NotEq (.cf 253 [.v 150,.v 230,.v 115]) (.v 252),.no (.cf 251 [.v 150,.v 129,.v 72])]) [.ret (some (.bool false))] [],.asg (.nm 204) (.idx (.tup [.int 0,.int 1,.int 2,.int 0,.int 3]) (.v 7)),.ite (.cmp .NotEq (.cf 254 [.v 237,.v 204,.v 115]) (.cf 255 [.v 129,.v 116,.v 128,.v 204,.v 227])) [.ret (some (.bool false))] []],.ret (some (.bool true))] [(179,.lst (aZ aC)),(1,.ref a),(210,.ref o),(0,.bytes d.D),(129,.lst (d.idx.map dF)),(116,mL (d.lh bits)),(128,.int d.d1.length),(226,.bool (d.op bits par))] σ (λ_ σ'=>Q .none σ') Q (λex _ σ'=>X ex σ'):=by
 have sl:=H.sl
 have hl:∀l,d.lh bits=some l->l.length<=1000:=λl e=>by
  unfold TD.lh at e
  split at e
  ·(cases e);exact td sl
  ·(exact nn e)
 have rl:=H.K.rl
 have op:=H.opens (bits:=bits)
 generalize hv:lS (d.lh bits) d.idx 0 none none=v at op
 have j7:∀{ρ:af} {oo:Bool},(oo=true↔d.op bits par=true/\¬(par=true/\v=false))->Sub [(179,.lst (aZ aC)),(1,.ref a),(210,.ref o),(0,.bytes d.D),(129,.lst (d.idx.map dF)),(116,mL (d.lh bits)),(128,.int d.d1.length),(226,.bool oo)] ρ->aD ⟨sc,n+11,true⟩ [.tr [.asg (.nm 237) (.cc 250 [.v 0,.v 210,.cc 249 []])] [(11,[.ret (some (.no (.v 226)))])],.ite (.no (.v 226)) [.ret (some (.bool false))] [],.asg (.nm 150) (.cm (.v 237) 150 []),.asg (.nm 72) .none,.ite (.no (.cf 251 [.v 150,.v 129,.v 72])) [.ret (some (.bool false))] [],.fw (.nm 7) (.cb 8 [.int 5]) [.asg (.nm 189) (.cf 188 [.v 179,.v 1,.int 16777216]),.asg (.nm 230) (.bin .Mod (.v 189) (.int 9)),.ite (.cmp .Gt (.v 230) (.int 4)) [.asg (.nm 230) (.bin .Add (.bin .Mod (.v 230) (.int 3)) (.int 2))] [],.ite (.cmp .Eq (.v 7) (.int 0)) [.asg (.nm 230) (.int 0)] [],.asg (.nm 185) (.tup [.cf 190 [.bin .Mod (.bin .FloorDiv (.v 189) (.int 9)) (.int 40)],.bin .Add (.bin .Mult (.bin .Mod (.bin .FloorDiv (.v 189) (.int 2)) (.int 5)) (.int 256)) (.bin .Mod (.v 189) (.int 2))]),.ite (.an [.cmp .Gt (.cb 9 [.v 129]) (.int 0),.cmp .Eq (.bin .Mod (.bin .FloorDiv (.v 189) (.int 4)) (.int 2)) (.int 0)]) [.asg (.nm 185) (.idx (.idx (.v 129) (.bin .Mod (.bin .FloorDiv (.v 189) (.int 8)) (.cb 9 [.v 129]))) (.int 0))] [],.asg (.nm 227) (.cf 191 [.v 185]),.asg (.nm 115) (.cf 219 [.v 185]),.asg (.tup [72,252]) (.cf 243 [.v 129,.v 72,.v 230,.v 227]),.ite (.or [.cmp .NotEq (.cf 253 [.v 150,.v 230,.v 115]) (.v 252),.no (.cf 251 [.v 150,.v 129,.v 72])]) [.ret (some (.bool false))] [],.asg (.nm 204) (.idx (.tup [.int 0,.int 1,.int 2,.int 0,.int 3]) (.v 7)),.ite (.cmp .NotEq (.cf 254 [.v 237,.v 204,.v 115]) (.cf 255 [.v 129,.v 116,.v 128,.v 204,.v 227])) [.ret (some (.bool false))] []],.ret (some (.bool true))] ρ σ (λ_ σ'=>Q .none σ') Q (λex _ σ'=>X ex σ'):=by
  intro ρ oo Jk hs
  refine c_ hs ?_
  refine aA (qm (by decide) ?_)
  refine aA (cv ?_ rfl)
  refine kF rfl rfl rfl (aO (aq rfl (aO (aq rfl (aO ?_)))))
  refine kF rfl rfl rfl (bc λio eC=>?_)
  refine XF (n+9) (ay _ _ _) (λu hu=>?_)
  (have zz:=dH hu;have WN:=zz.1;have WM:=zz.2;clear zz)
  refine⟨rfl,bc λt CV=>?_⟩
  have x1:Ext σ (upd (upd (upd σ io (.inst 325 [])) u (.inst 271 [])) io (.inst 325 [(41,.ref u)])):=(((Ext.refl σ).d_ eC).d_ WM).d_ eC
  have o1:(upd (upd (upd σ io (.inst 325 [])) u (.inst 271 [])) io (.inst 325 [(41,.ref u)])) io=some (.inst 325 [(41,.ref u)]):=ay _ _ _
  have o2:(upd (upd (upd σ io (.inst 325 [])) u (.inst 271 [])) io (.inst 325 [(41,.ref u)])) u=some (.inst 271 []):=(aw _ _ WN).trans (ay _ _ _)
  generalize upd (upd (upd σ io (.inst 325 [])) u (.inst 271 [])) io (.inst 325 [(41,.ref u)])=Ar at CV x1 o1 o2
  have x2:Ext Ar (upd Ar t (.inst 771 [])):=Ext.new CV _
  have BO:∀{ρ:af} {τ:aa},oo=false->get ρ 226=some (.bool oo)->nv ⟨sc,n+11,true⟩ (λρ' σ'=>aD ⟨sc,n+11,true⟩ [.ite (.no (.v 226)) [.ret (some (.bool false))] [],.asg (.nm 150) (.cm (.v 237) 150 []),.asg (.nm 72) .none,.ite (.no (.cf 251 [.v 150,.v 129,.v 72])) [.ret (some (.bool false))] [],.fw (.nm 7) (.cb 8 [.int 5]) [.asg (.nm 189) (.cf 188 [.v 179,.v 1,.int 16777216]),.asg (.nm 230) (.bin .Mod (.v 189) (.int 9)),.ite (.cmp .Gt (.v 230) (.int 4)) [.asg (.nm 230) (.bin .Add (.bin .Mod (.v 230) (.int 3)) (.int 2))] [],.ite (.cmp .Eq (.v 7) (.int 0)) [.asg (.nm 230) (.int 0)] [],.asg (.nm 185) (.tup [.cf 190 [.bin .Mod (.bin .FloorDiv (.v 189) (.int 9)) (.int 40)],.bin .Add (.bin .Mult (.bin .Mod (.bin .FloorDiv (.v 189) (.int 2)) (.int 5)) (.int 256)) (.bin .Mod (.v 189) (.int 2))]),.ite (.an [.cmp .Gt (.cb 9 [.v 129]) (.int 0),.cmp .Eq (.bin .Mod (.bin .FloorDiv (.v 189) (.int 4)) (.int 2)) (.int 0)]) [.asg (.nm 185) (.idx (.idx (.v 129) (.bin .Mod (.bin .FloorDiv (.v 189) (.int 8)) (.cb 9 [.v 129]))) (.int 0))] [],.asg (.nm 227) (.cf 191 [.v 185]),.asg (.nm 115) (.cf 219 [.v 185]),.asg (.tup [72,252]) (.cf 243 [.v 129,.v 72,.v 230,.v 227]),.ite (.or [.cmp .NotEq (.cf 253 [.v 150,.v 230,.v 115]) (.v 252),.no (.cf 251 [.v 150,.v 129,.v 72])]) [.ret (some (.bool false))] [],.asg (.nm 204) (.idx (.tup [.int 0,.int 1,.int 2,.int 0,.int 3]) (.v 7)),.ite (.cmp .NotEq (.cf 254 [.v 237,.v 204,.v 115]) (.cf 255 [.v 129,.v 116,.v 128,.v 204,.v 227])) [.ret (some (.bool false))] []],.ret (some (.bool true))] ρ' σ' (λ_ σ'=>Q .none σ') Q λex _ σ'=>X ex σ') Q (λex _ σ'=>X ex σ') .b_ [(11,[.ret (some (.no (.v 226)))])] ρ τ:=by
   intro ρ τ e g
   subst e
   refine⟨_,rfl,λ_=>?_,λz=>absurd z (by decide)⟩
   refine oO ?_
   lk
   exact h τ
  refine XI (G:=d.jq bits par) (v:=v) n (H.jq hb) (ay _ _ _) (x2 _ _ (x1 _ _ ho)) ⟨x2 _ _ o1,x2 _ _ o2⟩ (λT held hh hT=>?_) (λheld hh τ T kp hT HT kM=>?_) λhh τ=>?_
  ·have e:=H.It (bits:=bits)
   rw[hh]at e
   have e2:held=d.th bits:=by
    split at e
    ·(cases e)
    ·split at e
     ·(cases e)
     ·injection e
   rw[e2]at hT
   have hI:T.I=d.I:=hT.3
   rw[<-hv,hI]
   exact H.adm hT d.I.n 0 0 none none (kD _) (λq e=>(nn e)) λq e=>(nn e)
  ·rw[op v]at hh
   have xQ:d.op bits par=true/\¬(par=true/\v=false):=by
    exact gF hh (λz _=>z) λ_ z=>nn z
   rw[if_pos xQ]at hh
   replace hh:=bN hh
   replace hT:=hh.symm▸hT
   have Wo:=Jk.mpr xQ
   have L:=H.link hT
   have S:=H.aa1 hT (λhp=>by rw[hv];cases v with
    |true=>rfl
    |false=>exact absurd ⟨hp,rfl⟩ xQ.2)
   have VU:∀off,den T.held off=g7 (d.lh bits) off:=λoff=>by rw[hT.6];exact d.HM off
   have nS:T.mo=d.d1.length:=by
    rw[hT.5]
    show d.d1.length+(if d.f1=4 then 2000 else 0)=_
    have o3:d.op bits par=qW d.ag d.f0 d.f1 d.f2 d.x bits par:=rfl
    have hc:=xQ.1
    rw[o3]at hc
    unfold qW tz l7 at hc
    split at hc
    ·(exact ff hc)
    ·split at hc
     ·(exact ff hc)
     ·have:=of_decide_eq_true hc
      rw[if_neg (by lia)];exact rfl
   obtain⟨k,ha⟩:=ha
   have nt:Ar t=none:=CV
   have nσ:σ t=none:=x1.none nt
   have pd:τ a=some (.av [.int k]):=kp a _ (x2 _ _ (x1 _ _ ha)) (by exact λe=>by simp only[e,nσ]at ha;(exact nn ha))
   have WB:a≠T.ri:=λe=>by
    have:=x2 _ _ (x1 _ _ ha)
    simp only[e,kM]at this;(exact nn this)
   refine⟨rfl,?_⟩
   refine aE ?_
   refine aA (bR (A_ (nu (aq rfl ⟨oo,rfl,?_⟩) rfl)))
   refine Rh Wo (aE ?_)
   have ob:=HT.ob
   refine aA (cv ?_ rfl)
   lk
   refine Dd (n+7) HT λυ w oi jd hw kK vx iG dS=>?_
   have FQ:=HT.ext jd
   have W:d7 υ t w T oi .none none:=⟨rfl,_,iG,_,dS,.inr ⟨_,_,rfl⟩⟩
   refine aA (cv (jI ?_) rfl)
   refine aA (bR (A_ (nu (dX rfl (aO (aq rfl (aO (aq rfl (aO (aq rfl (bc (Kc (pos:=none) (n+6) FQ L W ?_))))))))) rfl)))
   refine⟨true,rfl,?_⟩
   refine Hk (aE ?_)
   refine aA (oP rfl (aI ⟨5,rfl,by decide,by decide,?_⟩))
   rw[show((5:Int)).toNat=5 from rfl,Gl]
   refine YC (n:=n+1) ht hz L S VU hl nS WB (λρ τ=>?_) 5 0 υ .none none k _ rfl FQ W (jd _ _ pd) (.inl rfl) (λi j e=>(nn e)) (by k_in)
   lk
   exact h τ
  ·refine BO ?_ rfl
   rw[op v]at hh
   cases oo with
   |false=>rfl
   |true=>rw[if_pos (Jk.mp rfl)]at hh;(cases hh)
 have cl:=λ(Q:PV->aa->Prop) (X:Ex->aa->Prop) (hq:Q (.bool v) σ)=>XM (σ:=σ) (Q:=Q) (X:=X) (n+9) (held:=d.lh bits) (ix:=d.idx) hl (by rw[hv];exact hq)
 refine aA (cv ?_ rfl)
 refine xf (aq rfl ⟨_,rfl,?_⟩)
 cases sM:d.op bits par with
 |false=>
  refine b4 ?_
  refine j7 (oo:=false) (by rw[sM];simp) (by k_in)
 |true=>
  refine du (Bb (GO (xf (V_at (aq rfl ⟨o,_,_,_,rfl,ho,rfl,rfl,par,rfl,?_⟩)))))
  cases vt:par with
  |false=>
   refine b4 ⟨_,rfl,?_⟩
   refine j7 (oo:=true) (by rw[sM,vt];simp) (by k_in)
  |true=>
   refine du (Bb (GO (dX rfl (aO (aq rfl (aO (aq rfl (bc (cl _ _ ?_)))))))))
   refine⟨_,rfl,_,rfl,?_⟩
   refine j7 (oo:=v) (by rw[sM,vt];cases v<;>simp) ?_
   cases v<;>k_in
end
end
section
theorem GF {c:Cx} {ms:List MS} {X:Ex->af->aa->Prop} (e:σ=σ') (h:aD c ms ρ σ' N' R X):aD c ms ρ σ N' R X:=e▸h
section
theorem XW (n:Nat) {ns:List Int} (hl:ns.length<=63) (h:∀τ,Q (.bool true) τ):Call (n+12) true 1069 [.lst (aZ ns)] σ Q X:=by
 refine aK Um rfl ?_
 have fin:∀{ρ:af} {aC:List Int} {σ:aa},aC≠[]->aC.length<=1000->Sub [(179,.lst (aZ aC))] ρ->aD ⟨Head.dG (Head.top 89),n+11,true⟩ [.asg (.nm 1) (.n9 [.int 0]),.asg (.nm 210) (.cm (.cc 245 []) 246 []),.asg (.at (.v 210) 57) (.cf 188 [.v 179,.v 1,.int 3]),.asg (.at (.v 210) 51) (.cmp .Eq (.cf 188 [.v 179,.v 1,.int 3]) (.int 2)),.asg (.tup [0,129,116,128,226]) (.cf 247 [.v 179,.v 1,.v 210]),.asg (.nm 226) (.an [.v 226,.no (.an [.at (.v 210) 51,.no (.cf 248 [.v 129,.v 116])])]),.tr [.asg (.nm 237) (.cc 250 [.v 0,.v 210,.cc 249 []])] [(11,[.ret (some (.no (.v 226)))])],.ite (.no (.v 226)) [.ret (some (.bool false))] [],.asg (.nm 150) (.cm (.v 237) 150 []),.asg (.nm 72) .none,.ite (.no (.cf 251 [.v 150,.v 129,.v 72])) [.ret (some (.bool false))] [],.fw (.nm 7) (.cb 8 [.int 5]) [.asg (.nm 189) (.cf 188 [.v 179,.v 1,.int 16777216]),.asg (.nm 230) (.bin .Mod (.v 189) (.int 9)),.ite (.cmp .Gt (.v 230) (.int 4)) [.asg (.nm 230) (.bin .Add (.bin .Mod (.v 230) (.int 3)) (.int 2))] [],.ite (.cmp .Eq (.v 7) (.int 0)) [.asg (.nm 230) (.int 0)] [],.asg (.nm 185) (.tup [.cf 190 [.bin .Mod (.bin .FloorDiv (.v 189) (.int 9)) (.int 40)],.bin .Add (.bin .Mult (.bin .Mod (.bin .FloorDiv (.v 189) (.int 2)) (.int 5)) (.int 256)) (.bin .Mod (.v 189) (.int 2))]),.ite (.an [.cmp .Gt (.cb 9 [.v 129]) (.int 0),.cmp .Eq (.bin .Mod (.bin .FloorDiv (.v 189) (.int 4)) (.int 2)) (.int 0)]) [.asg (.nm 185) (.idx (.idx (.v 129) (.bin .Mod (.bin .FloorDiv (.v 189) (.int 8)) (.cb 9 [.v 129]))) (.int 0))] [],.asg (.nm 227) (.cf 191 [.v 185]),.asg (.nm 115) (.cf 219 [.v 185]),.asg (.tup [72,252]) (.cf 243 [.v 129,.v 72,.v 230,.v 227]),.ite (.or [.cmp .NotEq (.cf 253 [.v 150,.v 230,.v 115]) (.v 252),.no (.cf 251 [.v 150,.v 129,.v 72])]) [.ret (some (.bool false))] [],.asg (.nm 204) (.idx (.tup [.int 0,.int 1,.int 2,.int 0,.int 3]) (.v 7)),.ite (.cmp .NotEq (.cf 254 [.v 237,.v 204,.v 115]) (.cf 255 [.v 129,.v 116,.v 128,.v 204,.v 227])) [.ret (some (.bool false))] []],.ret (some (.bool true))] ρ σ (λ_ σ'=>Q .none σ') Q (λex _ σ'=>X ex σ'):=by
  intro ρ aC σ ht hz hs
  refine c_ hs ?_
  refine aA (cv (QF (aO (aI (bc ⟨by decide,λa ha=>?_⟩)))) rfl)
  refine aA (cv (Bc (kF rfl rfl rfl (bc λo ho=>?_))) rfl)
  have fO:o≠a:=(dH ho).1
  refine XG (n+9) (ay _ _ _) ?_
  refine⟨rfl,o,358,_,355,rfl,ay _ _ _,rfl,rfl,rfl,bc ?_⟩
  refine XH (n+10) (ay _ _ _) ?_
  rw[aL,aL]
  refine aA (w' (dX rfl (aO (aq rfl (aO (aq rfl (aO (aI (bc (i7 (m:=3) (n+10) ht hz ⟨0,?_⟩ (by decide) λbits k1 hb=>?_))))))))) rfl)
  ·rw[aw _ _ (cN fO),ay];rfl
  have o1:∀x,upd (upd (upd σ a (.av [.int 0])) o (de 4 false)) a x o=some (de 4 false):=λx=>(aw _ _ fO).trans (ay _ _ _)
  refine aq rfl ⟨o,_,_,rfl,o1 _,rfl,aG rfl,?_⟩
  have a2:(upd (upd (upd (upd σ a (.av [.int 0])) o (de 4 false)) a (.av [.int k1])) o (de bits false)) a=some (.av [.int k1]):=by rw[aw _ _ (cN fO),ay]
  have o2:(upd (upd (upd (upd σ a (.av [.int 0])) o (de 4 false)) a (.av [.int k1])) o (de bits false)) o=some (de bits false):=ay _ _ _
  refine GF (σ':=upd (upd (upd (upd σ a (.av [.int 0])) o (de 4 false)) a (.av [.int k1])) o (de bits false)) rfl ?_
  generalize upd (upd (upd (upd σ a (.av [.int 0])) o (de 4 false)) a (.av [.int k1])) o (de bits false)=d0 at a2 o2
  refine aA (w' (uk (dX rfl (aO (aq rfl (aO (aq rfl (aO (aI (bc (i7 (m:=3) (n+10) ht hz ⟨k1,a2⟩ (by decide) λq k2 hq=>?_)))))))))) rfl)
  refine aI ⟨_,dw,?_⟩
  have o3:∀x,upd d0 a x o=some (de bits false):=λx=>(aw _ _ fO).trans o2
  refine aq rfl ⟨o,_,_,rfl,o3 _,rfl,aG rfl,?_⟩
  have a4:(upd (upd d0 a (.av [.int k2])) o (de bits (decide ((q:Int)=2)))) a=some (.av [.int k2]):=by rw[aw _ _ (cN fO),ay]
  have o4:(upd (upd d0 a (.av [.int k2])) o (de bits (decide ((q:Int)=2)))) o=some (de bits (decide ((q:Int)=2))):=ay _ _ _
  refine GF (σ':=upd (upd d0 a (.av [.int k2])) o (de bits (decide ((q:Int)=2)))) rfl ?_
  generalize upd (upd d0 a (.av [.int k2])) o (de bits (decide ((q:Int)=2)))=Ar at a4 o4
  generalize decide ((q:Int)=2)=par at o4
  refine aA (rM rfl (dX rfl (aO (aq rfl (aO (aq rfl (aO (aq rfl (bc (Ye (n+6) ht hz ⟨k2,a4⟩ o4 λd τ H hk=>?_))))))))) rfl)
  refine⟨_,rfl,rfl,?_⟩
  refine c_ ?_ (YD (bits:=bits) (o:=o) (d:=d) ht hz (aaT hb) H hk.2 (hk.1 _ _ o4 fO) h)
  rw[<-d.VX (bits:=bits)]
  k_in
 have e0:(p5 [244] [.lst (aZ ns)])=[(244,.lst (aZ ns))]:=rfl
 rw[e0]
 have xY:(aZ ns).length=ns.length:=by simp[aZ]
 refine aA (ui rfl (oQ (QH (aq rfl (QD (GL (aI ⟨_,rfl,by decide,_,EJ (ai (bM xY) (ai hl (aG rfl))),?_⟩)))))))
 rw[show cut (aZ ns) none (some 40)=(aZ ns).take 40 from uN (aZ ns) 40 rfl]
 have et:(aZ ns).take 40=(ns.take 40).map PV.int:=by unfold aZ;rw[PJ]
 rw[et]
 refine⟨_,rfl,λD sc hD=>?_⟩
 refine comp_map (f:=PV.int) (g:=PV.int) hD (ns.take 40) [] (by simp;exact Le) (λy hy=>⟨_,rfl,λac Q hq=>aq (by k_is) hq⟩) ?_
 rw[bL]
 have Yw:(ns.take 40).length<=40:=by rw[gu];exact P5 _ _
 refine aA (bR (aY (jH rfl rfl (aO (aq rfl (bc ⟨_,dD (by simp;exact Le),?_⟩))))))
 rw[f']
 refine aI ⟨_,dw,?_⟩
 refine aH (λhc=>?_) λhc=>aE ?_
 ·refine aA (cv (Bd (aO (aI (bc ⟨by decide,?_⟩)))) rfl)
  refine aE ?_
  exact fin (aC:=[0]) (by decide) (by decide) (by k_in)
 ·exact fin (aC:=ns.take 40) (λe=>by rw[e]at hc;exact hc rfl) (ai Yw (aG rfl)) (by k_in)
end
end
section
theorem items_int {R:GQ} (xs:List WData):WShape.hasItems R xs .int=true->∃ns:List Int,xs=ns.map uq:=by
 induction xs with
 |nil=>exact λ_=>⟨[],rfl⟩
 |cons x xs ih=>
  intro h
  have h:=gO.mp h
  obtain⟨i,e⟩:=hasW_int h.1
  obtain⟨ns,f⟩:=ih h.2
  exact⟨i::ns,e▸f▸rfl⟩
theorem ab7 {R:GQ} {cl:Str->Option Addr} (ns:List Int):∀{vs:List ae} {as:List Addr},ReadsAllW R cl h vs (ns.map uq) as->aJ h O vs (aZ ns):=by
 induction ns with
 |nil=>exact λx=>(ab5 x).1▸.nil
 |cons n ns ih=>
  intro vs as x
  obtain⟨v,r,as,bs,e,_,a,b⟩:=ab4 x
  obtain⟨t,f,_⟩:=readsW_int_inv a
  exact e▸.cons (f▸.int _ _) (ih b)
theorem ab6 {R:GQ} {cl:Str->Option Addr} {vals:List ae} {as:List Addr} (hr:ReadsAllW R cl h vals [.list (ns.map uq)] as):∃b,vals=[.ref b]/\Rep h (ao no) (.ref b) (.lst (aZ ns)):=by
 obtain⟨v,vs,a1,a2,e1,_,r1,r2⟩:=ab4 hr
 obtain⟨b,us,a3,e2,hl,r3,_⟩:=readsW_list_inv r1
 exact⟨b,by rw[e1,e2,(ab5 r2).1],.lst hl fV (ab7 _ r3)⟩
theorem YA (P:aV):(((KF P).lookup fA).bind λo=>match o.data with|.dict es _=>nsFind es (ie "law")|_=>none)=some (.ref 1069):=by fin2
noncomputable def hb (b:Bool):Bool:=GR [] (.and (.not (.lit (.bool b))) (.lit (.bool true))) {args:=[]}
noncomputable def mI (b:Bool):Bool:=GR [] (.lit (.bool b)) {args:=[]}
theorem acp:same (.bool true) (.bool true)=true:=by rw[same];rfl
theorem ab2 {args:List WData} (h:Head.cQ.row.toRowW.claim.pre args=true):∃ns:List Int,args=[.list (ns.map uq)]/\ns.length<=63:=by
 have h:(WShape.hasAll [] args [.list .int]&&Head.cQ.pre.holds [] {args:=args})=true:=h
 obtain⟨h1,h2⟩:=gO.mp h
 obtain⟨x,r,e1,hx,hr⟩:=hasAllW_cons h1
 obtain⟨xs,e2,hi⟩:=hasW_list hx
 obtain⟨ns,e3⟩:=items_int xs hi
 have e:args=[.list (ns.map uq)]:=by rw[e1,e2,e3,hasAllW_nil hr]
 rw[e]at h2
 have h3:hb (decide ((63:Int)<((ns.map uq).length:Int)))=true:=h2
 refine⟨ns,e,d6.mp (gQ.mp λq=>?_)⟩
 rw[f',decide_eq_true (show(63:Int)<(ns.length:Int) from q)]at h3
 exact ff h3
theorem Yz {mg:Str->Option ae} (Y:Head.YP w h) (g:h.Ns fA mg):mg (ie "law")=some (.ref 1069):=by
 obtain⟨o,es,ep,ho,hd,_,hf⟩:=g
 have e:=YA w.params
 cases hk:(KF w.params).lookup fA with
 |none=>replace e:=hk▸e;(exact nn e)
 |some o'=>
  replace e:=hk▸e
  have:=kf_in Y _ _ hk
  replace this:=ho▸this
  (cases this)
  rw[<-hf,<-e]
  show _=(match o.data with|.dict es _=>nsFind es (ie "law")|_=>none)
  rw[hd]
theorem ab1 {a b:List WData}:Head.cQ.row.toRowW.claim.post a (.bool true) b=true:=by
 show(WShape.has [] (.bool true) .bool&&GR [] (.eq .res (.lit (.bool true))) {args:=a,res:=some (.bool true),after:=b})=true
 have h:mI (same (.bool true) (.bool true))=true:=congrArg mI acp
 exact h
theorem YB (Y:(KF w.params).In s₁.heap) (h6:s₁.gens=#[]) (hl:ns.length<=63) (hr:Rep s₁.heap (ao no) (.ref b) (.lst (aZ ns))):
  az (aB pw w) Hp (call (.ref 1069) [.ref b]) (λv s'=>v=.bool true/\(∀q oq,s₁.heap.get? q=some oq->s'.heap.get? q=some oq)/\∃h' tk,s'={s₁ with heap:=h',toks:=tk}) (λ_ _=>False) s₁:=by
 have ci:cI 40 true w Hp no s₁:=⟨⟨by decide,by decide⟩,λ_=>rfl,xw Y,rfl,λenv hm=>absurd hm lB,h6⟩
 refine bg (Call.run (XW (σ:=no) (Q:=λp _=>p=.bool true) (X:=λ_ _=>False) 28 hl λ_=>rfl) w Hp s₁ [.ref b] ci (.cons hr .nil)) (λv s' hv=>?_) λ_ _ z=>z.rec λ_ _ _ _ q _ _=>q
 obtain⟨p,σ',e,CS,x_⟩:=hv
 exact⟨Rep.cBool (P:=λv=>v=.bool true) (e▸CS) rfl,λq oq eq=>x_.rl.kp.exact eq fV λenv hm=>absurd hm lB,x_.same⟩
theorem YE:WalkO Head.qv Head.loose Head.XP Head.YP Head.cQ.row.toRowW Head.BQ [] λf vs=>Qo f vs:=by
 intro w s₀ s₁ mg mb G Y a o pm cd doc dV kV h1 h2 h3 h4 h5 h6 args vals as Ww afb hr hw afd
 have ea:1069=a:=Value.ref.inj (bN ((Yz Y G.T.g).symm.trans h5))
 obtain⟨ns,e1,hl⟩:=ab2 Ww
 rw[e1]at hr
 obtain⟨b,e2,nT⟩:=ab6 hr
 rw[<-ea,e2]
 refine bg (YB (kf_in Y) h6 hl nT) (λv s' z=>?_) λ_ _ z=>z.elim
 obtain⟨rfl,kp,same⟩:=z
 exact⟨.inl ⟨_,.bool true,[],rfl,λcls=>rfl,.bool _,ab1,λ_=>⟨.nil,λa ha=>absurd ha lB⟩⟩,.of_keep kp,(by obtain⟨_,_,e⟩:=same;rw[e]),.of_eq ((tC same).trans h6)⟩
theorem final (zy:Head.cQ.wellSaid=true):Head.cQ.Holds:=Head.holds_of zy YE
end
end Mine
theorem PySem.Challenge.cw_no0431_01_holds : PySem.Challenge.rw_no0431_01.Holds :=
  Mine.final Mine.Head.zy
