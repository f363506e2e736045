import PyProof.Rows.All
import Wide.All
import OpenK.AllK
import Wide.FinOn
import OpenK.KOwn
import KE.KBytesWalk
import KE.KxPercent
import KE.KMulAny
import KE.BytesMulAny
import KE.KxIndex
import Wide.BytesRules
import KE.KBytesCut
import KE.KDeep
import KE.KBytesAny
import PyProof.Rows.SortWalkRead
import KE.BitLaws
import KE.KTryMore
import KE.KPar
import Lean
import PySem.Challenge.RW_xw0267_01
open PySem PySem.W PyProof.Rows
set_option Elab.async false
set_option maxRecDepth 10000
set_option linter.all false
set_option maxHeartbeats 0
set_option compiler.extract_closed false
set_option tactic.hygienic false
set_option genSizeOf false
set_option genInjectivity false
set_option bootstrap.genMatcherCode false
open _root_.And renaming intro->dg
open _root_.Array renaming getElem?_toList->jq,toArray_toList->uA,length_toList->Lu,getElem?_eq_some_iff->Lw,getElem_extract->LD
open _root_.Bool renaming and_eq_true_iff->dh,and_eq_true->eO,not_eq_true'->fe,false_eq_true->iu
open _root_.Char renaming toNat->pR
open _root_.Classical renaming propDecidable->Lm
open _root_.Eq renaming symm->aM,trans->p_
open _root_.False renaming elim->dQ
open _root_.ForInStep renaming yield->js
open _root_.Int renaming ofNat_lt->cB,toNat_natCast->cS,ofNat_le->fQ,ofNat_sub->iC,ofNat->kc,toNat_lt->pT,le_trans->uC,not_lt->uD,fmod_eq_emod_of_nonneg->uW,toNat_sub->BF,natCast_pow->B4,natCast_add->B6,fdiv_eq_ediv_of_nonneg->Lz
open _root_.Int.ofNat renaming inj->iE
open _root_.List renaming replicate->ay,mem_map->aW,mem_singleton->bj,append_nil->bA,range->bM,length_append->bV,mem_cons->bZ,mem_of_getElem?->cw,getElem?_eq_getElem->cM,mem_append->cQ,length_map->cV,mem_map_of_mem->du,getElem?_eq_some_iff->dD,mem_append_left->dE,getElem?_map->dO,map_map->dP,prefix_refl->eB,map_append->eK,map_cons->eM,append_assoc->e_,length_take->fO,all_eq_true->fR,isEmpty_iff->gk,nodup_cons->gm,mem_append_right->gp,length_drop->gE,filterMap_cons->iv,mem_flatten->iw,nodup_nil->ix,length_cons->iA,length_replicate->iF,getElem?_append_left->ji,nodup_append->jl,not_mem_nil->jn,range'->jp,take_length->jr,map_congr_left->j_,mem_range->ka,length->ke,lookup_cons->kg,flatten_append->k_,mem_of_mem_take->mB,eq_nil_of_length_eq_zero->mC,flatten_cons->mE,take_of_length_le->mG,nil_append->mS,filter_cons->mU,zip_cons_cons->pK,map_nil->pM,take_nil->pS,drop_take->pV,take_zero->pZ,getElem?_append_right->uq,take_append_drop->ur,getElem?_drop->us,getD_eq_getElem?_getD->uB,length_take_le'->uF,length_range->uG,mem_filter->uK,length_singleton->uV,drop_left->u6,perm_append_comm->Bz,getElem?_set_ne->BA,drop_nil->BE,drop_length->BH,size_toArray->BK,flatten_singleton->BM,getElem?_range->BO,getElem?_eq_none->BR,take_add_one->BU,filter_eq_nil_iff->BY,zip_nil_right->BZ,sum_cons->B1,flatten_replicate_singleton->B5,length_nil->B8,getElem?_set_self->Lf,range_succ_eq_map->Ll,getLast?_eq_getElem?->Ln,getElem?_toArray->Lx,length_filter_le->LF,drop_eq_nil_iff->LI
open _root_.List.Pairwise renaming nil->u8
open _root_.List.Perm renaming append_left->ut,append_right->By
open _root_.Nat renaming beq->aG,le_trans->aJ,mod_lt->bE,le_refl->bG,le_of_eq->bH,le_of_ble_eq_true->bL,blt->b_,lt_trans->cg,le_of_lt->ci,lt_of_le_of_lt->cy,zero_le->cR,eq_of_beq_eq_true->di,lt_of_lt_of_le->dG,ble->dR,le_of_not_lt->eN,sub_le->fb,lt_irrefl->fM,min_eq_left->gq,ne_of_gt->gF,lt_succ_self->iy,add_le_add->iz,zero_add->iD,le_add_right->jk,add_le_add_left->jm,not_lt->j9,add_le_add_right->j',ne_of_lt->k8,mul_le_mul_left->lb,sub_eq_zero_of_le->lc,sub_le_sub_right->lg,pos_of_ne_zero->lh,le_of_lt_succ->lk,add_comm->ll,not_lt_zero->mD,le_antisymm->mI,eq_zero_or_pos->mM,pow_succ->mQ,lt_or_ge->mR,add_sub_cancel_left->pL,sub_add_cancel->pW,mul_comm->pX,not_le->pY,mul_assoc->p9,sub_lt_sub_left->uv,lt_succ_of_lt->uw,lt_of_not_le->uE,add_lt_add_right->uS,add_assoc->uU,sub_pos_of_lt->uX,div_le_self->uY,pow_le_pow_right->uZ,add_sub_of_le->u4,pow_pos->u5,max_eq_right->u7,beq_refl->BB,toDigits->BC,min_eq_right->BG,mod_eq_of_lt->BQ,le_add_left->BS,sub_one_lt->BV,lt_succ_of_le->BW,eq_zero_of_not_pos->BX,zero_mul->B7,exists_eq_add_of_le'->B9,min_le_left->B_,add_lt_add_of_lt_of_le->LA,mod_two_eq_zero_or_one->LJ
open _root_.Nat.succ renaming inj->BP
open _root_.Ne renaming symm->fP
open _root_.Option renaming map_some->li,isNone_iff_eq_none->uN,none->Bx,getD_some->BN,isSome_iff_exists->Lc
open _root_.Option.some renaming injEq->lj,inj->pP
open _root_.Or renaming elim->ao
open _root_.PyProof.Rows renaming lt_int->LG
open _root_.PySem renaming Str->ac,Obj->au,Fin->k9
open _root_.PySem.Arg renaming arg->eC
open _root_.PySem.Around renaming under_plainId->uI,frames_deeper->Le
open _root_.PySem.BindsTo renaming of_eq->B0
open _root_.PySem.Builtin renaming bitNot->iB,bitAnd->mJ,bitOr->mK
open _root_.PySem.Builtin.Bytes renaming decodersThatHold->Bv,buffer?->Ls
open _root_.PySem.Builtin.Bytes.exported renaming match_1->L6
open _root_.PySem.Builtin.Range renaming rangeSize->uQ,small->uR,rangeFitsLong->Ly
open _root_.PySem.Builtin.Str renaming Writer->ux,strSliceIndices->BI,Percent->Lg,percentField->Lh,percentInt->Li
open _root_.PySem.Calls renaming Name_function_global->jj,loadGlobal_global->pJ,loadGlobal_builtin->uM
open _root_.PySem.DictEntry renaming refKey->uu
open _root_.PySem.ExcName renaming means->uo
open _root_.PySem.F renaming bm_called->mO,bm_plain->uH,bm_newCall->Lo,bm_typeCall->Lp,entry_object_init->Lq,args_object_init_2->Lr,plainAttrs_str->Lv
open _root_.PySem.Heap renaming lt_size->cL,get?_push_size->dt,get?_push_of_some->eA,SameBut->mP,size_push->pI,FlyingW->up,get?_update_self->uL
open _root_.PySem.Heap.FunFrames renaming cons->Ld
open _root_.PySem.Heap.SameBut renaming update->BL
open _root_.PySem.NameKind renaming free->mT,cell->mV
open _root_.PySem.Obj renaming mapBytearray->BJ
open _root_.PySem.PyData renaming keyHash->jh
open _root_.PySem.Sem renaming wp_mono->pH
open _root_.PySem.Str renaming ofString->aa,length->mL,empty->uy,length_append->Lj,ofString_eq_toList->Lk
open _root_.PySem.Txt renaming find->cz,startswith->pO
open _root_.PySem.Value renaming str->mH,type->uJ
open _root_.PySem.W.FB renaming slot_bytes_getitem->pU
open _root_.PySem.W.KPc renaming Good->kb,empty_app->pQ,good0->uz,short_good->BD
open _root_.PySem.W.WData renaming int->kh,bool->u9,layableAll->Bw
open _root_.PySem.W.Z renaming blt_iff->fN
open _root_.PySem.Walks renaming list->uP
open _root_.UInt8 renaming ofNat->uT
open _root_.UInt8.toNat renaming inj->LC
namespace Mine
section
theorem ak{a1 a2 G:Prop}(h:a1/\a2)(k:a1->a2->G):G:=k h.1 h.2
theorem bN{a1 a2 a3 G:Prop}(h:a1/\a2/\a3)(k:a1->a2->a3->G):G:=ak h.2 (k h.1)
theorem cX{a1 a2 a3 a4 G:Prop}(h:a1/\a2/\a3/\a4)(k:a1->a2->a3->a4->G):G:=bN h.2 (k h.1)
theorem gN{a1 a2 a3 a4 a5 G:Prop}(h:a1/\a2/\a3/\a4/\a5)(k:a1->a2->a3->a4->a5->G):G:=cX h.2 (k h.1)
theorem nq{a1 a2 a3 a4 a5 a6 G:Prop}(h:a1/\a2/\a3/\a4/\a5/\a6)(k:a1->a2->a3->a4->a5->a6->G):G:=gN h.2 (k h.1)
theorem Ay{a1 a2 a3 a4 a5 a6 a7 G:Prop}(h:a1/\a2/\a3/\a4/\a5/\a6/\a7)(k:a1->a2->a3->a4->a5->a6->a7->G):G:=nq h.2 (k h.1)
theorem sR{a1 a2 a3 a4 a5 a6 a7 a8 G:Prop}(h:a1/\a2/\a3/\a4/\a5/\a6/\a7/\a8)(k:a1->a2->a3->a4->a5->a6->a7->a8->G):G:=Ay h.2 (k h.1)
theorem yc{a1 a2 a3 a4 a5 a6 a7 a8 a9 G:Prop}(h:a1/\a2/\a3/\a4/\a5/\a6/\a7/\a8/\a9)(k:a1->a2->a3->a4->a5->a6->a7->a8->a9->G):G:=sR h.2 (k h.1)
theorem JI{a1 a2 a3 a4 a5 a6 a7 a8 a9 a10 G:Prop}(h:a1/\a2/\a3/\a4/\a5/\a6/\a7/\a8/\a9/\a10)(k:a1->a2->a3->a4->a5->a6->a7->a8->a9->a10->G):G:=yc h.2 (k h.1)
theorem elE1.{u1}{α1:Sort u1}{p:α1->Prop}{G:Prop}(h:∃x1,p x1)(k:∀x1,p x1->G):G:=h.elim k
theorem elE2.{u1,u2}{α1:Sort u1}{α2:Sort u2}{p:α1->α2->Prop}{G:Prop}(h:∃x1 x2,p x1 x2)(k:∀x1 x2,p x1 x2->G):G:=h.elim λx1 h=>elE1 h (k x1)
theorem elE3.{u1,u2,u3}{α1:Sort u1}{α2:Sort u2}{α3:Sort u3}{p:α1->α2->α3->Prop}{G:Prop}(h:∃x1 x2 x3,p x1 x2 x3)(k:∀x1 x2 x3,p x1 x2 x3->G):G:=h.elim λx1 h=>elE2 h (k x1)
theorem eD{α1 α2 α3 α4:Type}{p:α1->α2->α3->α4->Prop}{G:Prop}(h:∃x1 x2 x3 x4,p x1 x2 x3 x4)(k:∀x1 x2 x3 x4,p x1 x2 x3 x4->G):G:=h.elim λx1 h=>elE3 h (k x1)
theorem jg{α1 α2 α3 α4 α5:Type}{p:α1->α2->α3->α4->α5->Prop}{G:Prop}(h:∃x1 x2 x3 x4 x5,p x1 x2 x3 x4 x5)(k:∀x1 x2 x3 x4 x5,p x1 x2 x3 x4 x5->G):G:=h.elim λx1 h=>eD h (k x1)
theorem gT{α1 α2 α3 α4 α5 α6:Type}{p:α1->α2->α3->α4->α5->α6->Prop}{G:Prop}(h:∃x1 x2 x3 x4 x5 x6,p x1 x2 x3 x4 x5 x6)(k:∀x1 x2 x3 x4 x5 x6,p x1 x2 x3 x4 x5 x6->G):G:=h.elim λx1 h=>jg h (k x1)
theorem qQ{α1 α2 α3 α4 α5 α6 α7:Type}{p:α1->α2->α3->α4->α5->α6->α7->Prop}{G:Prop}(h:∃x1 x2 x3 x4 x5 x6 x7,p x1 x2 x3 x4 x5 x6 x7)(k:∀x1 x2 x3 x4 x5 x6 x7,p x1 x2 x3 x4 x5 x6 x7->G):G:=h.elim λx1 h=>gT h (k x1)
theorem oB{α1 α2 α3 α4 α5 α6 α7 α8:Type}{p:α1->α2->α3->α4->α5->α6->α7->α8->Prop}{G:Prop}(h:∃x1 x2 x3 x4 x5 x6 x7 x8,p x1 x2 x3 x4 x5 x6 x7 x8)(k:∀x1 x2 x3 x4 x5 x6 x7 x8,p x1 x2 x3 x4 x5 x6 x7 x8->G):G:=h.elim λx1 h=>qQ h (k x1)
theorem AW{α1 α2 α3 α4 α5 α6 α7 α8 α9:Type}{p:α1->α2->α3->α4->α5->α6->α7->α8->α9->Prop}{G:Prop}(h:∃x1 x2 x3 x4 x5 x6 x7 x8 x9,p x1 x2 x3 x4 x5 x6 x7 x8 x9)(k:∀x1 x2 x3 x4 x5 x6 x7 x8 x9,p x1 x2 x3 x4 x5 x6 x7 x8 x9->G):G:=h.elim λx1 h=>oB h (k x1)
theorem Gh{α1 α2 α3 α4 α5 α6 α7 α8 α9 α10 α11 α12 α13 α14 α15 α16:Type}{p:α1->α2->α3->α4->α5->α6->α7->α8->α9->α10->α11->α12->α13->α14->α15->α16->Prop}{G:Prop}(h:∃x1 x2 x3 x4 x5 x6 x7 x8 x9 x10 x11 x12 x13 x14 x15 x16,p x1 x2 x3 x4 x5 x6 x7 x8 x9 x10 x11 x12 x13 x14 x15 x16)(k:∀x1 x2 x3 x4 x5 x6 x7 x8 x9 x10 x11 x12 x13 x14 x15 x16,p x1 x2 x3 x4 x5 x6 x7 x8 x9 x10 x11 x12 x13 x14 x15 x16->G):G:=oB h λx1 x2 x3 x4 x5 x6 x7 x8 h=>oB h (k x1 x2 x3 x4 x5 x6 x7 x8)
theorem uO{a b G:Prop}(f:a->G)(g:b->G)(h:a\/b):G:=h.elim f g
theorem ae{a1 a2 G:Prop}(k:a1->a2->G)(h:a1/\a2):G:=ak h k
theorem al{a1 a2 a3 G:Prop}(k:a1->a2->a3->G)(h:a1/\a2/\a3):G:=bN h k
theorem aY{a1 a2 a3 a4 G:Prop}(k:a1->a2->a3->a4->G)(h:a1/\a2/\a3/\a4):G:=cX h k
theorem kI{a1 a2 a3 a4 a5 G:Prop}(k:a1->a2->a3->a4->a5->G)(h:a1/\a2/\a3/\a4/\a5):G:=gN h k
theorem eS{a1 a2 a3 a4 a5 a6 G:Prop}(k:a1->a2->a3->a4->a5->a6->G)(h:a1/\a2/\a3/\a4/\a5/\a6):G:=nq h k
theorem yO{a1 a2 a3 a4 a5 a6 a7 G:Prop}(k:a1->a2->a3->a4->a5->a6->a7->G)(h:a1/\a2/\a3/\a4/\a5/\a6/\a7):G:=Ay h k
theorem LK{a1 a2 a3 a4 a5 a6 a7 a8 G:Prop}(k:a1->a2->a3->a4->a5->a6->a7->a8->G)(h:a1/\a2/\a3/\a4/\a5/\a6/\a7/\a8):G:=sR h k
theorem LV{a1 a2 a3 a4 a5 a6 a7 a8 a9 G:Prop}(k:a1->a2->a3->a4->a5->a6->a7->a8->a9->G)(h:a1/\a2/\a3/\a4/\a5/\a6/\a7/\a8/\a9):G:=yc h k
theorem L3{a1 a2 a3 a4 a5 a6 a7 a8 a9 a10 G:Prop}(k:a1->a2->a3->a4->a5->a6->a7->a8->a9->a10->G)(h:a1/\a2/\a3/\a4/\a5/\a6/\a7/\a8/\a9/\a10):G:=JI h k
theorem uE1.{u1}{α1:Sort u1}{p:α1->Prop}{G:Prop}(k:∀x1,p x1->G)(h:∃x1,p x1):G:=elE1 h k
theorem uE2.{u1,u2}{α1:Sort u1}{α2:Sort u2}{p:α1->α2->Prop}{G:Prop}(k:∀x1 x2,p x1 x2->G)(h:∃x1 x2,p x1 x2):G:=elE2 h k
theorem uE3.{u1,u2,u3}{α1:Sort u1}{α2:Sort u2}{α3:Sort u3}{p:α1->α2->α3->Prop}{G:Prop}(k:∀x1 x2 x3,p x1 x2 x3->G)(h:∃x1 x2 x3,p x1 x2 x3):G:=elE3 h k
theorem l_{α1 α2 α3 α4:Type}{p:α1->α2->α3->α4->Prop}{G:Prop}(k:∀x1 x2 x3 x4,p x1 x2 x3 x4->G)(h:∃x1 x2 x3 x4,p x1 x2 x3 x4):G:=eD h k
theorem Am{α1 α2 α3 α4 α5:Type}{p:α1->α2->α3->α4->α5->Prop}{G:Prop}(k:∀x1 x2 x3 x4 x5,p x1 x2 x3 x4 x5->G)(h:∃x1 x2 x3 x4 x5,p x1 x2 x3 x4 x5):G:=jg h k
theorem L5{α1 α2 α3 α4 α5 α6:Type}{p:α1->α2->α3->α4->α5->α6->Prop}{G:Prop}(k:∀x1 x2 x3 x4 x5 x6,p x1 x2 x3 x4 x5 x6->G)(h:∃x1 x2 x3 x4 x5 x6,p x1 x2 x3 x4 x5 x6):G:=gT h k
theorem LN{α1 α2 α3 α4 α5 α6 α7:Type}{p:α1->α2->α3->α4->α5->α6->α7->Prop}{G:Prop}(k:∀x1 x2 x3 x4 x5 x6 x7,p x1 x2 x3 x4 x5 x6 x7->G)(h:∃x1 x2 x3 x4 x5 x6 x7,p x1 x2 x3 x4 x5 x6 x7):G:=qQ h k
theorem ID{α1 α2 α3 α4 α5 α6 α7 α8:Type}{p:α1->α2->α3->α4->α5->α6->α7->α8->Prop}{G:Prop}(k:∀x1 x2 x3 x4 x5 x6 x7 x8,p x1 x2 x3 x4 x5 x6 x7 x8->G)(h:∃x1 x2 x3 x4 x5 x6 x7 x8,p x1 x2 x3 x4 x5 x6 x7 x8):G:=oB h k
theorem LM{α1 α2 α3 α4 α5 α6 α7 α8 α9:Type}{p:α1->α2->α3->α4->α5->α6->α7->α8->α9->Prop}{G:Prop}(k:∀x1 x2 x3 x4 x5 x6 x7 x8 x9,p x1 x2 x3 x4 x5 x6 x7 x8 x9->G)(h:∃x1 x2 x3 x4 x5 x6 x7 x8 x9,p x1 x2 x3 x4 x5 x6 x7 x8 x9):G:=AW h k
theorem ex2.{u1,u2}{α1:Sort u1}{α2:Sort u2}{p:α1->α2->Prop}(x1:α1)(x2:α2)(h:p x1 x2):∃y1 y2,p y1 y2:=⟨x1,x2,h⟩
theorem ex3.{u1,u2,u3}{α1:Sort u1}{α2:Sort u2}{α3:Sort u3}{p:α1->α2->α3->Prop}(x1:α1)(x2:α2)(x3:α3)(h:p x1 x2 x3):∃y1 y2 y3,p y1 y2 y3:=⟨x1,x2,x3,h⟩
theorem dZ{α1 α2 α3 α4:Type}{p:α1->α2->α3->α4->Prop}(x1:α1)(x2:α2)(x3:α3)(x4:α4)(h:p x1 x2 x3 x4):∃y1 y2 y3 y4,p y1 y2 y3 y4:=⟨x1,x2,x3,x4,h⟩
theorem jz{α1 α2 α3 α4 α5:Type}{p:α1->α2->α3->α4->α5->Prop}(x1:α1)(x2:α2)(x3:α3)(x4:α4)(x5:α5)(h:p x1 x2 x3 x4 x5):∃y1 y2 y3 y4 y5,p y1 y2 y3 y4 y5:=⟨x1,x2,x3,x4,x5,h⟩
theorem ly{α1 α2 α3 α4 α5 α6:Type}{p:α1->α2->α3->α4->α5->α6->Prop}(x1:α1)(x2:α2)(x3:α3)(x4:α4)(x5:α5)(x6:α6)(h:p x1 x2 x3 x4 x5 x6):∃y1 y2 y3 y4 y5 y6,p y1 y2 y3 y4 y5 y6:=⟨x1,x2,x3,x4,x5,x6,h⟩
theorem LZ{α1 α2 α3 α4 α5 α6 α7:Type}{p:α1->α2->α3->α4->α5->α6->α7->Prop}(x1:α1)(x2:α2)(x3:α3)(x4:α4)(x5:α5)(x6:α6)(x7:α7)(h:p x1 x2 x3 x4 x5 x6 x7):∃y1 y2 y3 y4 y5 y6 y7,p y1 y2 y3 y4 y5 y6 y7:=⟨x1,x2,x3,x4,x5,x6,x7,h⟩
theorem GI{α1 α2 α3 α4 α5 α6 α7 α8:Type}{p:α1->α2->α3->α4->α5->α6->α7->α8->Prop}(x1:α1)(x2:α2)(x3:α3)(x4:α4)(x5:α5)(x6:α6)(x7:α7)(x8:α8)(h:p x1 x2 x3 x4 x5 x6 x7 x8):∃y1 y2 y3 y4 y5 y6 y7 y8,p y1 y2 y3 y4 y5 y6 y7 y8:=⟨x1,x2,x3,x4,x5,x6,x7,x8,h⟩
theorem rX{α1 α2 α3 α4 α5 α6 α7 α8 α9:Type}{p:α1->α2->α3->α4->α5->α6->α7->α8->α9->Prop}(x1:α1)(x2:α2)(x3:α3)(x4:α4)(x5:α5)(x6:α6)(x7:α7)(x8:α8)(x9:α9)(h:p x1 x2 x3 x4 x5 x6 x7 x8 x9):∃y1 y2 y3 y4 y5 y6 y7 y8 y9,p y1 y2 y3 y4 y5 y6 y7 y8 y9:=⟨x1,x2,x3,x4,x5,x6,x7,x8,x9,h⟩
@[elab_as_elim] theorem rwr.{u}{α:Sort u}{a b:α}{C:α->Prop}(h:a=b)(k:C b):C a:=h▸k
noncomputable def kq:Code->Bool
 |.builtin id _=>!(Bv.contains id)
 |_=>true
def ny(l:List (Code×Pos)):Prop:=∀x∈l,kq x.1=true
def ag{α:Type}(M:Model)(A:Around)(t:Sem α)(Q:α->Shared->Prop)(E:Value->Shared->Prop)(s:Shared):Prop :=
 ∀Γ p,Γ.In A->kq Γ.code=true->ny Γ.below->Sem.wp M Γ t (λa U s'=>Q a s') (λe U s'=>E e s') p s
def bh(M:Model)(A:Around)(c:Code)(R:Result->Shared->Prop)(s:Shared):Prop :=
 ∀Γ p,Γ.code=c->Γ.Below A->ny Γ.below->wpCode M Γ R p s
section
variable {α β:Type}{M:Model}{A:Around}{E:Value->Shared->Prop}{s:Shared}
theorem wpAny.n{t:Sem α}{Q:α->Shared->Prop}(h:wpAny M A t Q E s):ag M A t Q E s:=λΓ p hΓ U U=>h Γ p hΓ
theorem aF{a:α}{Q:α->Shared->Prop}(h:Q a s):ag M A (pure a) Q E s:=wpAny.n (wpAny_pure h)
theorem aD{t:Sem α}{Q Q':α->Shared->Prop}{E':Value->Shared->Prop}(h:ag M A t Q E s)(hQ:∀a s,Q a s->Q' a s)(hE:∀e s,E e s->E' e s):ag M A t Q' E' s :=
 λΓ p hΓ h1 h2=>pH M Γ t (λa U s=>hQ a s) (λe U s=>hE e s) p s (h Γ p hΓ h1 h2)
theorem ai{m:Sem α}{f:α->Sem β}{Q:β->Shared->Prop}(h:ag M A m (λa s'=>ag M A (f a) Q E s') E s):ag M A (m >>= f) Q E s:=λΓ p hΓ h1 h2=>by
 refine rwr (Sem.wp_bind' ..) ?_
 exact pH M Γ m (λa p' s' h'=>h' Γ p' hΓ h1 h2) (λU U U h'=>h') p s (h Γ p hΓ h1 h2)
theorem me{m:Sem α}{k:Value->Sem Unit}{Q:α->Shared->Prop}(h:ag M A m Q (λe s'=>ag M A (k e) (λU s''=>E e s'') E s') s):ag M A (m.onRaise k) Q E s:=λΓ p hΓ h1 h2=>by
 refine rwr (Sem.wp_onRaise ..) ?_
 exact pH M Γ m (λU U U h'=>h') (λe p' s' h'=>h' Γ p' hΓ h1 h2) p s (h Γ p hΓ h1 h2)
theorem bC{vs:List Value}{m:Sem α}{Q:α->Shared->Prop}(h:ag M A m Q E s):ag M A (holding vs m) Q E s:=λΓ p hΓ h1 h2=>by refine rwr (Sem.wp_holding ..) ?_;exact h Γ p hΓ h1 h2
theorem vE{c:Code}{h:Option Value}{Q:Flow->Shared->Prop}(hc:bh M (A.mark h) c (λr s'=>match r with | .ok f=>Q f s' | .error e=>E e s') s)(hnb:h≠some byPass):ag M A (run c h) Q E s :=
 λΓ p hΓ h1 h2=>by
  refine rwr (Sem.wp_run ..) ?_
  refine hc _ p rfl (hΓ.enter c h p hnb) λx hx=>?_
  refine ao (bZ.mp hx) (λz0=>?_) λhx=>?_ <;>(try subst z0)
  ·exact h1
  ·exact h2 x hx
theorem Io{c:Code}{Q:Value->Shared->Prop}(hc:bh M A c (λr s'=>match r with | .ok (.ret v)=>Q v s' | .ok _=>False | .error e=>E e s') s):ag M A (runValue c) Q E s:=λΓ p hΓ h1 h2=>by
 refine rwr (Sem.wp_runValue ..) ?_
 refine hc _ p rfl (hΓ.enter c Bx p (by intro x;cases x)) λx hx=>?_
 refine ao (bZ.mp hx) (λz0=>?_) λhx=>?_ <;>(try subst z0)
 ·exact h1
 ·exact h2 x hx
theorem jP{f:Value}{pos:List Value}{kw:List (ac×Value)}{Q:Value->Shared->Prop}(hc:bh M A (.call f ⟨pos,kw⟩) (λr s'=>match r with | .ok (.ret v)=>Q v s' | .ok _=>False | .error e=>E e s') s):ag M A (call f pos kw) Q E s:=Io hc
theorem ge{c:Code}{R:Result->Shared->Prop}(hn:kq c=true)
  (h:ag M (A.under c) (M.den c) (λfin s'=>match fin with | .done f=>R (.ok f) s' | .again c'=>c'.quiet=true/\bh M A c' R s') (λe s'=>R (.error e) s') s):bh M A c R s:=λΓ p hc hΓ h2=>by
 refine rwr (propext (wpCode_iff_wp ..)) (rwr (hc ..) ?_)
 refine pH M Γ _ (λfin p' s' h'=>?_) (λU U U h'=>h') p s (h Γ p (hc▸hΓ.in) (by refine rwr (hc ..) ?_;exact hn) h2)
 cases fin with
 |done f=>exact h'
 |again c'=>exact⟨h'.1,h'.2 (Γ.goto c') p' rfl (hΓ.goto c') h2⟩
theorem ee{c:Code}{R R':Result->Shared->Prop}(h:bh M A c R s)(hR:∀r s,R r s->R' r s):bh M A c R' s:=λΓ p hc hΓ h2=>wpCode_mono hR (h Γ p hc hΓ h2)
theorem Fo{Q:List (Code×Pos)->Shared->Prop}(h:∀st:List (Code×Pos),(∀g,A.guards=some g->guardsOf st=g)->ny st->Q st s):ag M A stack Q E s:=λΓ p hΓ h1 h2=>by
 show Q ((Γ.code,p)::Γ.below) s
 refine h _ (λg hg=>by refine rwr (guardsOf_cons ..) ?_;exact hΓ.2.2.2.1 g hg) λx hx=>?_
 refine ao (bZ.mp hx) (λz0=>?_) λhx=>?_ <;>(try subst z0)
 ·exact h1
 ·exact h2 x hx
end
end

section
section
variable {α:Type}{M:Model}{A:Around}{E:Value->Shared->Prop}{s:Shared}{env:Env}{pos:Pos}
theorem a_{p:Pos}{Q:Unit->Shared->Prop}(h:Q () s):ag M A (standAt p) Q E s:=wpAny.n (wpAny_standAt h)
theorem pk{tag:String}{Q:Unit->Shared->Prop}(h:Q () s):ag M A (rule tag) Q E s:=wpAny.n (wpAny_rule h)
theorem lY{vs:List Value}{m:Sem Value}{Q:Value->Shared->Prop}(h:ag M A m Q E s):ag M A (operate vs m) Q E s:=λΓ p hΓ h1 h2=>by refine rwr (Sem.wp_operate ..) ?_;exact h Γ p hΓ h1 h2
theorem fY{t:Sem α}{a:α}{Q:α->Shared->Prop}(e:t=pure a)(h:Q a s):ag M A t Q E s:=e▸aF h
theorem ot{l r:Expr}{op:Operator}{Q:Value->Shared->Prop}(h:ag M A (eval l env) (λa s₁=>ag M A (eval r env) (λb s₂=>ag M A (binaryOp op a b) Q E s₂) E s₁) E s):ag M A (eval (.BinOp l op r pos) env) Q E s:=by
 refine rwr (arm_eval_BinOp ..) ?_
 exact ai (aD h (λa s₁ h₁=>ai (bC (aD h₁ (λb s₂ h₂=>ai (a_ (lY h₂))) λU U x=>x))) λU U x=>x)
theorem C6{l r:Expr}{op:CmpOp}{Q:Value->Shared->Prop}(h:ag M A (eval l env) (λa s₁=>ag M A (eval r env) (λb s₂=>ag M A (compareOp op a b) Q E s₂) E s₁) E s)(hm:behindInMarks op r=false):ag M A (eval (.Compare l [op] [r] pos) env) Q E s:=by
 refine rwr (eval_Compare1 ..) (rwr (markedBehindIn_of_false hm ..) ?_)
 exact ai (aD h (λa s₁ h₁=>ai (bC (aD h₁ (λb s₂ h₂=>ai (a_ (lY h₂))) λU U x=>x))) λU U x=>x)
theorem qJ{l r:Expr}{op:CmpOp}{whole:Sem Value}{Q:Bool->Shared->Prop}(h:ag M A (eval l env) (λa s₁=>ag M A (eval r env) (λb s₂=>ag M A (compareOp op a b) (λv s₃=>ag M A (truthy v) Q E s₃) E s₂) E s₁) E s)(hm:behindInMarks op r=false):
  ag M A (isTrue (.Compare l [op] [r] pos) env whole) Q E s:=by
 refine rwr (isTrue_Compare1 ..) (rwr (markedBehindIn_of_false hm ..) ?_)
 exact ai (aD h (λa s₁ h₁=>ai (bC (aD h₁ (λb s₂ h₂=>ai (a_ (ai (lY (aD h₂ (λv s₃ h₃=>bC h₃) λU U x=>x))))) λU U x=>x))) λU U x=>x)
theorem Ct{op:UnaryOp}{x:Expr}{Q:Value->Shared->Prop}(h:ag M A (eval x env) (λv s₁=>ag M A (unaryOp op v) Q E s₁) E s):ag M A (eval (.UnaryOp op x pos) env) Q E s:=by
 refine rwr (arm_eval_UnaryOp ..) ?_
 exact ai (aD h (λv s₁ h₁=>ai (a_ (bC h₁))) λU U x=>x)
theorem GD{test body orelse:Expr}{Q:Value->Shared->Prop}(h:ag M A (isTrue test env (eval test env)) (λb s₁=>if b then ag M A (eval body env) Q E s₁ else ag M A (eval orelse env) Q E s₁) E s):ag M A (eval (.IfExp test body orelse pos) env) Q E s:=by
 refine rwr (arm_eval_IfExp ..) ?_
 refine ai (aD h (λb s₁ h₁=>?_) λU U x=>x)
 cases b <;>exact h₁
theorem nS{x:ac}{Q:Value->Shared->Prop}(h:ag M A (loadName env x) Q E s)(hd:(x==("__debug__" : ac))=false):ag M A (eval (.Name x pos) env) Q E s:=by
 refine rwr (eval_Name env x pos hd ..) ?_
 exact ai (a_ h)
theorem jy{Q:Flow->Shared->Prop}(h:Q .next s):ag M A (execs [] env) Q E s:=wpAny.n (wpAny_execs_nil h)
theorem lW{st:Stmt}{rest:List Stmt}{Q:Flow->Shared->Prop}(h:ag M A (exec st env) (λf s'=>match f with | .next=>ag M A (execs rest env) Q E s' | f=>Q f s') E s):ag M A (execs (st::rest) env) Q E s:=by
 refine rwr (execs_cons ..) ?_
 refine ai (aD h (λf s' h'=>?_) λU U x=>x)
 cases f <;>first | exact h' | exact aF h'
end
end

section
section
variable {α:Type}{M:Model}{A:Around}{E:Value->Shared->Prop}{s:Shared}{env:Env}{pos:Pos}
theorem o9{Q:List Value->Shared->Prop}(h:Q [] s):ag M A (spliced []) Q E s:=aF h
theorem nR{x:Sem Value}{rest:List (Bool×Sem Value)}{Q:List Value->Shared->Prop}(h:ag M A x (λv s₁=>ag M A (spliced rest) (λvs s₂=>Q (v::vs) s₂) E s₁) E s):ag M A (spliced ((false,x)::rest)) Q E s:=by
 rw[spliced]
 refine ai (aD h (λv s₁ h₁=>?_) λU U x=>x)
 simp only[iu,if_false]
 exact ai (aF (ai (bC (aD h₁ (λvs s₂ h₂=>aF h₂) λU U x=>x))))
theorem kX{f:Value}{x:Sem Value}{rest:List (Bool×Sem Value)}{Q:Args->Shared->Prop}(h:ag M A (spliced ((false,x)::rest)) (λvs s'=>Q ⟨vs,[]⟩ s') E s):ag M A (evalArgs f true ((false,x)::rest) []) Q E s:=by
 unfold evalArgs
 show ag M A (spliced ((false,x)::rest) >>= _) Q E s
 refine ai (aD h (λvs s' h'=>?_) λU U x=>x)
 refine bC ?_
 exact ai (aF (ai (aF (aF h'))))
theorem nx{f:Value}{Q:Args->Shared->Prop}(h:Q ⟨[],[]⟩ s):ag M A (evalArgs f true [] []) Q E s:=wpAny.n (evalArgs_nil3 h)
theorem FS{Q:Unit->Shared->Prop}(h:Q () s):ag M A point Q E s:=wpAny.n (wpAny_point h)
theorem JQ{vs:List Value}{m:Sem α}{Q:α->Shared->Prop}(h:ag M A m Q E s):ag M A (m.keep vs) Q E s:=λΓ p hΓ h1 h2=>by refine rwr (Sem.wp_keep ..) ?_;exact h Γ p hΓ h1 h2
theorem iH{P:Heap->Prop}{f:Value}{first:List Value}{args:List (Bool×Sem Value)}{Q:Value->Shared->Prop}(hplain:args.any (·.1)=false)(hk:∀h,P h->∃k,(k=Keeper.frame\/k=Keeper.machine\/k=Keeper.boundFrame)/\Looks M h (keeperOf f) k)
  (h:ag M A (evalArgs f true args []) (λa s₁=>P s₁.heap/\ag M A (call f (first++a.pos) a.kw) Q E s₁) E s):ag M A (callWith pos f first args []) Q E s:=by
 unfold callWith
 refine ai (bC (aD h (λa s₁ h₁=>ai (a_ ?_)) λU U x=>x))
 refine elE1 (hk _ h₁.1) λk=>ae λhk' L=>?_
 simp -iota only [hplain,List.any_nil,Bool.or_false]
 refine ai (wpAny.n (L.here ?_))
 have tail:∀{t:Sem Value},ag M A t Q E s₁->ag M A (t >>= λr=>holding [r] point >>= λU=>pure r) Q E s₁ :=
  λht=>ai (aD ht (λr s₂ hr=>ai (bC (FS (aF hr)))) λU U x=>x)
 have marked (mk:Value):ag M A (callMarked mk f (first++a.pos) a.kw) Q E s₁:=by unfold callMarked;exact JQ h₁.2
 refine ao hk' (λz0=>?_) (uO (λz1=>?_) (λz2=>?_)) <;>clear hk' <;>(try subst z0) <;>(try subst z1) <;>(try subst z2) <;>dsimp only <;>first | exact tail h₁.2 | (split <;>first | exact tail h₁.2 | exact tail (marked _))
theorem jv{x:ac}{np:Pos}{args:List Expr}{Q:Value->Shared->Prop}(h:ag M A (eval (.Name x np) env) (λf s₁=>ag M A (callWith pos f [] (backTo pos (starEach args env)) []) Q E s₁) E s):ag M A (eval (.Call (.Name x np) args [] pos) env) Q E s:=by
 show ag M A (do callWith pos (<-eval (.Name x np) env) [] (backTo pos (starEach args env)) (backToKw pos (keywordEach [] env))) Q E s
 exact ai h
theorem nN{value slice:Expr}{Q:Value->Shared->Prop}(h:ag M A (eval value env) (λo s₁=>ag M A (eval slice env) (λi s₂=>ag M A (subscriptTail value slice o i) Q E s₂) E s₁) E s):ag M A (eval (.Subscript value slice pos) env) Q E s:=by
 refine rwr (eval_Subscript ..) ?_
 exact ai (aD h (λo s₁ h₁=>ai (bC (aD h₁ (λi s₂ h₂=>ai (a_ h₂)) λU U x=>x))) λU U x=>x)
theorem F9{test:Expr}{body orelse:List Stmt}{Q:Flow->Shared->Prop}(h:ag M A (isTrue test env (eval test env)) (λb s₁=>if b then ag M A (execs body env) Q E s₁ else ag M A (execs orelse env) Q E s₁) E s):ag M A (exec (.If test body orelse pos) env) Q E s:=by
 refine rwr (exec_If ..) ?_
 refine ai (a_ (ai (aD h (λb s₁ h₁=>?_) λU U x=>x)))
 cases b <;>exact h₁
theorem Jc{e:Expr}{Q:Flow->Shared->Prop}(h:ag M A (eval e env) (λv s₁=>Q (.ret v) s₁) E s):ag M A (exec (.Return (some e) pos) env) Q E s:=by
 refine rwr (exec_Return_some ..) ?_
 exact ai (a_ (ai (aD h (λv s₁ h₁=>aF h₁) λU U x=>x)))
end
end

section
section
variable {α:Type}{prog:Program}{w:World}{A:Around}{E:Value->Shared->Prop}{s:Shared}{env:Env}{pos:Pos}
theorem tJ{e:Expr}{Q:Flow->Shared->Prop}(h:ag (model prog w) A (eval e env) (λU=>Q .next) E s)(hi:interactive env=false)(hs:swapsWith e Bx pos.line env=pure false):ag (model prog w) A (exec (.Expr e pos) env) Q E s:=by
 refine rwr (exec_Expr env e pos hi hs ..) ?_
 exact ai (a_ (ai (aD h (λv s' h'=>wpAny.n (wpAny_dropValue h')) λU U x=>x)))
theorem zg{c:Code}{h:Option Value}{Q:Flow->Shared->Prop}(hc:bh (model prog w) (A.mark h) c (λr s'=>match r with | .ok f=>Q f s' | .error e=>cameBackBy (model prog w) A env E e s') s)(hnb:h≠some byPass):ag (model prog w) A (runOwn c env h) Q E s:=by
 unfold runOwn
 refine me (vE (ee hc λr s' hr=>?_) hnb)
 cases r with
 |ok f=>exact hr
 |error e=>exact wpAny.n hr
theorem q8{m:Sem α}{Q:α->Shared->Prop}(h:ag (model prog w) A m Q (notedBy (model prog w) A env E) s):ag (model prog w) A (m.onRaise λx=>do noteFrame x env;theTreesLotGoes x) Q E s :=
 me (aD h (λU U h'=>h') λe s' h'=>wpAny.n (wpAny_bind (wpAny_mono h' (λU U q=>wpAny_theTreesLotGoes q) λU U q=>q)))
theorem Gy{stmts:List Stmt}{R:Result->Shared->Prop}(h:ag (model prog w) A (execs stmts env) (λf s'=>R (.ok f) s') (notedBy (model prog w) A env λe s'=>R (.error e) s') s):bh (model prog w) A (.block stmts env) R s:=by
 refine ge rfl ?_
 show ag _ _ (do return Fin.done (<-(execs stmts env).onRaise (λx=>do noteFrame x env;theTreesLotGoes x))) _ _ s
 exact ai (q8 (aD h (λf s' h'=>aF h') λU U h'=>h'))
theorem sr{c:Code}{R:Result->Shared->Prop}{M:Model}(hn:kq c=true)(hq:c.quiet=true)(I:Nat->Shared->Prop)
  (turn:∀n s,I n s->ag M (A.under c) (M.den c) (λfin s'=>match fin with
    |.done f=>R (.ok f) s'
    |.again c'=>(c'=c/\∃m,m<n/\I m s')\/(c'.quiet=true/\bh M A c' R s')) (λe s'=>R (.error e) s') s)
  (n:Nat) (h:I n s):bh M A c R s:=by
 induction n using Nat.strongRecOn generalizing s with
 |ind n ih =>
  refine ge hn (aD (turn n s h) (λfin s' hf=>?_) λU U h'=>h')
  cases fin with
  |done f=>exact hf
  |again c' =>
   refine ao hf (λz0=>?_) λhf=>?_ <;>(try rcases z0 with ⟨rfl,m,hm,hI⟩)
   ·exact⟨hq,ih m hm hI⟩
   ·exact hf
end
end

section
section
variable {α:Type}{prog:Program}{w:World}{A:Around}{E:Value->Shared->Prop}{s:Shared}{env:Env}{pos:Pos}
def lw(I:Nat->Shared->Prop)(R:Result->Shared->Prop)(n:Nat):Flow->Shared->Prop
 |.next,s=>∃m,m<n/\I m s
 |.cont,s=>∃m,m<n/\I m s
 |.brk,s=>R (.ok .next) s
 |.ret v,s=>R (.ok (.ret v)) s
def d6(prog:Program)(w:World)(A:Around)(env:Env)(R:Result->Shared->Prop):Value->Shared->Prop:=notedBy (model prog w) A env λe s'=>R (.error e) s'
def qZ(R:Result->Shared->Prop)(f:Flow)(s:Shared):Prop:=R (.ok f) s
def Cu(prog:Program)(w:World)(A:Around)(env:Env)(body orelse:List Stmt)(I:Nat->Shared->Prop)(R:Result->Shared->Prop)(n:Nat):Bool->Shared->Prop
 |true,s=>ag (model prog w) A (execs body env) (lw I R n) (d6 prog w A env R) s
 |false,s=>ag (model prog w) A (execs orelse env) (qZ R) (d6 prog w A env R) s
def xS(prog:Program)(w:World)(A:Around)(env:Env)(body:List Stmt)(I:Nat->Shared->Prop)(R:Result->Shared->Prop)(n:Nat)(s:Shared):Prop:=ag (model prog w) A (execs body env) (lw I R n) (d6 prog w A env R) s
def pr(prog:Program)(w:World)(A:Around)(env:Env)(target:Expr)(it v:Value)(E:Value->Shared->Prop)(B:Shared->Prop)(s:Shared):Prop :=
 ag (model prog w) A (letOwnedTupleGo target it v) (λU s₁=>ag (model prog w) A (assign target env v) (λU s₂=>B s₂) E s₁) E s
def Ia(prog:Program)(w:World)(A:Around)(env:Env)(target:Expr)(it:Value)(body orelse:List Stmt)(I:Nat->Shared->Prop)(R:Result->Shared->Prop)(n:Nat):Option Value->Shared->Prop
 |none,s=>ag (model prog w) A (execs orelse env) (qZ R) (d6 prog w A env R) s
 |some v,s=>pr prog w A env target it v (d6 prog w A env R) (xS prog w A env body I R n) s
def eH(prog:Program)(w:World)(A:Around)(env:Env)(Q:Flow->Shared->Prop)(E:Value->Shared->Prop):Result->Shared->Prop
 |.ok f,s=>Q f s
 |.error e,s=>cameBackBy (model prog w) A env E e s
theorem Iv{test:Expr}{body orelse:List Stmt}{R:Result->Shared->Prop}(I:Nat->Shared->Prop)
  (turn:∀n s,I n s->ag (model prog w) A (isTrue test env (eval test env)) (Cu prog w A env body orelse I R n) (d6 prog w A env R) s)
  (n:Nat) (h:I n s):bh (model prog w) A (.whileLoop test body orelse env) R s:=by
 refine sr rfl rfl I (λn s hI=>?_) n h
 show ag _ A ((whileTurn test body orelse env).onRaise (λx=>do noteFrame x env;theTreesLotGoes x)) _ _ s
 refine q8 ?_
 simp only[whileTurn]
 refine ai (aD (turn n s hI) (λb s₂ h₂=>?_) λU U h'=>h')
 cases b with
 |false =>
  have h₂:ag (model prog w) A (execs orelse env) (qZ R) (d6 prog w A env R) s₂:=h₂
  simp only[iu,if_false]
  exact ai (aD h₂ (λf s₃ h₃=>aF h₃) λU U h'=>h')
 |true =>
  have h₂:ag (model prog w) A (execs body env) (lw I R n) (d6 prog w A env R) s₂:=h₂
  simp only[if_true]
  refine ai (aD h₂ (λf s₃ h₃=>?_) λU U h'=>h')
  cases f with
  |next=>exact aF (.inl ⟨rfl,h₃⟩)
  |cont=>exact aF (.inl ⟨rfl,h₃⟩)
  |brk=>exact aF h₃
  |ret v=>exact aF h₃
theorem EP{test:Expr}{body orelse:List Stmt}{Q:Flow->Shared->Prop}(h:bh (model prog w) A (.whileLoop test body orelse env) (eH prog w A env Q E) s):
  ag (model prog w) A (exec (.While test body orelse pos) env) Q E s:=by
 refine rwr (exec_While ..) ?_;exact ai (a_ (zg (ee h λr s h=>by cases r <;>exact h) (λx=>nomatch x)))
theorem Co{target:Expr}{it:Value}{body orelse:List Stmt}{R:Result->Shared->Prop}(I:Nat->Shared->Prop)
  (turn:∀n s,I n s->ag (model prog w) A (pyNext it) (Ia prog w A env target it body orelse I R n) (d6 prog w A env R) s)
  (n:Nat) (h:I n s):bh (model prog w) A (.forLoop target it body orelse env) R s:=by
 refine sr rfl rfl I (λn s hI=>?_) n h
 show ag _ A ((forTurn target it body orelse env).onRaise (λx=>do noteFrame x env;theTreesLotGoes x)) _ _ s
 refine q8 ?_
 simp only[forTurn]
 refine ai (a_ (ai (me (aD (turn n s hI) (λr s₁ h₁=>?_) λU U h'=>a_ h'))))
 cases r with
 |none=>exact aF (.inr ⟨rfl,Gy h₁⟩)
 |some v =>
  have h₁:pr prog w A env target it v (d6 prog w A env R) (xS prog w A env body I R n) s₁:=h₁
  unfold pr at h₁
  refine ai (aD h₁ (λU s₁' h₁'=>?_) λU U h'=>h')
  refine ai (aD h₁' (λU s₂ h₂=>?_) λU U h'=>h')
  have h₂:ag (model prog w) A (execs body env) (lw I R n) (d6 prog w A env R) s₂:=h₂
  refine ai (aD h₂ (λf s₃ h₃=>?_) λU U h'=>h')
  cases f with
  |next=>exact aF (.inl ⟨rfl,h₃⟩)
  |cont=>exact aF (.inl ⟨rfl,h₃⟩)
  |brk=>exact aF h₃
  |ret v=>exact aF h₃
theorem th{target iter:Expr}{body orelse:List Stmt}{Q:Flow->Shared->Prop}
  (h:ag (model prog w) A (eval iter env) (λx s₁=>ag (model prog w) A (pyIter x) (λit s₂ =>
   bh (model prog w) A (.forLoop target it body orelse env) (eH prog w A env Q E) s₂) E s₁) E s)
  (hs:∀x,foldedSetIterable iter env x=pure x):ag (model prog w) A (exec (.For target iter body orelse pos) env) Q E s:=by
 refine rwr (exec_For ..) ?_
 exact ai (a_ (ai (aD h (λx s₁ h₁=>ai (fY (hs x) (ai (a_ (ai (bC (aD h₁ (λit s₂ h₂=>zg (ee h₂ λr s h=>by cases r <;>exact h) (λx=>nomatch x)) λU U x=>x))))))) λU U x=>x)))
end
end

section
section
variable {α:Type}{prog:Program}{w:World}{A:Around}{E:Value->Shared->Prop}{s:Shared}{env:Env}{pos:Pos}{R:Result->Shared->Prop}
theorem w4{body:List Stmt}(h:ag (model prog w) (A.deeper env) (execs body env) (λf s'=>R (.ok (.ret (match f with | .ret v=>v | _=>.none))) s')
   (λe s'=>wpAny (model prog w) (A.deeper env) (leaving env e) (λU s''=>R (.error e) s'') (λe' s''=>R (.error e') s'') s') s):bh (model prog w) A (.func body env) R s:=by
 refine ge rfl ?_
 show ag _ (A.deeper env) (do point;match <-(execs body env).onRaise (leaving env) with | .ret v=>ret v | _=>ret .none) _ _ s
 refine ai (wpAny.n (wpAny_point ?_))
 refine ai (me (aD h (λf s' h'=>?_) λU U h'=>wpAny.n h'))
 cases f <;>exact aF h'
theorem Fc{a:Addr}{o:au}{fd:FuncData}{body:List Stmt}{args:Args}{binds:List (ac×Value)}
  (hroom:A.depth<recursionLimit) (ho:s.heap.get? a=some o) (hdata:o.data=.func fd) (hlim:s.heap.NoLimit) (hcd:s.heap.CodeRec fd.code fd.qualname)
  (hbody:fd.body=.stmts body) (hbind:BindsTo s fd args binds) (hcell:∀x∈fd.scope.names,x.2≠.cell) (hloc:∀x∈binds,fd.scope.names.lookup x.1=some .local)
  (h:∀h₀,h₀.Ns s.heap.objs.size (λx=>binds.reverse.lookup x)->(∀b o,s.heap.get? b=some o->h₀.get? b=some o) ->
   ag (model prog w) (A.deeper (callEnv fd s.heap.objs.size a)) (execs body (callEnv fd s.heap.objs.size a)) (λf s'=>R (.ok (.ret (match f with | .ret v=>v | _=>.none))) s')
    (λe s'=>wpAny (model prog w) (A.deeper (callEnv fd s.heap.objs.size a)) (leaving (callEnv fd s.heap.objs.size a) e) (λU s''=>R (.error e) s'') (λe' s''=>R (.error e') s'') s')
    { s with heap:=h₀,toks:=s.toks+binds.length })
  (hco:fd.scope.isCoroutine=false) (hgen:fd.scope.isGenerator=false) (hk:fd.scope.kind=.function):bh (model prog w) A (.call (.ref a) args) R s:=by
 refine ge rfl ?_
 show ag _ A.in1 (callAny (.ref a) args) _ _ s
 show ag _ A.in1 (load a >>= _) _ _ s
 refine ai (wpAny.n (wpAny_load ho ?_))
 refine eD hcd λc oc vs tq=>aY λhc hoc hdc hq=>?_;clear hcd
 refine rwr (hdata ..) ?_
 show ag _ A.in1 (callFunction a fd args) _ _ s
 delta callFunction
 simp -iota only [hco,hgen,hbody,hc]
 refine ai (m:=field (.ref c) 1) (wpAny.n (wpAny_field hoc hdc hq ?_))
 refine ai (aF ?_)
 refine ai (wpAny.n (hbind _ _ _ _ ?_))
 refine ai (wpAny.n (wpAny_newFunctionEnv hcell hloc (λh₀ hns₀ hsb₀=>?_) hk))
 refine ai (wpAny.n (wpAny_enterFrame (hlim.fresh _ hsb₀) hroom ?_))
 have hh:=h h₀ hns₀ λb o e=>hsb₀.extBut b o (k8 (cL e)) (eA _ e)
 refine aF ⟨rfl,w4 ?_⟩
 unfold callEnv at hh
 rw[hc]at hh
 exact hh
end
end

section
section
variable {α:Type}{M:Model}{A:Around}{E:Value->Shared->Prop}{s:Shared}{env:Env}{pos:Pos}
theorem JJ{elts:List Expr}{k:Nat}{Q:Value->Shared->Prop}(h:ag M A (spliced (backTo pos (starEach elts env))) (λvs s₁=>wpAny M A (newTuple vs) Q E s₁) E s):ag M A (eval (.Tuple elts k pos) env) Q E s:=by
 refine rwr (arm_eval_Tuple ..) ?_
 exact ai (a_ (ai (aD h (λU U h'=>wpAny.n h') λU U x=>x)))
theorem z7{elts:List Expr}{Q:Value->Shared->Prop}(h:ag M A (spliced (backTo pos (starEach elts env))) (λvs s₁=>wpAny M A (newList vs) Q E s₁) E s):ag M A (eval (.List elts pos) env) Q E s:=by
 refine rwr (arm_eval_List ..) ?_
 exact ai (a_ (ai (aD h (λU U h'=>wpAny.n h') λU U x=>x)))
theorem HI{x:Expr}{whole:Sem Value}{Q:Bool->Shared->Prop}(h:ag M A (isTrue x env (eval x env)) (λc s'=>Q (!c) s') E s):ag M A (isTrue (.UnaryOp .Not x pos) env whole) Q E s:=by
 show ag M A (do return !(<-isTrue x env (eval x env))) Q E s
 exact ai (aD h (λc s' h'=>aF h') λU U x=>x)
theorem GO{x:Expr}{rest:List Expr}{whole:Sem Value}{Q:Bool->Shared->Prop}(h:ag M A (isTrue x env (eval x env)) (λc s'=>if c then ag M A (isTrue (.BoolOp .And rest pos) env whole) Q E s' else Q false s') E s):
  ag M A (isTrue (.BoolOp .And (x::rest) pos) env whole) Q E s:=by
 show ag M A (do
  match BoolOp.And,<-isTrue x env (eval x env) with
  |.And,false=>pure false
  |.Or,true=>pure true
  |_,_=>allTrue .And rest env) Q E s
 refine ai (aD h (λc s' h'=>?_) λU U x=>x)
 cases c with
 |false=>exact aF h'
 |true=>exact h'
theorem qe{x:Expr}{rest:List Expr}{whole:Sem Value}{Q:Bool->Shared->Prop}(h:ag M A (isTrue x env (eval x env)) (λc s'=>if c then Q true s' else ag M A (isTrue (.BoolOp .Or rest pos) env whole) Q E s') E s):
  ag M A (isTrue (.BoolOp .Or (x::rest) pos) env whole) Q E s:=by
 show ag M A (do
  match BoolOp.Or,<-isTrue x env (eval x env) with
  |.And,false=>pure false
  |.Or,true=>pure true
  |_,_=>allTrue .Or rest env) Q E s
 refine ai (aD h (λc s' h'=>?_) λU U x=>x)
 cases c with
 |false=>exact h'
 |true=>exact aF h'
theorem GX{lower upper step:Option Expr}{Q:Value->Shared->Prop}
  (h:ag M A (evalPart lower env) (λl s₁=>ag M A (evalPart upper env) (λu s₂=>ag M A (evalPart step env) (λst s₃ =>
   Q (.ref s₃.heap.objs.size) { s₃ with heap:=s₃.heap.push { cls:=.type "slice",data:=.fields #[l,u,st] } }) E s₂) E s₁) E s):
  ag M A (eval (.Slice lower upper step pos) env) Q E s:=by
 refine rwr (arm_eval_Slice ..) ?_
 exact ai (aD h (λl s₁ h₁=>ai (bC (aD h₁ (λu s₂ h₂=>ai (bC (aD h₂ (λst s₃ h₃=>wpAny.n (wpAny_newObj_type h₃)) λU U x=>x))) λU U x=>x))) λU U x=>x)
theorem qR{x:ac}{pos':Pos}{value:Expr}{Q:Flow->Shared->Prop}(h:ag M A (eval value env) (λv s₁=>wpAny M A (storeName env x v) (λU=>Q .next) E s₁) E s)
  (hs:swapsWith value (some (.Name x pos')) pos.line env=pure false):ag M A (exec (.Assign [.Name x pos'] value pos) env) Q E s:=by
 refine rwr (exec_Assign_Name (env:=env) x pos' value pos hs) ?_
 exact ai (a_ (ai (aD h (λv s₁ h₁=>wpAny.n (wpAny_bind (wpAny_standAt (wpAny_bind (wpAny_bindName (wpAny_mono h₁ (λU U h'=>wpAny_pure h') λU U x=>x)))))) λU U x=>x)))
theorem IW{o:Expr}{attr:ac}{pos':Pos}{value:Expr}{Q:Flow->Shared->Prop}
  (h:ag M A (eval value env) (λv s₁=>ag M A (eval o env) (λov s₂=>wpAny M A (setAttr ov attr v) (λU=>Q .next) E s₂) E s₁) E s)
  (hs:swapsWith value (some (.Attribute o attr pos')) pos.line env=pure false):
  ag M A (exec (.Assign [.Attribute o attr pos'] value pos) env) Q E s:=by
 refine rwr (plainObj_exec_Assign_Attribute (env:=env) o attr pos' value pos hs) ?_
 refine ai (a_ (ai (aD h (λv s₁ h₁=>?_) λU U x=>x)))
 refine rwr (assign_Attribute ..) ?_
 refine ai (ai (bC (aD h₁ (λov s₂ h₂=>?_) λU U x=>x)))
 refine wpAny.n (wpAny_bind (wpAny_standAt (wpAny_bind (wpAny_holding (wpAny_mono h₂ (λU s₃ h₃=>?_) λU U x=>x)))))
 intro Γ p hΓ
 refine rwr (Sem.wp_release ..) ?_
 exact aF h₃
theorem ER{x:ac}{pos':Pos}{op:Operator}{value:Expr}{Q:Flow->Shared->Prop}
  (h:wpAny M A (loadName env x) (λold s₁=>ag M A (eval value env) (λv s₂=>ag M A (inplaceOp op old v)
   (λr s₃=>wpAny M A (storeName env x r) (λU=>Q .next) E s₃) E s₂) E s₁) E s):
  ag M A (exec (.AugAssign (.Name x pos') op value pos) env) Q E s:=by
 refine rwr (exec_AugAssign_Name ..) ?_
 refine ai (a_ (ai (wpAny.n (wpAny_mono h (λold s₁ h₁=>?_) λU U x=>x))))
 refine ai (bC (aD h₁ (λv s₂ h₂=>?_) λU U x=>x))
 refine ai (a_ (ai (lY (aD h₂ (λr s₃ h₃=>?_) λU U x=>x))))
 exact wpAny.n (wpAny_bind (wpAny_standAt (wpAny_bind (wpAny_bindName (wpAny_mono h₃ (λU U h'=>wpAny_pure h') λU U x=>x)))))
theorem Ig{o value:Expr}{attr:ac}{tpos:Pos}{op:Operator}{Q:Flow->Shared->Prop}
  (h:ag M A (eval o env) (λov s₁=>wpAny M A (getAttr ov attr true) (λold s₂ =>
     ag M A (eval value env) (λv s₃=>ag M A (inplaceOp op old v) (λnew s₄ =>
      wpAny M A (setAttr ov attr new) (λU=>Q .next) E s₄) E s₃) E s₂) E s₁) E s):
  ag M A (exec (.AugAssign (.Attribute o attr tpos) op value pos) env) Q E s:=by
 have e:exec (.AugAssign (.Attribute o attr tpos) op value pos) env=(do
   standAt pos
   let ov <-eval o env
   let new <-holding [ov] do
    standAt tpos.atName
    let old <-getAttr ov attr true
    let v <-holding [old] (eval value env)
    standAt pos
    operate [old,v] (inplaceOp op old v)
   standAt tpos.atName
   holding [new,ov] (setAttr ov attr new)
   release [new,ov] []
   pure .next):=rfl
 refine rwr (e ..) ?_
 refine ai (a_ (ai (aD h (λov s₁ h₁=>?_) λU U x=>x)))
 refine ai (bC (ai (a_ (ai (wpAny.n (wpAny_mono h₁ (λold s₂ h₂=>?_) λU U x=>x))))))
 refine ai (bC (aD h₂ (λv s₃ h₃=>?_) λU U x=>x))
 refine ai (a_ (lY (aD h₃ (λnew s₄ h₄=>?_) λU U x=>x)))
 refine wpAny.n (wpAny_bind (wpAny_standAt (wpAny_bind (wpAny_holding (wpAny_mono h₄ (λU s₅ h₅=>?_) λU U x=>x)))))
 intro Γ p hΓ
 refine rwr (Sem.wp_bind' ..) (rwr (Sem.wp_release ..) ?_)
 exact wpAny_pure h₅ Γ _ hΓ
set_option tactic.hygienic true in
theorem Dl{out:ac}{x:Sem Value}{rest:List (Sem Value)}{Q:Value->Shared->Prop}
  (h:ag M A x (λv s₁=>match v with | .str y _=>(out++y).length<=sizeLine/\ag M A (joinParts (out++y) rest) Q E s₁ | _=>False) E s):ag M A (joinParts out (x::rest)) Q E s:=by
 rw[joinParts]
 refine ai (aD h (λv s₁ h₁=>?_) λU U e=>e)
 cases v <;>first
  |exact h₁.elim
  |(rename_i y _
    have hz':¬ (out.length+y.length>sizeLine):=by refine rwr (aM (strLen_append ..)) ?_;exact j9.mpr h₁.1
    refine ai (aF ?_)
    show ag M A (if out.length+y.length>sizeLine then _ else _) Q E s₁
    refine rwr (if_neg hz' ..) ?_
    first | exact h₁.2 | exact ai (aF h₁.2))
theorem zh{Q:List Value->Shared->Prop}(h:Q [] s):ag M A (spliced (backTo pos (starEach [] env))) Q E s:=o9 h
theorem HN{e:Expr}{rest:List Expr}{Q:List Value->Shared->Prop}
  (h:ag M A (eval e env) (λv s₁=>ag M A (spliced (backTo pos (starEach rest env))) (λvs s₂=>Q (v::vs) s₂) E s₁) E s)
  (he:starEach (e::rest) env=(false,eval e env)::starEach rest env):ag M A (spliced (backTo pos (starEach (e::rest) env))) Q E s:=by
 refine rwr (he ..) ?_;exact nR h
theorem GF{x:Sem Value}{Q:Flow->Shared->Prop}(h:ag M A x (λv s₁=>wpAny M A (raiseStmt env (some (pure v)) Bx) Q E s₁) E s):ag M A (raiseStmt env (some x) Bx) Q E s:=by
 have e:raiseStmt env (some x) Bx=x >>= λv=>raiseStmt env (some (pure v)) Bx:=by
  unfold raiseStmt
  rfl
 refine rwr (e ..) ?_
 exact ai (aD h (λU U h'=>wpAny.n h') λU U x=>x)
end
end

section
section
variable {prog:Program}{w:World}{A:Around}{C:Addr}{R:Result->Shared->Prop}{h:Heap}{g:Array GenState}{d:Drawn}{t:Nat}{os:OsState}
theorem yP{id:String}{args:Args}{b:Builtin}{s:Shared}(hn:kq (.builtin id args)=true)(hq:(Code.builtin id args).quiet=true)(hb:entryFor table id=some b)
  (h:wpAny (model prog w) A.in1 (checkBuiltinCall id args) (λU s₁=>ag (model prog w) (A.under (.builtin id args)) (b args)
   (λfin s'=>match fin with | .done f=>R (.ok f) s' | .again c'=>c'.quiet=true/\bh (model prog w) A c' R s') (λe s'=>R (.error e) s') s₁)
   (λe s'=>R (.error e) s') s):bh (model prog w) A (.call (.builtin id) args) R s:=by
 refine ge rfl ?_
 show ag _ A.in1 (do checkBuiltinCall id args;again (.builtin id args)) _ _ s
 refine ai (wpAny.n (wpAny_mono h (λU s₁ h₁=>aF (dg hq (ge hn ?_))) λU U h'=>h'))
 show ag _ _ (match entryFor table id with | some b=>b args | Bx=>unsupported ((withoutEnding? id "#data").getD id)) _ _ s₁
 refine rwr (hb ..) ?_;exact h₁
theorem Ee{rest:List Value}{init:Value}(Y:Makes (model prog w) h C)(hi:Looks (model prog w) h (typeLookup (.ref C) "__init__") (some init))
  (hb:∀self,Looks (model prog w) h (bindSpecial init self) (init,[self])) (hne:(some init != some (Value.builtin "object.__init__"))=true)
  (hq:bh (model prog w) (A.under (.builtin "type.__call__" ⟨.ref C::rest,[]⟩)) (.call init ⟨.ref (h.objs.size+1)::rest,[]⟩) (InitBack (h.objs.size+1) R) ⟨(h.push emptyDict).push (instObj C h.objs.size),g,d,t,os⟩):
  bh (model prog w) A (.call (.ref C) ⟨rest,[]⟩) R ⟨h,g,d,t,os⟩:=by
 have Y':=Y
 obtain⟨⟨oc,od,cd,sl,hC,e1,e2,e4⟩,made,base,self,top,call,typ⟩:=Y
 refine ge rfl ?_
 show ag _ _ (callAny (.ref C) _) _ _ _
 show ag _ _ (load _ >>= _) _ _ _
 refine ai (wpAny.n (wpAny_load hC ?_))
 show ag _ _ (callAny.viaDunder (.ref C) _) _ _ _
 unfold callAny.viaDunder
 refine ai (wpAny.n (call.at ?_))
 dsimp only
 refine rwr (tc_bind ..) ?_
 refine ai (aF (ai (aF ?_)))
 refine aF (a:=Fin.again (.call (.builtin "type.__call__") ⟨.ref C::rest,[]⟩)) (dg rfl ?_)
 refine yP (show (!(Bv.contains "type.__call__"))=true by decide +kernel) (Code.quiet_builtin _ (by decide +kernel)) entry_typeCall (check_slot tc_kind tc_split typ (tc_args _ _ _) ?_)
 unfold Builtin.«type.__call__»
 have hm:Looks (model prog w) h (mroOf (.ref C)) cd.mro:=((Looks.ld (part:=Bx) hC).andThen .now).andThen .now
 show ag _ _ (mroOf (.ref C) >>= _) _ _ _
 refine ai (wpAny.n (hm.at ?_))
 simp only[e4,iu,if_false]
 refine ai (wpAny.n (made.at ?_))
 dsimp only
 refine ai (aF ?_)
 refine ai (bC (wpAny.n (wpAny_call (new_K Y' hi (.inl hne) ?_))))
 have k:∀b o,h.get? b=some o->((h.push emptyDict).push (instObj C h.objs.size)).get? b=some o:=λb o e=>eA _ (eA _ e)
 have hx:((h.push emptyDict).push (instObj C h.objs.size)).get? (h.objs.size+1)=some (instObj C h.objs.size):=by
  have:=dt (h.push emptyDict) (o:=instObj C h.objs.size) rfl
  rwa [pI]at this
 have t1:Looks (model prog w) ((h.push emptyDict).push (instObj C h.objs.size)) (typeOf (.ref (h.objs.size+1))) (.ref C):=(Looks.ld hx).andThen .now
 have s1:=self.keeps k
 have i1:=hi.keeps k
 have b1:=(hb (.ref (h.objs.size+1))).keeps k
 dsimp only
 have ii:Looks (model prog w) ((h.push emptyDict).push (instObj C h.objs.size)) (isInstance (.ref (h.objs.size+1)) (.ref C)) true:=by
  unfold isInstance
  exact t1.andThen s1
 refine ai (wpAny.n (ii.at ?_))
 simp only[Bool.not_true,iu,if_false]
 unfold callSpecial? specialOf
 refine ai (bC (ai (ai (wpAny.n (t1.at (wpAny.n (i1.at ?_)))))))
 dsimp only
 refine bC (ai (wpAny.n (b1.at ?_)))
 dsimp only
 refine ai (jP (ee hq λr s' z=>?_))
 rcases r with e | (v | _ | _ | _) <;>first | exact z | exact z.elim | skip
 refine ak z ?_;clear z;refine λz0 z=>?_;subst z0
 exact aF (aF z)
end
section
variable {prog:Program}{w:World}{A:Around}{E:Value->Shared->Prop}{s:Shared}{env:Env}{bm:List Value}
variable {nm q:ac}{C N:Addr}{bs:List Value}{hdct:Bool}{sn:List ac}{sub:List Value}{ab:Bool}{col:Option Bool}{dd:Option Addr}{k0 k1 k2 k3 k5:Option Value}{B newId initId:String}{bmB:List Value}
theorem K5(F:ExcBaseFacts B newId initId bmB){mN:ac->Option Value}{x:ac}{np cpos pos:Pos}{args:List Expr}{Q:Flow->Shared->Prop}
  (hbase:bm.contains (.type "BaseException")=true) (hh:A.handled=Bx) (hplain:(backTo cpos (starEach args env)).any (·.1)=false) (hni:mN "__init__" = Bx)
  (h:wpAny (model prog w) A (eval (.Name x np) env) (λf s₁=>f=.ref C/\ag (model prog w) A (evalArgs (.ref C) true (backTo cpos (starEach args env)) [])
   (λa s₂=>a.kw=[]/\a.pos.length<=sizeLine/\s₂.heap.get? C=some (excClassObj nm q C N bs bm hdct sn sub ab col dd k0 k1 k2 k3 k5 newId)/\s₂.heap.Ns N mN/\OwnTail s₂.heap bmB bm /\
    ∀h' e,Heap.MadeExcOf s₂.heap h' e (.ref C) a.pos->E (.ref e) { s₂ with heap:=h' }) E s₁) E s):
  ag (model prog w) A (exec (.Raise (some (.Call (.Name x np) args [] cpos)) Bx pos) env) Q E s:=by
 refine rwr (arm_exec_Raise ..) ?_
 refine ai (a_ (GF (ai (aD (jv (wpAny.n (wpAny_mono h (λf s₁ h₁=>?_) λU U x=>x))) (Q:=λv s₃=>∃e t,v=.ref e/\s₃.heap.get? C=some (excClassObj nm q C N bs bm hdct sn sub ab col dd k0 k1 k2 k3 k5 newId) /\
   s₃.heap.get? e=some { cls:=.ref C,data:=.fields #[.ref t,.none,.none,.none,.bool false,.none] }/\E (.ref e) s₃) (λv s₃ h₃=>?_) λU U x=>x))))
 ·refine ak h₁ ?_;clear h₁;refine λz0 h₁=>?_;subst z0
  unfold callWith
  refine ai (bC (aD h₁ (λa s₂ h₂=>ai (a_ ?_)) λU U x=>x))
  obtain⟨apos,akw⟩:=a
  refine nq h₂ ?_;clear h₂;refine λhkw hlen hC hn T h₂=>?_
  obtain rfl:akw=[]:=hkw
  obtain⟨hp,g,d,tk,os⟩:=s₂
  simp -iota only [hplain]
  refine ai (wpAny.n (wpAny_keeperOf_exc hC ?_))
  refine ai (wpAny.n (wpAny_call_exc_subT (hrest:=hlen) F T hC hn hni λh' e hm=>wpAny.n (wpAny_bind (wpAny_holding (wpAny_point (wpAny_pure ?_))))))
  refine elE1 hm.there λt=>al λht U U=>?_
  exact(ex2 e t ⟨rfl,hm.keeps _ _ hC,ht,h₂ h' e hm⟩)
 ·refine ai (a_ (aF ?_))
  exact wpAny_raiseStmt_made_sub (C:=C) (nm:=nm) (q:=q) (N:=N) (bs:=bs) (bm:=bm) (hdct:=hdct) (sn:=sn) (sub:=sub) (ab:=ab) (col:=col) (dd:=dd) (k0:=k0) (k1:=k1) (k2:=k2) (k3:=k3) (k5:=k5) (newId:=newId) hbase hh (wpAny_pure h₃)
end
end

section
open PySem PySem.W PyProof.Rows PySem.Calls
noncomputable abbrev kj:Ctx:=⟨.builtin "claim.caller" {},Bx,Bx,[],Bx⟩
theorem xx:kq kj.code=true/\ny kj.below:=⟨show (!(Bv.contains "claim.caller"))=true by decide +kernel,λU h=>nomatch h⟩
theorem Cs{M:Model}{t:Sem k9}{R:Result->Shared->Prop}{s:Shared}
  (h:ag M callerA t (λfin s'=>∃f,fin=.done f/\R (.ok f) s') (λe s'=>R (.error e) s') s) (p:Pos):
  Sem.wp M kj t (Sem.finPost M kj R) (λe U s'=>R (.error e) s') p s:=by
 refine pH M kj t (λfin p' s' h'=>?_) (λU U U h'=>h') p s (h kj p caller_in xx.1 xx.2)
 refine elE1 h' λf=>ae λz0 hf=>?_;clear h';subst z0
 exact hf
theorem ED{prog:Program}{w:World}{t:Sem k9}{s:Shared}{R:Result->Shared->Prop}(hreg:s.asleep)
  (h:ag (model prog w) callerA t (λfin s'=>∃f,fin=.done f/\(R (.ok f) s'/\leftWithCleanup s'.gens=false)) (λe s'=>R (.error e) s'/\leftWithCleanup s'.gens=false) s):
  ∃n r s' s'',runN (denote table) prog w n s ⟨t,.builtin "claim.caller" {},default,[]⟩=.halted (outcomeOf r) s' /\
   schedN (denote table) prog w n (.single s ⟨t,.builtin "claim.caller" {},default,[]⟩)=.halted (outcomeOf r) s'/\s'.forget=s''.forget/\R r s'':=by
 refine eD (wp_halts_full (M:=model prog w) (R:=R) hreg (Cs (R:=λr s'=>R r s'/\leftWithCleanup s'.gens=false) h default)) λn r s₁ s₂=>aY λhs hn hfo hR=>?_
 exact(dZ n r s₂ s₁ ⟨hn,hs,hfo,hR⟩)
theorem EF{c:ClaimW}{tree:List Value->Sem k9}{w:World}{s:Shared}{free:Addr->Prop}{gens:Prop}{kept:Heap->Prop}(hz:s.asleep)(hgens:s.gens = #[])
  (hspec:∀args,c.pre args=true->Bw args=true->∀ord:List DictEntry->List DictEntry,(∀l,(ord l).Perm l) ->
   ∃vs s₁,layAllW c.records (classAt s.heap) w.params ord args s=some (vs,s₁) /\
    ag (model c.prog w) callerA (tree vs) (λfin s'=>∃f,fin=.done f/\(c.Ends s args vs s₁ (.ok f) s'/\s'.os=s.os/\AllBare s'.gens/\kept s'.heap))
     (λe s'=>c.Ends s args vs s₁ (.error e) s'/\s'.os=s.os/\AllBare s'.gens/\kept s'.heap) s₁):
  c.CallFrom (λvs=>⟨tree vs,.builtin "claim.caller" {},default,[]⟩) w free gens kept s:=by
 intro args hpre hlay ord hord
 refine elE2 (hspec args hpre hlay ord hord) λvs s₁=>ae λhlaid hcode=>?_
 have hal:=layAllW_rest _ _ _ hlaid
 refine eD (ED (prog:=c.prog) (w:=w) (t:=tree vs) (s:=s₁) (R:=λr s'=>c.Ends s args vs s₁ r s'/\s'.os=s.os/\kept s'.heap)
  (Shared.asleep_of_life hal.2.2.2 hz)
  (aD hcode (λfin s' ⟨f,e,h1,h2,h3,h4⟩=>⟨f,e,⟨h1,h2,h4⟩,leftWithCleanup_false_of_bare h3⟩) λe s' ⟨h1,h2,h3,h4⟩=>⟨⟨h1,h2,h4⟩,leftWithCleanup_false_of_bare h3⟩)) λk r s' s''=>eS λhrun hsched hfo hcase hos hkp=>?_
 refine gN (Shared.forget_eq hfo) λeh U U eo U=>?_
 have hcase:=hcase.congr eh
 rw[<-eh]at hkp
 rw[<-eo]at hos
 have hlife:s'.heap.life=s.heap.life:=(runN_life _ _ _ hrun).trans hal.2.2.2
 refine(ex2 vs s₁ ⟨hlaid,ex3 k _ s' ⟨hsched,?_,(λU i x hx=>by rw[hgens]at hx;simp at hx),hkp,by exact rwr (hlife ..) rfl,Shared.rest_eq hos⟩⟩)
 refine ao hcase (uE1 λv=>eS λz0 d1 d2 d3 d4 d5=>?_) (uE3 λe ob cls=>eS λz1 d1 d2 d3 d4 d5=>?_) <;>clear hcase <;>(try subst z0) <;>(try subst z1)
 ·exact .inl ⟨v,rfl,d1,d2,d3,λb o y U=>d4 b o y,d5⟩
 ·exact .inr (ex3 e ob cls ⟨rfl,d1,d2,d3,d4,λb o y U=>d5 b o y⟩)
abbrev vo(q:Program)(loose:List ac)(XP:(ac->Option Value)->Heap->Prop)(YP:World->Heap->Prop)(r:RowW)(d:DefRec)(kwd:List (ac×Expr))(run:Value->List Value->Sem Value):Prop :=
 ∀(w:World) (s₀ s₁:Shared) (mg mb:ac->Option Value),Ground q loose r.records XP w s₀ mg mb s₁.heap->YP w s₁.heap->∀(a:Addr) (o:au) (pm cd doc dV kV:Value),s₁.heap.get? a=some o ->
  o.data=.func { docDef d.name d.params d.body d.scope pm cd doc with defaults:=dV,kwdefaults:=kV }->s₁.heap.CodeRec cd d.name->Dflts mg s₁.heap d.params kwd dV kV->mg d.name=some (.ref a)->s₁.gens = #[] ->
  ∀(args:List WData) (vals:List Value) (as:List Addr),r.claim.pre args=true->Bw args=true->ReadsAllW r.records (classAt s₀.heap) s₁.heap vals args as->WellAll w.params s₁.heap vals args->(∀a∈as,(a==sysModules)=false) ->
   ag (model r.prog w) callerA (run (.ref a) vals) (λv s'=>GoodWG r.claim (classAt s₀.heap) (uo s₀.heap) args s₁ (.ok (.ret v)) s')
    (λe s'=>GoodWG r.claim (classAt s₀.heap) (uo s₀.heap) args s₁ (.error e) s') s₁
theorem Gk{r:RowW}{run:Value->List Value->Sem Value}{tree:List Value->Sem k9}{q:Program}{loose defs kps:List ac}{writes:Bool}{Xt:Shared->Bool}{XP:(ac->Option Value)->Heap->Prop}{α:Type}{Yf:Shared->α}{Ya:World->α}{YP:World->Heap->Prop}{N:Nat}
  (left:LeftO r.prog q loose Xt Yf Ya N) (hY:∀w s,Yf s=Ya w->YP w s.heap) (hYk:∀w h h',YP w h->(∀b o,h.get? b=some o->h'.get? b=some o)->YP w h') (hX:∀s,Xt s=true->XP (s.heap.nsMap mainGlobals) s.heap) (hXk:∀mg h h',XP mg h->(∀b o,h.get? b=some o->h'.get? b=some o)->XP mg h')
  (hRf:∀s,Xt s=true->RecFacts r.records s.heap) (hwr:(!writes||r.records.isEmpty)=true) (ok:(chainsOk q&&opensWell r.prog&&(frees r&&r.within.isEmpty))=true) (hb:r.prog.bare) (hw:r.promised)
  (ht:∀vs (w:World) (s:Shared) mg f (Q:k9->Shared->Prop) (E:Value->Shared->Prop),s.heap.Ns mainGlobals mg->mg r.name=some f->ag (model r.prog w) callerA (run f vs) (λv s'=>Q (.done (.ret v)) s') E s->ag (model r.prog w) callerA (tree vs) Q E s)
  (pin:∀w s,s.heap.isNs mainGlobals=true->Ground q loose [] XP w s (s.heap.nsMap mainGlobals) (s.heap.nsMap builtinsNs) s.heap->∀n∈defs,isTheDefsW r.prog s.heap n)
  (call:∀(w:World) (s₀ s₁:Shared) (mg mb:ac->Option Value),Ground q loose r.records XP w s₀ mg mb s₁.heap->YP w s₁.heap->∀(args:List WData) (vs:List Value) (as:List Addr),
   r.claim.pre args=true->Bw args=true->Laid r.records w s₀ s₁ args vs as->sysModules<s₀.heap.objs.size->∃f,mg r.name=some f /\
    ag (model r.prog w) callerA (run f vs) (λv s'=>GoodWG r.claim (classAt s₀.heap) (uo s₀.heap) args s₁ (.ok (.ret v)) s')
     (λe s'=>GoodWG r.claim (classAt s₀.heap) (uo s₀.heap) args s₁ (.error e) s') s₁):r.claim.HoldsOpenBy (λvs=>⟨tree vs,.builtin "claim.caller" {},default,[]⟩) defs kps writes:=by
 refine ak (dh.mp ok) λok k5=>?_
 refine ak (dh.mp ok) λhch o1=>?_
 refine ak (dh.mp k5) λk5 k6=>?_
 refine gN (frees_parts k5) λhsame hu ha hap hm=>?_
 have hi:=ident_freeW hu ha hap
 have hwi:r.claim.within=[]:=gk.mp k6
 have B:=λw=>left.behind (XP:=λmg h=>XP mg h/\RecFacts r.records h) (λs hs=>⟨hX s hs,hRf s hs⟩) hch w
 refine⟨⟨hb,o1,by show r.makers.map _=[];refine rwr (hm ..) ?_;rfl⟩,hw.witness,λw=>⟨(left.behind hX hch w).1,λs' hs'=>?_⟩⟩
 refine elE1 ((B w).2 s' hs') λs₀=>al λhf hg0=>uE1 λs=>eS λhT hz hgens hg G00 y=>?_
 have RF:=G00.X.2
 have G0:Ground q loose [] XP w s (s.heap.nsMap mainGlobals) (s.heap.nsMap builtinsNs) s.heap:=⟨G00.T,G00.B,G00.D,G00.TE,G00.TD,G00.W,G00.X.1,G00.cls,G00.has,G00.apart,G00.once,G00.K⟩
 refine⟨s₀,hf,hg0,s,hT,pin w s hg G0,RF.1,RF.2.1,?_⟩
 have hgens:s.gens = #[]:=Array.eq_empty_of_size_eq_zero (beq_iff_eq.mp hgens)
 have G:Ground q loose r.records XP w s _ _ s.heap:=RF.ground G0
 refine EF (c:=r.claim) hz hgens λargs hpre hlay ord hord=>?_
 refine elE1 (Lc.mp (layAllW_isSome (P:=w.params) (ord:=ord) G.has args r.args s (pre_splitW hpre).1)) λz0 hlaid=>?_;rcases z0 with ⟨vs,s₁⟩
 have keeps:=layAllW_keeps _ _ _ hlaid
 have hal:=layAllW_rest _ _ _ hlaid
 refine elE1 (reads_layAllW hord _ _ _ hlaid hlay s₁.heap (λU U e=>e)) λas=>al λhrd hin hold=>?_
 have L:Laid r.records w s s₁ args vs as:=⟨⟨ord,hord,hlaid⟩,hrd,hin,hold,keeps,hal.1.trans hgens,hal.2.2.1⟩
 have G₁:=G.keeps hXk keeps
 refine elE1 (call w s s₁ _ _ G₁ (hYk _ _ _ (hY w s y) keeps) args vs as hpre hlay L G.low) λf=>ae λhf h=>?_
 refine(ex2 vs s₁ ⟨hlaid,ht vs w s₁ _ f _ _ G₁.T.g hf (aD h (λv s' g=>⟨_,rfl,?_⟩) λe s' g=>?_)⟩)
 all_goals
  have z:=g.laid (c:=r.claim) hsame hwi hi L
  exact⟨z.1,z.2.1,z.2.2,λq=>⟨namesKept_of hT hg kps keeps g.2.1.old,noTable hwr q⟩⟩
namespace PySem.W
open _root_.PySem _root_.PySem.W Mine
theorem holds_open{r:OpenRow}{q:Program}{loose:List Str}{Xt:Shared->Bool}{XP:(Str->Option Value)->Heap->Prop}{α:Type}{Yf:Shared->α}{Ya:World->α}{YP:World->Heap->Prop}{d:DefRec}{kwd:List (Str×Expr)}{N:Nat}
  (left:LeftO r.prog q loose Xt Yf Ya N) (hY:∀w s,Yf s=Ya w->YP w s.heap) (hYk:∀w h h',YP w h->(∀b o,h.get? b=some o->h'.get? b=some o)->YP w h')
  (hX:∀s,Xt s=true->XP (s.heap.nsMap mainGlobals) s.heap) (hXk:∀mg h h',XP mg h->(∀b o,h.get? b=some o->h'.get? b=some o)->XP mg h')
  (hdef:defOf q r.name=some (d,kwd)) (hp:r.prog.theDef r.name=some (d.params,d.body,d.scope)) (hk:kwWritten? d.params.kwonlyargs d.params.kw_defaults=some kwd) (hRf:∀s,Xt s=true->RecFacts r.records s.heap) (hwr:(!r.writes||r.records.isEmpty)=true)
  (k1:r.wellSaid=true) (ok:(chainsOk q&&opensWell r.prog&&(frees r.toRowW&&r.within.isEmpty))=true) (hb:r.prog.bare) (hw:r.toRowW.promised)
  (call:vo q loose XP YP r.toRowW d kwd λf vs=>_root_.PySem.call f vs):r.Holds:=by
 refine⟨k1,hw,Gk (r:=r.toRowW) (run:=λf vs=>_root_.PySem.call f vs) (tree:=λvs=>do match <-nsGet mainNs r.name with
   |some f=>do ret (<-_root_.PySem.call f vs)
   |none=>unsupported "claim.caller:no-such-global") left hY hYk hX hXk hRf hwr ok hb hw
  (λvs w s mg f Q E hg hf h=>ai (wpAny.n (wpAny_nsGet hg (by refine rwr (hf ..) ?_;exact ai (aD h (λU U x=>aF x) λU U x=>x)))))
  (λw s hg G n hn=>?_) λw s₀ s₁ mg mb G Y args vs as hpre hlay L low=>?_⟩
 ·obtain rfl:n=r.name:=by split at hn <;>simp_all
  exact pinned_of_view hg G hdef hp hk
 ·refine qQ (G.fn hdef) λa o pm cd doc dV kV=>kI λh1 h2 h3 h4 h5=>?_
  exact⟨.ref a,h1,call w s₀ s₁ mg mb G Y a o pm cd doc dV kV h2 h3 h4 h5 (defOf_name hdef▸h1) L.gens args vs as hpre hlay L.reads L.well (L.low low)⟩
end PySem.W
end

section
set_option genInjectivity true in
inductive D where
 |none | bool (b:Bool) | int (i:Int) | str (s:ac) | bytes (b:List UInt8)
 |tup (vs:List D) | list (vs:List D) | obj (C:Nat) (fs:List (Nat×D))
inductive V where
 |d (x:D) | own (i:Nat)
inductive af where
 |inst (C:Nat) (fs:List (Nat×V)) | lst (vs:List D) | ba (b:List UInt8) | dead
structure St where
 loc:List (Option V)
 own:List af
noncomputable def aK:Nat->ac
 |0=>aa "data"
 |1=>aa "at"
 |2=>aa "parts"
 |3=>aa "term"
 |4=>aa "index"
 |5=>aa "kind"
 |6=>aa "vote"
 |7=>aa "commit"
 |8=>aa "voters"
 |9=>aa "learners"
 |10=>aa "outgoing"
 |11=>aa "learners_next"
 |12=>aa "auto_leave"
 |13=>aa "count"
 |14=>aa "base_index"
 |15=>aa "base_term"
 |16=>aa "conf"
 |17=>aa "hard"
 |18=>aa "entries"
 |_=>aa "pending"
noncomputable def getN{α:Type}:List α->Nat->Option α
 |[],_=>Bx
 |a::_,0=>some a
 |_::l,n+1=>getN l n
noncomputable def setN{α:Type}:List α->Nat->α->List α
 |[],_,_=>[]
 |_::l,0,b=>b::l
 |a::l,n+1,b=>a::setN l n b
theorem bk{α:Type}:∀(l:List α) (n:Nat),getN l n=l[n]?
 |[],_=>rfl
 |_::_,0=>rfl
 |_::l,n+1=>bk l n
theorem hZ{α:Type}:∀(l:List α) (n:Nat) (b:α),setN l n b=l.set n b
 |[],_,_=>rfl
 |_::_,0,_=>rfl
 |a::l,n+1,b=>congrArg (a :: ·) (hZ l n b)
noncomputable def dY{α:Type}:List (Nat×α)->Nat->Option α
 |[],_=>Bx
 |(k,v)::r,f=>bif aG k f then some v else dY r f
noncomputable def ik{α:Type}:List (Nat×α)->Nat->α->List (Nat×α)
 |[],f,v=>[(f,v)]
 |(k,x)::r,f,v=>bif aG k f then (k,v)::r else (k,x)::ik r f v
abbrev Zt:=Addr->au->Prop
mutual
def RD(P:Params)(Z:Zt):D->Value->Prop
 |.none,v=>v=.none
 |.bool b,v=>v=.bool b
 |.int i,v=>∃t,v=.int i t
 |.str s,v=>∃t,v=.str s t
 |.bytes b,v=>∃t,v=.bytes b.toArray t
 |.tup vs,v=>∃a xs n,v=.ref a/\Z a { cls:=.type "tuple",data:=.seq xs n }/\RDs P Z vs xs.toList
 |.list vs,v=>∃a xs n,v=.ref a/\Z a { cls:=.type "list",data:=.seq xs n }/\RDs P Z vs xs.toList
 |.obj C fs,v=>∃x dx n es,v=.ref x/\Z x (instObj C dx)/\Z dx (dictOf es n)/\RDf P Z fs es
def RDs(P:Params)(Z:Zt):List D->List Value->Prop
 |[],xs=>xs=[]
 |v::r,xs=>∃x ys,xs=x::ys/\RD P Z v x/\RDs P Z r ys
def RDf(P:Params)(Z:Zt):List (Nat×D)->List DictEntry->Prop
 |[],es=>es=[]
 |(k,v)::r,es=>∃x tk es',k<20/\es=⟨jh P (aK k),.str (aK k) tk,x⟩::es'/\RD P Z v x/\RDf P Z r es'
end
def d_(Z Z':Zt):Prop:=∀a o,Z a o->Z' a o
mutual
theorem RD.mono{P:Params}{Z Z':Zt}(hz:d_ Z Z'):∀(x:D) (v:Value),RD P Z x v->RD P Z' x v
 |.none,_,h=>h
 |.bool _,_,h=>h
 |.int _,_,h=>h
 |.str _,_,h=>h
 |.bytes _,_,h=>h
 |.tup vs,v,h=>by
  refine elE3 h λa xs n=>al λe z r=>?_;clear h
  exact(ex3 a xs n ⟨e,hz _ _ z,RDs.mono hz vs _ r⟩)
 |.list vs,v,h=>by
  refine elE3 h λa xs n=>al λe z r=>?_;clear h
  exact(ex3 a xs n ⟨e,hz _ _ z,RDs.mono hz vs _ r⟩)
 |.obj C fs,v,h=>by
  refine eD h λx dx n es=>aY λe z1 z2 r=>?_;clear h
  exact(dZ x dx n es ⟨e,hz _ _ z1,hz _ _ z2,RDf.mono hz fs _ r⟩)
theorem RDs.mono{P:Params}{Z Z':Zt}(hz:d_ Z Z'):∀(Vs:List D) (xs:List Value),RDs P Z Vs xs->RDs P Z' Vs xs
 |[],_,h=>h
 |v::r,xs,h=>by
  refine elE2 h λx ys=>al λe h1 h2=>?_;clear h
  exact(ex2 x ys ⟨e,RD.mono hz v x h1,RDs.mono hz r ys h2⟩)
theorem RDf.mono{P:Params}{Z Z':Zt}(hz:d_ Z Z'):∀(fs:List (Nat×D)) (es:List DictEntry),RDf P Z fs es->RDf P Z' fs es
 |[],_,h=>h
 |(k,v)::r,es,h=>by
  refine elE3 h λx tk es'=>aY λhk e h1 h2=>?_;clear h
  exact(ex3 x tk es' ⟨hk,e,RD.mono hz v x h1,RDf.mono hz r es' h2⟩)
end
def RV(P:Params)(Z:Zt)(ad:List Addr):V->Value->Prop
 |.d x,v=>RD P Z x v
 |.own i,v=>∃a,ad[i]? = some a/\v=.ref a
theorem RV.mono{P:Params}{Z Z':Zt}{ad ad':List Addr}(hz:d_ Z Z')(ha:ad <+: ad'):∀(x:V) (v:Value),RV P Z ad x v->RV P Z' ad' x v
 |.d x,v,h=>RD.mono hz x v h
 |.own i,v,h=>by
  refine elE1 h λa=>ae λe r=>?_;clear h
  refine elE1 ha λt z0=>?_;clear ha;subst z0
  exact⟨a,by refine rwr (ji (dD.mp e).1 ..) ?_;exact e,r⟩
def aV(P:Params)(Z:Zt)(ad:List Addr):List V->List Value->Prop
 |[],xs=>xs=[]
 |v::r,xs=>∃x ys,xs=x::ys/\RV P Z ad v x/\aV P Z ad r ys
def aX(P:Params)(Z:Zt)(ad:List Addr):List (Nat×V)->List DictEntry->Prop
 |[],es=>es=[]
 |(k,v)::r,es=>∃x tk es',k<20/\es=⟨jh P (aK k),.str (aK k) tk,x⟩::es'/\RV P Z ad v x/\aX P Z ad r es'
theorem aX.mono{P:Params}{Z Z':Zt}{ad ad':List Addr}(hz:d_ Z Z')(ha:ad <+: ad'):∀(fs:List (Nat×V)) (es:List DictEntry),aX P Z ad fs es->aX P Z' ad' fs es
 |[],_,h=>h
 |(k,v)::r,es,h=>by
  refine elE3 h λx tk es'=>aY λhk e h1 h2=>?_;clear h
  exact(ex3 x tk es' ⟨hk,e,RV.mono hz ha v x h1,aX.mono hz ha r es' h2⟩)
def cW(P:Params)(Z:Zt)(ad:List Addr):af->Addr->List (Addr×au)->Prop
 |.inst C fs,a,fp=>∃dx n es,fp=[(a,instObj C dx),(dx,dictOf es n)]/\aX P Z ad fs es
 |.lst vs,a,fp=>∃xs n,fp=[(a,listOf xs n)]/\RDs P Z vs xs.toList
 |.ba b,a,fp=>fp=[(a,{ cls:=.type "bytearray",data:=.bytearray b.toArray 0 })]
 |.dead,_,fp=>fp=[]
theorem cW.mono{P:Params}{Z Z':Zt}{ad ad':List Addr}(hz:d_ Z Z')(ha:ad <+: ad'){o:af}{a:Addr}{fp:List (Addr×au)}(h:cW P Z ad o a fp):cW P Z' ad' o a fp:=by
 cases o with
 |inst C fs=>refine elE3 h λdx n es=>ae λe r=>?_;clear h;exact(ex3 dx n es ⟨e,aX.mono hz ha _ _ r⟩)
 |lst vs=>refine elE2 h λxs n=>ae λe r=>?_;clear h;exact(ex2 xs n ⟨e,RDs.mono hz _ _ r⟩)
 |ba b=>exact h
 |dead=>exact h
inductive aS(P:Params)(Z:Zt)(ad:List Addr):List af->List Addr->List (List (Addr×au))->Prop
 |nil:aS P Z ad [] [] []
 |cons {o a fp os as fps}:cW P Z ad o a fp->aS P Z ad os as fps->aS P Z ad (o::os) (a::as) (fp::fps)
theorem aS.mono{P:Params}{Z Z':Zt}{ad ad':List Addr}(hz:d_ Z Z')(ha:ad <+: ad'){os as fps}(h:aS P Z ad os as fps):aS P Z' ad' os as fps:=by
 induction h with
 |nil=>exact .nil
 |cons x _ ih=>exact .cons (x.mono hz ha) ih
theorem aS.snoc{P:Params}{Z:Zt}{ad:List Addr}{os as fps}(h:aS P Z ad os as fps){o a fp}(x:cW P Z ad o a fp):aS P Z ad (os++[o]) (as++[a]) (fps++[fp]):=by
 induction h with
 |nil=>exact .cons x .nil
 |cons y _ ih=>exact .cons y ih
theorem aS.len{P:Params}{Z:Zt}{ad:List Addr}{os as fps}(h:aS P Z ad os as fps):os.length=as.length/\fps.length=as.length:=by
 induction h with
 |nil=>exact⟨rfl,rfl⟩
 |cons _ _ ih=>simp[ih.1,ih.2]
end

section
structure FC where
 env:Env
 A:Around
 outer:List Env
 base:Heap
 H:Heap
 mu:List Addr
 fz0:List (Addr×au)
 nm:List ac
 gn:ac->Option Value
 bn:ac->Option Value
 G:Array GenState
 D:Drawn
 O:OsState
noncomputable def FC.L(c:FC):Addr:=c.env.locals
noncomputable def FC.frs(c:FC):List Addr:=c.outer.filterMap (·.frame)
structure am(K:Frag)(k:Nat)(c:FC):Prop where
 hA:c.A.frames=some (c.env::c.outer)
 hf:c.env.frame=some c.L
 hk:c.env.scope.kind=.function
 hg:c.env.globals=mainGlobals
 hb:c.env.builtins=builtinsNs
 hh:c.A.handled=Bx
 hgd:c.A.guards=some []
 depth:c.A.depth+2*k+10<recursionLimit
 units:c.A.units+8*k+20<cLine
 kin:K.In c.base
 lim:c.base.NoLimit
 baseH:c.base.StaysIn c.H
 frB:c.H.FunFrames c.base c.outer
 LH:c.H.get? c.L=Bx
 muB:∀a∈c.mu,c.base.get? a=Bx
 muF:∀a∈c.mu,a∉c.frs
 nmN:c.nm.Nodup
 nmL:∀x∈c.nm,c.env.kindOf x=some .local/\(x==("__debug__" : ac))=false
 gns:c.base.Ns mainGlobals c.gn
 bns:c.base.Ns builtinsNs c.bn
 sz:c.base.objs.size<=c.L
structure cI(c:FC)(h:Heap)(m:ac->Option Value)(fz F:List (Addr×au)):Prop where
 ns:h.Ns c.L m
 keep:∀b o,c.H.get? b=some o->b∉c.mu->b∉c.frs->h.get? b=some o
 slot:∀b o,c.H.get? b=some o->b∈c.frs->∃sl,h.get? b=some { o with slots:=sl }
 live:∀b o,c.H.get? b=some o->∃o',h.get? b=some o'
 fzH:∀p∈fz,h.get? p.1=some p.2/\p.1≠c.L/\p.1∉c.frs/\(p∈c.fz0\/c.H.get? p.1=Bx\/p.1∈c.mu)
 own:∀p∈F,h.get? p.1=some p.2/\p.1≠c.L/\p.1∉c.frs/\(p.1∈c.mu\/c.H.get? p.1=Bx)
 nd:(F.map (·.1)).Nodup
 dis:∀p∈F,∀q∈fz,p.1≠q.1
structure td(c:FC)(h:Heap)(m:ac->Option Value)(fz:List (Addr×au)):Prop where
 ns:h.Ns c.L m
 keep:∀b o,c.H.get? b=some o->b∉c.mu->b∉c.frs->h.get? b=some o
 slot:∀b o,c.H.get? b=some o->b∈c.frs->∃sl,h.get? b=some { o with slots:=sl }
 fzH:∀p∈fz,h.get? p.1=some p.2/\p.1≠c.L/\p.1∉c.frs/\(p∈c.fz0\/c.H.get? p.1=Bx\/p.1∈c.mu)
theorem cI.toX{c:FC}{h:Heap}{m:ac->Option Value}{fz F:List (Addr×au)}(I:cI c h m fz F):td c h m fz:=⟨I.ns,I.keep,I.slot,I.fzH⟩
noncomputable def Zf(base:Heap)(fz:List (Addr×au)):Zt:=λa o=>base.get? a=some o\/(a,o)∈fz
theorem Zf.ext{base:Heap}{fz fz':List (Addr×au)}(h:∀p∈fz,p∈fz'):d_ (Zf base fz) (Zf base fz'):=λU U z=>z.imp id (h _)
def fq(P:Params)(Z:Zt)(ad:List Addr)(nm:List ac)(loc:List (Option V))(m:ac->Option Value):Prop :=
 ∀i x V,nm[i]? = some x->getN loc i=some (some V)->∃v,m x=some v/\RV P Z ad V v
theorem fq.mono{P:Params}{Z Z':Zt}{ad ad':List Addr}{nm loc m}(hz:d_ Z Z')(ha:ad <+: ad')(h:fq P Z ad nm loc m):fq P Z' ad' nm loc m :=
 λi x V h1 h2=>let ⟨v,e,r⟩:=h i x V h1 h2;⟨v,e,RV.mono hz ha _ _ r⟩
noncomputable def aT(fps:List (List (Addr×au))):List Addr:=fps.flatten.map (·.1)
structure aA(c:FC)(s:Shared)(z:List (Addr×au))(d:List Addr)(fps:List (List (Addr×au)))(s':Shared)(z':List (Addr×au))(d':List Addr)(fps':List (List (Addr×au))):Prop where
 fz:∀p∈z,p∈z'
 ad:d <+: d'
 keep:∀b o,s.heap.get? b=some o->b≠c.L->b∉aT fps->b∉c.frs->s'.heap.get? b=some o
 fresh:∀a∈aT fps',a∈aT fps\/s.heap.get? a=Bx
 live:∀b o,s.heap.get? b=some o->b∉aT fps->∃o',s'.heap.get? b=some o'
 fzf:∀p∈z',p∈z\/s.heap.get? p.1=Bx\/p.1∈aT fps
theorem aA.refl{c:FC}{s:Shared}{fz ad fps}:aA c s fz ad fps s fz ad fps:=⟨λU x=>x,eB _,λU U e U U U=>e,λU h=>.inl h,λU o e U=>⟨o,e⟩,λU h=>.inl h⟩
theorem aA.tok{c:FC}{s:Shared}{fz ad fps}(t:Nat):aA c s fz ad fps { s with toks:=t } fz ad fps:=⟨λU x=>x,eB _,λU U e U U U=>e,λU h=>.inl h,λU o e U=>⟨o,e⟩,λU h=>.inl h⟩
theorem aA.trans{c:FC}{s s1 s2:Shared}{fz ad fps fz1 ad1 fps1 fz2 ad2 fps2}(x:aA c s fz ad fps s1 fz1 ad1 fps1)(y:aA c s1 fz1 ad1 fps1 s2 fz2 ad2 fps2):aA c s fz ad fps s2 fz2 ad2 fps2 where
 fz:=λp hp=>y.fz p (x.fz p hp)
 ad:=x.ad.trans y.ad
 keep:=λb o e n1 n2 n3=>y.keep b o (x.keep b o e n1 n2 n3) n1 (λq=>(x.fresh b q).elim n2 λz=>by rw[e]at z;cases z) n3
 fresh:=λa ha=>by
  refine ao (y.fresh a ha) (λh=>?_) λh=>?_
  ·exact x.fresh a h
  ·by_cases z:a∈aT fps
   ·exact .inl z
   right
   cases q:s.heap.get? a with
   |none=>rfl
   |some o=>refine elE1 (x.live a o q z) λo' e'=>?_;rw[h]at e';cases e'
 live:=λb o e n=>let ⟨o',e'⟩:=x.live b o e n;y.live b o' e' λq=>(x.fresh b q).elim n λz=>by rw[e]at z;cases z
 fzf:=λp hp=>by
  have back:∀a,a∉aT fps->s1.heap.get? a=Bx->s.heap.get? a=Bx:=λa n h=>by
   cases q:s.heap.get? a with
   |none=>rfl
   |some o=>refine elE1 (x.live a o q n) λo' e'=>?_;rw[h]at e';cases e'
  by_cases z:p.1∈aT fps
  ·exact .inr (.inr z)
  refine ao (y.fzf p hp) (λh=>?_) (uO (λh=>?_) λh=>?_)
  ·exact x.fzf p h
  ·exact .inr (.inl (back _ z h))
  ·refine ao (x.fresh _ h) (λh=>?_) λh=>?_
   ·exact .inr (.inr h)
   ·exact .inr (.inl h)
inductive y0(P:Params)(c:FC)(st:St)(fz:List (Addr×au))(ad:List Addr)(fps:List (List (Addr×au)))(h:Heap)(G:Array GenState)(D:Drawn)(O:OsState):Prop
 |mk (m:ac->Option Value) (I:cI c h m fz fps.flatten) (RO:aS P (Zf c.base fz) ad st.own ad fps) (LR:fq P (Zf c.base fz) ad c.nm st.loc m) (g:G=c.G) (d:D=c.D) (o:O=c.O):y0 P c st fz ad fps h G D O
def SR(P:Params)(c:FC)(st:St)(fz:List (Addr×au))(ad:List Addr)(fps:List (List (Addr×au)))(s:Shared):Prop:=y0 P c st fz ad fps s.heap s.gens s.drawn s.os
inductive su(P:Params)(c:FC)(st:St)(ea:Addr)(C:Nat)(s:Shared):Prop
 |mk (h0:Heap) (m:ac->Option Value) (fz:List (Addr×au)) (ad:List Addr) (I:td c h0 m fz) (LR:fq P (Zf c.base fz) ad c.nm st.loc m) (g:s.gens=c.G) (d:s.drawn=c.D) (o:s.os=c.O)
  (h:(∃vs,Heap.MadeExcOf h0 s.heap ea (.ref C) vs) \/
   (∃B t,up B (c.env::c.outer) ea (.ref C) (.ref t) s.heap/\(∀b o,h0.get? b=some o->b≠c.L->b∉c.frs->B.get? b=some o)/\h0.UpToSlots s.heap)):su P c st ea C s
inductive yG(c:FC)(X:Nat->St->Prop)(e:Value)(s:Shared):Prop
 |mk (ea:Addr) (C:Nat) (st:St) (B:Heap) (t:Addr) (a1:e=.ref ea) (a2:X C st) (a3:s.gens=c.G) (a4:s.drawn=c.D) (a5:s.os=c.O) (a6:up B c.outer ea (.ref C) (.ref t) s.heap)
  (a7:∀b o,c.H.get? b=some o->b∉c.mu->b∉c.frs->B.get? b=some o)
  (a8:∀b o,c.H.get? b=some o->b∈c.frs->∃sl,s.heap.get? b=some { o with slots:=sl }):yG c X e s
def bD(prog:Program)(w:World)(c:FC)(X:Nat->St->Prop)(e:Value)(s:Shared):Prop :=
 wpAny (model prog w) c.A (leaving c.env e) (λU s'=>yG c X e s') (λU U=>False) s
theorem bD.mono{prog:Program}{w:World}{c:FC}{X X':Nat->St->Prop}{e:Value}{s:Shared}(h:bD prog w c X e s)(hx:∀C st,X C st->X' C st):bD prog w c X' e s :=
 wpAny_mono h (λ_ _ ⟨ea,C,st,B,t,a,b,p,q,r,x,y,z⟩=>⟨ea,C,st,B,t,a,hx _ _ b,p,q,r,x,y,z⟩) λU U x=>x
theorem bD.own{prog:Program}{w:World}{c:FC}{X:Nat->St->Prop}:PassesOwn (model prog w) c.A c.env (bD prog w c X):=PassesOwn.leaving
inductive dK(P:Params){α β:Type}(c:FC)(R:Zt->List Addr->β->α->Prop)(Q:β->St->Prop)(s:Shared)(fz:List (Addr×au))(ad:List Addr)(fps:List (List (Addr×au)))(v:α)(s':Shared):Prop
 |mk (V:β) (st':St) (fz':List (Addr×au)) (ad':List Addr) (fps':List (List (Addr×au))) (A:aA c s fz ad fps s' fz' ad' fps') (S:SR P c st' fz' ad' fps' s') (r:R (Zf c.base fz') ad' V v) (q:Q V st'):dK P c R Q s fz ad fps v s'
def WG(prog:Program)(w:World){α β:Type}(c:FC)(R:Zt->List Addr->β->α->Prop)(t:Sem α)(st:St)(Q:β->St->Prop)(X:Nat->St->Prop):Prop :=
 ∀s fz ad fps,SR w.params c st fz ad fps s->ag (model prog w) c.A t
  (dK w.params c R Q s fz ad fps) (bD prog w c X) s
abbrev WE(prog:Program)(w:World)(c:FC)(t:Sem Value)(st:St)(Q:V->St->Prop)(X:Nat->St->Prop):Prop:=WG prog w c (RV w.params) t st Q X
def RB:Zt->List Addr->Bool->Bool->Prop:=λU U b a=>b=a
abbrev WT(prog:Program)(w:World)(c:FC)(t:Sem Bool)(st:St)(Q:Bool->St->Prop)(X:Nat->St->Prop):Prop:=WG prog w c RB t st Q X
inductive Fl where
 |next | brk | cont | ret (v:V)
def e9(P:Params):Zt->List Addr->Fl->Flow->Prop
 |_,_,.next,f=>f=.next
 |_,_,.brk,f=>f=.brk
 |_,_,.cont,f=>f=.cont
 |Z,ad,.ret V,f=>∃v,f=.ret v/\RV P Z ad V v
abbrev WS(prog:Program)(w:World)(c:FC)(t:Sem Flow)(st:St)(Q:Fl->St->Prop)(X:Nat->St->Prop):Prop:=WG prog w c (e9 w.params) t st Q X
section
variable {K:Frag}{k:Nat}{c:FC}{h h':Heap}{m m':ac->Option Value}{fz F:List (Addr×au)}
theorem am.frBase(ok:am K k c){a:Addr}(ha:a∈c.frs):c.base.get? a=Bx:=(ok.frB.mem ha).1
theorem cI.base(ok:am K k c)(I:cI c h m fz F):c.base.StaysIn h:=λb o e =>
 I.keep b o (ok.baseH b o e) (λq=>by rw[ok.muB b q]at e;cases e) (λq=>by rw[ok.frBase q]at e;cases e)
theorem cI.baseL(ok:am K k c):c.base.get? c.L=Bx:=by
 cases q:c.base.get? c.L with
 |none=>rfl
 |some o=>have:=ok.baseH _ _ q;rw[ok.LH]at this;cases this
theorem cI.frames(ok:am K k c)(I:cI c h m fz F):h.FunFrames c.base (c.env::c.outer):=by
 refine Ld (by refine rwr (ok.hk ..) ?_;decide) ok.hf I.ns (cI.baseL ok) (go c.outer ok.frB λb hb=>hb)
where
 go:∀(l:List Env),c.H.FunFrames c.base l->(∀b∈l.filterMap (·.frame),b∈c.frs)->h.FunFrames c.base l
 |[],_,_=>trivial
 |env::r,⟨hk,⟨L,o,hf,hn,ho,hd⟩,hr⟩,hin=>by
  have hL:L∈c.frs:=hin L (by refine rwr (iv ..) (rwr (hf ..) ?_);exact .head _)
  refine elE1 (I.slot L o ho hL) λsl hs=>?_
  refine⟨hk,(ex2 L _ ⟨hf,hn,hs,hd⟩),go r hr λb hb=>hin b ?_⟩
  refine rwr (iv ..) (rwr (hf ..) ?_);exact .tail _ hb
theorem cI.F0(ok:am K k c)(I:cI c h m fz F){p:Addr×au}(hp:p∈F):c.base.get? p.1=Bx:=by
 refine ao ((I.own p hp).2.2.2) (λq=>?_) λq=>?_
 ·exact ok.muB _ q
 ·cases e:c.base.get? p.1 with
  |none=>rfl
  |some o=>have:=ok.baseH _ _ e;rw[q]at this;cases this
theorem am.frH(ok:am K k c){b:Addr}(hb:b∈c.frs):∃o,c.H.get? b=some o:=by
 refine elE1 ((ok.frB.mem hb).2) λo=>ae λho U=>?_
 exact⟨o,ho⟩
theorem cI.step(ok:am K k c)(I:cI c h m fz F){ds:List Addr}{fzn F':List (Addr×au)}(hns:h'.Ns c.L m')
  (hds:∀d∈ds,d∈F.map (·.1)/\∃o,h'.get? d=some o) (hk:∀b o,h.get? b=some o->b≠c.L->b∉ds->h'.get? b=some o)
  (hfz:∀p∈fzn,h'.get? p.1=some p.2/\h.get? p.1=Bx)
  (hF:∀p∈F',h'.get? p.1=some p.2/\(p.1∈F.map (·.1)\/h.get? p.1=Bx)) (hnd:(F'.map (·.1)).Nodup) (hdis:∀p∈F',∀q∈fzn,p.1≠q.1):
  cI c h' m' (fz++fzn) F':=by
 have hL:∃o,h.get? c.L=some o:=by refine elE3 I.ns λo U U=>ae λe U=>?_;exact⟨o,e⟩
 have dF:∀b,b∈ds->b∉c.frs/\(b∈c.mu\/c.H.get? b=Bx):=λb hb=>by
  refine elE1 (aW.mp (hds b hb).1) λp=>ae λhp z0=>?_;subst z0
  exact⟨(I.own p hp).2.2.1,(I.own p hp).2.2.2⟩
 have frLive:∀b∈c.frs,∃o,h.get? b=some o:=λb hb=>by
  refine elE1 (ok.frH hb) λo ho=>?_
  refine elE1 (I.slot b o ho hb) λsl hs=>?_
  exact⟨_,hs⟩
 have newH:∀b,h.get? b=Bx->c.H.get? b=Bx:=λb hb=>by
  cases e:c.H.get? b with
  |none=>rfl
  |some o=>refine elE1 (I.live b o e) λo' e'=>?_;rw[e']at hb;cases hb
 have newL:∀b,h.get? b=Bx->b≠c.L/\b∉c.frs:=λb hb=>by
  refine⟨λq=>?_,λq=>?_⟩
  ·refine elE1 hL λo e=>?_;clear hL;rw[q,e]at hb;cases hb
  ·refine elE1 (frLive b q) λo e=>?_;rw[e]at hb;cases hb
 refine⟨hns,λb o e q1 q2=>?_,λb o e q=>?_,λb o e=>?_,λp hp=>?_,λp hp=>?_,hnd,λp hp q hq=>?_⟩
 ·refine hk b o (I.keep b o e q1 q2) (λz=>by rw[z,ok.LH]at e;cases e) λz=>?_
  refine ao ((dF b z).2) (λy=>?_) λy=>?_
  ·exact q1 y
  ·rw[y]at e;cases e
 ·refine elE1 (I.slot b o e q) λsl hs=>?_
  exact⟨sl,hk b _ hs (λz=>by rw[z,ok.LH]at e;cases e) λz=>(dF b z).1 q⟩
 ·refine elE1 (I.live b o e) λo' e'=>?_
  by_cases z:b∈ds
  ·exact(hds b z).2
  ·exact⟨o',hk b o' e' (λz=>by rw[z,ok.LH]at e;cases e) z⟩
 ·refine ao (cQ.mp hp) (λhp=>?_) λhp=>?_
  ·refine cX (I.fzH p hp) λa1 a2 a3 a4=>?_
   refine⟨hk _ _ a1 a2 λz=>?_,a2,a3,a4⟩
   refine elE1 (aW.mp (hds _ z).1) λq=>ae λhq e=>?_
   exact I.dis q hq p hp e
  ·refine ak (hfz p hp) λa1 a2=>?_
   exact⟨a1,(newL _ a2).1,(newL _ a2).2,.inr (.inl (newH _ a2))⟩
 ·refine ak (hF p hp) λa1 a2=>?_
  refine ao a2 (λa2=>?_) λa2=>?_
  ·refine elE1 (aW.mp a2) λq=>ae λhq e=>?_
   refine cX (I.own q hq) λU b2 b3 b4=>?_
   rw[e]at b2 b3 b4
   exact⟨a1,b2,b3,b4⟩
  ·exact⟨a1,(newL _ a2).1,(newL _ a2).2,.inr (newH _ a2)⟩
 ·refine ao (cQ.mp hq) (λhq=>?_) λhq=>?_
  ·intro e
   refine ak (hF p hp) λa1 a2=>?_
   refine ao a2 (λa2=>?_) λa2=>?_
   ·refine elE1 (aW.mp a2) λq'=>ae λhq' e'=>?_
    exact I.dis q' hq' q hq (e'.trans e)
   ·rw[e,(I.fzH q hq).1]at a2;cases a2
  ·exact hdis p hp q hq
end
end

section
section
variable {prog:Program}{w:World}{K:Frag}{k:Nat}{c:FC}{st:St}{X:Nat->St->Prop}
theorem WG.use{α β:Type}{R:Zt->List Addr->β->α->Prop}{t:Sem α}{Q:β->St->Prop}(h:WG prog w c R t st Q X){s:Shared}{fz ad fps}(S:SR w.params c st fz ad fps s)
  {Qc:α->Shared->Prop} {Ec:Value->Shared->Prop} (hq:∀v s' V st' fz' ad' fps',aA c s fz ad fps s' fz' ad' fps'->SR w.params c st' fz' ad' fps' s'->R (Zf c.base fz') ad' V v->Q V st'->Qc v s')
  (he:∀e s',bD prog w c X e s'->Ec e s'):ag (model prog w) c.A t Qc Ec s :=
 aD (h s fz ad fps S) (λv s' ⟨V,st',fz',ad',fps',h1,h3,h4,h5⟩=>hq v s' V st' fz' ad' fps' h1 h3 h4 h5) he
theorem SR.tok{P:Params}{fz ad fps}{s:Shared}(S:SR P c st fz ad fps s)(t:Nat):SR P c st fz ad fps { s with toks:=t }:=S
theorem WG.pure_{α β:Type}{R:Zt->List Addr->β->α->Prop}{t:Sem α}{Q:β->St->Prop}{V:β}(hQ:Q V st)
  (h:∀s fz ad fps (Qc:α->Shared->Prop) (Ec:Value->Shared->Prop),SR w.params c st fz ad fps s->(∀v tk,R (Zf c.base fz) ad V v->Qc v { s with toks:=tk })->wpAny (model prog w) c.A t Qc Ec s):WG prog w c R t st Q X :=
 λs fz ad fps S=>wpAny.n (h s fz ad fps _ _ S λv tk r=>⟨V,st,fz,ad,fps,aA.tok tk,S,r,hQ⟩)
theorem WG.mono{α β:Type}{R:Zt->List Addr->β->α->Prop}{t:Sem α}{Q Q':β->St->Prop}{X':Nat->St->Prop}(h:WG prog w c R t st Q X)(hq:∀V st',Q V st'->Q' V st')(hx:∀C st',X C st'->X' C st'):WG prog w c R t st Q' X' :=
 λs fz ad fps S=>aD (h s fz ad fps S) (λv s' ⟨V,st',fz',ad',fps',h1,h3,h4,h5⟩=>⟨V,st',fz',ad',fps',h1,h3,h4,hq _ _ h5⟩)
  λe s' x=>x.mono hx
variable {Q:V->St->Prop}
theorem HO{i:Int}{kd:Nat}{pos:Pos}(h:Q (.d (.int i)) st):WE prog w c (eval (.Constant (.int i) kd pos) c.env) st Q X :=
 WG.pure_ h λU U U U U U U hq=>wpAny_Constant_int (hq _ _ ⟨_,rfl⟩)
theorem GR{x:ac}{kd:Nat}{pos:Pos}(h:Q (.d (.str x)) st):WE prog w c (eval (.Constant (.str x) kd pos) c.env) st Q X :=
 WG.pure_ h λU U U U U U U hq=>wpAny_Constant_str (hq _ _ ⟨_,rfl⟩)
theorem GZ{kd:Nat}{pos:Pos}(h:Q (.d .none) st):WE prog w c (eval (.Constant .none kd pos) c.env) st Q X :=
 WG.pure_ h λs U U U U U U hq=>wpAny_Constant_none (hq _ s.toks rfl)
theorem DP{b:Bool}{kd:Nat}{pos:Pos}(h:Q (.d (.bool b)) st):WE prog w c (eval (.Constant (.bool b) kd pos) c.env) st Q X :=
 WG.pure_ h λs U U U U U U hq=>wpAny_Constant_bool (hq _ s.toks rfl)
theorem Hl{b:List UInt8}{kd:Nat}{pos:Pos}(h:Q (.d (.bytes b)) st):WE prog w c (eval (.Constant (.bytes b) kd pos) c.env) st Q X :=
 WG.pure_ h λU U U U U U U hq=>Constant_bytes (hq _ _ ⟨_,rfl⟩)
theorem yh(ok:am K k c){i:Nat}{x:ac}{pos:Pos}{V:V}(hx:c.nm[i]? = some x)(hv:getN st.loc i=some (some V))(h:Q V st):WE prog w c (eval (.Name x pos) c.env) st Q X :=
 WG.pure_ h λs fz ad fps Qc Ec S hq=>by
  obtain⟨m,I,_,hl,_⟩:=S
  refine elE1 (hl i x V hx hv) λv=>ae λe r=>?_
  have z:=ok.nmL x (cw hx)
  exact wpAny_Name (wpAny_loadName_local ok.hk z.1 I.ns e (hq v s.toks r)) z.2
theorem SR.heap{P:Params}{fz ad fps}{s:Shared}(S:SR P c st fz ad fps s)(ok:am K k c):c.base.StaysIn s.heap:=by
 obtain⟨m,I,_⟩:=S
 exact I.base ok
theorem zA(ok:am K k c){x:ac}{pos:Pos}{v:Value}{V:V}(hk:c.env.kindOf x=some .globalImplicit)(hd:(x==("__debug__" : ac))=false)(hv:c.gn x=some v)(hr:∀Z ad,RV w.params Z ad V v)(h:Q V st):
  WE prog w c (eval (.Name x pos) c.env) st Q X :=
 WG.pure_ h λs fz ad fps Qc Ec S hq=>jj ok.hk hk (pJ (by refine rwr (ok.hg ..) ?_;exact ok.gns.keeps (S.heap ok)) hv (hq v s.toks (hr _ _))) hd
def O2(prog:Program)(w:World)(c:FC)(t:Value->Value->Sem Value)(a b:V)(st:St)(Q:V->St->Prop)(X:Nat->St->Prop):Prop :=
 ∀s fz ad fps va vb,SR w.params c st fz ad fps s->RV w.params (Zf c.base fz) ad a va->RV w.params (Zf c.base fz) ad b vb ->
  ag (model prog w) c.A (t va vb) (dK w.params c (RV w.params) Q s fz ad fps) (bD prog w c X) s
theorem vD{l r:Expr}{t:Value->Value->Sem Value}{whole:Sem Value}
  (hw:∀s (Qc:Value->Shared->Prop) (Ec:Value->Shared->Prop),ag (model prog w) c.A (eval l c.env) (λa s₁=>ag (model prog w) c.A (eval r c.env) (λb s₂=>ag (model prog w) c.A (t a b) Qc Ec s₂) Ec s₁) Ec s->ag (model prog w) c.A whole Qc Ec s)
  (h:WE prog w c (eval l c.env) st (λa st1=>WE prog w c (eval r c.env) st1 (λb st2=>O2 prog w c t a b st2 Q X) X) X):WE prog w c whole st Q X:=λs fz ad fps S=>by
 refine hw s _ _ (h.use S (λva s1 a st1 fz1 ad1 fps1 x S1 ra h1=>?_) λU U e=>e)
 refine h1.use S1 (λvb s2 b st2 fz2 ad2 fps2 y S2 rb h2=>?_) λU U e=>e
 refine aD (h2 s2 fz2 ad2 fps2 va vb S2 (RV.mono (Zf.ext y.fz) y.ad _ _ ra) rb) (λv s' zz=>?_) λU U e=>e
 obtain⟨V,st',fz',ad',fps',z,z3,z4,z5⟩:=zz
 exact⟨V,st',fz',ad',fps',(x.trans y).trans z,z3,z4,z5⟩
theorem JB{l r:Expr}{op:Operator}{pos:Pos}(h:WE prog w c (eval l c.env) st (λa st1=>WE prog w c (eval r c.env) st1 (λb st2=>O2 prog w c (binaryOp op) a b st2 Q X) X) X):
  WE prog w c (eval (.BinOp l op r pos) c.env) st Q X:=vD (λU U U x=>ot x) h
end
end

section
abbrev aH:=List V->List af->(V->List af->Prop)->(Nat->Prop)->Prop
noncomputable def cZ(l:List Env):List Addr:=l.filterMap (·.frame)
structure Cx(K:Frag)(k:Nat)(A:Around)(envs:List Env)(base H:Heap)(gn bn:ac->Option Value):Prop where
 hA:A.frames=some envs
 hh:A.handled=Bx
 hgd:A.guards=some []
 depth:A.depth+2*k+10<recursionLimit
 units:A.units+8*k+20<cLine
 kin:K.In base
 lim:base.NoLimit
 baseH:base.StaysIn H
 frB:H.FunFrames base envs
 gns:base.Ns mainGlobals gn
 bns:base.Ns builtinsNs bn
 sz:base.objs.size<=H.objs.size
section
variable {K:Frag}{k:Nat}{A:Around}{envs:List Env}{base H:Heap}{gn bn:ac->Option Value}
theorem Cx.room(cx:Cx K k A envs base H gn bn):A.depth<recursionLimit:=cy (aJ (jk _ _) (jk _ _)) cx.depth
theorem Cx.deep(cx:Cx K (k+1) A envs base H gn bn):A.depth+1+2*k+10<recursionLimit:=by have:=cx.depth;lia
theorem Cx.wide(cx:Cx K (k+1) A envs base H gn bn):A.units+3+8*k+20<cLine:=by have:=cx.units;lia
end
inductive xK(P:Params)(envs:List Env)(base:Heap)(s:Shared)(fz:List (Addr×au))(ad:List Addr)(mu:List Addr)(Q:V->List af->Prop)(v:Value)(s':Shared):Prop
 |mk (V:V) (own':List af) (fz':List (Addr×au)) (ad':List Addr) (fps':List (List (Addr×au))) (a1:Q V own') (a2:∀p∈fz,p∈fz') (a3:ad <+: ad') (a4:s'.gens=s.gens) (a5:s'.drawn=s.drawn) (a6:s'.os=s.os)
  (a7:∀b o,s.heap.get? b=some o->b∉mu->b∉cZ envs->s'.heap.get? b=some o)
  (a8:∀b o,s.heap.get? b=some o->b∈cZ envs->∃sl,s'.heap.get? b=some { o with slots:=sl })
  (a9:∀b o,s.heap.get? b=some o->∃o',s'.heap.get? b=some o')
  (b1:∀p∈fz',s'.heap.get? p.1=some p.2/\(p∈fz\/s.heap.get? p.1=Bx\/p.1∈mu))
  (b2:∀p∈fps'.flatten,s'.heap.get? p.1=some p.2/\(p.1∈mu\/s.heap.get? p.1=Bx))
  (b3:(aT fps').Nodup) (b4:∀p∈fps'.flatten,∀q∈fz',p.1≠q.1)
  (b5:aS P (Zf base fz') ad' own' ad' fps') (b6:RV P (Zf base fz') ad' V v):xK P envs base s fz ad mu Q v s'
inductive gj(envs:List Env)(s:Shared)(mu:List Addr)(X:Nat->Prop)(e:Value)(s':Shared):Prop
 |mk (ea:Addr) (C:Nat) (B:Heap) (t:Addr) (a1:e=.ref ea) (a2:X C) (a3:s'.gens=s.gens) (a4:s'.drawn=s.drawn) (a5:s'.os=s.os) (a6:up B envs ea (.ref C) (.ref t) s'.heap)
  (a7:∀b o,s.heap.get? b=some o->b∉mu->b∉cZ envs->B.get? b=some o)
  (a8:∀b o,s.heap.get? b=some o->b∈cZ envs->∃sl,s'.heap.get? b=some { o with slots:=sl }):gj envs s mu X e s'
def jf(P:Params)(envs:List Env)(base:Heap)(s:Shared)(fz:List (Addr×au))(ad:List Addr)(mu:List Addr)(Q:V->List af->Prop)(X:Nat->Prop)(r:Result)(s':Shared):Prop:=match r with
 |.ok (.ret v)=>xK P envs base s fz ad mu Q v s'
 |.ok _=>False
 |.error e=>gj envs s mu X e s'
def ah(prog:Program)(w:World)(K:Frag)(gn bn:ac->Option Value)(k:Nat)(f:Value)(C:aH):Prop :=
 ∀(A:Around) (envs:List Env) (base:Heap) (s:Shared) (vals:List Value) (args:List V) (own:List af) (ad:List Addr) (fps:List (List (Addr×au))) (fz:List (Addr×au)) (Q:V->List af->Prop) (X:Nat->Prop),
  Cx K k A envs base s.heap gn bn ->
  (∀p∈fz,s.heap.get? p.1=some p.2/\p.1∉cZ envs) ->
  (∀p∈fps.flatten,s.heap.get? p.1=some p.2/\p.1∉cZ envs/\base.get? p.1=Bx)->(aT fps).Nodup->(∀p∈fps.flatten,∀q∈fz,p.1≠q.1) ->
  aS w.params (Zf base fz) ad own ad fps->aV w.params (Zf base fz) ad args vals->C args own Q X ->
  bh (model prog w) A (.call f ⟨vals,[]⟩) (jf w.params envs base s fz ad (aT fps) Q X) s
def ec(n:Nat):V->Prop
 |.d _=>True
 |.own i=>i<n
def jV(n:Nat):List (Nat×V)->Prop
 |[]=>True
 |(_,v)::r=>ec n v/\jV n r
def iP(n:Nat):af->Prop
 |.inst _ fs=>jV n fs
 |_=>True
def ib(n:Nat):List af->Prop
 |[]=>True
 |o::r=>iP n o/\ib n r
inductive Fin(np:Nat):V->List af->V->List af->Prop
 |keep {V:V} {own:List af} (n:Nat) (hn:np<=n) (hb:ec n V) (ho:ib n (own.take n)):Fin np V own V (own.take n)
 |frz {own:List af} {items:List D} (n j:Nat) (hn:np<=n) (hj:n<=j) (e:getN own j=some (.lst items)) (ho:ib n (own.take n)):Fin np (.own j) own (.d (.list items)) (own.take n)
section
variable {P:Params}{Z:Zt}{ad:List Addr}
theorem RV.take{n:Nat}{V:V}{v:Value}(hb:ec n V)(h:RV P Z ad V v):RV P Z (ad.take n) V v:=by
 cases V with
 |d x=>exact h
 |own i =>
  refine elE1 h λa=>ae λe r=>?_;clear h
  exact⟨a,by refine rwr (List.getElem?_take_of_lt hb ..) ?_;exact e,r⟩
theorem aX.take{n:Nat}:∀{fs:List (Nat×V)} {es:List DictEntry},jV n fs->aX P Z ad fs es->aX P Z (ad.take n) fs es
 |[],_,_,h=>h
 |(k,v)::r,es,hb,h=>by
  refine elE3 h λx tk es'=>aY λhk e h1 h2=>?_;clear h
  exact(ex3 x tk es' ⟨hk,e,RV.take hb.1 h1,aX.take hb.2 h2⟩)
theorem cW.take{n:Nat}{o:af}{a:Addr}{fp}(hb:iP n o)(h:cW P Z ad o a fp):cW P Z (ad.take n) o a fp:=by
 cases o with
 |inst C fs=>refine elE3 h λdx m es=>ae λe r=>?_;clear h;exact(ex3 dx m es ⟨e,aX.take hb r⟩)
 |lst vs=>exact h
 |ba b=>exact h
 |dead=>exact h
theorem aS.take'{n:Nat}{os as fps}(h:aS P Z ad os as fps)(hb:ib n os):aS P Z (ad.take n) os as fps:=by
 induction h with
 |nil=>exact .nil
 |cons x _ ih=>exact .cons (x.take hb.1) (ih hb.2)
theorem aS.cut{os as fps}(h:aS P Z ad os as fps):∀n,aS P Z ad (os.take n) (as.take n) (fps.take n):=by
 induction h with
 |nil=>intro n;simp;exact .nil
 |cons x _ ih=>intro n;cases n with
  |zero=>simp;exact .nil
  |succ n=>simp only[List.take_succ_cons];exact .cons x (ih n)
theorem aS.get{os as fps}(h:aS P Z ad os as fps):∀{i:Nat} {o:af},os[i]? = some o->∃a fp,as[i]? = some a/\fps[i]? = some fp/\cW P Z ad o a fp:=by
 induction h with
 |nil=>intro i o e;simp at e
 |cons x _ ih=>intro i o e;cases i with
  |zero=>simp at e;subst e;exact(ex2 _ _ ⟨rfl,rfl,x⟩)
  |succ i=>simp only[List.getElem?_cons_succ]at e ⊢;exact ih e
end
end

section
theorem Fk{ps:List ac}:∀{vals:List Value},ps.Nodup->∀{i:Nat} {x:ac} {v:Value},ps[i]? = some x->vals[i]? = some v->(ps.zip vals).reverse.lookup x=some v:=by
 induction ps with
 |nil=>intro vals U i x v e;simp at e
 |cons p ps ih =>
  intro vals hn i x v e1 e2
  rw[gm]at hn
  cases vals with
  |nil=>simp at e2
  |cons u vals =>
   refine rwr (pK ..) (rwr (List.reverse_cons ..) (rwr (List.lookup_append ..) ?_))
   cases i with
   |zero =>
    simp at e1 e2
    subst e1 e2
    have:List.lookup p (ps.zip vals).reverse=Bx:=by
     refine rwr (propext (List.lookup_eq_none_iff ..)) ?_
     intro q hq
     rw[List.mem_reverse]at hq
     have:=(List.of_mem_zip (a:=q.1) (b:=q.2) hq).1
     have ne:p≠q.1:=λe'=>hn.1 (e'▸this)
     simpa using ne
    refine rwr (this ..) ?_
    simp
   |succ i =>
    simp at e1 e2
    refine rwr (ih hn.2 e1 e2 ..) ?_
    simp
theorem aV.len{P:Params}{Z:Zt}{ad:List Addr}:∀{args:List V} {vals:List Value},aV P Z ad args vals->vals.length=args.length
 |[],vals,h=>by have h:_=_:=h;subst h;rfl
 |v::r,vals,h=>by
  refine elE2 h λx ys=>al λz0 U h2=>?_;clear h;subst z0
  simp[aV.len h2]
theorem aV.get{P:Params}{Z:Zt}{ad:List Addr}:∀{args:List V} {vals:List Value},aV P Z ad args vals->∀{i:Nat} {V:V},args[i]? = some V->∃v,vals[i]? = some v/\RV P Z ad V v
 |[],vals,h,i,V,e=>by simp at e
 |v::r,vals,h,i,V,e=>by
  refine elE2 h λx ys=>al λz0 h1 h2=>?_;clear h;subst z0
  cases i with
  |zero=>simp at e;subst e;exact⟨x,rfl,h1⟩
  |succ i=>simp at e ⊢;exact aV.get h2 e
section
variable {prog:Program}{w:World}{K:Frag}{k:Nat}{gn bn:ac->Option Value}{C:aH}{np:Nat}{fd:FuncData}{body:List Stmt}{ps nm:List ac}{fa:Addr}
theorem wF{c:FC}(ok:am K k c){st:St}{ea:Addr}{Cn:Nat}{s':Shared}{X:Nat->St->Prop}
  (hx:su w.params c st ea Cn s') (hX:X Cn st):bD prog w c X (.ref ea) s':=by
 unfold bD
 obtain⟨h0,m,fz,ad,I,_,g1,g2,g3,hx⟩:=hx
 have frd:∀b o,c.H.get? b=some o->b∈c.frs->∀vs,o.data≠.fields vs:=λb o e q=>by
  refine ak (ok.frB.mem (show b∈c.outer.filterMap (·.frame) from q)) λU=>uE1 λo'=>ae λho' hd=>?_
  rw[e]at ho';cases ho';exact hd
 have frAll:h0.FunFrames (hideAll h0 ((c.env::c.outer).filterMap (·.frame))) (c.env::c.outer):=by
  have base0:c.base.StaysIn h0:=λb o e=>I.keep b o (ok.baseH b o e) (λq=>by rw[ok.muB b q]at e;cases e) (λq=>by rw[ok.frBase q]at e;cases e)
  have fr0:h0.FunFrames c.base (c.env::c.outer):=by
   refine Ld (by refine rwr (ok.hk ..) ?_;decide) ok.hf I.ns (cI.baseL ok) (go h0 I c.outer ok.frB λb hb=>hb)
  exact funFrames_hide fr0 λenv he b hb=>List.mem_filterMap.mpr ⟨env,he,hb⟩
 refine ao hx (uE1 λvs hx=>?_) (uE2 λB t=>al λhx hB hU=>?_)
 ·refine wpAny_leaves_madeW ok.hA ok.hf (λb o q=>of_hideAll _ q) frAll hx λh' t x1 x2 x3 x4=>?_
  refine⟨ea,Cn,st,_,t,rfl,hX,g1,g2,g3,x1,λb o e n1 n2=>?_,λb o e n=>?_⟩
  ·refine hideAll_get _ (I.keep b o e n1 n2) λq=>?_
   rw[iv,ok.hf]at q
   refine ao (bZ.mp q) (λq=>?_) λq=>?_
   ·have:=ok.LH;rw[<-q,e]at this;cases this
   ·exact n2 q
  ·refine elE1 (I.slot b o e n) λsl hs=>?_
   refine elE1 (x4 b _ (hx.keeps b _ hs) (frd b o e n)) λsl' hs'=>?_
   exact⟨sl',hs'⟩
 ·refine wpAny_leaves_onW ok.hA ok.hf hx λh' x1 x2=>?_
  refine⟨ea,Cn,st,B,t,rfl,hX,g1,g2,g3,x1,λb o e n1 n2=>?_,λb o e n=>?_⟩
  ·refine hB b o (I.keep b o e n1 n2) (λq=>?_) n2
   have:=ok.LH;rw[<-q,e]at this;cases this
  ·refine elE1 (I.slot b o e n) λsl hs=>?_
   refine elE1 (hU b _ hs (frd b o e n)) λsl' hs'=>?_
   refine elE1 (x2 b _ hs' (frd b o e n)) λsl2 hs2=>?_
   exact⟨sl2,hs2⟩
where
 go {c:FC} (h0:Heap) {m fz} (I:td c h0 m fz):∀(l:List Env),c.H.FunFrames c.base l->(∀b∈l.filterMap (·.frame),b∈c.frs)->h0.FunFrames c.base l
 |[],_,_=>trivial
 |env::r,⟨hk,⟨L,o,hf,hn,ho,hd⟩,hr⟩,hin=>by
  have hL:L∈c.frs:=hin L (by refine rwr (iv ..) (rwr (hf ..) ?_);exact .head _)
  refine elE1 (I.slot L o ho hL) λsl hs=>?_
  refine⟨hk,(ex2 L _ ⟨hf,hn,hs,hd⟩),go h0 I r hr λb hb=>hin b ?_⟩
  refine rwr (iv ..) (rwr (hf ..) ?_);exact .tail _ hb
end
end

section
section
variable {prog:Program}{w:World}{K:Frag}{k:Nat}{gn bn:ac->Option Value}{C:aH}{np:Nat}{fd:FuncData}{body:List Stmt}{ps nm:List ac}{fa:Addr}
noncomputable def Gm:Flow->Value
 |.ret v=>v
 |_=>.none
theorem CV{α:Type}{l r:List α}{i:Nat}{a:α}(h:l[i]? = some a):getN (l++r) i=some a:=by
 refine rwr (bk ..) (rwr (ji (dD.mp h).1 ..) ?_);exact h
theorem CA{c:FC}{s:Shared}{h₁:Heap}{vals:List Value}{args:List V}{own:List af}{ad fps fz}(hH:c.H=s.heap)(hG:c.G=s.gens)(hD:c.D=s.drawn)(hO:c.O=s.os)(hmu:c.mu=aT fps)(hz0:c.fz0=fz)(hL:c.L=s.heap.objs.size)(hnm:c.nm=nm)
  (hps:ps <+: nm) (hnN:nm.Nodup) (hlen:args.length=ps.length)
  (hns:h₁.Ns c.L (λx=>(ps.zip vals).reverse.lookup x)) (hk₁:∀b o,s.heap.get? b=some o->h₁.get? b=some o)
  (hfz:∀p∈fz,s.heap.get? p.1=some p.2/\p.1∉c.frs) (hfp:∀p∈fps.flatten,s.heap.get? p.1=some p.2/\p.1∉c.frs) (hnd:(aT fps).Nodup) (hdis:∀p∈fps.flatten,∀q∈fz,p.1≠q.1)
  (hR:aS w.params (Zf c.base fz) ad own ad fps) (hA:aV w.params (Zf c.base fz) ad args vals) (tk:Nat):
  SR w.params c ⟨args.map some++ay (nm.length-ps.length) Bx,own⟩ fz ad fps { s with heap:=h₁,toks:=tk }:=by
 have neL:∀p:Addr×au,s.heap.get? p.1=some p.2->p.1≠c.L:=λp e q=>by
  have:=cL e;rw[q,hL]at this;exact fM _ this
 refine⟨_,⟨hns,λb o e U U=>hk₁ b o (by refine rwr (aM (hH ..)) ?_;exact e),λb o e U=>⟨o.slots,hk₁ b o (by refine rwr (aM (hH ..)) ?_;exact e)⟩,λb o e=>⟨o,hk₁ b o (by refine rwr (aM (hH ..)) ?_;exact e)⟩,λp hp=>?_,λp hp=>?_,hnd,hdis⟩,hR,?_,hG.symm,hD.symm,hO.symm⟩
 ·refine ak (hfz p hp) λa1 a2=>?_
  exact⟨hk₁ _ _ a1,neL p a1,a2,.inl (by refine rwr (hz0 ..) ?_;exact hp)⟩
 ·refine ak (hfp p hp) λa1 a2=>?_
  refine⟨hk₁ _ _ a1,neL p a1,a2,.inl ?_⟩
  refine rwr (hmu ..) ?_;exact du hp
 ·intro i x V hx hV
  rw[hnm]at hx
  have hi:i<args.length:=by
   cases hlt:decide (i<args.length) with
   |true=>exact of_decide_eq_true hlt
   |false =>
    exfalso
    have hge:args.length<=i:=by have:=of_decide_eq_false hlt;lia
    rw[bk,uq (by simpa using hge)]at hV
    rw[List.getElem?_replicate]at hV
    split at hV <;>cases hV
  have hV':args[i]? = some V:=by
   rw[bk,ji (by simpa using hi),dO]at hV
   cases q:args[i]? with
   |none=>rw[q]at hV;cases hV
   |some V'=>rw[q]at hV;simp at hV;exact rwr (hV ..) rfl
  refine elE1 (aV.get hA hV') λv=>ae λhv r=>?_
  refine⟨v,?_,r⟩
  have hp:ps[i]? = some x:=by
   refine elE1 hps λt z0=>?_;clear hps;subst z0
   rw[ji (by lia)]at hx
   exact hx
  exact Fk (hps.sublist.nodup hnN) hp hv
theorem aV.append{P:Params}{Z:Zt}{ad:List Addr}:∀{as bs:List V} {xs ys:List Value},aV P Z ad as xs->aV P Z ad bs ys->aV P Z ad (as++bs) (xs++ys)
 |[],_,_,_,h,g=>by have h:_=_:=h;subst h;exact g
 |a::r,_,_,_,h,g=>by
  refine elE2 h λx xs=>al λz0 h1 h2=>?_;clear h;subst z0
  exact(ex2 x _ ⟨rfl,h1,aV.append h2 g⟩)
set_option tactic.hygienic true in
theorem wC{c:FC}{envs:List Env}{base:Heap}{s s0:Shared}{fz:List (Addr×au)}{ad:List Addr}{fps:List (List (Addr×au))}{own:List af}{Q:V->List af->Prop}{X:Nat->Prop}{st:St}
  (ho:c.outer=envs) (hb:c.base=base) (hH:∀b o,s.heap.get? b=some o->c.H.get? b=some o) (hmu:c.mu=aT fps) (hz0:c.fz0=fz) (hG:c.G=s.gens) (hD:c.D=s.drawn) (hO:c.O=s.os) (hlo:own.length=ad.length)
  (S0:SR w.params c st fz ad fps s0) {t:Sem Flow} (h:WS prog w c t st (λfl st'=>∃V,(fl=.ret V\/(fl=.next/\V=.d .none))/\∃V' own',Fin own.length V st'.own V' own'/\Q V' own') (λCn U=>X Cn)):
  ag (model prog w) c.A t (λf s'=>jf w.params envs base s fz ad (aT fps) Q X (.ok (.ret (match f with | .ret v=>v | _=>.none))) s')
   (λe s'=>wpAny (model prog w) c.A (leaving c.env e) (λU s''=>jf w.params envs base s fz ad (aT fps) Q X (.error e) s'') (λe' s''=>jf w.params envs base s fz ad (aT fps) Q X (.error e') s'') s') s0:=by
 obtain⟨cenv,cA,couter,cbase,cH,cmu,cfz0,cnm,cgn,cbn,cG,cD,cO⟩:=c
 dsimp only at ho hb hH hmu hz0 hG hD hO
 subst ho hb hmu hz0 hG hD hO
 refine h.use S0 (λf s' fl st' fz' ad' fps' av S' rf hq=>?_) (λe s' hx=>?_)
 ·refine elE1 hq λV=>ae λhfl=>uE2 λV' own'=>ae λhF hQ=>?_;clear hq
  have e1:=av.fz
  have e2:=av.ad
  obtain⟨m,I,R,_,g1,g2,g3⟩:=S'
  have rv:RV w.params (Zf cbase fz') ad' V (Gm f):=by
   refine ao hfl (λz0=>?_) (ae λz1 z2=>?_) <;>clear hfl <;>(try subst z0) <;>(try subst z1) <;>(try subst z2)
   ·refine elE1 rf λv=>ae λz0 r=>?_;clear rf;subst z0
    exact r
   ·have:f=.next:=rf
    subst this
    exact(rfl:Value.none=.none)
  have subF:∀n,∀p∈(fps'.take n).flatten,p∈fps'.flatten:=λn p hp=>by
   refine elE1 (iw.mp hp) λl=>ae λhl hp=>?_
   exact iw.mpr ⟨l,mB hl,hp⟩
  have ndT:∀n,(aT (fps'.take n)).Nodup:=λn=>by
   have:=I.nd
   have e:fps'.flatten=(fps'.take n).flatten++(fps'.drop n).flatten:=by exact rwr (aM (k_ ..)) (rwr (ur ..) rfl)
   rw[e,eK]at this
   exact(jl.mp this).1
  have adT:∀n,own.length<=n->ad <+: ad'.take n:=λn hn=>List.prefix_take_iff.mpr ⟨e2,by lia⟩
  have keepP:∀b o,s.heap.get? b=some o->b∉aT fps->b∉cZ couter->s'.heap.get? b=some o:=λb o e n1 n2=>I.keep b o (hH b o e) n1 n2
  have nn:∀a,cH.get? a=Bx->s.heap.get? a=Bx:=λa h=>by
   cases q:s.heap.get? a with
   |none=>rfl
   |some o=>have:=hH a o q;rw[h]at this;cases this
  have liveP:∀b o,s.heap.get? b=some o->∃o',s'.heap.get? b=some o':=λb o e=>I.live b o (hH b o e)
  have slotP:∀b o,s.heap.get? b=some o->b∈cZ couter->∃sl,s'.heap.get? b=some { o with slots:=sl }:=λb o e q=>I.slot b o (hH b o e) q
  have fzP:∀p∈fz',s'.heap.get? p.1=some p.2/\(p∈cfz0\/s.heap.get? p.1=Bx\/p.1∈aT fps):=λp hp=>⟨(I.fzH p hp).1,(I.fzH p hp).2.2.2.imp id λz=>z.imp (nn _) id⟩
  have ownP:∀n,∀p∈(fps'.take n).flatten,s'.heap.get? p.1=some p.2/\(p.1∈aT fps\/s.heap.get? p.1=Bx):=λn p hp=>⟨(I.own p (subF n p hp)).1,(I.own p (subF n p hp)).2.2.2.imp id (nn _)⟩
  have RT:∀n,ib n (st'.own.take n)->aS w.params (Zf cbase fz') (ad'.take n) (st'.own.take n) (ad'.take n) (fps'.take n):=λn ho=>aS.take' (R.cut n) ho
  cases hF with
  |keep n hn hb ho =>
   exact⟨V,_,fz',ad'.take n,fps'.take n,hQ,e1,adT n hn,g1,g2,g3,keepP,slotP,liveP,fzP,ownP n,ndT n,λp hp q hq=>I.dis p (subF n p hp) q hq,RT n ho,RV.take hb rv⟩
  |frz n j hn hj e ho =>
   rename_i items
   rw[bk]at e
   refine elE2 (R.get e) λa fp=>al λea ef=>uE2 λxs m'=>ae λy5 rd=>?_;subst y5
   have hfp:(a,listOf xs m')∈fps'.flatten:=iw.mpr ⟨_,cw ef,.head _⟩
   have hnotin:∀p∈(fps'.take n).flatten,p.1≠a:=λp hp q=>by
    have nd:=I.nd
    have e':fps'.flatten=(fps'.take n).flatten++(fps'.drop n).flatten:=by exact rwr (aM (k_ ..)) (rwr (ur ..) rfl)
    rw[e',eK]at nd
    refine(jl.mp nd).2.2 p.1 (du hp) a ?_ q
    refine aW.mpr ⟨(a,listOf xs m'),iw.mpr ⟨[(a,listOf xs m')],?_,.head _⟩,rfl⟩
    refine cw (i:=j-n) ?_
    refine rwr (us ..) (rwr (show n+(j-n)=j from Nat.add_sub_cancel' (by assumption)) ?_)
    exact ef
   have ex:d_ (Zf cbase fz') (Zf cbase (fz'++[(a,listOf xs m')])):=Zf.ext λp hp=>dE _ hp
   refine⟨_,_,fz'++[(a,listOf xs m')],ad'.take n,fps'.take n,hQ,λp hp=>dE _ (e1 p hp),adT n hn,g1,g2,g3,keepP,slotP,liveP,λp hp=>?_,ownP n,ndT n,λp hp q hq=>?_,(RT n ho).mono ex (eB _),?_⟩
   ·refine ao (cQ.mp hp) (λhp=>?_) λhp=>?_
    ·exact fzP p hp
    ·simp only[bj]at hp
     subst hp
     refine cX (I.own _ hfp) λb1 U U b4=>?_
     refine⟨b1,?_⟩
     refine ao b4 (λb4=>?_) λb4=>?_
     ·exact .inr (.inr b4)
     ·exact .inr (.inl (nn _ b4))
   ·refine ao (cQ.mp hq) (λhq=>?_) λhq=>?_
    ·exact I.dis p (subF n p hp) q hq
    ·simp only[bj]at hq
     subst hq
     exact hnotin p hp
   ·refine ao hfl (λz0=>?_) (ae λU hv=>?_) <;>clear hfl <;>(try subst z0)
    ·refine elE1 rf λv=>ae λy5=>uE1 λa'=>ae λea' er=>?_;clear rf;subst y5
     rw[ea]at ea'
     cases ea'
     exact(ex3 a xs m' ⟨er,.inr (gp _ (.head _)),RDs.mono ex _ _ rd⟩)
    ·cases hv
 ·refine wpAny_mono hx (λU s'' hr=>?_) λU U x=>x.elim
  obtain⟨ea,Cn,st',B,t,rfl,hX,r1,r2,r3,r4,r5,r6⟩:=hr
  exact⟨ea,Cn,B,t,rfl,hX,r1,r2,r3,r4,λb o e=>r5 b o (hH b o e),λb o e=>r6 b o (hH b o e)⟩
theorem ah.of_body{oc:Value}{od:Option Addr}{osl:Array (Option Value)}
  {dv:List Value} {dargs:List V} (hdv:∀Z ad,aV w.params Z ad dargs dv) (hf:K.lookup fa=some ⟨oc,od,.func fd,osl⟩) (hbody:fd.body=.stmts body) (hcd:codeIn K fd.code fd.qualname=true)
  (hbind:∀(vals:List Value) (s:Shared),K.In s.heap->vals.length+dv.length=ps.length->BindsTo s fd ⟨vals,[]⟩ (ps.zip (vals++dv)))
  (hloc:∀x∈ps,fd.scope.names.lookup x=some .local) (hcell:∀x∈fd.scope.names,x.2≠.cell)
  (hgl:fd.globals=mainGlobals) (hbl:fd.builtins=builtinsNs)
  (hps:ps <+: nm) (hnN:nm.Nodup) (hnL:∀x∈nm,fd.scope.names.lookup x=some .local/\(x==("__debug__" : ac))=false)
  (hC:∀args own Q X,C args own Q X->args.length+dargs.length=ps.length)
  (hB:∀c,am K k c->c.nm=nm->c.gn=gn->c.bn=bn->(∃L,c.env=callEnv fd L fa)->∀args own Q X,C args own Q X->(own=[]->c.mu=[]) ->
   WS prog w c (execs body c.env) ⟨(args++dargs).map some++ay (nm.length-ps.length) Bx,own⟩
    (λfl st'=>∃V,(fl=.ret V\/(fl=.next/\V=.d .none))/\∃V' own',Fin own.length V st'.own V' own'/\Q V' own') (λCn U=>X Cn))
  (hco:fd.scope.isCoroutine=false) (hgen:fd.scope.isGenerator=false) (hk:fd.scope.kind=.function):
  ah prog w K gn bn (k+1) (.ref fa) C:=by
 intro A envs base s vals args own ad fps fz Q X cx hfz hfp hnd hdis hR hA hCC
 have X0:K.In s.heap:=cx.kin.keeps cx.baseH
 have hlen:=hC _ _ _ _ hCC
 have hdl:dv.length=dargs.length:=aV.len (hdv (Zf base fz) ad)
 have hvl:vals.length+dv.length=ps.length:=by refine rwr (aV.len hA ..) (rwr (hdl ..) ?_);exact hlen
 have hA':aV w.params (Zf base fz) ad (args++dargs) (vals++dv):=aV.append hA (hdv _ _)
 refine Fc (fd:=fd) (body:=body) (binds:=ps.zip (vals++dv)) cx.room (X0 _ _ hf) rfl (cx.lim.keeps cx.baseH) (codeRec_of X0 hcd) hbody (hbind vals s X0 hvl) hcell
  (λx hx=>hloc x.1 (List.of_mem_zip (a:=x.1) (b:=x.2) hx).1) (λh₁ hns hk₁=>?_) hco hgen hk
 let c:FC:={ env:=callEnv fd s.heap.objs.size fa,A:=A.deeper (callEnv fd s.heap.objs.size fa),outer:=envs,base:=base,H:=s.heap,mu:=aT fps,fz0:=fz,nm:=nm,gn:=gn,bn:=bn,G:=s.gens,D:=s.drawn,O:=s.os }
 have hL:c.L=s.heap.objs.size:=rfl
 have ok:am K k c:=by
  refine⟨Le cx.hA,rfl,hk,hgl,hbl,cx.hh,cx.hgd,?_,?_,cx.kin,cx.lim,cx.baseH,cx.frB,?_,λa ha=>?_,λa ha=>?_,hnN,hnL,cx.gns,cx.bns,cx.sz⟩
  ·exact cx.deep
  ·exact cx.wide
  ·show s.heap.get? s.heap.objs.size=Bx
   cases q:s.heap.get? s.heap.objs.size with
   |none=>rfl
   |some o=>exact absurd (cL q) (fM _)
  ·refine elE1 (aW.mp ha) λp=>ae λhp z0=>?_;subst z0
   exact(hfp p hp).2.2
  ·refine elE1 (aW.mp ha) λp=>ae λhp z0=>?_;subst z0
   exact(hfp p hp).2.1
 have S0:=CA (w:=w) (c:=c) (ps:=ps) (nm:=nm) (h₁:=h₁) rfl rfl rfl rfl rfl rfl hL rfl hps hnN (by refine rwr (bV ..) ?_;exact hlen) hns hk₁ hfz (λp hp=>⟨(hfp p hp).1,(hfp p hp).2.1⟩) hnd hdis hR hA' (s.toks+(ps.zip (vals++dv)).length)
 exact wC (c:=c) (st:=⟨(args++dargs).map some++ay (nm.length-ps.length) Bx,own⟩) rfl rfl (λU U e=>e) rfl rfl rfl rfl rfl hR.len.1 S0 (hB c ok rfl rfl rfl ⟨_,rfl⟩ args own Q X hCC (λe=>by
  subst e
  have:=hR.len
  have e1:ad=[]:=mC this.1.symm
  have e2:fps=[]:=mC (by refine rwr (this.2 ..) (rwr (e1 ..) ?_);rfl)
  show aT fps=[]
  refine rwr (e2 ..) ?_;rfl))
end
end

section
noncomputable def renV(f:Nat->Nat):V->V
 |.d x=>.d x
 |.own i=>.own (f i)
noncomputable def renF(f:Nat->Nat):List (Nat×V)->List (Nat×V)
 |[]=>[]
 |(k,v)::r=>(k,renV f v)::renF f r
noncomputable def renO(f:Nat->Nat):af->af
 |.inst C fs=>.inst C (renF f fs)
 |o=>o
noncomputable def setAll{α:Type}:List α->List Nat->List α->List α
 |l,i::is,x::xs=>setAll (setN l i x) is xs
 |l,_,_=>l
noncomputable def pick(sel:List Nat)(j:Nat):Nat:=(getN sel j).getD 0
noncomputable def sig(sel:List Nat)(n:Nat)(j:Nat):Nat:=bif b_ j sel.length then pick sel j else n+(j-sel.length)
noncomputable def merge(own:List af)(sel:List Nat)(own':List af):List af :=
 setAll own sel ((own'.take sel.length).map (renO (sig sel own.length)))++(own'.drop sel.length).map (renO (sig sel own.length))
theorem gU{α:Type}(l:List α)(i:Nat)(x:α):(setN l i x).length=l.length:=by exact rwr (hZ ..) (rwr (List.length_set ..) rfl)
section
variable {P:Params}{Z:Zt}{ad ad':List Addr}
theorem RV.ren{f:Nat->Nat}{n:Nat}{V:V}{v:Value}(hf:∀i a,ad[i]? = some a->ad'[f i]? = some a)(h:RV P Z ad V v):RV P Z ad' (renV f V) v:=by
 cases V with
 |d x=>exact h
 |own i=>refine elE1 h λa=>ae λe r=>?_;clear h;exact⟨a,hf _ _ e,r⟩
theorem aX.ren{f:Nat->Nat}(hf:∀i a,ad[i]? = some a->ad'[f i]? = some a):∀{fs:List (Nat×V)} {es:List DictEntry},aX P Z ad fs es->aX P Z ad' (renF f fs) es
 |[],_,h=>h
 |(k,v)::r,es,h=>by
  refine elE3 h λx tk es'=>aY λhk e h1 h2=>?_;clear h
  exact(ex3 x tk es' ⟨hk,e,RV.ren (n:=0) hf h1,aX.ren hf h2⟩)
theorem cW.ren{f:Nat->Nat}(hf:∀i a,ad[i]? = some a->ad'[f i]? = some a){o:af}{a:Addr}{fp}(h:cW P Z ad o a fp):cW P Z ad' (renO f o) a fp:=by
 cases o with
 |inst C fs=>refine elE3 h λdx m es=>ae λe r=>?_;clear h;exact(ex3 dx m es ⟨e,aX.ren hf r⟩)
 |lst vs=>exact h
 |ba b=>exact h
 |dead=>exact h
theorem RV.unren{f:Nat->Nat}{n:Nat}{V:V}{v:Value}(hf:∀i a,i<n->ad'[f i]? = some a->ad[i]? = some a)(hb:ec n V)(h:RV P Z ad' (renV f V) v):RV P Z ad V v:=by
 cases V with
 |d x=>exact h
 |own i=>refine elE1 h λa=>ae λe r=>?_;clear h;exact⟨a,hf _ _ hb e,r⟩
theorem aX.unren{f:Nat->Nat}{n:Nat}(hf:∀i a,i<n->ad'[f i]? = some a->ad[i]? = some a):∀{fs:List (Nat×V)} {es:List DictEntry},jV n fs->aX P Z ad' (renF f fs) es->aX P Z ad fs es
 |[],_,_,h=>h
 |(k,v)::r,es,hb,h=>by
  refine elE3 h λx tk es'=>aY λhk e h1 h2=>?_;clear h
  exact(ex3 x tk es' ⟨hk,e,RV.unren hf hb.1 h1,aX.unren hf hb.2 h2⟩)
theorem cW.unren{f:Nat->Nat}{n:Nat}(hf:∀i a,i<n->ad'[f i]? = some a->ad[i]? = some a){o:af}{a:Addr}{fp}(hb:iP n o)(h:cW P Z ad' (renO f o) a fp):cW P Z ad o a fp:=by
 cases o with
 |inst C fs=>refine elE3 h λdx m es=>ae λe r=>?_;clear h;exact(ex3 dx m es ⟨e,aX.unren hf hb r⟩)
 |lst vs=>exact h
 |ba b=>exact h
 |dead=>exact h
theorem aS.at1{os as fps}(h:aS P Z ad os as fps):∀{i:Nat} {o:af} {a:Addr} {fp},as[i]? = some a->cW P Z ad o a fp->aS P Z ad (setN os i o) as (setN fps i fp):=by
 induction h with
 |nil=>intro i o a fp e;simp at e
 |cons x hr ih=>intro i o a fp e y;cases i with
  |zero=>simp at e;subst e;exact .cons y hr
  |succ i=>simp at e;exact .cons x (ih e y)
theorem aS.append{os as fps os' as' fps'}(h:aS P Z ad os as fps)(h':aS P Z ad os' as' fps'):aS P Z ad (os++os') (as++as') (fps++fps'):=by
 induction h with
 |nil=>exact h'
 |cons x _ ih=>exact .cons x ih
theorem aS.atAll:∀(sel:List Nat) (os:List af) (as:List Addr) (fps:List (List (Addr×au))) (xs:List af) (bs:List Addr) (gs:List (List (Addr×au))),aS P Z ad os as fps->aS P Z ad xs bs gs->bs=sel.map (λi=>(as[i]?).getD 0)->(∀i∈sel,i<as.length)->aS P Z ad (setAll os sel xs) as (setAll fps sel gs):=by
 intro sel
 induction sel with
 |nil =>
  intro os as fps xs bs gs h h' e U
  cases h' with
  |nil=>exact h
  |cons _ _=>simp at e
 |cons i sel ih =>
  intro os as fps xs bs gs h h' e hl
  cases h' with
  |nil=>simp at e
  |cons x hr =>
   simp only[eM,List.cons.injEq]at e
   have hi:=hl i (.head _)
   have hai:as[i]? = some as[i]:=cM hi
   rw[hai]at e
   refine ak e ?_;clear e;refine λe1 e=>?_
   have e1':_=as[i]:=e1
   subst e1'
   exact ih _ as _ _ _ _ (aS.at1 h hai x) hr e λj hj=>hl j (.tail _ hj)
end
noncomputable def dT{β:Type}:List (List β)->List Nat->List (List β)
 |l,[]=>l
 |l,i::is=>dT (setN l i []) is
theorem F8{α:Type}(l:List α){i j:Nat}(a b:α)(h:i≠j):setN (setN l i a) j b=setN (setN l j b) i a:=by
 simp only[hZ];exact List.set_comm _ _ h
theorem qr{β:Type}:∀(is:List Nat) (l:List (List β)) {i:Nat} (a:List β),i∉is->dT (setN l i a) is=setN (dT l is) i a
 |[],_,_,_,_=>rfl
 |j::is,l,i,a,h=>by
  show dT (setN (setN l i a) j []) is=_
  rw[F8 _ _ _ (λe:i=j=>h (by rw[e];exact .head _)),qr is _ _ λq=>h (.tail _ q)]
  rfl
theorem jY{β:Type}:∀(l:List (List β)) {i:Nat} (a:List β),i<l.length->(setN l i a).flatten.Perm (a++(setN l i []).flatten)
 |[],i,a,h=>absurd h (mD _)
 |x::l,0,a,_=>.refl _
 |x::l,i+1,a,h=>by
  have:=jY l a (Nat.lt_of_succ_lt_succ h)
  refine(ut x this:(x++(setN l i a).flatten).Perm _).trans ?_
  show List.Perm _ (a++(x++(setN l i []).flatten))
  refine rwr (aM (e_ ..)) (rwr (aM (e_ ..)) ?_)
  exact By _ Bz
theorem lx{α:Type}:∀{l:List α} {i:Nat} {a:α},l[i]? = some a->setN l i a=l
 |[],_,_,h=>by cases h
 |x::l,0,a,h=>by simp at h;subst h;rfl
 |x::l,i+1,a,h=>by
  show x::setN l i a=x::l
  exact rwr (lx (by simpa using h)) rfl
theorem vn{β:Type}:∀(is:List Nat) (l:List (List β)),(dT l is).length=l.length
 |[],_=>rfl
 |i::is,l=>(vn is _).trans (by exact rwr (gU ..) rfl)
theorem wi{β:Type}:∀(sel:List Nat) (l gs:List (List β)),sel.Nodup->gs.length=sel.length->(∀i∈sel,i<l.length)->(setAll l sel gs).flatten.Perm (gs.flatten++(dT l sel).flatten)
 |[],l,gs,_,hg,_=>by
  cases gs with
  |nil=>exact .refl _
  |cons=>exact nomatch hg
 |i::sel,l,[],_,hg,_=>nomatch hg
 |i::sel,l,g::gs,hn,hg,hl=>by
  rw[gm]at hn
  have h1:=wi sel (setN l i g) gs hn.2 (by simpa using hg) (λj hj=>by refine rwr (gU ..) ?_;exact hl j (.tail _ hj))
  refine(show (setAll l (i::sel) (g::gs)).flatten.Perm _ from h1).trans ?_
  refine rwr (qr _ _ _ hn.1 ..) ?_
  have h2:=jY (dT l sel) g (by refine rwr (vn ..) ?_;exact hl i (.head _))
  refine(ut _ h2).trans ?_
  refine rwr (show dT l (i::sel)=setN (dT l sel) i [] from qr _ _ _ hn.1) (rwr (mE ..) (rwr (aM (e_ ..)) ?_))
  exact By _ Bz
theorem wo{β:Type}:∀(sel:List Nat) (l gs:List (List β)),sel.Nodup->gs=sel.map (λi=>(l[i]?).getD [])->(∀i∈sel,i<l.length)->l.flatten.Perm (gs.flatten++(dT l sel).flatten)
 |[],l,gs,_,hg,_=>by subst hg;exact .refl _
 |i::sel,l,gs,hn,hg,hl=>by
  rw[gm]at hn
  have hi:=hl i (.head _)
  have e:l[i]? = some l[i]:=cM hi
  have h2:=jY l l[i] hi
  rw[lx e]at h2
  refine h2.trans ?_
  have hs:∀j∈sel,(setN l i [])[j]? = l[j]?:=λj hj=>by
   refine rwr (hZ ..) ?_;rw[BA]
   intro q;exact hn.1 (q▸hj)
  have h3:=wo sel (setN l i []) (sel.map λj=>(l[j]?).getD []) hn.2 (j_ λj hj=>by exact rwr (hs j hj ..) rfl) (λj hj=>by refine rwr (gU ..) ?_;exact hl j (.tail _ hj))
  refine(ut _ h3).trans ?_
  refine rwr (hg ..) (rwr (eM ..) (rwr (e ..) (rwr (mE ..) ?_)));rewrite[dT];refine rwr (e_ ..) ?_
  exact List.Perm.refl _
end

section
section
variable {P:Params}{Z:Zt}{ad ad':List Addr}
theorem aS.of_get:∀(os:List af) (as:List Addr) (fps:List (List (Addr×au))),as.length=os.length->fps.length=os.length ->
  (∀(i:Nat) o,os[i]? = some o->∃a fp,as[i]? = some a/\fps[i]? = some fp/\cW P Z ad o a fp)->aS P Z ad os as fps
 |[],[],[],_,_,_=>.nil
 |[],_::_,_,h,_,_=>by simp at h
 |[],[],_::_,_,h,_=>by simp at h
 |o::os,[],_,h,_,_=>by simp at h
 |o::os,_::_,[],_,h,_=>by simp at h
 |o::os,a::as,fp::fps,h1,h2,h=>by
  refine elE2 (h 0 o rfl) λa' fp'=>al λe1 e2 r=>?_
  simp at e1 e2
  subst e1 e2
  exact .cons r (aS.of_get os as fps (by simpa using h1) (by simpa using h2) λi o' e=>by
   have:=h (i+1) o' (by simpa using e)
   simpa using this)
theorem aS.cutD{os as fps}(h:aS P Z ad os as fps):∀n,aS P Z ad (os.drop n) (as.drop n) (fps.drop n):=by
 induction h with
 |nil=>intro n;simp;exact .nil
 |cons x hr ih=>intro n;cases n with
  |zero=>exact .cons x hr
  |succ n=>exact ih n
theorem aS.ren{f:Nat->Nat}(hf:∀i a,ad[i]? = some a->ad'[f i]? = some a){os as fps}(h:aS P Z ad os as fps):aS P Z ad' (os.map (renO f)) as fps:=by
 induction h with
 |nil=>exact .nil
 |cons x _ ih=>exact .cons (x.ren hf) ih
theorem aV.unren{f:Nat->Nat}{n:Nat}(hf:∀i a,i<n->ad'[f i]? = some a->ad[i]? = some a):∀{args:List V} {vals:List Value},(∀V∈args,ec n V)->aV P Z ad' (args.map (renV f)) vals->aV P Z ad args vals
 |[],_,_,h=>h
 |v::r,vals,hb,h=>by
  refine elE2 h λx ys=>al λe h1 h2=>?_;clear h
  exact(ex2 x ys ⟨e,RV.unren hf (hb v (.head _)) h1,aV.unren hf (λV hV=>hb V (.tail _ hV)) h2⟩)
end
section
variable {prog:Program}{w:World}{K:Frag}{k:Nat}{c:FC}{st:St}{h h':Heap}{m:ac->Option Value}{fz fz' F F':List (Addr×au)}
theorem am.frsAll(ok:am K k c):cZ (c.env::c.outer)=c.L::c.frs:=by
 show List.filterMap _ _=_
 refine rwr (iv ..) (rwr (ok.hf ..) ?_);rfl
theorem cI.call(ok:am K k c)(I:cI c h m fz F){mu:List Addr}(hmu:∀a∈mu,a∈F.map (·.1))
  (keep:∀b o,h.get? b=some o->b∉mu->b∉c.L::c.frs->h'.get? b=some o) (slot:∀b o,h.get? b=some o->b∈c.L::c.frs->∃sl,h'.get? b=some { o with slots:=sl })
  (live:∀b o,h.get? b=some o->∃o',h'.get? b=some o') (hfz:∀p∈fz',h'.get? p.1=some p.2/\(p∈fz\/h.get? p.1=Bx\/p.1∈mu))
  (hF:∀p∈F',h'.get? p.1=some p.2/\(p.1∈F.map (·.1)\/h.get? p.1=Bx)) (hnd:(F'.map (·.1)).Nodup) (hdis:∀p∈F',∀q∈fz',p.1≠q.1):cI c h' m fz' F':=by
 have muP:∀a∈mu,a≠c.L/\a∉c.frs/\(a∈c.mu\/c.H.get? a=Bx):=λa ha=>by
  refine elE1 (aW.mp (hmu a ha)) λp=>ae λhp z0=>?_;subst z0
  exact(I.own p hp).2
 have hL:∃o,h.get? c.L=some o:=by refine elE3 I.ns λo U U=>ae λe U=>?_;exact⟨o,e⟩
 have frLive:∀b∈c.frs,∃o,h.get? b=some o:=λb hb=>by
  refine elE1 (ok.frH hb) λo ho=>?_
  exact I.live b o ho
 have newH:∀b,h.get? b=Bx->b≠c.L/\b∉c.frs/\c.H.get? b=Bx:=λb hb=>by
  refine⟨λq=>?_,λq=>?_,?_⟩
  ·refine elE1 hL λo e=>?_;clear hL;rw[q,e]at hb;cases hb
  ·refine elE1 (frLive b q) λo e=>?_;rw[e]at hb;cases hb
  ·cases e:c.H.get? b with
   |none=>rfl
   |some o=>refine elE1 (I.live b o e) λo' e'=>?_;rw[e']at hb;cases hb
 refine⟨?_,λb o e q1 q2=>?_,λb o e q=>?_,λb o e=>?_,λp hp=>?_,λp hp=>?_,hnd,hdis⟩
 ·refine elE3 I.ns λo es ep=>al λe hd r=>?_
  refine elE1 (slot c.L o e (.head _)) λsl hs=>?_
  exact(ex3 _ es ep ⟨hs,hd,r⟩)
 ·refine keep b o (I.keep b o e q1 q2) (λz=>?_) λz=>?_
  ·refine ao ((muP b z).2.2) (λy=>?_) λy=>?_
   ·exact q1 y
   ·rw[y]at e;cases e
  ·refine ao (bZ.mp z) (λz=>?_) λz=>?_
   ·rw[z,ok.LH]at e;cases e
   ·exact q2 z
 ·refine elE1 (I.slot b o e q) λsl hs=>?_
  refine elE1 (slot b _ hs (.tail _ q)) λsl' hs'=>?_
  exact⟨sl',hs'⟩
 ·refine elE1 (I.live b o e) λo' e'=>?_
  exact live b o' e'
 ·refine ak (hfz p hp) λa1 a2=>?_
  refine ao a2 (λa2=>?_) (uO (λa2=>?_) λa2=>?_)
  ·exact⟨a1,(I.fzH p a2).2⟩
  ·refine bN (newH _ a2) λb1 b2 b3=>?_
   exact⟨a1,b1,b2,.inr (.inl b3)⟩
  ·refine bN (muP _ a2) λb1 b2 b3=>?_
   refine⟨a1,b1,b2,?_⟩
   refine ao b3 (λb3=>?_) λb3=>?_
   ·exact .inr (.inr b3)
   ·exact .inr (.inl b3)
 ·refine ak (hF p hp) λa1 a2=>?_
  refine ao a2 (λa2=>?_) λa2=>?_
  ·refine elE1 (aW.mp a2) λq=>ae λhq e=>?_
   have:=(I.own q hq).2
   rw[e]at this
   exact⟨a1,this⟩
  ·refine bN (newH _ a2) λb1 b2 b3=>?_
   exact⟨a1,b1,b2,.inr b3⟩
theorem ah.mono{k k':Nat}{gn bn:ac->Option Value}{f:Value}{C:aH}(hs:ah prog w K gn bn k f C)(hk:k<=k'):ah prog w K gn bn k' f C :=
 λA envs base s vals args own ad fps fz Q X cx=>hs A envs base s vals args own ad fps fz Q X
  ⟨cx.hA,cx.hh,cx.hgd,cy (j' (jm (lb 2 hk) _) _) cx.depth,cy (j' (jm (lb 8 hk) _) _) cx.units,cx.kin,cx.lim,cx.baseH,cx.frB,cx.gns,cx.bns,cx.sz⟩
theorem o_{sel:List Nat}{t i:Nat}(h:sel[t]? = some i):pick sel t=i:=by
 unfold pick;refine rwr (bk ..) (rwr (h ..) ?_);rfl
inductive zp(P:Params)(c:FC)(st:St)(sel:List Nat)(Q:V->List af->Prop)(s:Shared)(fz:List (Addr×au))(ad:List Addr)(fps:List (List (Addr×au)))(v:Value)(s':Shared):Prop
 |mk (V:V) (own':List af) (fz':List (Addr×au)) (ad':List Addr) (fps':List (List (Addr×au))) (a:Q V own') (A:aA c s fz ad fps s' fz' ad' fps') (S:SR P c ⟨st.loc,merge st.own sel own'⟩ fz' ad' fps' s') (r:RV P (Zf c.base fz') ad' (renV (sig sel st.own.length) V) v):zp P c st sel Q s fz ad fps v s'
theorem vk{f:Value}{C:aH}(ok:am K k c)(hs:ah prog w K c.gn c.bn k f C){s:Shared}{ad:List Addr}{fps:List (List (Addr×au))}(S:SR w.params c st fz ad fps s){sel:List Nat}{vals:List Value}{args:List V}{own_c:List af}
  {Q:V->List af->Prop} {X:Nat->Prop}
  (hsn:sel.Nodup) (hsl:∀i∈sel,i<st.own.length)
  (hlen:own_c.length=sel.length) (hown:∀(t:Nat) o,own_c[t]? = some o->iP sel.length o/\st.own[pick sel t]? = some (renO (pick sel) o))
  (hargs:aV w.params (Zf c.base fz) ad (args.map (renV (pick sel))) vals) (hab:∀V∈args,ec sel.length V) (hC:C args own_c Q X):
  bh (model prog w) c.A (.call f ⟨vals,[]⟩) (λr s'=>match r with
   |.ok (.ret v)=>zp w.params c st sel Q s fz ad fps v s'
   |.ok _=>False
   |.error e=>gj (c.env::c.outer) s (aT (sel.map λi=>(fps[i]?).getD [])) X e s'/\∃ea Cn,e=.ref ea/\X Cn/\su w.params c st ea Cn s') s:=by
 obtain⟨m,I,R,LR,g1,g2,g3⟩:=S
 have hlo:=R.len
 have hadl:∀i∈sel,i<ad.length:=λi hi=>by refine rwr (aM (hlo.1 ..)) ?_;exact hsl i hi
 have hfpl:∀i∈sel,i<fps.length:=λi hi=>by refine rwr (hlo.2 ..) ?_;exact hadl i hi
 let ad_c:=sel.map λi=>(ad[i]?).getD 0
 let fps_c:=sel.map λi=>(fps[i]?).getD []
 have adc:∀{t i:Nat},sel[t]? = some i->ad_c[t]? = ad[i]?:=λ{t i} e=>by
  show (sel.map _)[t]? = _
  refine rwr (dO ..) (rwr (e ..) ?_)
  have hi:=hadl i (cw e)
  simp[cM hi]
 have hfun:∀i a,i<sel.length->ad[pick sel i]? = some a->ad_c[i]? = some a:=λi a hi e=>by
  have hsi:sel[i]? = some sel[i]:=cM hi
  rw[o_ hsi]at e
  refine rwr (adc hsi ..) ?_;exact e
 have R_c:aS w.params (Zf c.base fz) ad_c own_c ad_c fps_c:=by
  refine aS.of_get _ _ _ (by show (sel.map _).length=_;exact rwr (cV ..) (rwr (hlen ..) rfl)) (by show (sel.map _).length=_;exact rwr (cV ..) (rwr (hlen ..) rfl)) λt o e=>?_
  refine ak (hown t o e) λhb e'=>?_
  refine elE2 (R.get e') λa fp=>al λea ef r=>?_
  have ht:t<sel.length:=by refine rwr (aM (hlen ..)) ?_;exact(dD.mp e).1
  have hst:sel[t]? = some sel[t]:=cM ht
  rw[o_ hst]at ea ef
  refine(ex2 a fp ⟨by refine rwr (adc hst ..) ?_;exact ea,?_,r.unren hfun hb⟩)
  show (sel.map _)[t]? = _
  refine rwr (dO ..) (rwr (hst ..) ?_);simp[ef]
 have perm:=wo sel fps fps_c hsn rfl hfpl
 have memC:∀p∈fps_c.flatten,p∈fps.flatten:=λp hp=>perm.mem_iff.mpr (dE _ hp)
 have memW:∀p∈(dT fps sel).flatten,p∈fps.flatten:=λp hp=>perm.mem_iff.mpr (gp _ hp)
 have ndAll:((fps_c.flatten++(dT fps sel).flatten).map (·.1)).Nodup:=(perm.map _).nodup_iff.mp I.nd
 rw[eK]at ndAll
 refine bN (jl.mp ndAll) λnd1 nd2 nd3=>?_
 have cx:Cx K k c.A (c.env::c.outer) c.base s.heap c.gn c.bn:=⟨ok.hA,ok.hh,ok.hgd,ok.depth,ok.units,ok.kin,ok.lim,I.base ok,I.frames ok,ok.gns,ok.bns,ci (cy ok.sz (by refine elE3 I.ns λo U U=>ae λe U=>?_;exact cL e))⟩
 have notfr:∀a,a≠c.L->a∉c.frs->a∉cZ (c.env::c.outer):=λa h1 h2 q=>by
  rw[ok.frsAll]at q
  refine ao (bZ.mp q) (λq=>?_) λq=>?_
  ·exact h1 q
  ·exact h2 q
 have hmu:∀a∈aT fps_c,a∈fps.flatten.map (·.1):=λa ha=>by
  refine elE1 (aW.mp ha) λp=>ae λhp z0=>?_;subst z0
  exact du (memC p hp)
 refine ee (hs c.A (c.env::c.outer) c.base s vals args own_c ad_c fps_c fz Q X cx (λp hp=>⟨(I.fzH p hp).1,notfr _ (I.fzH p hp).2.1 (I.fzH p hp).2.2.1⟩)
  (λp hp=>⟨(I.own p (memC p hp)).1,notfr _ (I.own p (memC p hp)).2.1 (I.own p (memC p hp)).2.2.1,I.F0 ok (memC p hp)⟩) nd1 (λp hp q hq=>I.dis p (memC p hp) q hq) R_c (aV.unren hfun hab hargs) hC) λr s' hr=>?_
 cases r with
 |error e =>
  have hr0:=hr
  obtain⟨ea,Cn,B,t,rfl,hX,b1,b2,b3,hfl,hB,hsl'⟩:=hr
  have muN:∀a∈aT fps_c,a≠c.L/\a∉c.frs/\(a∈c.mu\/c.H.get? a=Bx):=λa ha=>by
   refine elE1 (aW.mp (hmu a ha)) λp=>ae λhp z0=>?_;subst z0
   exact(I.own p hp).2
  refine⟨hr0,ex2 ea Cn ⟨rfl,hX,hideAll s.heap (aT fps_c),m,fz,ad,⟨?_,λb o e q1 q2=>?_,λb o e q=>?_,λp hp=>?_⟩,LR,b1.trans g1,b2.trans g2,b3.trans g3,.inr (ex2 B t ⟨hfl,λb o e q1 q2=>?_,λb o e hd=>?_⟩)⟩⟩
  ·refine elE3 I.ns λo es ep=>ae λe r=>?_
   exact(ex3 o es ep ⟨hideAll_get _ e (λq=>(muN _ q).1 rfl),r⟩)
  ·refine hideAll_get _ (I.keep b o e q1 q2) λq=>?_
   refine ao ((muN b q).2.2) (λy=>?_) λy=>?_
   ·exact q1 y
   ·rw[y]at e;cases e
  ·refine elE1 (I.slot b o e q) λsl hs=>?_
   exact⟨sl,hideAll_get _ hs λq'=>(muN b q').2.1 q⟩
  ·refine ak (I.fzH p hp) λa1 a2=>?_
   refine⟨hideAll_get _ a1 λq=>?_,a2⟩
   refine elE1 (aW.mp q) λp'=>ae λhp' e=>?_
   exact I.dis p' (memC p' hp') p hp e
  ·refine hB b o (of_hideAll _ e) (λq=>?_) (notfr b q1 q2)
   rw[hideAll_none _ q]at e;cases e
  ·have e':=of_hideAll _ e
   by_cases q:b∈cZ (c.env::c.outer)
   ·exact hsl' b o e' q
   ·exact⟨o.slots,hfl.1 b o (hB b o e' (λq'=>by rw[hideAll_none _ q']at e;cases e) q)⟩
 |ok fl =>
  cases fl with
  |ret v =>
   obtain⟨V,own',fz',ad1,fps',hQ,e1,e2,b1,b2,b3,hk,hsl',hlv,hfz,hF,hnd,hdis,R',rv⟩:=hr
   have hl':=R'.len
   have hcl:ad_c.length=sel.length:=cV _
   have hn1:sel.length<=ad1.length:=by refine elE1 e2 λt ht=>?_;clear e2;refine rwr (aM (ht ..)) (rwr (bV ..) ?_);lia
   have had1:∀{t:Nat} {a:Addr},t<sel.length->ad1[t]? = some a->ad_c[t]? = some a:=λ{t a} ht e=>by
    refine elE1 e2 λr hr=>?_;clear e2
    rw[<-hr,ji (by lia)]at e
    exact e
   have hren:∀i a,ad1[i]? = some a->(ad++ad1.drop sel.length)[sig sel st.own.length i]? = some a:=λi a e=>by
    unfold sig
    by_cases hi:i<sel.length
    ·refine rwr (show b_ i sel.length=true from fN.mpr hi) ?_
     have hsi:sel[i]? = some sel[i]:=cM hi
     show _[pick sel i]? = _
     refine rwr (o_ hsi ..) (rwr (ji (hadl _ (cw hsi)) ..) (rwr (aM (adc hsi ..)) ?_))
     exact had1 hi e
    ·refine rwr (show b_ i sel.length=false from by cases q:b_ i sel.length with | false=>rfl | true=>exact absurd (fN.mp q) hi) ?_
     show _[st.own.length+(i-sel.length)]? = _
     refine rwr (hlo.1 ..) (rwr (uq (by lia)) (rwr (pL ..) (rwr (us ..) (rwr (show sel.length+(i-sel.length)=i from Nat.add_sub_cancel' (eN (by assumption))) ?_))))
     exact e
   have ez:d_ (Zf c.base fz) (Zf c.base fz'):=Zf.ext e1
   have ea:ad <+: ad++ad1.drop sel.length:=List.prefix_append _ _
   have Rm:aS w.params (Zf c.base fz') (ad++ad1.drop sel.length) (merge st.own sel own') (ad++ad1.drop sel.length) (setAll fps sel (fps'.take sel.length)++fps'.drop sel.length):=by
    refine aS.append (aS.atAll sel _ _ _ _ (ad1.take sel.length) _ (R.mono ez ea) ?_ ?_ hadl) ?_
    ·exact(R'.cut sel.length).ren hren
    ·refine elE1 e2 λr hr=>?_;clear e2
     exact rwr (aM (hr ..)) (rwr (List.take_append_of_le_length (by lia)) (rwr (mG (by lia)) rfl))
    ·exact(R'.cutD sel.length).ren hren
   have permM:((setAll fps sel (fps'.take sel.length)++fps'.drop sel.length).flatten).Perm (fps'.flatten++(dT fps sel).flatten):=by
    have h1:=wi sel fps (fps'.take sel.length) hsn (by refine rwr (fO ..) ?_;lia) hfpl
    refine rwr (k_ ..) ?_
    refine(By _ h1).trans ?_
    have e:fps'.flatten=(fps'.take sel.length).flatten++(fps'.drop sel.length).flatten:=by exact rwr (aM (k_ ..)) (rwr (ur ..) rfl)
    refine rwr (e ..) (rwr (e_ ..) (rwr (e_ ..) ?_))
    exact ut _ Bz
   have wN:∀p∈(dT fps sel).flatten,p.1∉aT fps_c:=λp hp q=>nd3 p.1 q p.1 (du hp) rfl
   have wS:∀p∈(dT fps sel).flatten,s'.heap.get? p.1=some p.2:=λp hp=>hk _ _ (I.own p (memW p hp)).1 (wN p hp) (notfr _ (I.own p (memW p hp)).2.1 (I.own p (memW p hp)).2.2.1)
   have memM:∀p∈(setAll fps sel (fps'.take sel.length)++fps'.drop sel.length).flatten,p.1∈fps.flatten.map (·.1)\/s.heap.get? p.1=Bx:=λp hp=>by
    refine ao (cQ.mp (permM.mem_iff.mp hp)) (λhp=>?_) λhp=>?_
    ·exact(hF p hp).2.imp (hmu _) id
    ·exact .inl (du (memW p hp))
   have adv:aA c s fz ad fps s' fz' (ad++ad1.drop sel.length) (setAll fps sel (fps'.take sel.length)++fps'.drop sel.length):=
    ⟨e1,ea,λb o e n1 n2 n3=>hk b o e (λq=>n2 (hmu _ q)) (notfr b n1 n3),λa ha=>by refine elE1 (aW.mp ha) λp=>ae λhp z0=>?_;subst z0;exact memM p hp,λb o e U=>hlv b o e,λp hp=>(hfz p hp).2.imp id λz=>z.imp id λz=>hmu _ z⟩
   refine⟨V,own',fz',ad++ad1.drop sel.length,_,hQ,adv,⟨m,?_,Rm,LR.mono ez ea,b1.trans g1,b2.trans g2,b3.trans g3⟩,RV.ren (n:=0) hren rv⟩
   refine I.call ok hmu (λb o e q1 q2=>hk b o e q1 (by refine rwr (ok.frsAll ..) ?_;exact q2)) (λb o e q=>hsl' b o e (by refine rwr (ok.frsAll ..) ?_;exact q)) hlv hfz (λp hp=>?_) ?_ (λp hp q hq=>?_)
   ·refine ao (cQ.mp (permM.mem_iff.mp hp)) (λhp=>?_) λhp=>?_
    ·refine ak (hF p hp) λa1 a2=>?_
     exact⟨a1,a2.imp (hmu _) id⟩
    ·exact⟨wS p hp,.inl (du (memW p hp))⟩
   ·refine((permM.map _).nodup_iff).mpr ?_
    refine rwr (eK ..) ?_
    refine jl.mpr ⟨hnd,nd2,λa ha b hb q=>?_⟩
    refine elE1 (aW.mp ha) λp=>ae λhp z0=>?_;subst z0
    refine elE1 (aW.mp hb) λp2=>ae λhp2 z0=>?_;subst z0
    refine ao ((hF p hp).2) (λz=>?_) λz=>?_
    ·exact wN p2 hp2 (q▸z)
    ·rw[q,(I.own p2 (memW p2 hp2)).1]at z;cases z
   ·refine ao (cQ.mp (permM.mem_iff.mp hp)) (λhp=>?_) λhp=>?_
    ·exact hdis p hp q hq
    ·intro e
     refine ao ((hfz q hq).2) (λz=>?_) (uO (λz=>?_) λz=>?_)
     ·exact I.dis p (memW p hp) q z e
     ·rw[<-e,(I.own p (memW p hp)).1]at z;cases z
     ·exact wN p hp (e▸z)
  |next=>exact hr
  |brk=>exact hr
  |cont=>exact hr
end
end

section
noncomputable def eI(h:Heap)(base:Heap)(L:Addr):List (Addr×au):=
 (bM h.objs.size).filterMap λb=>match h.get? b with
  |some o=>if b=L\/(base.get? b).isSome then Bx else some (b,o)
  |none=>Bx
theorem lu{h base:Heap}{L:Addr}{p:Addr×au}:p∈eI h base L↔h.get? p.1=some p.2/\p.1≠L/\base.get? p.1=Bx:=by
 unfold eI
 refine rwr (propext (List.mem_filterMap ..)) ?_
 constructor
 ·refine uE1 λb=>ae λhb e=>?_
  cases q:h.get? b with
  |none=>rw[q]at e;cases e
  |some o =>
   rw[q]at e
   simp only at e
   split at e
   ·cases e
   ·rename_i hn
    cases e
    refine⟨q,λz=>hn (.inl z),?_⟩
    cases z:base.get? b with
    |none=>rfl
    |some o'=>exact absurd (.inr (by refine rwr (z ..) ?_;rfl)) hn
 ·refine al λe h1 h2=>?_
  refine⟨p.1,ka.mpr (cL e),?_⟩
  refine rwr (e ..) ?_
  simp only[h1,h2,Option.isSome_none,iu,or_self,if_false]
theorem GY(h base:Heap)(L:Addr):((eI h base L).map (·.1)).Nodup:=by
 unfold eI
 have:∀l:List Nat,l.Nodup->((l.filterMap λb=>match h.get? b with
  |some o=>if b=L\/(base.get? b).isSome then Bx else some (b,o)
  |none=>Bx).map (·.1)).Nodup/\∀p∈(l.filterMap λb=>match h.get? b with
  |some o=>if b=L\/(base.get? b).isSome then Bx else some (b,o)
  |none=>Bx),p.1∈l:=by
  intro l
  induction l with
  |nil=>intro U;exact⟨ix,λU hp=>nomatch hp⟩
  |cons b l ih =>
   intro hn
   rw[gm]at hn
   refine ak (ih hn.2) λi1 i2=>?_
   refine rwr (iv ..) ?_
   cases q:(match h.get? b with
    |some o=>if b=L\/(base.get? b).isSome then Bx else some (b,o)
    |none=>Bx) with
   |none=>exact⟨i1,λp hp=>.tail _ (i2 p hp)⟩
   |some p =>
    have e:p.1=b:=by
     cases z:h.get? b with
     |none=>rw[z]at q;cases q
     |some o=>rw[z]at q;simp only at q;split at q <;>cases q;rfl
    refine⟨?_,λp' hp'=>?_⟩
    ·refine rwr (eM ..) (rwr (propext (gm ..)) ?_)
     refine⟨λhm=>?_,i1⟩
     refine elE1 (aW.mp hm) λp'=>ae λhp' e'=>?_
     exact hn.1 (by refine rwr (aM (e ..)) (rwr (aM (e' ..)) ?_);exact i2 p' hp')
    ·refine ao (bZ.mp hp') (λz0=>?_) λhp'=>?_ <;>(try subst z0)
     ·refine rwr (e ..) ?_;exact .head _
     ·exact .tail _ (i2 p' hp')
 exact(this _ List.nodup_range).1
theorem fH(h base:Heap)(L:Addr):News base L h (eI h base L):=λp hp=>let ⟨a,b,c⟩:=lu.mp hp;⟨a,b,c⟩
theorem z8{d:Addr}{o o':au}:∀{l:List (Addr×au)},(l.map (·.1)).Nodup->(d,o)∈l->∃l',Upd d o o' l l'/\(d,o')∈l'/\∀p∈l,p.1≠d->p∈l'
 |[],_,hm=>nomatch hm
 |q::l,hn,hm=>by
  rw[eM,gm]at hn
  refine ao (bZ.mp hm) (λe=>?_) λhm=>?_
  ·subst e
   refine⟨(d,o')::l,Upd.head λp hp e=>hn.1 (aW.mpr ⟨p,hp,e⟩),.head _,λp hp hne=>?_⟩
   refine ao (bZ.mp hp) (λz0=>?_) λhp=>?_ <;>(try subst z0)
   ·exact absurd rfl hne
   ·exact .tail _ hp
  ·obtain⟨l',u,h1,h2⟩:=z8 hn.2 hm
   have hne:q.1≠d:=λe=>hn.1 (aW.mpr ⟨(d,o),hm,e.symm⟩)
   refine⟨q::l',Upd.tail hne u,.tail _ h1,λp hp hne'=>?_⟩
   refine ao (bZ.mp hp) (λz0=>?_) λhp=>?_ <;>(try subst z0)
   ·exact .head _
   ·exact .tail _ (h2 p hp hne')
theorem u':∀i<20,∀j<20,aK i=aK j->i=j:=by decide +kernel
theorem xC{k:Nat}{f:Nat}(hk:k<20)(hf:f<20)(hsh:Int)(tk:Tok)(v:Value)(es:List DictEntry):getL (aK f) (⟨hsh,.str (aK k) tk,v⟩::es)=bif aG k f then some (some v) else getL (aK f) es:=by
 unfold getL
 refine rwr (List.find?_cons ..) ?_
 cases q:aG k f with
 |true =>
  have:=di q
  subst this
  have e:(mH (aK k) tk).isStr (aK k)=true:=by show (aK k==aK k)=true;exact beq_self_eq_true _
  simp only[e];rfl
 |false =>
  have hne:k≠f:=λe=>by rw[e]at q;rw[BB]at q;cases q
  have e:(mH (aK k) tk).isStr (aK f)=false:=by
   show (aK k==aK f)=false
   exact beq_eq_false_iff_ne.mpr λz=>hne (u' k hk f hf z)
  simp only[e]
  show _=match List.find? _ es with | some e=>_ | Bx=>_
  cases List.find? (λx=>x.key.isStr (aK f)) es with
  |some _=>rfl
  |none =>
   show (if (uu ⟨hsh,.str (aK k) tk,v⟩ || es.any (·.refKey))=true then _ else _)=_
   have:uu ⟨hsh,.str (aK k) tk,v⟩=false:=rfl
   exact rwr (this ..) (rwr (Bool.false_or ..) rfl)
section
variable {P:Params}{Z:Zt}{ad:List Addr}
theorem aX.get{f:Nat}(hf:f<20):∀{fs:List (Nat×V)} {es:List DictEntry} {V:V},aX P Z ad fs es->dY fs f=some V->∃v,getL (aK f) es=some (some v)/\RV P Z ad V v
 |[],es,V,_,e=>by cases e
 |(k,x)::r,es,V,h,e=>by
  refine elE3 h λv tk es'=>aY λhk z0 h1 h2=>?_;clear h;subst z0
  refine rwr (xC hk hf ..) ?_
  have e:(bif aG k f then some x else dY r f)=some V:=e
  cases q:aG k f with
  |true=>rw[q]at e;cases e;exact⟨v,rfl,h1⟩
  |false=>rw[q]at e;exact aX.get hf h2 e
theorem aX.miss{f:Nat}(hf:f<20):∀{fs:List (Nat×V)} {es:List DictEntry},aX P Z ad fs es->dY fs f=Bx->getL (aK f) es=some Bx
 |[],es,h,_=>by have h:_=_:=h;subst h;rfl
 |(k,x)::r,es,h,e=>by
  refine elE3 h λv tk es'=>aY λhk z0 h1 h2=>?_;clear h;subst z0
  refine rwr (xC hk hf ..) ?_
  have e:(bif aG k f then some x else dY r f)=Bx:=e
  cases q:aG k f with
  |true=>rw[q]at e;cases e
  |false=>rw[q]at e;exact aX.miss hf h2 e
theorem RDf.toV{ad:List Addr}:∀{fs:List (Nat×D)} {es:List DictEntry},RDf P Z fs es->aX P Z ad (fs.map λp=>(p.1,V.d p.2)) es
 |[],es,h=>h
 |(k,x)::r,es,h=>by
  refine elE3 h λv tk es'=>aY λhk e h1 h2=>?_;clear h
  exact(ex3 v tk es' ⟨hk,e,h1,RDf.toV h2⟩)
theorem xq{α β:Type}(g:α->β):∀(fs:List (Nat×α)) (f:Nat),dY (fs.map λp=>(p.1,g p.2)) f=(dY fs f).map g
 |[],_=>rfl
 |(k,x)::r,f=>by
  show (bif aG k f then some (g x) else dY (r.map λp=>(p.1,g p.2)) f)=(bif aG k f then some x else dY r f).map g
  cases aG k f with
  |true=>rfl
  |false=>exact xq g r f
theorem aX.set{f:Nat}(hf:f<20){V:V}{v:Value}(tk:Tok)(hv:RV P Z ad V v):∀{fs:List (Nat×Mine.V)} {es:List DictEntry},aX P Z ad fs es ->
  aX P Z ad (ik fs f V) (putL (aK f) (jh P (aK f)) (.str (aK f) tk) v es)
 |[],es,h=>by
  subst h
  exact(ex3 v tk [] ⟨hf,rfl,hv,rfl⟩)
 |(k,x)::r,es,h=>by
  refine elE3 h λu t' es'=>aY λhk z0 h1 h2=>?_;clear h;subst z0
  show aX P Z ad (bif aG k f then (k,V)::r else (k,x)::ik r f V) (if (mH (aK k) t').isStr (aK f) then _ else _)
  cases q:aG k f with
  |true =>
   have:=di q
   subst this
   have e:(mH (aK k) t').isStr (aK k)=true:=by show (aK k==aK k)=true;exact beq_self_eq_true _
   refine rwr (if_pos e ..) ?_
   exact(ex3 v t' es' ⟨hk,rfl,hv,h2⟩)
  |false =>
   have hne:k≠f:=λe=>by rw[e]at q;rw[BB]at q;cases q
   have e:(mH (aK k) t').isStr (aK f)=false:=by
    show (aK k==aK f)=false
    exact beq_eq_false_iff_ne.mpr λz=>hne (u' k hk f hf z)
   rw[if_neg (by rw[e];decide)]
   exact(ex3 u t' _ ⟨hk,rfl,h1,aX.set hf tk hv h2⟩)
theorem aX.len:∀{fs:List (Nat×V)} {es:List DictEntry},aX P Z ad fs es->es.length=fs.length
 |[],es,h=>by have h:_=_:=h;subst h;rfl
 |(k,x)::r,es,h=>by
  refine elE3 h λu t' es'=>aY λhk z0 h1 h2=>?_;clear h;subst z0
  exact congrArg (· + 1) (aX.len h2)
theorem J9:∀(V:V) (v:Value),RV P Z ad V v->handedIn v=true
 |.own i,v,h=>by refine elE1 h λa=>ae λU z0=>?_;clear h;subst z0;rfl
 |.d x,v,h=>by
  cases x with
  |none=>have:v=.none:=h;subst this;rfl
  |bool b=>have:v=.bool b:=h;subst this;rfl
  |int i=>refine elE1 h λt z0=>?_;clear h;subst z0;rfl
  |str i=>refine elE1 h λt z0=>?_;clear h;subst z0;rfl
  |bytes i=>refine elE1 h λt z0=>?_;clear h;subst z0;rfl
  |tup vs=>refine elE3 h λa xs n=>ae λz0 U=>?_;clear h;subst z0;rfl
  |list vs=>refine elE3 h λa xs n=>ae λz0 U=>?_;clear h;subst z0;rfl
  |obj C fs=>refine eD h λa dx n es=>ae λz0 U=>?_;clear h;subst z0;rfl
end
noncomputable def dc(K:Frag)(C:Addr):Bool:=plainGet K C "" && hasDictIn K C&&plainOver K C&&(findIn K (.ref C) "__setattr__" == some (some (.builtin "object.__setattr__")))
noncomputable def dX(K:Frag)(C:Addr)(f:Nat):Bool:=b_ f 20&&(findIn K (.ref C) (aK f)==some Bx)
section
variable {prog:Program}{w:World}{K:Frag}{k:Nat}{c:FC}{st:St}{X:Nat->St->Prop}{Q:V->St->Prop}
theorem dc.get{C:Addr}(e:dc K C=true):(∀x,plainGet K C x=true)/\hasDictIn K C=true/\plainOver K C=true/\findIn K (.ref C) "__setattr__" = some (some (.builtin "object.__setattr__")):=by
 unfold dc at e
 simp only[eO,beq_iff_eq]at e
 exact⟨λx=>e.1.1.1,e.1.1.2,e.1.2,e.2⟩
theorem dX.get{C:Addr}{f:Nat}(e:dX K C f=true):f<20/\findIn K (.ref C) (aK f)=some Bx:=by
 unfold dX at e
 simp only[eO,beq_iff_eq]at e
 exact⟨fN.mp e.1,e.2⟩
def sM(K:Frag)(own:List af)(V:V)(f:Nat)(r:Mine.V):Prop:=match V with
 |.own i=>∃C fs,getN own i=some (.inst C fs)/\dc K C=true/\dX K C f=true/\dY fs f=some r
 |.d (.obj C fs)=>∃x,dc K C=true/\dX K C f=true/\dY fs f=some x/\r=.d x
 |_=>False
theorem cI.fr{h:Heap}{m fz F}(ok:am K k c)(I:cI c h m fz F):Fr c.base c.L h m:=⟨I.ns,I.base ok,ok.sz⟩
theorem vd{o:Value}{f:Nat}{V r:Mine.V}{s:Shared}{fz ad fps}(ok:am K k c)(S:SR w.params c st fz ad fps s)(rv:RV w.params (Zf c.base fz) ad V o)(ha:sM K st.own V f r)
  {Qc:Value->Shared->Prop} {Ec:Value->Shared->Prop} {ex:Bool} (hq:∀v tk,RV w.params (Zf c.base fz) ad r v->Qc v { s with toks:=tk }):wpAny (model prog w) c.A (getAttr o (aK f) ex) Qc Ec s:=by
 obtain⟨m,I,R,_⟩:=S
 have X0:K.In s.heap:=ok.kin.keeps (I.base ok)
 have go:∀(x dx C:Addr) (n:Nat) (es:List DictEntry),s.heap.get? x=some (instObj C dx)->s.heap.get? dx=some (dictOf es n)->dc K C=true->dX K C f=true->(∃v,getL (aK f) es=some (some v)/\RV w.params (Zf c.base fz) ad r v)->wpAny (model prog w) c.A (getAttr (.ref x) (aK f) ex) Qc Ec s:=λx dx C n es e1 e2 h1 h2 ⟨v,h3,h4⟩=>by
  refine cX (dc.get h1) λc1 c2 c3 c4=>?_
  refine ak (dX.get h2) λf1 f2=>?_
  exact get_value X0 ⟨e1,rfl,rfl,e2⟩ (plainGet_of (c1 (aK f))).1 (findObj_own c2 f2 rfl (show lookIn (aK f) (dictOf es n)=_ from h3)) (J9 _ _ h4) (hq v _ h4)
 cases V with
 |own i =>
  refine elE2 ha λC fs=>aY λe h1 h2 h3=>?_;clear ha
  refine elE1 rv λa=>ae λea z0=>?_;clear rv;subst z0
  rw[bk]at e
  refine elE2 (R.get e) λa' fp=>al λea' ef=>uE3 λdx n es=>ae λy5 rf=>?_;subst y5
  rw[ea]at ea';cases ea'
  have mem:∀p∈[(a,instObj C dx),(dx,dictOf es n)],s.heap.get? p.1=some p.2:=λp hp=>(I.own p (iw.mpr ⟨_,cw ef,hp⟩)).1
  exact go a dx C n es (mem _ (.head _)) (mem _ (.tail _ (.head _))) h1 h2 (aX.get (dX.get h2).1 rf h3)
 |d x =>
  cases x with
  |obj C fs =>
   refine elE1 ha λy=>aY λh1 h2 h3 z0=>?_;clear ha;subst z0
   refine eD rv λx dx n es=>aY λz0 z1 z2 rf=>?_;clear rv;subst z0
   have get:∀a o,Zf c.base fz a o->s.heap.get? a=some o:=λa o z=>z.elim (I.base ok a o) λz=>(I.fzH _ z).1
   exact go x dx C n es (get _ _ z1) (get _ _ z2) h1 h2 (aX.get (dX.get h2).1 (RDf.toV (ad:=ad) rf) (by refine rwr (xq ..) (rwr (h3 ..) ?_);rfl))
  |_=>exact ha.elim
end
end

section
section
variable {prog:Program}{w:World}{K:Frag}{k:Nat}{c:FC}{st:St}{X:Nat->St->Prop}
theorem Ko{h:Heap}{base:Heap}{L dx:Addr}{o o':au}(hd:h.get? dx=some o)(hL:dx≠L)(hb:base.get? dx=Bx):
  ∃l',Upd dx o o' (eI h base L) l'/\∀h',News base L h' l'->h'.get? dx=some o'/\∀b ob,h.get? b=some ob->b≠L->base.get? b=Bx->b≠dx->h'.get? b=some ob:=by
 refine elE1 (z8 (o':=o') (GY h base L) (lu.mpr ⟨hd,hL,hb⟩:(dx,o)∈eI h base L)) λl'=>al λu h1 h2=>?_
 exact⟨l',u,λh' N=>⟨(N _ h1).1,λb ob e n1 n2 n3=>(N _ (h2 (b,ob) (lu.mpr ⟨e,n1,n2⟩) n3)).1⟩⟩
theorem dC{β:Type}{l:List (List β)}{i:Nat}{fp:List β}(e:l[i]? = some fp){p:β}(hp:p∈fp):p∈l.flatten:=iw.mpr ⟨_,cw e,hp⟩
theorem SR.turn{s s':Shared}{fz ad}(ok:am K k c){m fps}(I:cI c s.heap m fz (List.flatten fps))(R:aS w.params (Zf c.base fz) ad st.own ad fps)(LR:fq w.params (Zf c.base fz) ad c.nm st.loc m)
  (g1:s'.gens=c.G) (g2:s'.drawn=c.D) (g3:s'.os=c.O) {i:Nat} {o':af} {a:Addr} {fp fp':List (Addr×au)} (ea:ad[i]? = some a) (ef:fps[i]? = some fp)
  (hns:s'.heap.Ns c.L m) (hk:∀b ob,s.heap.get? b=some ob->b≠c.L->b∉fp.map (·.1)->s'.heap.get? b=some ob)
  (hfp:∀p∈fp',s'.heap.get? p.1=some p.2/\p.1∈fp.map (·.1)) (hlv:∀p∈fp,∃ob,s'.heap.get? p.1=some ob) (hnd:(fp'.map (·.1)).Nodup) (hr:cW w.params (Zf c.base fz) ad o' a fp'):
  SR w.params c ⟨st.loc,setN st.own i o'⟩ fz ad (setN fps i fp') s'/\aA c s fz ad fps s' fz ad (setN fps i fp'):=by
 have hi:i<fps.length:=(dD.mp ef).1
 have p1:=jY fps fp' hi
 have p0:=jY fps fp hi
 rw[lx ef]at p0
 have nd0:=(p0.map (·.1)).nodup_iff.mp I.nd
 rw[eK]at nd0
 refine bN (jl.mp nd0) λn1 n2 n3=>?_
 have memR:∀p∈(setN fps i []).flatten,p∈fps.flatten/\p.1∉fp.map (·.1):=λp hp=>⟨p0.mem_iff.mpr (gp _ hp),λq=>n3 p.1 q p.1 (du hp) rfl⟩
 have kp:∀b ob,s.heap.get? b=some ob->b≠c.L->b∉aT fps->s'.heap.get? b=some ob:=λb ob e n1 n2=>hk b ob e n1 λq=>by
  refine elE1 (aW.mp q) λp=>ae λhp z0=>?_;subst z0
  exact n2 (du (dC ef hp))
 have adv:aA c s fz ad fps s' fz ad (setN fps i fp'):=by
  refine⟨λU x=>x,eB _,λb ob e n1 n2 U=>kp b ob e n1 n2,λa' ha'=>?_,λb ob e U=>?_,λU h=>.inl h⟩
  ·refine elE1 (aW.mp ha') λp=>ae λhp z0=>?_;subst z0
   left
   refine ao (cQ.mp (p1.mem_iff.mp hp)) (λhp=>?_) λhp=>?_
   ·refine elE1 (aW.mp (hfp p hp).2) λq=>ae λhq e=>?_
    exact aW.mpr ⟨q,dC ef hq,e⟩
   ·exact du (memR p hp).1
  ·by_cases q:b=c.L
   ·refine elE3 hns λo U U=>ae λe U=>?_;clear hns;exact⟨o,q▸e⟩
   ·by_cases q2:b∈fp.map (·.1)
    ·refine elE1 (aW.mp q2) λp=>ae λhp z0=>?_;subst z0;exact hlv p hp
    ·exact⟨ob,hk b ob e q q2⟩
 refine⟨⟨m,?_,aS.at1 R ea hr,LR,g1,g2,g3⟩,adv⟩
 have st1:=I.step (h':=s'.heap) (m':=m) (ds:=fp.map (·.1)) (fzn:=[]) (F':=(setN fps i fp').flatten) ok hns (λd hd=>?_) hk (λp hp=>nomatch hp) (λp hp=>?_) ?_ (λp hp q hq=>nomatch hq)
 ·rwa [bA]at st1
 ·refine elE1 (aW.mp hd) λp=>ae λhp z0=>?_;subst z0
  exact⟨du (dC ef hp),hlv p hp⟩
 ·refine ao (cQ.mp (p1.mem_iff.mp hp)) (λhp=>?_) λhp=>?_
  ·refine ak (hfp p hp) λa1 a2=>?_
   refine⟨a1,.inl ?_⟩
   refine elE1 (aW.mp a2) λq=>ae λhq e=>?_
   exact aW.mpr ⟨q,dC ef hq,e⟩
  ·refine ak (memR p hp) λb1 b2=>?_
   exact⟨hk _ _ (I.own p b1).1 (I.own p b1).2.1 b2,.inl (du b1)⟩
 ·refine(p1.map (·.1)).nodup_iff.mpr ?_
  refine rwr (eK ..) ?_
  refine jl.mpr ⟨hnd,n2,λx hx y hy e=>?_⟩
  refine elE1 (aW.mp hx) λp=>ae λhp z0=>?_;subst z0
  exact n3 _ (hfp p hp).2 _ hy e
theorem xN{i:Nat}{C:Nat}{fs:List (Nat×V)}{f:Nat}{V:V}{o v:Value}{s:Shared}{fz ad fps}(ok:am K k c)(S:SR w.params c st fz ad fps s)(ro:RV w.params (Zf c.base fz) ad (.own i) o)(rv:RV w.params (Zf c.base fz) ad V v)
  (e:getN st.own i=some (.inst C fs)) (h1:dc K C=true) (h2:dX K C f=true) (hl:fs.length<=100)
  {Qc:Unit->Shared->Prop} {Ec:Value->Shared->Prop} (hq:∀s' fps',SR w.params c ⟨st.loc,setN st.own i (.inst C (ik fs f V))⟩ fz ad fps' s'->aA c s fz ad fps s' fz ad fps'->Qc () s'):wpAny (model prog w) c.A (setAttr o (aK f) v) Qc Ec s:=by
 obtain⟨m,I,R,LR,g1,g2,g3⟩:=S
 refine cX (dc.get h1) λc1 c2 c3 c4=>?_
 refine ak (dX.get h2) λf1 f2=>?_
 refine elE1 ro λa=>ae λea z0=>?_;clear ro;subst z0
 rw[bk]at e
 refine elE2 (R.get e) λa' fp=>al λea' ef=>uE3 λdx n es=>ae λy5 rf=>?_;subst y5
 rw[ea]at ea';cases ea'
 have mem:∀p∈[(a,instObj C dx),(dx,dictOf es n)],p∈fps.flatten:=λp hp=>dC ef hp
 have e1:=(I.own _ (mem _ (.head _))).1
 have e2:=(I.own _ (mem _ (.tail _ (.head _)))).1
 have F:=I.fr ok
 have b2:=I.F0 ok (mem _ (.tail _ (.head _)))
 have L2:=(I.own _ (mem _ (.tail _ (.head _)))).2.1
 have nad:a≠dx:=by
  have p0:=jY fps [(a,instObj C dx),(dx,dictOf es n)] (dD.mp ef).1
  rw[lx ef]at p0
  have nd0:=(p0.map (·.1)).nodup_iff.mp I.nd
  simp only[eK,eM,pM]at nd0
  have:=(jl.mp nd0).1
  simp at this
  exact this
 have hgl:(getL (aK f) es).isSome=true:=by
  cases q:dY fs f with
  |some V'=>refine elE1 (aX.get f1 rf q) λv'=>ae λh3 U=>?_;refine rwr (h3 ..) ?_;rfl
  |none=>refine rwr (aX.miss f1 rf q ..) ?_;rfl
 refine elE1 (Ko (o':=dictOf (putL (aK f) (jh w.params (aK f)) (.str (aK f) (s.toks+1)) v es) (putN (aK f) es n)) e2 L2 b2) λl'=>ae λUu hU=>?_
 have hput:∀(es:List DictEntry) key v,(putL (aK f) (jh w.params (aK f)) key v es).length<=es.length+1:=λes key v=>by
  induction es with
  |nil=>simp[putL]
  |cons x r ih=>simp only[putL];split <;>simp <;>lia
 refine set_dict F ok.kin (fH _ _ _) ⟨e1,rfl,rfl,e2⟩ rfl c4 c3 (by unfold takerIn;refine rwr (f2 ..) ?_;rfl) c2 hgl rfl Uu (by have:=hput es (.str (aK f) (s.toks+1)) v;rw[aX.len rf]at this;lia) λh' F' N'=>?_
 refine ak (hU h' N') λz1 z2=>?_
 have keep:∀b ob,s.heap.get? b=some ob->b≠c.L->b≠dx->h'.get? b=some ob:=λb ob e n1 n2=>by
  cases q:c.base.get? b with
  |none=>exact z2 b ob e n1 q n2
  |some ob' =>
   have:=I.base ok _ _ q
   rw[e]at this;cases this
   exact F'.keep _ _ q
 let fp':List (Addr×au):=[(a,instObj C dx),(dx,dictOf (putL (aK f) (jh w.params (aK f)) (.str (aK f) (s.toks+1)) v es) (putN (aK f) es n))]
 have h1':∀p∈fp',h'.get? p.1=some p.2/\p.1∈[(a,instObj C dx),(dx,dictOf es n)].map (·.1):=λp hp=>by
  refine ao (bZ.mp hp) (λz0=>?_) λhp=>?_ <;>(try subst z0)
  ·exact⟨keep _ _ e1 (I.own _ (mem _ (.head _))).2.1 nad,.head _⟩
  ·simp only[bj]at hp;subst hp
   exact⟨z1,.tail _ (.head _)⟩
 have h2':∀p∈[(a,instObj C dx),(dx,dictOf es n)],∃ob,h'.get? p.1=some ob:=λp hp=>by
  refine ao (bZ.mp hp) (λz0=>?_) λhp=>?_ <;>(try subst z0)
  ·exact⟨_,keep _ _ e1 (I.own _ (mem _ (.head _))).2.1 nad⟩
  ·simp only[bj]at hp;subst hp
   exact⟨_,z1⟩
 have z:=SR.turn (s:=s) (s':={ s with heap:=h',toks:=s.toks+2 }) (o':=.inst C (ik fs f V)) (fp':=fp') ok I R LR g1 g2 g3 ea ef F'.ns (λb ob e n1 n2=>keep b ob e n1 λq=>n2 (by refine rwr (q ..) ?_;exact .tail _ (.head _))) h1' h2' (by simp[fp',nad]) ⟨dx,_,_,rfl,aX.set f1 _ rv rf⟩
 exact hq _ _ z.1 z.2
end
end

section
section
variable {prog:Program}{w:World}{K:Frag}{k:Nat}{c:FC}{st:St}{X:Nat->St->Prop}
def cj:List Expr->Env->Prop
 |[],_=>True
 |e::r,env=>starEach (e::r) env=(false,eval e env)::starEach r env/\cj r env
theorem cj.any:∀{es:List Expr} {env:Env} {pos:Pos},cj es env->(backTo pos (starEach es env)).any (·.1)=false
 |[],_,_,_=>rfl
 |e::r,env,pos,h=>by
  refine rwr (h.1 ..) ?_
  show (false||(backTo pos (starEach r env)).any (·.1))=false
  refine rwr (cj.any h.2 ..) ?_;rfl
abbrev WA(prog:Program)(w:World)(c:FC)(t:Sem (List Value))(st:St)(Q:List V->St->Prop)(X:Nat->St->Prop):Prop:=WG prog w c (aV w.params) t st Q X
theorem yq{pos:Pos}{Q:List V->St->Prop}(h:Q [] st):WA prog w c (spliced (backTo pos (starEach [] c.env))) st Q X :=
 λs fz ad fps S=>zh ⟨[],st,fz,ad,fps,aA.refl,S,rfl,h⟩
theorem yl{e:Expr}{rest:List Expr}{pos:Pos}{Q:List V->St->Prop}(hp:cj (e::rest) c.env)
  (h:WE prog w c (eval e c.env) st (λV st1=>WA prog w c (spliced (backTo pos (starEach rest c.env))) st1 (λVs st2=>Q (V::Vs) st2) X) X):WA prog w c (spliced (backTo pos (starEach (e::rest) c.env))) st Q X:=λs fz ad fps S =>
 HN (h.use S (λv s1 V st1 fz1 ad1 fps1 x S1 rv hq=>hq.use S1 (λvs s2 Vs st2 fz2 ad2 fps2 y S2 rvs hQ =>
  ⟨V::Vs,st2,fz2,ad2,fps2,x.trans y,S2,⟨v,vs,rfl,RV.mono (Zf.ext y.fz) y.ad _ _ rv,rvs⟩,hQ⟩) λU U e=>e) λU U e=>e)
  hp.1
def ti(C:aH)(st:St)(Vs:List V)(Q:V->St->Prop)(X:Nat->St->Prop):Prop :=
 ∃(sel:List Nat) (args:List V) (own_c:List af),sel.Nodup/\(∀i∈sel,i<st.own.length)/\own_c.length=sel.length /\
  (∀(t:Nat) o,own_c[t]? = some o->iP sel.length o/\st.own[pick sel t]? = some (renO (pick sel) o))/\Vs=args.map (renV (pick sel))/\(∀V∈args,ec sel.length V) /\
  C args own_c (λV own'=>Q (renV (sig sel st.own.length) V) ⟨st.loc,merge st.own sel own'⟩) (λCn=>X Cn st)
theorem vG{f:Value}{C:aH}{Q:V->St->Prop}(ok:am K k c)(hs:ah prog w K c.gn c.bn k f C){s:Shared}{fz ad fps}(S:SR w.params c st fz ad fps s){vals:List Value}{Vs:List V}
  (hr:aV w.params (Zf c.base fz) ad Vs vals) (hC:ti C st Vs Q X) {Qc:Value->Shared->Prop} {Ec:Value->Shared->Prop}
  (hq:∀v s' V st' fz' ad' fps',aA c s fz ad fps s' fz' ad' fps'->SR w.params c st' fz' ad' fps' s'->RV w.params (Zf c.base fz') ad' V v->Q V st'->Qc v s') (he:∀e s',bD prog w c X e s'->Ec e s'):
  ag (model prog w) c.A (call f vals) Qc Ec s:=by
 refine elE3 hC λsel args own_c=>yO λh1 h2 h3 h4 z0 h6 h7=>?_;clear hC;subst z0
 refine jP (ee (vk ok hs S h1 h2 h3 h4 hr h6 h7) λr s' hr=>?_)
 cases r with
 |error e=>refine ak hr λU=>uE2 λea Cn=>al λy5 hX hx=>?_;clear hr;subst y5;exact he _ _ (wF ok hx hX)
 |ok fl =>
  cases fl with
  |ret v=>obtain⟨V,own',fz',ad',fps',hQ,av,S',rv⟩:=hr;exact hq v s' _ _ fz' ad' fps' av S' rv hQ
  |next=>exact hr
  |brk=>exact hr
  |cont=>exact hr
theorem SR.kin{P:Params}{fz ad fps}{s:Shared}(S:SR P c st fz ad fps s)(ok:am K k c):K.In s.heap:=by
 obtain⟨m,I,_⟩:=S
 exact ok.kin.keeps (I.base ok)
def ju(prog:Program)(w:World)(c:FC)(pos:Pos)(es:List Expr)(st:St)(Q:List V->St->Prop)(X:Nat->St->Prop):Prop:=match es with
 |[]=>Q [] st
 |e::r=>WA prog w c (spliced (backTo pos (starEach (e::r) c.env))) st Q X
theorem w7{f:Value}{first:List Value}{es:List Expr}{pos:Pos}{s:Shared}{fz ad fps}(ok:am K k c)(S:SR w.params c st fz ad fps s)(hk:keepIn K f=true)(hp:cj es c.env){Qa:List V->St->Prop}{Qc:Value->Shared->Prop}{Ec:Value->Shared->Prop}
  (h:ju prog w c pos es st Qa X) (he:∀e s',bD prog w c X e s'->Ec e s')
  (hq:∀vs s' Vs st' fz' ad' fps',aA c s fz ad fps s' fz' ad' fps'->SR w.params c st' fz' ad' fps' s'->aV w.params (Zf c.base fz') ad' Vs vs->Qa Vs st'->ag (model prog w) c.A (call f (first++vs)) Qc Ec s'):
  ag (model prog w) c.A (callWith pos f first (backTo pos (starEach es c.env)) []) Qc Ec s:=by
 cases es with
 |nil=>exact iH rfl (keeps_K hk) (nx ⟨S.kin ok,hq [] s [] st fz ad fps aA.refl S rfl h⟩)
 |cons e rest =>
  have h':WA prog w c (spliced (backTo pos (starEach (e::rest) c.env))) st Qa X:=h
  have ha:=cj.any (pos:=pos) hp
  rw[hp.1]at h' ha ⊢
  exact iH ha (keeps_K hk) (kX (WG.use h' S (λvs s1 Vs st1 fz1 ad1 fps1 x S1 rv hQ=>⟨S1.kin ok,hq vs s1 Vs st1 fz1 ad1 fps1 x S1 rv hQ⟩) he))
noncomputable def fj(K:Frag)(C:Addr)(x:ac)(f:Addr):Bool:=(findIn K (.ref C) x==some (some (.ref f)))&&isFn K (.ref f)&&keepIn K (.ref f)
def kG(x:ac):List Nat->Prop
 |[]=>True
 |k::r=>(aK k==x)=false/\kG x r
theorem rD{P:Params}{Z:Zt}{ad:List Addr}{x:ac}:∀{fs:List (Nat×V)} {es:List DictEntry},aX P Z ad fs es->kG x (fs.map (·.1))->getL x es=some Bx/\es.any (·.refKey)=false
 |[],es,h,_=>by have h:_=_:=h;subst h;exact⟨rfl,rfl⟩
 |(k,v)::r,es,h,hn=>by
  refine elE3 h λu tk es'=>aY λhk z0 h1 h2=>?_;clear h;subst z0
  refine ak hn λn1 n2=>?_;clear hn
  refine ak (rD h2 n2) λi1 i2=>?_
  have e:(mH (aK k) tk).isStr x=false:=n1
  have e2:uu ⟨jh P (aK k),.str (aK k) tk,u⟩=false:=rfl
  have i3:(uu ⟨jh P (aK k),.str (aK k) tk,u⟩::es'.map (·.refKey)).any id=false:=by simp[e2,i2]
  refine⟨?_,by simp[List.any_cons,e2,i2]⟩
  unfold getL at i1 ⊢
  refine rwr (List.find?_cons ..) ?_
  simp only[e]
  cases q:List.find? (λy=>y.key.isStr x) es' with
  |some y=>rw[q]at i1;cases i1
  |none =>
   rw[q]at i1
   show (if (List.any _ _)=true then _ else _)=_
   refine rwr (show List.any (⟨jh P (aK k),.str (aK k) tk,u⟩::es') (·.refKey)=false from by simp[List.any_cons,e2,i2]) ?_
   rfl
def jZ(K:Frag)(own:List af)(V:V)(x:ac)(f:Addr):Prop:=match V with
 |.own i=>∃C fs,getN own i=some (.inst C fs)/\dc K C=true/\fj K C x f=true/\kG x (fs.map (·.1))
 |.d (.obj C fs)=>dc K C=true/\fj K C x f=true/\kG x (fs.map (·.1))
 |_=>False
theorem oH{o:Value}{x:ac}{f:Addr}{V:V}{s:Shared}{fz ad fps}{pl:Sem Bool}(ok:am K k c)(S:SR w.params c st fz ad fps s)(rv:RV w.params (Zf c.base fz) ad V o)(ha:jZ K st.own V x f)
  {Qc:Value×List Value->Shared->Prop} {Ec:Value->Shared->Prop} (hq:Qc (.ref f,[o]) s):wpAny (model prog w) c.A (getMethod o x pl) Qc Ec s:=by
 obtain⟨m,I,R,_⟩:=S
 have F:=I.fr ok
 have go:∀(y dx C:Addr) (n:Nat) (es:List DictEntry),s.heap.get? y=some (instObj C dx)->s.heap.get? dx=some (dictOf es n)->dc K C=true->fj K C x f=true->getL x es=some Bx->Qc (.ref f,[.ref y]) s->wpAny (model prog w) c.A (getMethod (.ref y) x pl) Qc Ec s:=λy dx C n es e1 e2 h1 h2 h3 h4=>by
  refine cX (dc.get h1) λc1 c2 c3 c4=>?_
  unfold fj at h2
  simp only[eO,beq_iff_eq]at h2
  exact method_inst F ok.kin ⟨e1,rfl,rfl,e2⟩ (c1 x) h2.1.1 h2.1.2 h3 h4
 cases V with
 |own i =>
  refine elE2 ha λC fs=>aY λe h1 h2 h3=>?_;clear ha
  refine elE1 rv λa=>ae λea z0=>?_;clear rv;subst z0
  rw[bk]at e
  refine elE2 (R.get e) λa' fp=>al λea' ef=>uE3 λdx n es=>ae λy5 rf=>?_;subst y5
  rw[ea]at ea';cases ea'
  have mem:∀p∈[(a,instObj C dx),(dx,dictOf es n)],s.heap.get? p.1=some p.2:=λp hp=>(I.own p (dC ef hp)).1
  exact go a dx C n es (mem _ (.head _)) (mem _ (.tail _ (.head _))) h1 h2 (rD rf h3).1 hq
 |d y =>
  cases y with
  |obj C fs =>
   refine bN ha λh1 h2 h3=>?_;clear ha
   refine eD rv λx' dx n es=>aY λz0 z1 z2 rf=>?_;clear rv;subst z0
   have get:∀a o,Zf c.base fz a o->s.heap.get? a=some o:=λa o z=>z.elim (I.base ok a o) λz=>(I.fzH _ z).1
   exact go x' dx C n es (get _ _ z1) (get _ _ z2) h1 h2 (rD (RDf.toV (ad:=ad) rf) (by refine rwr (dP ..) ?_;exact h3)).1 hq
  |_=>exact ha.elim
theorem fj.keep{C:Addr}{x:ac}{f:Addr}(h:fj K C x f=true):keepIn K (.ref f)=true:=by
 unfold fj at h
 simp only[eO]at h
 exact h.2
theorem jZ.keep{own:List af}{V:V}{x:ac}{f:Addr}(h:jZ K own V x f):keepIn K (.ref f)=true:=by
 cases V with
 |own i=>refine elE2 h λC fs=>aY λU U h2 U=>?_;clear h;exact fj.keep h2
 |d y=>cases y with
  |obj C fs=>exact fj.keep h.2.1
  |_=>exact h.elim
end
end

section
section
variable {prog:Program}{w:World}{K:Frag}{k:Nat}{gn bn:ac->Option Value}
def CN(Cc:Addr)(Q:V->List af->Prop)(own':List af):Prop :=
 Q (.own 0) own'\/∃fs,getN own' 0=some (.inst Cc (fs.map λp=>(p.1,.d p.2)))/\Q (.d (.obj Cc fs)) []
noncomputable def cF(Cc:Addr)(Ci:aH):aH:=λargs own Q X=>own=[]/\(∀V∈args,ec 0 V)/\Ci (.own 0::args) [.inst Cc []] (λV own'=>V=.d .none/\CN Cc Q own') X
theorem aV.any_ad{P:Params}{Z:Zt}{ad ad':List Addr}:∀{args:List V} {vals:List Value},(∀V∈args,ec 0 V)->aV P Z ad args vals->aV P Z ad' args vals
 |[],_,_,h=>h
 |v::r,vals,hb,h=>by
  refine elE2 h λx ys=>al λe h1 h2=>?_;clear h
  refine(ex2 x ys ⟨e,?_,aV.any_ad (λV hV=>hb V (.tail _ hV)) h2⟩)
  have:=hb v (.head _)
  cases v with
  |d y=>exact h1
  |own i=>exact absurd this (mD _)
theorem aX.toD{P:Params}{Z:Zt}{ad:List Addr}:∀{fs:List (Nat×D)} {es:List DictEntry},aX P Z ad (fs.map λp=>(p.1,V.d p.2)) es->RDf P Z fs es
 |[],es,h=>h
 |(k,x)::r,es,h=>by
  refine elE3 h λv tk es'=>aY λhk e h1 h2=>?_;clear h
  exact(ex3 v tk es' ⟨hk,e,h1,aX.toD h2⟩)
theorem ah.of_class{Cc fI:Addr}{Ci:aH}(hm:makesIn K Cc=true)(hi:findIn K (.ref Cc) "__init__" = some (some (.ref fI)))(hf:isFn K (.ref fI)=true)(hs:ah prog w K gn bn k (.ref fI) Ci):
  ah prog w K gn bn (k+1) (.ref Cc) (cF Cc Ci):=by
 intro A envs base s vals args own ad fps fz Q X cx hfz hfp hnd hdis hR hA hCC
 refine bN hCC λz0 hb hC=>?_;clear hCC;subst z0
 have X0:K.In s.heap:=cx.kin.keeps cx.baseH
 cases hR
 obtain⟨hp,g,d,t,os⟩:=s
 refine Ee (makes_of X0 hm) (looks_findIn X0 hi) (λself=>bind_fn X0 self (beq_iff_eq.mp hf)) rfl ?_
 let h1:Heap:=(hp.push emptyDict).push (instObj Cc hp.objs.size)
 have hx:h1.get? (hp.objs.size+1)=some (instObj Cc hp.objs.size):=by
  have:=dt (hp.push emptyDict) (o:=instObj Cc hp.objs.size) rfl
  rwa [pI]at this
 have hdx:h1.get? hp.objs.size=some emptyDict:=eA _ (dt hp rfl)
 have keep:∀b o,hp.get? b=some o->h1.get? b=some o:=λb o e=>eA _ (eA _ e)
 have new0:hp.get? hp.objs.size=Bx:=by
  cases q:hp.get? hp.objs.size with
  |none=>rfl
  |some o=>exact absurd (cL q) (fM _)
 have new1:hp.get? (hp.objs.size+1)=Bx:=by
  cases q:hp.get? (hp.objs.size+1) with
  |none=>rfl
  |some o=>exact absurd (cg (iy _) (cL q)) (fM _)
 have live:∀b o,hp.get? b=some o->b≠hp.objs.size/\b≠hp.objs.size+1:=λb o e=>⟨λq=>(by rw[q,new0]at e;cases e),λq=>(by rw[q,new1]at e;cases e)⟩
 have frl:∀b∈cZ envs,b≠hp.objs.size/\b≠hp.objs.size+1:=λb hb=>by
  refine ak (cx.frB.mem hb) λU=>uE1 λo=>ae λho U=>?_
  exact live b o ho
 have base0:∀b,hp.get? b=Bx->base.get? b=Bx:=λb e=>by
  cases q:base.get? b with
  |none=>rfl
  |some o=>have:=cx.baseH b o q;rw[e]at this;cases this
 have cx':Cx K k (A.under (.builtin "type.__call__" ⟨.ref Cc::vals,[]⟩)) envs base h1 gn bn:=by
  refine⟨?_,cx.hh,?_,?_,?_,cx.kin,cx.lim,λb o e=>keep b o (cx.baseH b o e),?_,cx.gns,cx.bns,?_⟩
  ·show A.frames=_;exact cx.hA
  ·show A.guards=_;exact cx.hgd
  ·exact cx.deep
  ·show A.units+Code.cUnits (.builtin "type.__call__" ⟨.ref Cc::vals,[]⟩)+8*k+20<_
   have:Code.cUnits (.builtin "type.__call__" ⟨.ref Cc::vals,[]⟩)=1:=rfl
   have:=cx.units;lia
  ·exact cx.frB.of_keeps λb o e U=>⟨o,keep b o e,rfl⟩
  ·show _<=((hp.push emptyDict).push _).objs.size
   refine rwr (pI ..) (rwr (pI ..) ?_)
   have:base.objs.size<=hp.objs.size:=cx.sz
   lia
 refine ee (hs (A.under (.builtin "type.__call__" ⟨.ref Cc::vals,[]⟩)) envs base ⟨h1,g,d,t,os⟩ (.ref (hp.objs.size+1)::vals) (.own 0::args) [.inst Cc []] [hp.objs.size+1]
  [[(hp.objs.size+1,instObj Cc hp.objs.size),(hp.objs.size,dictOf [] 0)]] fz _ X cx' (λp hp'=>⟨keep _ _ (hfz p hp').1,(hfz p hp').2⟩) (λp hp'=>?_) ?_ (λp hp' q hq=>?_) ?_ ?_ hC) λr s' hr=>?_
 ·simp only[mE,List.flatten_nil,bA,bZ,jn,or_false]at hp'
  refine ao hp' (λz0=>?_) λz1=>?_ <;>clear hp' <;>(try subst z0) <;>(try subst z1)
  ·exact⟨hx,λq=>(frl _ q).2 rfl,base0 _ new1⟩
  ·exact⟨hdx,λq=>(frl _ q).1 rfl,base0 _ new0⟩
 ·simp[aT]
 ·have e:=(hfz q hq).1
  have:=live _ _ e
  simp only[mE,List.flatten_nil,bA,bZ,jn,or_false]at hp'
  refine ao hp' (λz0=>?_) λz1=>?_ <;>clear hp' <;>(try subst z0) <;>(try subst z1)
  ·exact λz=>this.2 z.symm
  ·exact λz=>this.1 z.symm
 ·exact .cons (ex3 hp.objs.size 0 [] ⟨rfl,rfl⟩) .nil
 ·exact(ex2 _ vals ⟨rfl,⟨_,rfl,rfl⟩,aV.any_ad hb hA⟩)
 ·have muN:∀b o,hp.get? b=some o->b∉aT [[(hp.objs.size+1,instObj Cc hp.objs.size),(hp.objs.size,dictOf [] 0)]]:=λb o e q=>by
   have:=live b o e
   simp[aT]at q
   refine ao q (λq=>?_) λq=>?_
   ·exact this.2 q
   ·exact this.1 q
  have muNew:∀b,b∈aT [[(hp.objs.size+1,instObj Cc hp.objs.size),(hp.objs.size,dictOf [] 0)]]->hp.get? b=Bx:=λb q=>by
   simp[aT]at q
   refine ao q (λq=>?_) λq=>?_
   ·refine rwr (q ..) ?_;exact new1
   ·refine rwr (q ..) ?_;exact new0
  have h1new:∀b,h1.get? b=Bx->hp.get? b=Bx:=λb e=>by
   cases q:hp.get? b with
   |none=>rfl
   |some o=>have:=keep b o q;rw[e]at this;cases this
  cases r with
  |error e =>
   obtain⟨ea,Cn,B,tt,rfl,hX,b1,b2,b3,hfl,hB,hsl⟩:=hr
   exact⟨ea,Cn,B,tt,rfl,hX,b1,b2,b3,hfl,λb o e U n2=>hB b o (keep b o e) (muN b o e) n2,λb o e n=>hsl b o (keep b o e) n⟩
  |ok fl =>
   cases fl with
   |ret v =>
    obtain⟨V,own',fz',ad1,fps',hQ,e1,e2,b1,b2,b3,hk,hsl,hlv,hfz',hF,hnd',hdis',R',rv⟩:=hr
    refine ak hQ λz0 hfin=>?_;clear hQ;subst z0
    have hv:v=.none:=rv
    refine⟨hv,?_⟩
    have a0:ad1[0]? = some (hp.objs.size+1):=by refine elE1 e2 λr hr=>?_;clear e2;refine rwr (aM (hr ..)) ?_;rfl
    have k1:∀b o,hp.get? b=some o->b∉aT []->b∉cZ envs->s'.heap.get? b=some o:=λb o e U n2=>hk b o (keep b o e) (muN b o e) n2
    have k2:∀b o,hp.get? b=some o->b∈cZ envs->∃sl,s'.heap.get? b=some { o with slots:=sl }:=λb o e n=>hsl b o (keep b o e) n
    have k3:∀b o,hp.get? b=some o->∃o',s'.heap.get? b=some o':=λb o e=>hlv b o (keep b o e)
    have k4:∀p∈fz',s'.heap.get? p.1=some p.2/\(p∈fz\/hp.get? p.1=Bx\/p.1∈aT []):=λp hp'=>by
     refine ak (hfz' p hp') λa1 a2=>?_
     refine⟨a1,a2.imp id λz=>.inl ?_⟩
     refine ao z (λz=>?_) λz=>?_
     ·exact h1new _ z
     ·exact muNew _ z
    have k5:∀p∈fps'.flatten,s'.heap.get? p.1=some p.2/\(p.1∈aT []\/hp.get? p.1=Bx):=λp hp'=>by
     refine ak (hF p hp') λa1 a2=>?_
     refine⟨a1,.inr ?_⟩
     (refine ao a2 (λz=>?_) λz=>?_ <;>clear a2)
     ·exact muNew _ z
     ·exact h1new _ z
    refine ao hfin (λhQ=>?_) (uE1 λfs=>ae λe0 hQ=>?_) <;>clear hfin
    ·exact⟨.own 0,own',fz',ad1,fps',hQ,e1,List.nil_prefix,b1,b2,b3,k1,k2,k3,k4,k5,hnd',hdis',R',⟨_,a0,rfl⟩⟩
    ·rw[bk]at e0
     refine elE2 (R'.get e0) λa fp=>al λea ef=>uE3 λdx n es=>ae λy5 rf=>?_;subst y5
     rw[a0]at ea;cases ea
     have hin:∀p∈[(hp.objs.size+1,instObj Cc dx),(dx,dictOf es n)],p∈fps'.flatten:=λp hp'=>dC ef hp'
     have ex:d_ (Zf base fz') (Zf base (fz'++[(hp.objs.size+1,instObj Cc dx),(dx,dictOf es n)])):=Zf.ext λp hp=>dE _ hp
     refine⟨_,[],fz'++[(hp.objs.size+1,instObj Cc dx),(dx,dictOf es n)],[],[],hQ,λp hp=>dE _ (e1 p hp),eB _,b1,b2,b3,k1,k2,k3,λp hp'=>?_,λp hp'=>(nomatch hp'),ix,λp hp'=>(nomatch hp'),.nil,?_⟩
     ·refine ao (cQ.mp hp') (λhp'=>?_) λhp'=>?_
      ·exact k4 p hp'
      ·refine ak (k5 p (hin p hp')) λa1 a2=>?_
       exact⟨a1,.inr (.inl (a2.elim (λz=>nomatch z) id))⟩
     ·exact(dZ (hp.objs.size+1) dx n es ⟨rfl,.inr (gp _ (.head _)),.inr (gp _ (.tail _ (.head _))),RDf.mono ex _ _ (aX.toD rf)⟩)
   |next=>exact hr
   |brk=>exact hr
   |cont=>exact hr
end
end

section
section
variable {prog:Program}{w:World}{K:Frag}{k:Nat}{c:FC}{st:St}{X:Nat->St->Prop}
theorem jU{i:Nat}{x:ac}{V:V}{v:Value}{s:Shared}{fz ad fps}(ok:am K k c)(hx:c.nm[i]? = some x)(S:SR w.params c st fz ad fps s)(rv:RV w.params (Zf c.base fz) ad V v)
  {Qc:Unit->Shared->Prop} {Ec:Value->Shared->Prop} {A:Around} (hq:∀s',SR w.params c ⟨setN st.loc i (some V),st.own⟩ fz ad fps s'->aA c s fz ad fps s' fz ad fps->Qc () s'):wpAny (model prog w) A (storeName c.env x v) Qc Ec s:=by
 obtain⟨m,I,R,LR,g1,g2,g3⟩:=S
 have z:=ok.nmL x (cw hx)
 refine wpAny_storeName_local z.1 I.ns (λh' hn hs=>hq _ ?_ ⟨λU x=>x,eB _,λb o e n1 U U=>(hs.2 b n1).trans e,λU h=>.inl h,λb o e U=>?_,λU h=>.inl h⟩) (by refine rwr (ok.hk ..) ?_;rfl)
 rotate_left
 ·by_cases q:b=c.L
  ·refine elE3 hn λo' U U=>ae λe' U=>?_;clear hn;exact⟨o',q▸e'⟩
  ·exact⟨o,(hs.2 b q).trans e⟩
 have hne:∀p∈fps.flatten,h'.get? p.1=some p.2:=λp hp=>(hs.2 _ (I.own p hp).2.1).trans (I.own p hp).1
 have I':=I.step (h':=h') (m':=λy=>if y=x then some v else m y) (ds:=[]) (fzn:=[]) (F':=fps.flatten) ok hn (λU hd=>nomatch hd)
  (λb o e n1 U=>(hs.2 b n1).trans e) (λU hp=>nomatch hp) (λp hp=>⟨hne p hp,.inl (du hp)⟩) I.nd (λU U U hq=>nomatch hq)
 rw[bA]at I'
 refine⟨_,I',R,?_,g1,g2,g3⟩
 intro j y Uu hy hU
 by_cases hji:j=i
 ·subst hji
  rw[hx]at hy;cases hy
  have:Uu=V:=by
   have hlt:j<st.loc.length:=by
    rw[bk,hZ]at hU
    have:=(dD.mp hU).1
    rwa [List.length_set]at this
   rw[bk,hZ,Lf hlt]at hU
   simpa using hU.symm
  subst this
  exact⟨v,by simp,rv⟩
 ·have hU':getN st.loc j=some (some Uu):=by
   rw[bk,hZ,BA (fP hji)]at hU
   refine rwr (bk ..) ?_;exact hU
  refine elE1 (LR j y Uu hy hU') λu=>ae λhu ru=>?_
  refine⟨u,?_,ru⟩
  have hne':y≠x:=λe=>by
   subst e
   have h1:=dD.mp hx
   have h2:=dD.mp hy
   exact hji ((List.getElem_inj ok.nmN).mp (h2.2.trans h1.2.symm))
  simp[hne',hu]
variable {Q:Fl->St->Prop}
theorem Kx(h:Q .next st):WS prog w c (execs [] c.env) st Q X:=λs fz ad fps S=>jy ⟨.next,st,fz,ad,fps,aA.refl,S,rfl,h⟩
def Ir(prog:Program)(w:World)(c:FC)(rest:List Stmt)(Q:Fl->St->Prop)(X:Nat->St->Prop):Fl->St->Prop
 |.next,st=>WS prog w c (execs rest c.env) st Q X
 |fl,st=>Q fl st
theorem GT{t:Stmt}{rest:List Stmt}(h:WS prog w c (exec t c.env) st (Ir prog w c rest Q X) X):WS prog w c (execs (t::rest) c.env) st Q X:=λs fz ad fps S =>
 lW (h.use S (λf s1 fl st1 fz1 ad1 fps1 x1 S1 rf hq=>by
  cases fl with
  |next =>
   have:f=.next:=rf
   subst this
   exact WG.use hq S1 (λf2 s2 fl2 st2 fz2 ad2 fps2 y1 S2 rf2 hQ=>⟨fl2,st2,fz2,ad2,fps2,x1.trans y1,S2,rf2,hQ⟩) λU U e=>e
  |brk=>have:f=.brk:=rf;subst this;exact⟨.brk,st1,fz1,ad1,fps1,x1,S1,rfl,hq⟩
  |cont=>have:f=.cont:=rf;subst this;exact⟨.cont,st1,fz1,ad1,fps1,x1,S1,rfl,hq⟩
  |ret V=>refine elE1 rf λv=>ae λz0 rv=>?_;clear rf;subst z0;exact⟨.ret V,st1,fz1,ad1,fps1,x1,S1,⟨v,rfl,rv⟩,hq⟩) λU U e=>e)
theorem D1{e:Expr}{pos:Pos}(h:WE prog w c (eval e c.env) st (λV st1=>Q (.ret V) st1) X):WS prog w c (exec (.Return (some e) pos) c.env) st Q X:=λs fz ad fps S =>
 Jc (h.use S (λv s1 V st1 fz1 ad1 fps1 x1 S1 rv hQ=>⟨.ret V,st1,fz1,ad1,fps1,x1,S1,⟨v,rfl,rv⟩,hQ⟩) λU U e=>e)
theorem Dj{i:Nat}{x:ac}{np pos:Pos}{e:Expr}(ok:am K k c)(hx:c.nm[i]? = some x)(hs:swapsWith e (some (.Name x np)) pos.line c.env=pure false)
  (h:WE prog w c (eval e c.env) st (λV st1=>Q .next ⟨setN st1.loc i (some V),st1.own⟩) X):WS prog w c (exec (.Assign [.Name x np] e pos) c.env) st Q X:=λs fz ad fps S =>
 qR (h.use S (λv s1 V st1 fz1 ad1 fps1 x1 S1 rv hQ=>jU ok hx S1 rv λs' S' z=>⟨.next,_,fz1,ad1,fps1,x1.trans z,S',rfl,hQ⟩) λU U e=>e) hs
theorem CD{e:Expr}{pos:Pos}(hi:interactive c.env=false)(hs:swapsWith e Bx pos.line c.env=pure false)(h:WE prog w c (eval e c.env) st (λU st1=>Q .next st1) X):WS prog w c (exec (.Expr e pos) c.env) st Q X:=λs fz ad fps S =>
 tJ (h.use S (λv s1 V st1 fz1 ad1 fps1 x1 S1 rv hQ=>⟨.next,st1,fz1,ad1,fps1,x1,S1,rfl,hQ⟩) λU U e=>e) hi hs
theorem Dn{o e:Expr}{f:Nat}{ap pos:Pos}(ok:am K k c)(hs:swapsWith e (some (.Attribute o (aK f) ap)) pos.line c.env=pure false)
  (h:WE prog w c (eval e c.env) st (λV st1=>WE prog w c (eval o c.env) st1 (λO st2=>∃i C fs,O=.own i/\getN st2.own i=some (.inst C fs)/\dc K C=true/\dX K C f=true/\fs.length<=100/\Q .next ⟨st2.loc,setN st2.own i (.inst C (ik fs f V))⟩) X) X):
  WS prog w c (exec (.Assign [.Attribute o (aK f) ap] e pos) c.env) st Q X:=λs fz ad fps S =>
 IW (h.use S (λv s1 V st1 fz1 ad1 fps1 x1 S1 rv h1=>h1.use S1 (λov s2 O st2 fz2 ad2 fps2 y1 S2 ro h2=>by
  refine elE3 h2 λi C fs=>eS λz0 e1 e2 e3 e4 hQ=>?_;clear h2;subst z0
  exact xN ok S2 ro (RV.mono (Zf.ext y1.fz) y1.ad _ _ rv) e1 e2 e3 e4 λs' fps' S' z=>⟨.next,_,fz2,ad2,fps',(x1.trans y1).trans z,S',rfl,hQ⟩) λU U e=>e) λU U e=>e) hs
theorem Kr{i:Nat}{x:ac}{np pos:Pos}{op:Operator}{e:Expr}{V0:V}(ok:am K k c)(hx:c.nm[i]? = some x)(hv:getN st.loc i=some (some V0))
  (h:WE prog w c (eval e c.env) st (λV st1=>O2 prog w c (inplaceOp op) V0 V st1 (λr st2=>Q .next ⟨setN st2.loc i (some r),st2.own⟩) X) X):WS prog w c (exec (.AugAssign (.Name x np) op e pos) c.env) st Q X:=λs fz ad fps S=>by
 have S0:=S
 obtain⟨m,I,_,hl,_⟩:=S0
 refine elE1 (hl i x V0 hx hv) λv0=>ae λe0 r0=>?_
 have z:=ok.nmL x (cw hx)
 refine ER (wpAny_loadName_local ok.hk z.1 I.ns e0 (h.use S (λv s1 V st1 fz1 ad1 fps1 x1 S1 rv h1=>?_) λU U e=>e))
 refine aD (h1 s1 fz1 ad1 fps1 v0 v S1 (RV.mono (Zf.ext x1.fz) x1.ad _ _ r0) rv) (λr s2 zz=>?_) λU U e=>e
 obtain⟨R,st2,fz2,ad2,fps2,y1,S2,rr,hQ⟩:=zz
 exact jU ok hx S2 rr λs' S' z=>⟨.next,_,fz2,ad2,fps2,(x1.trans y1).trans z,S',rfl,hQ⟩
theorem FY{o e:Expr}{f:Nat}{ap pos:Pos}{op:Operator}(ok:am K k c)
  (h:WE prog w c (eval o c.env) st (λO st1=>∃i r0,O=.own i/\sM K st1.own O f r0/\WE prog w c (eval e c.env) st1 (λV st2=>O2 prog w c (inplaceOp op) r0 V st2 (λr st3 =>
   ∃C fs,getN st3.own i=some (.inst C fs)/\dc K C=true/\dX K C f=true/\fs.length<=100/\Q .next ⟨st3.loc,setN st3.own i (.inst C (ik fs f r))⟩) X) X) X):
  WS prog w c (exec (.AugAssign (.Attribute o (aK f) ap) op e pos) c.env) st Q X:=λs fz ad fps S =>
 Ig (h.use S (λov s1 O st1 fz1 ad1 fps1 x1 S1 ro h1=>by
  refine elE2 h1 λi r0=>al λz0 ha h2=>?_;clear h1;subst z0
  refine vd ok S1 ro ha λv0 tk rv0=>?_
  refine WG.use h2 (s:={ s1 with toks:=tk }) S1 (λv s2 V st2 fz2 ad2 fps2 y1 S2 rv h3=>?_) λU U e=>e
  refine aD (h3 s2 fz2 ad2 fps2 v0 v S2 (RV.mono (Zf.ext y1.fz) y1.ad _ _ rv0) rv) (λr s3 zz=>?_) λU U e=>e
  obtain⟨R,st3,fz3,ad3,fps3,z1,S3,rr,hQ⟩:=zz
  refine elE2 hQ ?_;clear hQ;refine λC fs=>kI λe1 e2 e3 e4 hQ=>?_
  exact xN ok S3 (RV.mono (Zf.ext (aA.trans (aA.trans (aA.tok tk) y1) z1).fz) (y1.trans z1).ad _ _ ro) rr e1 e2 e3 e4 λs' fps' S' z=>⟨.next,_,fz3,ad3,fps',(((x1.trans (aA.tok tk)).trans y1).trans z1).trans z,S',rfl,hQ⟩) λU U e=>e)
theorem Ef{l r:Expr}{op:CmpOp}{pos:Pos}{whole:Sem Value}{Q:Bool->St->Prop}(hm:behindInMarks op r=false)
  (h:WE prog w c (eval l c.env) st (λa st1=>WE prog w c (eval r c.env) st1 (λb st2=>O2 prog w c (compareOp op) a b st2 (λV st3=>∃q,V=.d (.bool q)/\Q q st3) X) X) X):
  WT prog w c (isTrue (.Compare l [op] [r] pos) c.env whole) st Q X:=λs fz ad fps S =>
 qJ (h.use S (λva s1 a st1 fz1 ad1 fps1 x1 S1 ra h1=>h1.use S1 (λvb s2 b st2 fz2 ad2 fps2 y1 S2 rb h2 =>
  aD (h2 s2 fz2 ad2 fps2 va vb S2 (RV.mono (Zf.ext y1.fz) y1.ad _ _ ra) rb) (λv s3 ⟨V,st3,fz3,ad3,fps3,z1,S3,rv,hQ⟩=>by
   refine elE1 hQ ?_;clear hQ;refine λq=>ae λz0 hQ=>?_;subst z0
   have:v=.bool q:=rv
   subst this
   exact wpAny.n (wpAny_truthy_bool ⟨q,st3,fz3,ad3,fps3,(x1.trans y1).trans z1,S3,rfl,hQ⟩)) λU U e=>e) λU U e=>e) λU U e=>e) hm
theorem Dz{x:Expr}{pos:Pos}{whole:Sem Value}{Q:Bool->St->Prop}(h:WT prog w c (isTrue x c.env (eval x c.env)) st (λq st1=>Q (!q) st1) X):WT prog w c (isTrue (.UnaryOp .Not x pos) c.env whole) st Q X:=λs fz ad fps S =>
 HI (h.use S (λq s1 q' st1 fz1 ad1 fps1 x1 S1 rq hQ=>by
  have:q'=q:=rq
  subst this
  exact⟨!q',st1,fz1,ad1,fps1,x1,S1,rfl,hQ⟩) λU U e=>e)
theorem Gs{x:Expr}{rest:List Expr}{pos:Pos}{whole:Sem Value}{Q:Bool->St->Prop}
  (h:WT prog w c (isTrue x c.env (eval x c.env)) st (λq st1=>(q=true->WT prog w c (isTrue (.BoolOp .And rest pos) c.env whole) st1 Q X)/\(q=false->Q false st1)) X):WT prog w c (isTrue (.BoolOp .And (x::rest) pos) c.env whole) st Q X:=λs fz ad fps S =>
 GO (h.use S (λq s1 q' st1 fz1 ad1 fps1 x1 S1 rq hQ=>by
  have:q'=q:=rq
  subst this
  cases q' with
  |true=>exact(if_pos rfl).mpr (WG.use (hQ.1 rfl) S1 (λr s2 r' st2 fz2 ad2 fps2 y1 S2 rr hQ2=>⟨r',st2,fz2,ad2,fps2,x1.trans y1,S2,rr,hQ2⟩) λU U e=>e)
  |false=>exact(if_neg (by decide)).mpr ⟨false,st1,fz1,ad1,fps1,x1,S1,rfl,hQ.2 rfl⟩) λU U e=>e)
theorem KV{pos:Pos}{whole:Sem Value}{Q:Bool->St->Prop}(h:Q true st):WT prog w c (isTrue (.BoolOp .And [] pos) c.env whole) st Q X:=λs fz ad fps S=>wpAny.n <| isTrue_and_nil ⟨true,st,fz,ad,fps,aA.refl,S,rfl,h⟩
theorem Eu{x:Expr}{rest:List Expr}{pos:Pos}{whole:Sem Value}{Q:Bool->St->Prop}
  (h:WT prog w c (isTrue x c.env (eval x c.env)) st (λq st1=>(q=false->WT prog w c (isTrue (.BoolOp .Or rest pos) c.env whole) st1 Q X)/\(q=true->Q true st1)) X):WT prog w c (isTrue (.BoolOp .Or (x::rest) pos) c.env whole) st Q X:=λs fz ad fps S =>
 qe (h.use S (λq s1 q' st1 fz1 ad1 fps1 x1 S1 rq hQ=>by
  have:q'=q:=rq
  subst this
  cases q' with
  |false=>exact(if_neg (by decide)).mpr (WG.use (hQ.1 rfl) S1 (λr s2 r' st2 fz2 ad2 fps2 y1 S2 rr hQ2=>⟨r',st2,fz2,ad2,fps2,x1.trans y1,S2,rr,hQ2⟩) λU U e=>e)
  |true=>exact(if_pos rfl).mpr ⟨true,st1,fz1,ad1,fps1,x1,S1,rfl,hQ.2 rfl⟩) λU U e=>e)
theorem E8{pos:Pos}{whole:Sem Value}{Q:Bool->St->Prop}(h:Q false st):WT prog w c (isTrue (.BoolOp .Or [] pos) c.env whole) st Q X:=λs fz ad fps S=>wpAny.n <| isTrue_or_nil ⟨false,st,fz,ad,fps,aA.refl,S,rfl,h⟩
theorem GW{test:Expr}{body orelse:List Stmt}{pos:Pos}(h:WT prog w c (isTrue test c.env (eval test c.env)) st (λq st1=>(q=true->WS prog w c (execs body c.env) st1 Q X)/\(q=false->WS prog w c (execs orelse c.env) st1 Q X)) X):
  WS prog w c (exec (.If test body orelse pos) c.env) st Q X:=λs fz ad fps S =>
 F9 (h.use S (λq s1 q' st1 fz1 ad1 fps1 x1 S1 rq hQ=>by
  have:q'=q:=rq
  subst this
  cases q' with
  |true=>exact(if_pos rfl).mpr (WG.use (hQ.1 rfl) S1 (λr s2 r' st2 fz2 ad2 fps2 y1 S2 rr hQ2=>⟨r',st2,fz2,ad2,fps2,x1.trans y1,S2,rr,hQ2⟩) λU U e=>e)
  |false=>exact(if_neg (by decide)).mpr (WG.use (hQ.2 rfl) S1 (λr s2 r' st2 fz2 ad2 fps2 y1 S2 rr hQ2=>⟨r',st2,fz2,ad2,fps2,x1.trans y1,S2,rr,hQ2⟩) λU U e=>e)) λU U e=>e)
end
end

section
section
variable {prog:Program}{w:World}{K:Frag}{k:Nat}{c:FC}{st:St}{X:Nat->St->Prop}
def bS(c:FC)(fz:List (Addr×au))(fps:List (List (Addr×au)))(b:Addr):Prop :=
 b≠c.L/\b∉c.frs/\b∉aT fps/\(∀p∈fz,p.1≠b)/\c.H.get? b=Bx
theorem bS.adv{s s':Shared}{fz ad fps fz' ad' fps'}{b:Addr}{o:au}(h:bS c fz fps b)(hb:s.heap.get? b=some o)(A:aA c s fz ad fps s' fz' ad' fps'):bS c fz' fps' b:=by
 refine gN h λh1 h2 h3 h4 h5=>?_;clear h
 refine⟨h1,h2,λq=>?_,λp hp q=>?_,h5⟩
 ·refine ao (A.fresh b q) (λz=>?_) λz=>?_
  ·exact h3 z
  ·rw[hb]at z;cases z
 ·refine ao (A.fzf p hp) (λz=>?_) (uO (λz=>?_) λz=>?_)
  ·exact h4 p z q
  ·rw[q,hb]at z;cases z
  ·exact h3 (q▸z)
theorem bS.new{s:Shared}{fz ad fps}{b:Addr}(ok:am K k c)(S:SR w.params c st fz ad fps s)(hb:s.heap.get? b=Bx):bS c fz fps b:=by
 obtain⟨m,I,_⟩:=S
 refine⟨λq=>?_,λq=>?_,λq=>?_,λp hp q=>?_,?_⟩
 ·refine elE3 I.ns λo U U=>ae λe U=>?_;rw[<-q,hb]at e;cases e
 ·refine elE1 (ok.frH q) λo ho=>?_;refine elE1 (I.live b o ho) λo' e'=>?_;rw[hb]at e';cases e'
 ·refine elE1 (aW.mp q) λp=>ae λhp e=>?_
  have:=(I.own p hp).1
  rw[e,hb]at this;cases this
 ·have:=(I.fzH p hp).1
  rw[q,hb]at this;cases this
 ·cases q:c.H.get? b with
  |none=>rfl
  |some o=>refine elE1 (I.live b o q) λo' e'=>?_;rw[hb]at e';cases e'
theorem SR.side{s:Shared}{fz ad fps}{wr:List Addr}{h':Heap}{tk:Nat}(ok:am K k c)(S:SR w.params c st fz ad fps s)(hU:∀b∈wr,bS c fz fps b)(hk:∀b o,b∉wr->s.heap.get? b=some o->h'.get? b=some o):
  SR w.params c st fz ad fps { s with heap:=h',toks:=tk }:=by
 obtain⟨m,I,R,LR,g1,g2,g3⟩:=S
 have nH:∀b o,c.H.get? b=some o->b∉wr:=λb o e q=>by rw[(hU b q).2.2.2.2]at e;cases e
 refine⟨m,⟨?_,λb o e q1 q2=>hk b o (nH b o e) (I.keep b o e q1 q2),λb o e q=>?_,λb o e=>?_,λp hp=>?_,λp hp=>?_,I.nd,I.dis⟩,R,LR,g1,g2,g3⟩
 ·refine elE3 I.ns λo es ep=>ae λe r=>?_
  exact(ex3 o es ep ⟨hk _ _ (λq=>(hU _ q).1 rfl) e,r⟩)
 ·refine elE1 (I.slot b o e q) λsl hs=>?_
  exact⟨sl,hk _ _ (nH b o e) hs⟩
 ·refine elE1 (I.live b o e) λo' e'=>?_
  exact⟨o',hk _ _ (nH b o e) e'⟩
 ·refine ak (I.fzH p hp) λa1 a2=>?_
  exact⟨hk _ _ (λq=>(hU _ q).2.2.2.1 p hp rfl) a1,a2⟩
 ·refine ak (I.own p hp) λa1 a2=>?_
  exact⟨hk _ _ (λq=>(hU _ q).2.2.1 (du hp)) a1,a2⟩
theorem aA.side{s₀ s:Shared}{fz ad fps fz' ad' fps'}{wr:List Addr}{h':Heap}{tk:Nat}(A:aA c s₀ fz ad fps s fz' ad' fps')(hw:∀b∈wr,s₀.heap.get? b=Bx)(hk:∀b o,b∉wr->s.heap.get? b=some o->h'.get? b=some o):
  aA c s₀ fz ad fps { s with heap:=h',toks:=tk } fz' ad' fps':=by
 have nw:∀b o,s₀.heap.get? b=some o->b∉wr:=λb o e q=>by rw[hw b q]at e;cases e
 exact⟨A.fz,A.ad,λb o e n1 n2 n3=>hk b o (nw b o e) (A.keep b o e n1 n2 n3),A.fresh,λb o e n=>let ⟨o',e'⟩:=A.live b o e n;⟨o',hk b o' (nw b o e) e'⟩,A.fzf⟩
theorem DY{α:Type}{t:Sem α}{s:Shared}{Qc:α->Shared->Prop}(h:ag (model prog w) c.A t Qc (bD prog w c X) s):
  ag (model prog w) c.A t Qc (notedBy (model prog w) c.A c.env λe s'=>cameBackBy (model prog w) c.A c.env (bD prog w c X) e s') s:=aD h (λU U x=>x) bD.own
def ey(J:St->Prop)(Q:Fl->St->Prop):Fl->St->Prop
 |.next,st=>J st
 |.cont,st=>J st
 |.brk,st=>Q .next st
 |.ret V,st=>Q (.ret V) st
theorem vw{I:Nat->Shared->Prop}{n:Nat}{f:Flow}{fl:Fl}{J:St->Prop}{Q:Fl->St->Prop}{s₀ s:Shared}{fz ad fps fz' ad' fps'}(rf:e9 w.params (Zf c.base fz') ad' fl f)(hT:ey J Q fl st)(A:aA c s₀ fz ad fps s fz' ad' fps')(S:SR w.params c st fz' ad' fps' s)
  (next:J st->∃m,m<n/\I m s):lw I (eH prog w c.A c.env (dK w.params c (e9 w.params) Q s₀ fz ad fps) (bD prog w c X)) n f s:=by
 induction fl using Fl.casesOn with
 |next=>exact(rf:f=.next)▸next hT
 |cont=>exact(rf:f=.cont)▸next hT
 |brk=>exact(rf:f=.brk)▸(⟨.next,st,fz',ad',fps',A,S,rfl,hT⟩:dK w.params c (e9 w.params) Q s₀ fz ad fps .next s)
 |ret V=>refine elE1 rf λv=>ae λz0 rv=>?_;clear rf;subst z0;exact⟨.ret V,st,fz',ad',fps',A,S,⟨v,rfl,rv⟩,hT⟩
theorem d6.own{Q:Flow->Shared->Prop}{α:Type}{t:Sem α}{s:Shared}{Qc:α->Shared->Prop}(h:ag (model prog w) c.A t Qc (bD prog w c X) s):ag (model prog w) c.A t Qc (d6 prog w c.A c.env (eH prog w c.A c.env Q (bD prog w c X))) s:=DY h
inductive wt(w:World)(c:FC)(s:Shared)(fz:List (Addr×au))(ad:List Addr)(fps:List (List (Addr×au)))(J:Nat->St->Prop)(n:Nat)(s':Shared):Prop
 |mk (st':St) (fz':List (Addr×au)) (ad':List Addr) (fps':List (List (Addr×au))) (_:aA c s fz ad fps s' fz' ad' fps') (_:SR w.params c st' fz' ad' fps' s') (_:J n st'):wt w c s fz ad fps J n s'
theorem Et{test:Expr}{body:List Stmt}{pos:Pos}{Q:Fl->St->Prop}(J:Nat->St->Prop)(n:Nat)(h0:J n st)
  (turn:∀n st1,J n st1->WT prog w c (isTrue test c.env (eval test c.env)) st1 (λq st2=>(q=true->WS prog w c (execs body c.env) st2 (ey (λst3=>∃m,m<n/\J m st3) Q) X)/\(q=false->Q .next st2)) X):
  WS prog w c (exec (.While test body [] pos) c.env) st Q X:=λs fz ad fps S=>by
 refine EP (Iv (wt w c s fz ad fps J) (λn s1 ⟨st1,fz1,ad1,fps1,A1,S1,hJ⟩=>?_) n ⟨st,fz,ad,fps,aA.refl,S,h0⟩)
 refine d6.own ((turn n st1 hJ).use S1 (λq s2 q' st2 fz2 ad2 fps2 A2 S2 rq hQ=>?_) λU U e=>e)
 have A2:=A1.trans A2
 refine(rq:q'=q)▸?_
 induction q' using Bool.casesOn with
 |true =>
  exact d6.own (WG.use (hQ.1 rfl) S2 (λf s3 fl st3 fz3 ad3 fps3 A3 S3 rf hT=>vw rf hT (A2.trans A3) S3 λ⟨m,hm,hJ'⟩=>⟨m,hm,st3,fz3,ad3,fps3,A2.trans A3,S3,hJ'⟩) λU U e=>e)
 |false=>exact jy ⟨.next,st2,fz2,ad2,fps2,A2,S2,rfl,hQ.2 rfl⟩
inductive yV(w:World)(c:FC)(s₀:Shared)(fz:List (Addr×au))(ad:List Addr)(fps:List (List (Addr×au)))(fp wr:List Addr)(n:Nat)(Stt:Nat->Heap->Prop)(J:Nat->St->Prop)(k:Nat)(s:Shared):Prop
 |mk (j:Nat) (st:St) (fz1:List (Addr×au)) (ad1:List Addr) (fps1:List (List (Addr×au))) (_:aA c s₀ fz ad fps s fz1 ad1 fps1) (_:SR w.params c st fz1 ad1 fps1 s) (_:Stt j s.heap) (_:J j st) (_:j<=n) (_:k=n+1-j)
  (_:∀b∈wr,bS c fz1 fps1 b) (_:∀b∈fp,b≠c.L/\b∉c.frs/\b∉aT fps1/\∃o,s.heap.get? b=some o):yV w c s₀ fz ad fps fp wr n Stt J k s
theorem He{fp:List Addr}{s s':Shared}{fz ad fps fz' ad' fps'}(A:aA c s fz ad fps s' fz' ad' fps')(h:∀b∈fp,b≠c.L/\b∉c.frs/\b∉aT fps/\∃o,s.heap.get? b=some o):
  (∀b∈fp,∀o,s.heap.get? b=some o->s'.heap.get? b=some o)/\∀b∈fp,b≠c.L/\b∉c.frs/\b∉aT fps'/\∃o,s'.heap.get? b=some o:=by
 have kp:∀b∈fp,∀o,s.heap.get? b=some o->s'.heap.get? b=some o:=λb hb o e=>A.keep b o e (h b hb).1 (h b hb).2.2.1 (h b hb).2.1
 refine⟨kp,λb hb=>?_⟩
 refine cX (h b hb) λa1 a2 a3=>uE1 λo e=>?_
 refine⟨a1,a2,λq=>?_,o,kp b hb o e⟩
 refine ao (A.fresh b q) (λz=>?_) λz=>?_
 ·exact a3 z
 ·rw[e]at z;cases z
theorem Du{wr:List Addr}{s s':Shared}{fz ad fps fz' ad' fps'}(A:aA c s fz ad fps s' fz' ad' fps')(h:∀b∈wr,bS c fz fps b)(hl:∀b∈wr,∃o,s.heap.get? b=some o):∀b∈wr,bS c fz' fps' b:=λb hb =>
 have ⟨_,e⟩:=hl b hb
 (h b hb).adv e A
theorem v5{target:Expr}{body:List Stmt}{I:Addr}{fp wr:List Addr}{n:Nat}{P:Nat->Value->Prop}{Stt:Nat->Heap->Prop}{s₀ s:Shared}{fz ad fps fps'}{Q:Fl->St->Prop}{items:List D}{J:Nat->St->Prop}
  (ok:am K k c) (Wk:Walks prog w c.A I fp wr n P Stt) (hP:∀j v,j<n->P j v->∃d,items[j]? = some d/\RD w.params (Zf c.base fz) d v)
  (A0:aA c s₀ fz ad fps s fz ad fps') (S:SR w.params c st fz ad fps' s) (hst:Stt 0 s.heap) (hwr:∀b∈wr,s₀.heap.get? b=Bx/\bS c fz fps' b/\∃o,s.heap.get? b=some o) (hfp:∀b∈fp,b≠c.L/\b∉c.frs/\b∉aT fps'/\∃o,s.heap.get? b=some o)
  (hlv:∀b∈wr,∀j h,Stt j h->∃o,h.get? b=some o) (h0:J 0 st) (hend:∀st1,J n st1->Q .next st1)
  (asg:∀j d v st1 s1 fz1 ad1 fps1 B E,items[j]? = some d->J j st1->SR w.params c st1 fz1 ad1 fps1 s1->Stt (j+1) s1.heap->RD w.params (Zf c.base fz1) d v ->
   (∀st2 s2,SR w.params c st2 fz1 ad1 fps1 s2->aA c s1 fz1 ad1 fps1 s2 fz1 ad1 fps1->WS prog w c (execs body c.env) st2 (ey (J (j+1)) Q) X->B s2)->pr prog w c.A c.env target (.ref I) v E B s1):
  bh (model prog w) c.A (.forLoop target (.ref I) body [] c.env) (eH prog w c.A c.env (dK w.params c (e9 w.params) Q s₀ fz ad fps) (bD prog w c X)) s:=by
 refine Co (yV w c s₀ fz ad fps fp wr n Stt J) ?_ (n+1) ⟨0,st,fz,ad,fps',A0,S,hst,h0,cR _,rfl,λb hb=>(hwr b hb).2.1,hfp⟩
 intro k1 s1 hI
 obtain⟨j,st1,fz1,ad1,fps1,A1,S1,hst1,hJ,hj,hk1,hU,hF⟩:=hI
 by_cases hlt:j<n
 ·refine wpAny.n (Wk.item j _ _ _ hlt hst1 λv h' tk hPv hst' hk=>?_)
  refine elE1 (hP j v hlt hPv) λd=>ae λhd rd=>?_
  refine asg j d v st1 _ fz1 ad1 fps1 _ _ hd hJ (S1.side (tk:=tk) ok hU hk) hst' (RD.mono (Zf.ext A1.fz) _ _ rd) λst2 s3 S3 A3 turn=>?_
  refine d6.own (turn.use S3 (λf s4 fl st4 fz4 ad4 fps4 A4 S4 rf hT=>?_) λU U e=>e)
  have A34:=A3.trans A4
  have L:=He A34 λb hb=>by
   refine cX (hF b hb) λa1 a2 a3=>uE1 λo e=>?_
   refine⟨a1,a2,a3,?_⟩
   by_cases q:b∈wr
   ·exact hlv b q _ _ hst'
   ·exact⟨o,hk b o q e⟩
  have A2:=(A1.side (tk:=tk) (λb hb=>(hwr b hb).1) hk).trans A34
  exact vw rf hT A2 S4 λhJ'=>⟨n+1-(j+1),Nat.lt_of_lt_of_eq (uv (uw hlt) (iy j)) hk1.symm,j+1,st4,fz4,ad4,fps4,A2,S4,Wk.frame _ _ _ hst' L.1,hJ',hlt,rfl,Du A34 hU λb hb=>hlv b hb _ _ hst',L.2⟩
 ·have hjn:j=n:=mI hj (eN hlt)
  refine wpAny.n (Wk.done _ _ _ (hjn▸hst1) λh' tk hk=>jy ?_)
  exact⟨.next,st1,fz1,ad1,fps1,A1.side (λb hb=>(hwr b hb).1) hk,S1.side ok hU hk,rfl,hend st1 (hjn▸hJ)⟩
theorem HX{i:Nat}{x:ac}{np:Pos}{body:List Stmt}{I:Addr}{fp wr:List Addr}{n:Nat}{P:Nat->Value->Prop}{Stt:Nat->Heap->Prop}{s₀ s:Shared}{fz ad fps fps'}{Q:Fl->St->Prop}{items:List D}
  (ok:am K k c) (hx:c.nm[i]? = some x) (Wk:Walks prog w c.A I fp wr n P Stt) (hP:∀j v,j<n->P j v->∃d,items[j]? = some d/\RD w.params (Zf c.base fz) d v)
  (A0:aA c s₀ fz ad fps s fz ad fps') (S:SR w.params c st fz ad fps' s) (hst:Stt 0 s.heap) (hwr:∀b∈wr,s₀.heap.get? b=Bx/\bS c fz fps' b/\∃o,s.heap.get? b=some o) (hfp:∀b∈fp,b≠c.L/\b∉c.frs/\b∉aT fps'/\∃o,s.heap.get? b=some o)
  (hlv:∀b∈wr,∀j h,Stt j h->∃o,h.get? b=some o)
  (J:Nat->St->Prop) (h0:J 0 st) (turn:∀j d st1,items[j]? = some d->J j st1->WS prog w c (execs body c.env) ⟨setN st1.loc i (some (.d d)),st1.own⟩ (ey (J (j+1)) Q) X) (hend:∀st1,J n st1->Q .next st1):
  bh (model prog w) c.A (.forLoop (.Name x np) (.ref I) body [] c.env) (eH prog w c.A c.env (dK w.params c (e9 w.params) Q s₀ fz ad fps) (bD prog w c X)) s :=
 v5 ok Wk hP A0 S hst hwr hfp hlv h0 hend λj d v st1 s1 fz1 ad1 fps1 B E hd hJ S1 U rd hB =>
  fY (a:=()) rfl (wpAny.n (wpAny_assign_Name (jU (V:=.d d) ok hx S1 rd λs3 S3 A3=>hB _ _ S3 A3 (turn j d st1 hd hJ))))
end
end

section
inductive Ex where
 |k (d:D) | g (x:ac) (d:D) | v (i:Nat) | attr (e:Ex) (f:Nat)
 |bin (op:Operator) (l r:Ex) | fmt (n:Nat) (e:Ex) | cmp (op:CmpOp) (l r:Ex) | not (e:Ex) | and (es:Ex) | or (es:Ex) | ite (t a b:Ex)
 |call (x:ac) (f:Addr) (es:Ex) | meth (e:Ex) (m:Nat) (es:Ex) | bi (b:Nat) (es:Ex) | bm (e:Ex) (m:Nat) (es:Ex)
 |tup (es:Ex) | lst (es:Ex) | lst0 | sub (e i:Ex) | slc (e lo hi:Ex) | txt (es:Ex) | fv (e:Ex) | orc (n:Nat)
 |nil | cons (e r:Ex)
inductive Sx where
 |nil | cons (s r:Sx)
 |asg (i:Nat) (e:Ex) | asgT (is:List Nat) (e:Ex) | asgA (o:Ex) (f:Nat) (e:Ex) | aug (i:Nat) (op:Operator) (e:Ex) | augA (o:Ex) (f:Nat) (op:Operator) (e:Ex)
 |ex (e:Ex) | ite (t:Ex) (a b:Sx) | whl (t:Ex) (b:Sx) | forL (i:Nat) (it:Ex) (b:Sx) | forR (i:Nat) (n:Ex) (b:Sx) | forT (is:List Nat) (it:Ex) (b:Sx)
 |ret (e:Ex) | raise (x:ac) (C:Nat) (e:Ex) | orc (n:Nat)
noncomputable def f7(o:Option af):Option (List D):=o.casesOn Bx λx=>x.casesOn (λU U=>Bx) some (λU=>Bx) Bx
noncomputable def d9(own:List af)(a:V):Option (List D):=a.casesOn (λd=>d.casesOn Bx (λU=>Bx) (λU=>Bx) (λU=>Bx) (λU=>Bx) (λU=>Bx) some λU U=>Bx) λi=>f7 (getN own i)
theorem nT{own:List af}{i:Nat}{vs:List D}(e:getN own i=some (.lst vs)):d9 own (.own i)=some vs:=(congrArg f7 e:f7 (getN own i)=f7 (some (.lst vs)))
noncomputable def fy(n:Nat)(i:Int):ac :=
 let d:=aa (toString i)
 let p:ac:=⟨(ay (6-d.length) 48).toArray⟩++d
 match n with
 |0=>p
 |1=>p++aa ".log"
 |2=>p++aa ".dbtmp"
 |_=>aa "MANIFEST-" ++ p
noncomputable def zl:Nat->ac
 |0=>aa "%06d"
 |1=>aa "%06d.log"
 |2=>aa "%06d.dbtmp"
 |_=>aa "MANIFEST-%06d"
def small(i:Int):Prop:=i.natAbs<2^64
def iI(op:Operator)(a b:Int)(k:Int->Prop):Prop:=match op with
 |.Add=>k (a+b)
 |.Sub=>k (a-b)
 |.Mult=>small a/\k (a*b)
 |.FloorDiv=>(b≠0/\b.natAbs<1000000000)/\k (a.fdiv b)
 |.Mod=>b≠0/\k (a.fmod b)
 |.Pow=>(0<=b/\b<=1000000/\a.natAbs<2^64)/\k (a^b.toNat)
 |.BitAnd=>k (mJ a b)
 |.BitOr=>k (mK a b)
 |.LShift=>(0<=b/\b<=1000000/\a.natAbs<2^64)/\k (a*2^b.toNat)
 |.RShift=>0<=b/\k (a.fdiv (2^b.toNat))
 |_=>False
def vI(a:V)(f:Int->Prop)(g:Prop):Prop:=a.casesOn (λd=>d.casesOn g (λU=>g) f (λU=>g) (λU=>g) (λU=>g) (λU=>g) λU U=>g) λU=>g
def vS(a:V)(f:ac->Prop)(g:Prop):Prop:=a.casesOn (λd=>d.casesOn g (λU=>g) (λU=>g) f (λU=>g) (λU=>g) (λU=>g) λU U=>g) λU=>g
def vB(a:V)(f:List UInt8->Prop)(g:Prop):Prop:=a.casesOn (λd=>d.casesOn g (λU=>g) (λU=>g) (λU=>g) f (λU=>g) (λU=>g) λU U=>g) λU=>g
def vQ(a:V)(f:Bool->Prop)(g:Prop):Prop:=a.casesOn (λd=>d.casesOn g f (λU=>g) (λU=>g) (λU=>g) (λU=>g) (λU=>g) λU U=>g) λU=>g
def vT(a:V)(f:List D->Prop)(g:Prop):Prop:=a.casesOn (λd=>d.casesOn g (λU=>g) (λU=>g) (λU=>g) (λU=>g) f (λU=>g) λU U=>g) λU=>g
def vL(a:V)(f:List D->Prop)(g:Prop):Prop:=a.casesOn (λd=>d.casesOn g (λU=>g) (λU=>g) (λU=>g) (λU=>g) (λU=>g) f λU U=>g) λU=>g
def vJ(a:V)(f:Nat->List (Nat×D)->Prop)(g:Prop):Prop:=a.casesOn (λd=>d.casesOn g (λU=>g) (λU=>g) (λU=>g) (λU=>g) (λU=>g) (λU=>g) f) λU=>g
def vO(a:V)(f:Nat->Prop)(g:Prop):Prop:=a.casesOn (λU=>g) f
def l0(l:List V)(P:Prop):Prop:=l.casesOn P λU U=>False
def l1(l:List V)(f:V->Prop):Prop:=l.casesOn False λa r=>l0 r (f a)
def l2(l:List V)(f:V->V->Prop):Prop:=l.casesOn False λa r=>l1 r (f a)
def oo{α:Type}(o:Option α)(f:α->Prop):Prop:=o.casesOn False f
def ob(o:Option af)(f:Nat->List (Nat×V)->Prop)(g:List D->Prop)(k:List UInt8->Prop):Prop:=oo o λx=>x.casesOn f g k False
variable {G g P Q:Prop}{a:V}{l:List V}
theorem g_{b:Bool}(h:cond b P False):b=true/\P:=by
 induction b using Bool.casesOn with
 |false=>exact h.elim
 |true=>exact⟨rfl,h⟩
theorem GK{b:Bool}(e:b=true)(h:P):cond b P False:=e▸h
theorem eU{b:Bool}(h:cond b P Q)(k1:b=true->P->G)(k2:Q->G):G:=by
 induction b using Bool.casesOn with
 |false=>exact k2 h
 |true=>exact k1 rfl h
theorem ph{f:Int->Prop}(h:vI a f g)(k:∀i,a=.d (.int i)->f i->G)(k2:g->G):G:=by
 induction a using V.casesOn with
 |d x=>induction x using D.casesOn with
  |int i=>exact k i rfl h
  |_=>exact k2 h
 |own _=>exact k2 h
theorem dS{f:Int->Prop}(h:vI a f False):∃i,a=.d (.int i)/\f i:=ph h (λi e h=>⟨i,e,h⟩) dQ
theorem iU{f:ac->Prop}(h:vS a f g)(k:∀i,a=.d (.str i)->f i->G)(k2:g->G):G:=by
 induction a using V.casesOn with
 |d x=>induction x using D.casesOn with
  |str i=>exact k i rfl h
  |_=>exact k2 h
 |own _=>exact k2 h
theorem gY{f:ac->Prop}(h:vS a f False):∃i,a=.d (.str i)/\f i:=iU h (λi e h=>⟨i,e,h⟩) dQ
theorem ij{f:List UInt8->Prop}(h:vB a f g)(k:∀i,a=.d (.bytes i)->f i->G)(k2:g->G):G:=by
 induction a using V.casesOn with
 |d x=>induction x using D.casesOn with
  |bytes i=>exact k i rfl h
  |_=>exact k2 h
 |own _=>exact k2 h
theorem rM{f:List UInt8->Prop}(h:vB a f False):∃i,a=.d (.bytes i)/\f i:=ij h (λi e h=>⟨i,e,h⟩) dQ
theorem qY{f:Bool->Prop}(h:vQ a f g)(k:∀i,a=.d (.bool i)->f i->G)(k2:g->G):G:=by
 induction a using V.casesOn with
 |d x=>induction x using D.casesOn with
  |bool i=>exact k i rfl h
  |_=>exact k2 h
 |own _=>exact k2 h
theorem lV{f:Bool->Prop}(h:vQ a f False):∃i,a=.d (.bool i)/\f i:=qY h (λi e h=>⟨i,e,h⟩) dQ
theorem sT{f:List D->Prop}(h:vT a f g)(k:∀i,a=.d (.tup i)->f i->G)(k2:g->G):G:=by
 induction a using V.casesOn with
 |d x=>induction x using D.casesOn with
  |tup i=>exact k i rfl h
  |_=>exact k2 h
 |own _=>exact k2 h
theorem E3{f:List D->Prop}(h:vT a f False):∃i,a=.d (.tup i)/\f i:=sT h (λi e h=>⟨i,e,h⟩) dQ
theorem tW{f:List D->Prop}(h:vL a f g)(k:∀i,a=.d (.list i)->f i->G)(k2:g->G):G:=by
 induction a using V.casesOn with
 |d x=>induction x using D.casesOn with
  |list i=>exact k i rfl h
  |_=>exact k2 h
 |own _=>exact k2 h
theorem qT{f:List D->Prop}(h:vL a f False):∃i,a=.d (.list i)/\f i:=tW h (λi e h=>⟨i,e,h⟩) dQ
theorem yY{f:Nat->List (Nat×D)->Prop}(h:vJ a f g)(k:∀C fs,a=.d (.obj C fs)->f C fs->G)(k2:g->G):G:=by
 induction a using V.casesOn with
 |d x=>induction x using D.casesOn with
  |obj C fs=>exact k C fs rfl h
  |_=>exact k2 h
 |own _=>exact k2 h
theorem na{f:Nat->Prop}(h:vO a f g)(k:∀i,a=.own i->f i->G)(k2:g->G):G:=by
 induction a using V.casesOn with
 |d _=>exact k2 h
 |own i=>exact k i rfl h
theorem lA{f:Nat->Prop}(h:vO a f False):∃i,a=.own i/\f i:=na h (λi e h=>⟨i,e,h⟩) dQ
theorem Bm(h:l0 l P):l=[]/\P:=by
 induction l using List.casesOn with
 |nil=>exact⟨rfl,h⟩
 |cons _ _=>exact h.elim
theorem qd{f:V->Prop}(h:l1 l f):∃a,l=[a]/\f a:=by
 induction l using List.casesOn with
 |nil=>exact h.elim
 |cons a r=>exact have ⟨e,h⟩:=Bm h;⟨a,e▸rfl,h⟩
theorem C_{f:V->V->Prop}(h:l2 l f):∃a b,l=[a,b]/\f a b:=by
 induction l using List.casesOn with
 |nil=>exact h.elim
 |cons a r=>exact have ⟨b,e,h⟩:=qd h;⟨a,b,e▸rfl,h⟩
theorem dk{α:Type}{o:Option α}{f:α->Prop}(h:oo o f):∃x,o=some x/\f x:=by
 induction o using Option.casesOn with
 |none=>exact h.elim
 |some x=>exact⟨x,rfl,h⟩
theorem bg{α:Type}{o:Option α}{f:α->Prop}{x:α}(e:o=some x)(h:f x):oo o f:=e▸h
theorem j5{o:Option af}{f:Nat->List (Nat×V)->Prop}{g:List D->Prop}{k:List UInt8->Prop}(h:ob o f g k)(k1:∀C fs,o=some (.inst C fs)->f C fs->G)(k2:∀vs,o=some (.lst vs)->g vs->G)(k3:∀x,o=some (.ba x)->k x->G):G:=by
 have ⟨x,e,h⟩:=dk h
 subst e
 induction x using af.casesOn with
 |inst C fs=>exact k1 C fs rfl h
 |lst vs=>exact k2 vs rfl h
 |ba x=>exact k3 x rfl h
 |dead=>exact h.elim
theorem wR{g g':Prop}{f f':Int->Prop}(h:vI a f g)(hf:∀i,f i->f' i)(hg:g->g'):vI a f' g':=by
 induction a using V.casesOn with
 |d x=>induction x using D.casesOn with
  |int i=>exact hf i h
  |_=>exact hg h
 |own _=>exact hg h
theorem sy{g g':Prop}{f f':ac->Prop}(h:vS a f g)(hf:∀i,f i->f' i)(hg:g->g'):vS a f' g':=by
 induction a using V.casesOn with
 |d x=>induction x using D.casesOn with
  |str i=>exact hf i h
  |_=>exact hg h
 |own _=>exact hg h
theorem rn{g g':Prop}{f f':List UInt8->Prop}(h:vB a f g)(hf:∀i,f i->f' i)(hg:g->g'):vB a f' g':=by
 induction a using V.casesOn with
 |d x=>induction x using D.casesOn with
  |bytes i=>exact hf i h
  |_=>exact hg h
 |own _=>exact hg h
theorem xw{g g':Prop}{f f':Bool->Prop}(h:vQ a f g)(hf:∀i,f i->f' i)(hg:g->g'):vQ a f' g':=by
 induction a using V.casesOn with
 |d x=>induction x using D.casesOn with
  |bool i=>exact hf i h
  |_=>exact hg h
 |own _=>exact hg h
theorem KS{g g':Prop}{f f':List D->Prop}(h:vT a f g)(hf:∀i,f i->f' i)(hg:g->g'):vT a f' g':=by
 induction a using V.casesOn with
 |d x=>induction x using D.casesOn with
  |tup i=>exact hf i h
  |_=>exact hg h
 |own _=>exact hg h
theorem Ei{g g':Prop}{f f':List D->Prop}(h:vL a f g)(hf:∀i,f i->f' i)(hg:g->g'):vL a f' g':=by
 induction a using V.casesOn with
 |d x=>induction x using D.casesOn with
  |list i=>exact hf i h
  |_=>exact hg h
 |own _=>exact hg h
theorem KN{g g':Prop}{f f':Nat->List (Nat×D)->Prop}(h:vJ a f g)(hf:∀C fs,f C fs->f' C fs)(hg:g->g'):vJ a f' g':=by
 induction a using V.casesOn with
 |d x=>induction x using D.casesOn with
  |obj C fs=>exact hf C fs h
  |_=>exact hg h
 |own _=>exact hg h
theorem Ag{g g':Prop}{f f':Nat->Prop}(h:vO a f g)(hf:∀i,f i->f' i)(hg:g->g'):vO a f' g':=by
 induction a using V.casesOn with
 |d _=>exact hg h
 |own i=>exact hf i h
theorem mA{α:Type}{o:Option α}{f f':α->Prop}(h:oo o f)(hf:∀x,f x->f' x):oo o f':=by
 induction o using Option.casesOn with
 |none=>exact h
 |some x=>exact hf x h
theorem wq{b:Bool}{P P':Prop}(h:cond b P False)(hp:P->P'):cond b P' False:=by
 induction b using Bool.casesOn with
 |false=>exact h
 |true=>exact hp h
theorem zn{o:Option af}{f f':Nat->List (Nat×V)->Prop}{g g':List D->Prop}{k k':List UInt8->Prop}(h:ob o f g k)(h1:∀C fs,f C fs->f' C fs)(h2:∀vs,g vs->g' vs)(h3:∀x,k x->k' x):ob o f' g' k' :=
 mA h λx=>by
  induction x using af.casesOn with
  |inst C fs=>exact h1 C fs
  |lst vs=>exact h2 vs
  |ba x=>exact h3 x
  |dead=>exact id
theorem vU{o:Option af}{f:Nat->List (Nat×V)->Prop}{g:List D->Prop}{k:List UInt8->Prop}{C:Nat}{fs:List (Nat×V)}(e:o=some (.inst C fs))(h:f C fs):ob o f g k:=e▸h
theorem Kw{o:Option af}{f:Nat->List (Nat×V)->Prop}{g:List D->Prop}{k:List UInt8->Prop}{vs:List D}(e:o=some (.lst vs))(h:g vs):ob o f g k:=e▸h
def qA(own:List af)(op:Operator)(a b:V)(k:V->Prop):Prop :=
 vI b (λn=>vI a (λa=>iI op a n λr=>k (.d (.int r)))
  (vS a (λx=>op=.Mult/\x.length<=16/\n<=1000 /\ -1000<=n/\k (.d (.str (Txt.mul x n))))
  (vB a (λx=>op=.Mult/\x≠[]/\x.length<=16/\n<=1000 /\ -1000<=n/\k (.d (.bytes (ay n.toNat x).flatten)))
   (op=.Mult/\n<=1000/\0<=n/\oo (d9 own a) λvs=>vs.length*n.toNat<=256/\k (.d (.list (ay n.toNat vs).flatten))))))
  (vS a (λx=>vS b (λy=>op=.Add/\x.length+y.length<=1000000/\k (.d (.str (x++y)))) False)
  (vB a (λx=>vB b (λy=>op=.Add/\x.length+y.length<=1000000/\k (.d (.bytes (x++y)))) False)
   (op=.Add/\oo (d9 own a) λvs=>oo (d9 own b) λws=>vs.length+ws.length<=100000/\k (.d (.list (vs++ws))))))
def lF:CmpOp->Int->Int->(Bool->Prop)->Prop
 |.Lt,a,b,k=>k (decide (a<b))
 |.LtE,a,b,k=>k (decide (a<=b))
 |.Gt,a,b,k=>k (decide (a>b))
 |.GtE,a,b,k=>k (decide (a ≥ b))
 |.Eq,a,b,k=>k (decide (a=b))
 |.NotEq,a,b,k=>k (!decide (a=b))
 |_,_,_,_=>False
def dU(op:CmpOp)(p:Prop)(k:Bool->Prop):Prop:=match op with
 |.Eq=>∀r:Bool,(r=true↔p)->k r
 |.NotEq=>∀r:Bool,(r=true↔p)->k (!r)
 |_=>False
mutual
def gI:Nat->D->Prop
 |_,.bool _=>True
 |_,.int _=>True
 |_,.str _=>True
 |_,.bytes _=>True
 |n+1,.tup vs=>plainDs n vs
 |n+1,.list vs=>plainDs n vs
 |_,_=>False
def plainDs:Nat->List D->Prop
 |_,[]=>True
 |n,v::r=>gI n v/\plainDs n r
end
noncomputable def asD(own:List af)(a:V):Option D:=a.casesOn some λi=>(f7 (getN own i)).casesOn Bx λvs=>some (.list vs)
theorem Ft{own:List af}{q:Nat}{vs:List D}(h:getN own q=some (.lst vs)):asD own (.own q)=some (.list vs):=(congrArg (λo:Option (List D)=>o.casesOn (motive:=λU=>Option D) Bx λvs=>some (.list vs)) (congrArg f7 h):_=(f7 (some (.lst vs))).casesOn (motive:=λU=>Option D) Bx λvs=>some (.list vs))
mutual
def ip:D->D->Prop
 |.bool _,.bool _=>True
 |.int _,.int _=>True
 |.str _,.str _=>True
 |.bytes _,.bytes _=>True
 |.tup a,.tup b=>likeDs a b
 |.list a,.list b=>likeDs a b
 |_,_=>False
def likeDs:List D->List D->Prop
 |[],_=>True
 |_,[]=>True
 |a::r,b::t=>ip a b/\likeDs r t
end
def kl(own:List af)(op:CmpOp)(a b:V)(k:Bool->Prop):Prop :=
 vI a (λx=>vI b (λy=>lF op x y k) False) (vS a (λx=>vS b (λy=>dU op (x=y) k) False) (vB a (λx=>vB b (λy=>dU op (x=y) k) False) (vQ a (λx=>vQ b (λy=>dU op (x=y) k) False)
  (oo (asD own a) λx=>oo (asD own b) λy=>ip x y/\gI 4 x/\gI 4 y/\dU op (x=y) k))))
def kr(vs:List D)(i:Int)(k:V->Prop):Prop:=(0<=i/\i<1000000/\oo vs[i.toNat]? λd=>k (.d d))\/(i = -1/\oo vs.getLast? λd=>k (.d d))
def ub(own:List af)(a b:V)(k:V->Prop):Prop:=vI b (λi =>
 vB a (λx=>0<=i/\x.length<=1000000/\oo x[i.toNat]? λc=>k (.d (.int c.toNat))) (vS a (λx=>0<=i/\x.length<=1000000/\oo x.cps.toList[i.toNat]? λc=>k (.d (.str ⟨#[c]⟩)))
 (vT a (λvs=>kr vs i k) (oo (d9 own a) λvs=>kr vs i k)))) False
noncomputable def cut{α:Type}(x:List α)(lo hi:Option Int):List α:=(match hi with | some h=>x.take h.toNat | Bx=>x).drop (match lo with | some l=>l.toNat | Bx=>0)
def gD:Option Int->Prop
 |some i=>0<=i/\i<2^60
 |none=>True
def qX(own:List af)(a:V)(lo hi:Option Int)(k:V->Prop):Prop:=gD lo/\gD hi /\
 vB a (λx=>x.length<=1000000/\k (.d (.bytes (cut x lo hi)))) (vS a (λx=>x.length<=1000000/\k (.d (.str ⟨(cut x.cps.toList lo hi).toArray⟩))) (oo (d9 own a) λvs=>vs.length<=1000000/\k (.d (.list (cut vs lo hi)))))
def wy(own:List af)(a:V)(k:Nat->Prop):Prop:=vB a (λx=>x.length<=1000000/\k x.length) (vS a (λx=>x.length<=1000000/\k x.length) (oo (d9 own a) λvs=>vs.length<=1000000/\k vs.length))
def n_(vs:List D)(k:List UInt8->Prop):Prop:=∃bs:List UInt8,vs=bs.map (λc=>D.int c.toNat)/\bs.length<=1000000/\k bs
def ui(b:Nat)(Vs:List V)(st:St)(Q:V->St->Prop):Prop :=
 bif aG b 0 then l1 Vs λa=>wy st.own a λn=>Q (.d (.int n)) st
 else bif aG b 1 then l1 Vs λa=>vB a (λx=>Q (.d (.bytes x)) st) (vL a (λvs=>n_ vs λbs=>Q (.d (.bytes bs)) st) (vO a (λi=>ob (getN st.own i) (λU U=>False) (λvs=>n_ vs λbs=>Q (.d (.bytes bs)) st) (λx=>x.length<=1000000/\Q (.d (.bytes x)) st)) False))
 else bif aG b 2 then l0 Vs (Q (.own st.own.length) ⟨st.loc,st.own++[.ba []]⟩)
 else bif aG b 3 then l1 Vs λa=>vI a (λi=>small i/\Q (.d (.str (aa (toString i)))) st) False
 else bif aG b 4 then l1 Vs λa=>vL a (λvs=>∃ns:List Int,vs=ns.map D.int/\ns.length<=1000000/\(∀n∈ns,small n)/\Q (.d (.int ns.sum)) st) False
 else bif aG b 5 then l2 Vs λa b=>vI a (λa=>vI b (λb=>Q (.d (.int (min a b))) st) False) False
 else bif aG b 6 then l2 Vs λa b=>vI a (λa=>vI b (λb=>Q (.d (.int (max a b))) st) False) False
 else bif aG b 7 then l1 Vs λa=>vL a (λvs=>vs.length<=1000000/\Q (.d (.tup vs)) st) False
 else bif aG b 8 then l1 Vs λa=>vL a (λvs=>∃ns:List Int,vs=ns.map D.int/\ns.length<=60/\ns.Pairwise (· <= ·)/\Q (.d (.list vs)) st) False
 else False
def oF(m:Nat)(o:V)(Vs:List V)(st:St)(Q:V->St->Prop):Prop :=
 bif aG m 0 then vO o (λi=>l1 Vs λa=>ob (getN st.own i) (λU U=>False) (λvs=>∃d,a=.d d/\vs.length<=1000000/\Q (.d .none) ⟨st.loc,setN st.own i (.lst (vs++[d]))⟩)
  (λx=>∃c:UInt8,a=.d (.int c.toNat)/\x.length<=1000000/\Q (.d .none) ⟨st.loc,setN st.own i (.ba (x++[c]))⟩)) False
 else bif aG m 1 then vO o (λi=>l1 Vs λa=>vB a (λy=>ob (getN st.own i) (λU U=>False) (λU=>False) λx=>x.length+y.length<=1000000/\Q (.d .none) ⟨st.loc,setN st.own i (.ba (x++y))⟩) False) False
 else bif aG m 2 then vS o (λx=>l1 Vs λa=>vS a (λy=>x.length<=1000000/\y.length=1/\Q (.d (.int (cz x y))) st) False) False
 else bif aG m 3 then vS o (λx=>l1 Vs λa=>vS a (λy=>Q (.d (.bool (pO x y))) st) False) False
 else False
noncomputable def nV(o:Option af):Option Nat:=o.casesOn Bx λx=>x.casesOn (λU U=>Bx) (λU=>some 0) (λU=>some 1) Bx
noncomputable def iG(own:List af)(a:V):Option Nat:=a.casesOn (λd=>d.casesOn Bx (λU=>Bx) (λU=>Bx) (λU=>some 2) (λU=>Bx) (λU=>Bx) (λU=>Bx) λU U=>Bx) λi=>nV (getN own i)
theorem lz{own:List af}{p:Nat}{o:af}(h:getN own p=some o):iG own (.own p)=nV (some o):=congrArg nV h
noncomputable def jS(k m:Nat):Bool:=bif aG k 0 then aG m 0 else bif aG k 1 then aG m 0||aG m 1 else bif aG k 2 then aG m 2||aG m 3 else false
def q_(own:List af)(a:V)(k:Bool->Prop):Prop:=vQ a k (oo (d9 own a) λvs=>vs.length<=1000000/\k (!vs.isEmpty))
noncomputable def fieldsOwn:List (Nat×V)->List Nat
 |[]=>[]
 |(_,.own i)::r=>i::fieldsOwn r
 |(_,.d _)::r=>fieldsOwn r
noncomputable def addTo(l:List Nat)(i:Nat):List Nat:=bif l.elem i then l else l++[i]
noncomputable def selV(own:List af):List V->List Nat->List Nat
 |[],acc=>acc
 |.d _::r,acc=>selV own r acc
 |.own i::r,acc=>selV own r (match getN own i with
  |some (.inst _ fs)=>(fieldsOwn fs).foldl addTo (addTo acc i)
  |_=>addTo acc i)
noncomputable def idx(l:List Nat)(i:Nat):Nat:=match l with
 |[]=>0
 |j::r=>bif aG j i then 0 else idx r i+1
noncomputable def j4(own:List af)(sel:List Nat):List af:=sel.map λi=>(getN own i).getD .dead
def sj(own:List af)(Vs:List V):Prop :=
 let sel:=selV own Vs []
 sel.Nodup/\(∀i∈sel,i<own.length)/\(∀V∈Vs.map (renV (idx sel)),ec sel.length V)/\Vs=(Vs.map (renV (idx sel))).map (renV (pick sel)) /\
  ∀i∈sel,∃o,getN own i=some o/\iP sel.length (renO (idx sel) o)/\o=renO (pick sel) (renO (idx sel) o)
structure fJ(Γ:Addr->aH->Prop)(f:Addr)(Vs:List V)(st:St)(Q:V->St->Prop)(X:Nat->St->Prop):Prop where
 h:∃C,Γ f C/\sj st.own Vs /\
  C (Vs.map (renV (idx (selV st.own Vs [])))) ((j4 st.own (selV st.own Vs [])).map (renO (idx (selV st.own Vs []))))
   (λV own'=>Q (renV (sig (selV st.own Vs []) st.own.length) V) ⟨st.loc,merge st.own (selV st.own Vs []) own'⟩) (λCn=>X Cn st)
noncomputable def rj:List (Nat×Nat×Addr):=[(212,0,153),(212,1,160),(212,2,181),(212,3,188),(212,4,195),(212,5,202),(212,6,209),(289,1,237),(289,2,258),(289,3,265),(289,4,272),(289,6,286),(352,7,328),(408,7,384),(443,7,433),(555,5,524),(555,8,531),(555,9,538),(555,10,545),(555,11,552)]
noncomputable def nt:List (Nat×Nat×Addr)->Nat->Nat->Option Addr
 |[],_,_=>Bx
 |(a,b,f)::r,C,m=>bif aG a C&&aG b m then some f else nt r C m
theorem wd:∀{l:List (Nat×Nat×Addr)} {C m:Nat} {f:Addr},nt l C m=some f->(C,m,f)∈l
 |[],_,_,_,h=>nomatch h
 |(a,b,g)::r,C,m,f,h=>by
  have h:(bif aG a C&&aG b m then some g else nt r C m)=some f:=h
  cases e:(aG a C&&aG b m) with
  |false=>rw[e]at h;exact .tail _ (wd h)
  |true =>
   rw[e]at h
   have e:=dh.mp e
   refine rwr (di e.1 ..) (rwr (di e.2 ..) (rwr (pP h ..) ?_))
   exact .head _
noncomputable def kY(C m:Nat):Option Addr:=nt rj C m
noncomputable def cN:Nat->ac
 |0=>aa "left" | 1=>aa "varint" | 2=>aa "lengthed" | 3=>aa "octet" | 4=>aa "flag" | 5=>aa "take"
 |6=>aa "done" | 7=>aa "row" | 8=>aa "take_fold" | 9=>aa "take_hard" | 10=>aa "stand" | _=>aa "check_whole"
noncomputable def rW:List Nat:=[212,289,352,408,443,555]
noncomputable def iL(C:Nat):Bool:=rW.any (aG C)
def lX(own:List af)(a:V)(f:Nat)(k:V->Prop):Prop :=
 vO a (λi=>ob (getN own i) (λC fs=>cond (iL C&&b_ f 20) (oo (dY fs f) k) False) (λU=>False) (λU=>False))
  (vJ a (λC fs=>cond (iL C&&b_ f 20) (oo (dY fs f) λr=>k (.d r)) False) False)
def jG(own:List af)(a:V)(m:Nat)(k:Addr->Prop):Prop :=
 vO a (λi=>ob (getN own i) (λC fs=>cond (fs.all λp=>b_ p.1 20) (oo (kY C m) k) False) (λU=>False) (λU=>False))
  (vJ a (λC fs=>cond (fs.all λp=>b_ p.1 20) (oo (kY C m) k) False) False)
noncomputable def dz:List V->List D
 |.d x::r=>x::dz r
 |_=>[]
noncomputable def tH:List V->Bool
 |[]=>true
 |.d _::r=>tH r
 |.own _::_=>false
def lG(Vs:List V)(k:List D->Prop):Prop:=cond (tH Vs) (cond (dR (dz Vs).length 1000000) (k (dz Vs)) False) False
theorem xT{k:List D->Prop}(h:lG l k):∃ds:List D,l=ds.map V.d/\ds.length<=1000000/\k ds:=by
 refine ak (g_ h) λh1 h=>?_
 refine ak (g_ h) λh2 h=>?_
 have e:∀l,tH l=true->l=(dz l).map V.d:=λl=>by
  induction l with
  |nil=>exact λU=>rfl
  |cons a r ih =>
   induction a using V.casesOn with
   |d x=>exact λh=>congrArg (V.d x :: ·) (ih h)
   |own i=>exact λh=>nomatch h
 exact⟨_,e l h1,bL h2,h⟩
noncomputable def o4(o:Option Nat)(n:Nat):Bool:=o.casesOn false λm=>aG m n
theorem IZ{o:Option Nat}{n:Nat}(h:o4 o n=true):o=some n:=by
 induction o using Option.casesOn with
 |none=>exact nomatch h
 |some m=>exact rwr (di h ..) rfl
def t3(own:List af)(i f:Nat)(k:Nat->List (Nat×V)->Prop):Prop:=ob (getN own i) (λC fs=>cond (iL C&&(b_ f 20&&dR fs.length 100)) (k C fs) False) (λU=>False) (λU=>False)
theorem wU{own:List af}{i f:Nat}{k:Nat->List (Nat×V)->Prop}(h:t3 own i f k):∃C fs,getN own i=some (.inst C fs)/\iL C=true/\f<20/\fs.length<=100/\k C fs :=
 j5 h (λC fs e h=>have ⟨h1,h⟩:=g_ h;have h1:=dh.mp h1;have h2:=dh.mp h1.2;⟨C,fs,e,h1.1,bL h2.1,bL h2.2,h⟩) (λU U h=>h.elim) (λU U h=>h.elim)
structure W where
 e:St->(V->St->Prop)->Prop
 a:St->(List V->St->Prop)->Prop
 t:St->(Bool->St->Prop)->Prop
 tA:St->(Bool->St->Prop)->Prop
 tO:St->(Bool->St->Prop)->Prop
 vA:St->(Bool->St->Prop)->Prop
 vO:St->(Bool->St->Prop)->Prop
 tx:St->(St->Prop)->Prop
 o:St->(Option Int->St->Prop)->Prop
noncomputable def W.of(e:St->(V->St->Prop)->Prop):W:=⟨e,λU U=>False,λst Q=>e st λV st1=>q_ st1.own V λq=>Q q st1,λU U=>False,λU U=>False,λU U=>False,λU U=>False,λU U=>False,λst Q=>e st λV st1=>vI V (λi=>Q (some i) st1) False⟩
abbrev bf:=Nat->St->(V->St->Prop)->(Nat->St->Prop)->Prop
noncomputable def wp(Γ:Addr->aH->Prop)(O:bf)(X:Nat->St->Prop):Ex->W
 |.k d=>.of λst Q=>Q (.d d) st
 |.g _ d=>.of λst Q=>Q (.d d) st
 |.v i=>.of λst Q=>match getN st.loc i with
  |some (some V)=>Q V st
  |_=>False
 |.attr e f=>.of λst Q=>(wp Γ O X e).e st λV st1=>lX st1.own V f λr=>Q r st1
 |.bin op l r=>.of λst Q=>(wp Γ O X l).e st λa st1=>(wp Γ O X r).e st1 λb st2=>qA st2.own op a b λv=>Q v st2
 |.fmt n e=>.of λst Q=>(wp Γ O X e).e st λV st1=>vI V (λi=>0<=i/\i<10^16/\Q (.d (.str (fy n i))) st1) False
 |.cmp op l r =>
  { W.of (λst Q=>(wp Γ O X l).e st λa st1=>(wp Γ O X r).e st1 λb st2=>kl st2.own op a b λq=>Q (.d (.bool q)) st2) with
   t:=λst Q=>(wp Γ O X l).e st λa st1=>(wp Γ O X r).e st1 λb st2=>kl st2.own op a b λq=>Q q st2 }
 |.not e=>{ W.of (λU U=>False) with t:=λst Q=>(wp Γ O X e).t st λq st1=>Q (!q) st1 }
 |.and es=>{ W.of (λst Q=>(wp Γ O X es).vA st λq st1=>Q (.d (.bool q)) st1) with t:=λst Q=>(wp Γ O X es).tA st Q }
 |.or es=>{ W.of (λst Q=>(wp Γ O X es).vO st λq st1=>Q (.d (.bool q)) st1) with t:=λst Q=>(wp Γ O X es).tO st Q }
 |.ite t a b=>{ W.of (λst Q=>(wp Γ O X t).t st λq st1=>(q=true->(wp Γ O X a).e st1 Q)/\(q=false->(wp Γ O X b).e st1 Q)) with t:=λU U=>False }
 |.call _ f es=>.of λst Q=>(wp Γ O X es).a st λVs st1=>fJ Γ f Vs st1 Q X
 |.meth e m es=>.of λst Q=>(wp Γ O X e).e st λV st1=>jG st1.own V m λf=>(wp Γ O X es).a st1 λVs st2=>fJ Γ f (V::Vs) st2 Q X
 |.bi b es=>.of λst Q=>(wp Γ O X es).a st λVs st1=>ui b Vs st1 Q
 |.bm e m es=>.of λst Q=>(wp Γ O X e).e st λV st1=>oo (iG st1.own V) λkd=>cond (jS kd m) ((wp Γ O X es).a st1 λVs st2=>cond (o4 (iG st2.own V) kd) (oF m V Vs st2 Q) False) False
 |.tup es=>.of λst Q=>(wp Γ O X es).a st λVs st1=>lG Vs λds=>Q (.d (.tup ds)) st1
 |.lst es=>.of λst Q=>(wp Γ O X es).a st λVs st1=>lG Vs λds=>Q (.d (.list ds)) st1
 |.lst0=>.of λst Q=>Q (.own st.own.length) ⟨st.loc,st.own++[.lst []]⟩
 |.sub e i=>.of λst Q=>(wp Γ O X e).e st λa st1=>(wp Γ O X i).e st1 λb st2=>ub st2.own a b λr=>Q r st2
 |.slc e lo hi=>.of λst Q=>(wp Γ O X e).e st λa st1=>(wp Γ O X lo).o st1 λl st2=>(wp Γ O X hi).o st2 λh st3=>qX st3.own a l h λr=>Q r st3
 |.txt es=>.of λst Q=>(wp Γ O X es).tx st λst1=>∀x,Q (.d (.str x)) st1
 |.fv e=>.of λst Q=>(wp Γ O X e).e st λV st1=>vI V (λi=>(0<=i/\i<2^64)/\∀x,x.length<=200->Q (.d (.str x)) st1) False
 |.orc n=>.of λst Q=>O n st Q X
 |.nil=>⟨λU U=>False,λst Q=>Q [] st,λU U=>False,λst Q=>Q true st,λst Q=>Q false st,λU U=>False,λU U=>False,λst Q=>Q st,λst Q=>Q Bx st⟩
 |.cons e r=>⟨λU U=>False,λst Q=>(wp Γ O X e).e st λV st1=>(wp Γ O X r).a st1 λVs st2=>Q (V::Vs) st2,λU U=>False,
   λst Q=>(wp Γ O X e).t st λq st1=>(q=true->(wp Γ O X r).tA st1 Q)/\(q=false->Q false st1),
   λst Q=>(wp Γ O X e).t st λq st1=>(q=false->(wp Γ O X r).tO st1 Q)/\(q=true->Q true st1),
   λst Q=>(wp Γ O X e).e st λV st1=>vQ V (λq=>match r with
    |.nil=>Q q st1
    |_=>(q=true->(wp Γ O X r).vA st1 Q)/\(q=false->Q false st1)) False,
   λst Q=>(wp Γ O X e).e st λV st1=>vQ V (λq=>match r with
    |.nil=>Q q st1
    |_=>(q=false->(wp Γ O X r).vO st1 Q)/\(q=true->Q true st1)) False,
   λst Q=>(wp Γ O X e).e st λV st1=>vS V (λx=>x.length<=200/\(wp Γ O X r).tx st1 Q) False,λU U=>False⟩
noncomputable def iW:List (Option V)->List Nat->List D->List (Option V)
 |loc,i::r,d::ds=>iW (setN loc i (some (.d d))) r ds
 |loc,_,_=>loc
def kt(V:V)(own:List af)(k:List D->List af->Prop):Prop :=
 vL V (λvs=>k vs own) (vT V (λvs=>k vs own) (vB V (λb=>k (b.map λc=>.int c.toNat) own) (vS V (λx=>k (x.cps.toList.map λc=>.str ⟨#[c]⟩) own)
  (vO V (λi=>ob (getN own i) (λU U=>False) (λvs=>k vs (setN own i .dead)) (λU=>False)) False))))
abbrev bJ:=Nat->St->(Fl->St->Prop)->(Nat->St->Prop)->Prop
def mh(J:Nat->St->Prop)(items:List D)(body:Nat->D->St->(Fl->St->Prop)->Prop)(st:St)(Q:Fl->St->Prop):Prop :=
 items.length<=1000000/\J 0 st/\(∀j d st1,items[j]? = some d->J j st1->body j d st1 (ey (J (j+1)) Q))/\∀st1,J items.length st1->Q .next st1
def aj(Γ:Addr->aH->Prop)(O:bf)(OS:bJ):Sx->(Nat->St->Prop)->St->(Fl->St->Prop)->Prop
 |.nil,X,st,Q=>Q .next st
 |.cons s r,X,st,Q=>aj Γ O OS s X st λfl st1=>match fl with
  |.next=>aj Γ O OS r X st1 Q
  |fl=>Q fl st1
 |.asg i e,X,st,Q=>(wp Γ O X e).e st λV st1=>Q .next ⟨setN st1.loc i (some V),st1.own⟩
 |.asgT is e,X,st,Q=>(wp Γ O X e).e st λV st1=>vT V (λds=>cond (aG ds.length is.length) (Q .next ⟨iW st1.loc is ds,st1.own⟩) False) False
 |.asgA o f e,X,st,Q=>(wp Γ O X e).e st λV st1=>(wp Γ O X o).e st1 λO' st2=>vO O' (λi=>t3 st2.own i f λC fs=>Q .next ⟨st2.loc,setN st2.own i (.inst C (ik fs f V))⟩) False
 |.aug i op e,X,st,Q=>(wp Γ O X (.v i)).e st λa st1=>(wp Γ O X e).e st1 λb st2=>vI a (λx=>vI b (λy=>iI op x y λr=>Q .next ⟨setN st2.loc i (some (.d (.int r))),st2.own⟩) False) False
 |.augA o f op e,X,st,Q=>(wp Γ O X o).e st λO' st1=>vO O' (λi=>lX st1.own O' f λa=>(wp Γ O X e).e st1 λb st2=>vI a (λx=>vI b (λy=>iI op x y λr =>
   t3 st2.own i f λC fs=>Q .next ⟨st2.loc,setN st2.own i (.inst C (ik fs f (.d (.int r))))⟩) False) False) False
 |.ex e,X,st,Q=>(wp Γ O X e).e st λU st1=>Q .next st1
 |.ite t a b,X,st,Q=>(wp Γ O X t).t st λq st1=>(q=true->aj Γ O OS a X st1 Q)/\(q=false->aj Γ O OS b X st1 Q)
 |.whl t b,X,st,Q=>∃(J:Nat->St->Prop) (n:Nat),J n st/\∀n st1,J n st1->(wp Γ O X t).t st1 λq st2=>(q=true->aj Γ O OS b X st2 (ey (λst3=>∃m,m<n/\J m st3) Q))/\(q=false->Q .next st2)
 |.forL i it b,X,st,Q=>(wp Γ O X it).e st λV st1=>kt V st1.own λitems own'=>∃J,mh J items (λj d st2 Q'=>aj Γ O OS b X ⟨setN st2.loc i (some (.d d)),st2.own⟩ Q') ⟨st1.loc,own'⟩ Q
 |.forR i n b,X,st,Q=>(wp Γ O X n).e st λV st1=>vI V (λm=>(-1000000<=m/\m<=1000000)/\∃J,mh J ((bM m.toNat).map λ(j:Nat)=>D.int j) (λj d st2 Q'=>aj Γ O OS b X ⟨setN st2.loc i (some (.d d)),st2.own⟩ Q') st1 Q) False
 |.forT is it b,X,st,Q=>(wp Γ O X it).e st λV st1=>kt V st1.own λitems own'=>∃J,mh J items (λj d st2 Q'=>∃ds,d=.tup ds/\ds.length=is.length/\aj Γ O OS b X ⟨iW st2.loc is ds,st2.own⟩ Q') ⟨st1.loc,own'⟩ Q
 |.ret e,X,st,Q=>(wp Γ O X e).e st λV st1=>Q (.ret V) st1
 |.raise _ C e,X,st,_=>(wp Γ O X e).e st λV st1=>vS V (λU=>X C st1) False
 |.orc n,X,st,Q=>OS n st Q X
end

section
set_option maxRecDepth 100000
set_option tactic.hygienic true in
theorem pf(F:Lg)(h1:F.ljust=false)(h2:F.sign=false)(h3:F.blank=false)(h4:F.alt=false)(h5:F.zero=true)(h6:F.width=some 6)(h7:F.prec=Bx)(h8:F.type=100){n:Int}(hn:0<=n)(d:List Nat)(hd:∀x∈d,48<=x):
  Lh F true (Li F (decide (n<0)) d)=if 6<=d.length then Bx else some (ay (6-d.length) 48++d):=by
 refine rwr (KPc.int_text F h4 (.inl h8) h7 hn ..) ?_
 unfold Lh
 refine rwr (h1 ..) (rwr (h2 ..) (rwr (h3 ..) (rwr (h4 ..) (rwr (h5 ..) (rwr (h6 ..) (rwr (h7 ..) (rwr (h8 ..) ?_)))))))
 by_cases hc:6<=d.length
 ·simp[hc]
 ·have hm:(match d with | 45::r=>(([45],r):List Nat×List Nat) | 43::r=>([43],r) | _=>([],d))=([],d):=by
   split
   ·rename_i r;exact absurd (hd 45 (.head _)) (by decide)
   ·rename_i r;exact absurd (hd 43 (.head _)) (by decide)
   ·rfl
  simp[hc]
  split
  ·rename_i r;exact absurd (hd 45 (.head _)) (by decide)
  ·rename_i r;exact absurd (hd 43 (.head _)) (by decide)
  ·simp
noncomputable def gL(n:Int):ac:=⟨(ay (6-(aa (toString n)).length) 48).toArray⟩++aa (toString n)
section
variable {M:Model}{A:Around}{E:Value->Shared->Prop}{s:Shared}{l:List Nat}{p:List Value}{r:List Nat}
 {f:Nat->List Value×ux×List Nat->Sem (ForInStep (List Value×ux×List Nat))} {Q:List Value×ux×List Nat->Shared->Prop}
 {w:ux} {T x y:ac} {N K:Nat} {o:Option Value}
theorem IU{n:Int}(hn:0<=n)(hm:n<10^16):(gL n).length<=30:=by
 have h:=toString_length_le (k:=16) hn (by decide) hm
 unfold gL
 refine rwr (Lj ..) ?_
 have:(⟨(ay (6-(aa (toString n)).length) 48).toArray⟩:ac).length=6-(aa (toString n)).length:=by simp[mL]
 refine rwr (this ..) ?_;exact aJ (iz (fb _ _) h) (by decide)
theorem xL{n:Int}(g:kb w T N)(hx:x=gL n)(hn:0<=n)(hm:n<10^16)(ho:o=Bx)(h:∀w',kb w' (T++gL n) (N+30)->wpAny M A (forIn l (p,w',r) f) Q E s):wpAny M A (forIn l (p,w.add x o,r) f) Q E s :=
 KPc.after_add g hx (KPc.obj_none ho) λw' g'=>h w' (KPc.good_mono g' (jm (IU hn hm) _))
end
theorem IJ{n:Int}(hn:0<=n)(F:Lg)(h4:F.alt=false)(h8:F.type=100)(h7:F.prec=Bx)
  (h:(if 6<=(aa (toString ((n.natAbs:Nat):Int))).cps.toList.length then Bx else some (ay (6-(aa (toString ((n.natAbs:Nat):Int))).cps.toList.length) 48++(aa (toString ((n.natAbs:Nat):Int))).cps.toList))=(Bx:Option (List Nat))):
  (⟨(Li F (decide (n<0)) (aa (toString ((n.natAbs:Nat):Int))).cps.toList).toArray⟩:ac)=gL n:=by
 refine rwr (KPc.int_text F h4 (.inl h8) h7 hn ..) ?_
 have en:((n.natAbs:Nat):Int)=n:=Int.natAbs_of_nonneg hn
 rw[en]at h ⊢
 split at h
 ·rename_i hc
  unfold gL
  have:6-(aa (toString n)).length=0:=by simp[mL]at hc ⊢;exact lc hc
  refine rwr (this ..) ?_
  have e:(⟨(ay 0 48).toArray⟩:ac)=uy:=rfl
  exact rwr (e ..) (rwr (pQ ..) rfl)
 ·cases h
theorem Ev{n:Int}(hn:0<=n){l:List Nat}
  (h:(if 6<=(aa (toString ((n.natAbs:Nat):Int))).cps.toList.length then Bx else some (ay (6-(aa (toString ((n.natAbs:Nat):Int))).cps.toList.length) 48++(aa (toString ((n.natAbs:Nat):Int))).cps.toList))=some l):
  (⟨l.toArray⟩:ac)=gL n:=by
 have en:((n.natAbs:Nat):Int)=n:=Int.natAbs_of_nonneg hn
 rw[en]at h
 split at h
 ·cases h
 ·cases h
  unfold gL
  have e:∀k:Nat,(⟨(ay k 48).toArray⟩++aa (toString n):ac).cps=(ay k 48).toArray++(aa (toString n)).cps:=λk=>ac.cps_append _ _
  refine congrArg ac.mk ?_
  refine Array.ext' ?_
  simp[mL]
theorem Ge{n:Nat}:∀x∈(aa (toString ((n:Nat):Int))).cps.toList,48<=x:=by
 intro x hx
 have e1:(toString (n:Int)).toList=BC 10 n:=by
  have e0:toString (n:Int)=Nat.repr n:=rfl
  refine rwr (e0 ..) ?_;unfold Nat.repr;simp
 have e2:(aa (toString ((n:Nat):Int))).cps=((toString (n:Int)).toList.map pR).toArray:=by
  exact rwr (Lk ..) rfl
 rw[e2,e1]at hx
 simp only[aW]at hx
 refine elE1 hx λch=>ae λhc z0=>?_;clear hx;subst z0
 have:=Nat.isDigit_of_mem_toDigits (by decide) (by decide) hc
 unfold Char.isDigit at this
 simp at this
 exact this.1
section
open PySem.Builtin PySem.Builtin.Str
noncomputable abbrev dj:=List Value×Writer×List Nat
noncomputable def PF:Percent:={ ljust:=false,sign:=false,blank:=false,alt:=false,zero:=true,width:=some 6,prec:=Bx,type:=100 }
noncomputable def gH{α:Type}(n:Nat)(t:Sem α):Sem α:=if tooLong n=true then ((unsupported "str.__mod__:memory" : Sem PUnit) >>= λU=>t) else t
structure oD(fo:Value)(ff:ac)(n:Int)(u:Tok)(B:Nat->dj->Sem (ForInStep dj))(T:Writer->List Nat->Sem (List Nat×Option Value×Bool)):Prop where
 fin:∀i p w,B i (p,w,[])=gH w.total (pure (.done (p,w,[])))
 man:∀i p w,B i (p,w,[77,65,78,73,70,69,83,84,45,37,48,54,100])=gH w.total (pure (.yield (p,w.add ⟨[77,65,78,73,70,69,83,84,45].toArray⟩ (if (9==ff.length)=true then some fo else Bx),[37,48,54,100])))
 log:∀i p w,B i (p,w,[46,108,111,103])=gH w.total (pure (.yield (p,w.add ⟨[46,108,111,103].toArray⟩ (if (4==ff.length)=true then some fo else Bx),[])))
 tmp:∀i p w,B i (p,w,[46,100,98,116,109,112])=gH w.total (pure (.yield (p,w.add ⟨[46,100,98,116,109,112].toArray⟩ (if (6==ff.length)=true then some fo else Bx),[])))
 int:∀i w r,B i ([.int n u],w,37::48::54::100::r)=gH w.total (gH 6 (holding [.int n u] (T w r) >>= λx=>match percentField PF x.2.2 x.1 with
  |none=>pure (.yield ([],w.add ⟨x.1.toArray⟩ (if r.isEmpty=true then x.2.1 else Bx),r))
  |some laid=>pure (.yield ([],w.add ⟨laid.toArray⟩,r))))
 conv:∀(prog:Program) (w':World) (A:Around) (Q:List Nat×Option Value×Bool->Shared->Prop) (E:Value->Shared->Prop) (s:Shared) w r,((n.natAbs:Nat):Int).natAbs.log2<1920 ->
  (∀k,Q (percentInt PF (decide (n<0)) (aa (toString ((n.natAbs:Nat):Int))).cps.toList,Bx,true) { s with toks:=k })->wpAny (model prog w') A (T w r) Q E s
inductive wT(fo:Value)(ff:ac)(n:Int)(u:Tok):Prop
 |mk (B:Nat->dj->Sem (ForInStep dj)) (T:Writer->List Nat->Sem (List Nat×Option Value×Bool)) (En:dj->Sem k9)
  (_:∀(M:Model) (A:Around) (Q:k9->Shared->Prop) (E:Value->Shared->Prop) (s:Shared),wpAny M A (forIn [:ff.length] (([.int n u],{},ff.cps.toList):dj) B >>= En) Q E s->wpAny M A (percentFormat fo ff (.int n u)) Q E s) (_:oD fo ff n u B T) (_:∀w r,En ([],w,r)=w.finish "str.__mod__"):wT fo ff n u
theorem Ky(fo:Value)(ff:ac)(n:Int)(u:Tok):wT fo ff n u:=by
 refine⟨?_,?_,?_,λM A Q E s h=>?_,?_,?_⟩
 rotate_left 3
 ·unfold percentFormat
  refine wpAny_bind (wpAny_isInstance (typeIs_int _ _ _) F.sub_int_tuple ?_)
  refine wpAny_bind (wpAny_of_eq (a:=Bx) rfl ?_)
  refine wpAny_bind (wpAny_of_eq (KPc.fills _ _) ?_)
  kpc_if
  refine wpAny_bind (wpAny_pure ?_)
  exact h
 ·refine⟨λi p w=>rfl,λi p w=>rfl,λi p w=>rfl,λi p w=>rfl,λi w r=>?_,λprog w' A Q E s w r hl h=>?_⟩
  ·exact rfl
  show wpAny _ _ (percentIntOf 100 (.int n u) >>= _) _ _ _
  refine wpAny_bind (wpAny_of_eq (a:=_) rfl ?_)
  (repeat kpc_if)
  refine wpAny_bind (wpAny_mkInt ?_)
  refine wpAny_bind (call_gives F.slot_int_repr (typeIs_int _ _ _) F.entry_int_repr (F.args_int_repr_1 _) (gives_int_repr _ _ hl) ⟨int_text_fits hl,?_⟩)
  refine wpAny_bind (wpAny_of_eq (a:=some _) rfl ?_)
  exact wpAny_pure (h _)
 ·exact λw r=>rfl
theorem oA{M:Model}{A:Around}{E:Value->Shared->Prop}{s:Shared}{α:Type}{k:Nat}{t:Sem α}{Q:α->Shared->Prop}(h:¬ tooLong k=true)(ht:wpAny M A t Q E s):wpAny M A (gH k t) Q E s:=by
 unfold gH
 refine rwr (if_neg h ..) ?_;exact ht
section
variable {prog:Program}{w':World}{A:Around}{E:Value->Shared->Prop}{s:Shared}{fo:Value}{ff:ac}{n:Int}{u:Tok}{B:Nat->dj->Sem (ForInStep dj)}{T:Writer->List Nat->Sem (List Nat×Option Value×Bool)}{l:List Nat}{x N:Nat}{p:List Value}{w:Writer}{tt:ac}
 {Q:dj->Shared->Prop}
theorem nB(Tn:oD fo ff n u B T)(g:kb w tt N)(hN:N<=16777216)(h:Q (p,w,[]) s):wpAny (model prog w') A (forIn (x::l) ((p,w,[]):dj) B) Q E s:=by
 refine KPc.turn ?_
 refine rwr (Tn.fin ..) ?_
 exact oA (BD g hN) (wpAny_pure h)
theorem ud{a r r2:List Nat}{o:Option Value}(hB:∀i p w,B i (p,w,r)=gH w.total (pure (.yield (p,w.add ⟨a.toArray⟩ o,r2))))(g:kb w tt N)(hN:N<=16777216)(ho:o=Bx)(h:∀w2,kb w2 (tt++⟨a.toArray⟩) (N+(⟨a.toArray⟩:ac).length)->wpAny (model prog w') A (forIn l ((p,w2,r2):dj) B) Q E s):
  wpAny (model prog w') A (forIn (x::l) ((p,w,r):dj) B) Q E s:=by
 refine KPc.turn ?_
 refine rwr (hB ..) ?_
 exact oA (BD g hN) (wpAny_pure (KPc.after_add g rfl (KPc.obj_none ho) h))
theorem pd{r:List Nat}(Tn:oD fo ff n u B T)(hn0:0<=n)(hn1:n<10^16)(hl2:((n.natAbs:Nat):Int).natAbs.log2<1920)(g:kb w tt N)(hN:N<=16777216)(h:∀k w2,kb w2 (tt++gL n) (N+30)->wpAny (model prog w') A (forIn l (([],w2,r):dj) B) Q E { s with toks:=k }):
  wpAny (model prog w') A (forIn (x::l) (([.int n u],w,37::48::54::100::r):dj) B) Q E s:=by
 refine KPc.turn ?_
 refine rwr (Tn.int ..) ?_
 refine oA (BD g hN) (oA (KPc.short (by decide)) ?_)
 refine wpAny_bind (wpAny_holding (Tn.conv _ _ _ _ _ _ _ _ hl2 λk=>?_))
 have e:=pf PF rfl rfl rfl rfl rfl rfl rfl rfl hn0 (aa (toString ((n.natAbs:Nat):Int))).cps.toList Ge
 show wpAny _ _ (match percentField PF true (percentInt PF (decide (n<0)) (aa (toString ((n.natAbs:Nat):Int))).cps.toList) with
  |none=>pure (.yield ([],w.add ⟨(percentInt PF (decide (n<0)) (aa (toString ((n.natAbs:Nat):Int))).cps.toList).toArray⟩ (if r.isEmpty=true then Bx else Bx),r))
  |some laid=>pure (.yield ([],w.add ⟨laid.toArray⟩,r)):Sem (ForInStep dj)) _ _ _
 refine rwr (e ..) ?_
 by_cases c:6<=(aa (toString ((n.natAbs:Nat):Int))).cps.toList.length
 ·rw[if_pos c]at e ⊢
  exact wpAny_pure (xL (n:=n) g (IJ hn0 PF rfl rfl rfl (if_pos c)) hn0 hn1 (ite_self _) (h k))
 ·rw[if_neg c]at e ⊢
  exact wpAny_pure (xL (n:=n) g (Ev hn0 (if_neg c)) hn0 hn1 rfl (h k))
end
theorem oU{ff:ac}{n:Int}{t u:Tok}{R:ac}
  (h:∀(prog:Program) (w':World) (A:Around) (E:Value->Shared->Prop) (s:Shared) (B:Nat->dj->Sem (ForInStep dj)) (T:Writer->List Nat->Sem (List Nat×Option Value×Bool)) (Q:dj->Shared->Prop),oD (.str ff t) ff n u B T->(∀k w N,kb w R N->N<=1000->Q ([],w,[]) { s with toks:=k }) ->
   wpAny (model prog w') A (forIn (jp 0 ff.length 1) (([.int n u],{},ff.cps.toList):dj) B) Q E s):
  Meets (Builtin.«str.__mod__» ⟨[.str ff t,.int n u],[]⟩) (λU Rr s=>∀t' k,Rr (.ok (.ret (.str R t'))) { s with toks:=k }):=by
 apply KPc.meets_of
 intro prog w' A s Q E hq
 refine rwr (KPc.entry_is ..) ?_
 obtain⟨B,T,En,h1,Tn,h2⟩:=Ky (.str ff t) ff n u
 refine h1 _ _ _ _ _ (wpAny_bind ?_)
 refine rwr (KPc.range_list ..) ?_
 refine h prog w' A E s B T _ Tn λk w N g hN=>?_
 refine rwr (h2 ..) ?_
 exact KPc.finish_ok g (by lia) rfl λt k2=>hq t k2
theorem Fa{n:Int}{t u:Tok}(hn0:0<=n)(hn1:n<10^16)(hl:n.natAbs.log2<1920)(hl2:((n.natAbs:Nat):Int).natAbs.log2<1920):Meets (Builtin.«str.__mod__» ⟨[.str (aa "%06d") t,.int n u],[]⟩) (λU R s=>∀t' k,R (.ok (.ret (.str (fy 0 n) t'))) { s with toks:=k }):=by
 refine oU λprog w' A E s B T Q Tn hQ=>?_
 refine rwr (show (aa "%06d").length=4 by decide +kernel) (rwr (show (aa "%06d").cps.toList=[37,48,54,100] by decide +kernel) ?_)
 refine pd (N:=0) Tn hn0 hn1 hl2 uz (by decide) λk w2 g=>?_
 rw[pQ]at g
 exact nB Tn g (by decide) (hQ _ _ _ g (by decide))
theorem FM{n:Int}{t u:Tok}(hn0:0<=n)(hn1:n<10^16)(hl:n.natAbs.log2<1920)(hl2:((n.natAbs:Nat):Int).natAbs.log2<1920):Meets (Builtin.«str.__mod__» ⟨[.str (aa "%06d.log") t,.int n u],[]⟩) (λU R s=>∀t' k,R (.ok (.ret (.str (fy 1 n) t'))) { s with toks:=k }):=by
 refine oU λprog w' A E s B T Q Tn hQ=>?_
 refine rwr (show (aa "%06d.log").length=8 by decide +kernel) (rwr (show (aa "%06d.log").cps.toList=[37,48,54,100,46,108,111,103] by decide +kernel) ?_)
 refine pd (N:=0) Tn hn0 hn1 hl2 uz (by decide) λk w2 g=>?_
 rw[pQ]at g
 refine ud (a:=[46,108,111,103]) Tn.log g (by decide) (if_neg (by decide +kernel)) λw3 g3=>?_
 exact nB Tn g3 (by decide) (hQ _ _ _ g3 (by decide))
theorem Kq{n:Int}{t u:Tok}(hn0:0<=n)(hn1:n<10^16)(hl:n.natAbs.log2<1920)(hl2:((n.natAbs:Nat):Int).natAbs.log2<1920):Meets (Builtin.«str.__mod__» ⟨[.str (aa "%06d.dbtmp") t,.int n u],[]⟩) (λU R s=>∀t' k,R (.ok (.ret (.str (fy 2 n) t'))) { s with toks:=k }):=by
 refine oU λprog w' A E s B T Q Tn hQ=>?_
 refine rwr (show (aa "%06d.dbtmp").length=10 by decide +kernel) (rwr (show (aa "%06d.dbtmp").cps.toList=[37,48,54,100,46,100,98,116,109,112] by decide +kernel) ?_)
 refine pd (N:=0) Tn hn0 hn1 hl2 uz (by decide) λk w2 g=>?_
 rw[pQ]at g
 refine ud (a:=[46,100,98,116,109,112]) Tn.tmp g (by decide) (if_neg (by decide +kernel)) λw3 g3=>?_
 exact nB Tn g3 (by decide) (hQ _ _ _ g3 (by decide))
theorem Fj{n:Int}{t u:Tok}(hn0:0<=n)(hn1:n<10^16)(hl:n.natAbs.log2<1920)(hl2:((n.natAbs:Nat):Int).natAbs.log2<1920):Meets (Builtin.«str.__mod__» ⟨[.str (aa "MANIFEST-%06d") t,.int n u],[]⟩) (λU R s=>∀t' k,R (.ok (.ret (.str (fy 3 n) t'))) { s with toks:=k }):=by
 refine oU λprog w' A E s B T Q Tn hQ=>?_
 refine rwr (show (aa "MANIFEST-%06d").length=13 by decide +kernel) (rwr (show (aa "MANIFEST-%06d").cps.toList=[77,65,78,73,70,69,83,84,45,37,48,54,100] by decide +kernel) ?_)
 refine ud (N:=0) (a:=[77,65,78,73,70,69,83,84,45]) Tn.man uz (by decide) (if_neg (by decide +kernel)) λw1 g1=>?_
 rw[pQ]at g1
 refine pd Tn hn0 hn1 hl2 g1 (by decide) λk w2 g=>?_
 exact nB Tn g (by decide) (hQ _ _ _ g (by decide))
end
end

section
section
variable {prog:Program}{w:World}{K:Frag}{k:Nat}{c:FC}{st:St}{X:Nat->St->Prop}
structure D7(P:Params)(c:FC)(st:St)(fz:List (Addr×au))(ad:List Addr)(fps:List (List (Addr×au)))(m:ac->Option Value)(h:Heap)(G:Array GenState)(D:Drawn)(O:OsState):Prop where
 I:cI c h m fz fps.flatten
 RO:aS P (Zf c.base fz) ad st.own ad fps
 LR:fq P (Zf c.base fz) ad c.nm st.loc m
 g:G=c.G
 d:D=c.D
 o:O=c.O
def bF(P:Params)(c:FC)(st:St)(fz:List (Addr×au))(ad:List Addr)(fps:List (List (Addr×au)))(s:Shared)(m:ac->Option Value):Prop:=D7 P c st fz ad fps m s.heap s.gens s.drawn s.os
theorem SR.one{P:Params}{s:Shared}{fz ad fps}(S:SR P c st fz ad fps s):∃m,bF P c st fz ad fps s m:=let ⟨m,a,b,d,e,f,g⟩:=S;⟨m,a,b,d,e,f,g⟩
theorem bF.fr{P:Params}{s:Shared}{fz ad fps m}(ok:am K k c)(S:bF P c st fz ad fps s m):Fr c.base c.L s.heap m:=S.1.fr ok
theorem bF.grow{s:Shared}{fz ad fps m}{h':Heap}{tk:Nat}{fzn:List (Addr×au)}(ok:am K k c)(S:bF w.params c st fz ad fps s m)(hk:∀b o,s.heap.get? b=some o->b≠c.L->h'.get? b=some o)(hns:h'.Ns c.L m)
  (hn:∀p∈fzn,h'.get? p.1=some p.2/\s.heap.get? p.1=Bx):
  SR w.params c st (fz++fzn) ad fps { s with heap:=h',toks:=tk }/\aA c s fz ad fps { s with heap:=h',toks:=tk } (fz++fzn) ad fps:=by
 obtain⟨I,R,LR,g1,g2,g3⟩:=S
 have ex:d_ (Zf c.base fz) (Zf c.base (fz++fzn)):=Zf.ext λp hp=>dE _ hp
 refine⟨⟨m,?_,R.mono ex (eB _),LR.mono ex (eB _),g1,g2,g3⟩,?_⟩
 ·refine I.step (ds:=[]) ok hns (λU h=>nomatch h) (λb o e n U=>hk b o e n) hn (λp hp=>⟨hk _ _ (I.own p hp).1 (I.own p hp).2.1,.inl (du hp)⟩) I.nd λp hp q hq e=>?_
  have:=(hn q hq).2
  rw[<-e,(I.own p hp).1]at this;cases this
 ·refine⟨λp hp=>dE _ hp,eB _,λb o e n U U=>hk b o e n,λa ha=>.inl ha,λb o e U=>?_,λp hp=>?_⟩
  ·by_cases q:b=c.L
   ·refine elE3 hns λo' U U=>ae λe' U=>?_;clear hns;exact⟨o',q▸e'⟩
   ·exact⟨o,hk b o e q⟩
  ·refine ao (cQ.mp hp) (λhp=>?_) λhp=>?_
   ·exact .inl hp
   ·exact .inr (.inl (hn p hp).2)
theorem fk(h:Heap):h.get? h.objs.size=Bx:=by
 cases q:h.get? h.objs.size with
 |none=>rfl
 |some o=>exact absurd (cL q) (fM _)
theorem bF.kept{s:Shared}{fz ad fps m}{h':Heap}{nw:List (Addr×au)}(ok:am K k c)(S:bF w.params c st fz ad fps s m)(F':Fr c.base c.L h' m)(N':News c.base c.L h' nw)(hs:∀p∈eI s.heap c.base c.L,p∈nw):
  ∀b ob,s.heap.get? b=some ob->b≠c.L->h'.get? b=some ob:=λb ob e n=>by
 cases q:c.base.get? b with
 |none=>exact(N' (b,ob) (hs _ (lu.mpr ⟨e,n,q⟩))).1
 |some ob'=>have:=S.1.base ok _ _ q;rw[e]at this;cases this;exact F'.keep _ _ q
theorem bF.news{s:Shared}{fz ad fps m}{h':Heap}{tk:Nat}{D:Addr}{o:au}(ok:am K k c)(S:bF w.params c st fz ad fps s m)(F':Fr c.base c.L h' m)(N':News c.base c.L h' ((D,o)::eI s.heap c.base c.L))(lt:∀p∈eI s.heap c.base c.L,p.1<D):
  SR w.params c st (fz++[(D,o)]) ad fps { s with heap:=h',toks:=tk }/\aA c s fz ad fps { s with heap:=h',toks:=tk } (fz++[(D,o)]) ad fps:=by
 refine bF.grow ok S (S.kept ok F' N' λp hp=>.tail _ hp) F'.ns λp hp=>?_
 simp only[bj]at hp
 subst hp
 refine bN (N' (D,o) (.head _)) λa1 a2 a3=>?_
 refine⟨a1,?_⟩
 cases q:s.heap.get? D with
 |none=>rfl
 |some ob=>exact absurd (lt (D,ob) (lu.mpr ⟨q,a2,a3⟩)) (fM _)
theorem SR.at{s:Shared}{fz ad fps}(ok:am K k c)(S:SR w.params c st fz ad fps s){a:Addr}{o:au}(z:Zf c.base fz a o):s.heap.get? a=some o:=by
 obtain⟨m,I,_⟩:=S
 exact z.elim (I.base ok a o) λz=>(I.fzH _ z).1
theorem SR.lst{s:Shared}{fz ad fps}(ok:am K k c)(S:SR w.params c st fz ad fps s){V:V}{v:Value}(rv:RV w.params (Zf c.base fz) ad V v){vs:List D}(e:d9 st.own V=some vs):
  ∃a xs n,v=.ref a/\s.heap.get? a=some (listOf xs n)/\RDs w.params (Zf c.base fz) vs xs.toList:=by
 cases V with
 |d x =>
  cases x with
  |list ws =>
   cases e
   refine elE3 rv λa xs n=>al λz0 z r=>?_;clear rv;subst z0
   exact(ex3 a xs n ⟨rfl,S.at ok z,r⟩)
  |_=>cases e
 |own i =>
  have e:f7 (getN st.own i)=some vs:=e
  cases q:getN st.own i with
  |none=>rw[q]at e;cases e
  |some o =>
   rw[q]at e
   cases o with
   |lst ws =>
    cases e
    refine elE1 rv λa=>ae λea z0=>?_;clear rv;subst z0
    obtain⟨m,I,R,_⟩:=S
    rw[bk]at q
    refine elE2 (R.get q) λa' fp=>al λea' ef=>uE2 λxs n=>ae λy5 r=>?_;subst y5
    rw[ea]at ea';cases ea'
    exact(ex3 a xs n ⟨rfl,(I.own _ (dC ef (.head _))).1,r⟩)
   |_=>cases e
theorem RDs.len{P:Params}{Z:Zt}:∀{Vs:List D} {xs:List Value},RDs P Z Vs xs->xs.length=Vs.length
 |[],_,h=>by have h:_=_:=h;subst h;rfl
 |v::r,_,h=>by
  refine elE2 h λx ys=>al λz0 U h2=>?_;clear h;subst z0
  exact congrArg (· + 1) (RDs.len h2)
theorem RDs.app{P:Params}{Z:Zt}:∀{Vs Ws:List D} {xs ys:List Value},RDs P Z Vs xs->RDs P Z Ws ys->RDs P Z (Vs++Ws) (xs++ys)
 |[],_,_,_,h,h'=>by have h:_=_:=h;subst h;exact h'
 |v::r,_,_,_,h,h'=>by
  refine elE2 h λx ys=>al λz0 h1 h2=>?_;clear h;subst z0
  exact(ex2 x _ ⟨rfl,h1,RDs.app h2 h'⟩)
theorem RDs.rep{P:Params}{Z:Zt}{Vs:List D}{xs:List Value}(h:RDs P Z Vs xs):∀n:Nat,RDs P Z (ay n Vs).flatten (ay n xs).flatten
 |0=>rfl
 |n+1=>by refine rwr (List.replicate_succ ..) (rwr (List.replicate_succ ..) (rwr (mE ..) (rwr (mE ..) ?_)));exact RDs.app h (RDs.rep h n)
theorem RDs.get{P:Params}{Z:Zt}:∀{Vs:List D} {xs:List Value},RDs P Z Vs xs->∀{i:Nat} {d:D},Vs[i]? = some d->∃v,xs[i]? = some v/\RD P Z d v
 |[],_,h,i,d,e=>by simp at e
 |v::r,_,h,i,d,e=>by
  refine elE2 h λx ys=>al λz0 h1 h2=>?_;clear h;subst z0
  cases i with
  |zero=>simp at e;subst e;exact⟨x,rfl,h1⟩
  |succ i=>simp at e ⊢;exact RDs.get h2 e
theorem RDs.take{P:Params}{Z:Zt}:∀{Vs:List D} {xs:List Value} (n:Nat),RDs P Z Vs xs->RDs P Z (Vs.take n) (xs.take n)
 |[],_,n,h=>by have h:_=_:=h;subst h;refine rwr (pS ..) ?_;exact pS
 |v::r,_,0,h=>rfl
 |v::r,_,n+1,h=>by
  refine elE2 h λx ys=>al λz0 h1 h2=>?_;clear h;subst z0
  exact(ex2 x _ ⟨rfl,h1,RDs.take n h2⟩)
theorem RDs.drop{P:Params}{Z:Zt}:∀{Vs:List D} {xs:List Value} (n:Nat),RDs P Z Vs xs->RDs P Z (Vs.drop n) (xs.drop n)
 |[],_,n,h=>by have h:_=_:=h;subst h;refine rwr (BE ..) ?_;exact BE
 |v::r,_,0,h=>h
 |v::r,_,n+1,h=>by
  refine elE2 h λx ys=>al λz0 h1 h2=>?_;clear h;subst z0
  exact RDs.drop n h2
theorem bR{h:Heap}{a:Addr}{xs:Array Value}{n:Nat}(e:h.get? a=some (listOf xs n)):h.IsList a xs:=⟨_,e,rfl,_,rfl⟩
def aP(prog:Program)(w:World)(c:FC)(s:Shared)(fz:List (Addr×au))(ad:List Addr)(fps:List (List (Addr×au)))(Q:V->St->Prop)(v:Value)(s':Shared):Prop :=
 dK w.params c (RV w.params) Q s fz ad fps v s'
theorem aP.tok{s:Shared}{fz ad fps}{Q:V->St->Prop}(S:SR w.params c st fz ad fps s){V:V}(hQ:Q V st){v:Value}{t:Nat}(rv:RV w.params (Zf c.base fz) ad V v):aP prog w c s fz ad fps Q v { s with toks:=t }:=
 ⟨V,st,fz,ad,fps,aA.tok t,S,rv,hQ⟩
theorem qL{op:Operator}{a b:Int}{t u:Tok}{s:Shared}{kk:Int->Prop}{Qc:Value->Shared->Prop}{Ec:Value->Shared->Prop}{A:Around}(h:iI op a b kk)(hq:∀r tk tk',kk r->Qc (.int r tk) { s with toks:=tk' }):
  wpAny (model prog w) A (binaryOp op (.int a t) (.int b u)) Qc Ec s:=by
 cases op <;>first | exact h.elim | skip
 ·exact add_int (hq _ _ _ h)
 ·exact sub_int (hq _ _ _ h)
 ·refine ak h λh1 h2=>?_;clear h
  unfold small at h1
  exact mul_int (hq _ _ _ h2) (IntMulOk.of_left (intBits_le_64 (Int.neg_lt_of_neg_lt (Int.lt_of_le_of_lt Int.le_natAbs (cB.mpr (show (-a).natAbs<2^64 from (Int.natAbs_neg a).symm▸h1)))) (Int.lt_of_le_of_lt Int.le_natAbs (cB.mpr h1))))
 ·exact mod_int h.1 (hq _ _ _ h.2)
 ·refine ak h (al λh1 h2 h3 h4=>?_);clear h;exact pow_int_small h1 h2 h3 (hq _ _ _ h4)
 ·refine ak h (al λh1 h2 h3 h4=>?_);clear h;exact lshift_int_small h1 h2 h3 (hq _ _ _ h4)
 ·exact rshift_int h.1 (hq _ _ _ h.2)
 ·exact or_int (hq _ _ _ h)
 ·exact and_int (hq _ _ _ h)
 ·exact floordiv_int h.1.1 (hq _ _ _ h.2) (.inl (PyProof.noPylong_small (by have:=h.1.2;lia)))
theorem aP.list{s:Shared}{fz ad fps m}{h':Heap}{tk:Nat}{D:Addr}{xs:Array Value}{n:Nat}{Q:V->St->Prop}{vs:List Mine.D}(ok:am K k c)(S:bF w.params c st fz ad fps s m)(F':Fr c.base c.L h' m)(N':News c.base c.L h' ((D,listOf xs n)::eI s.heap c.base c.L))(lt:∀p∈eI s.heap c.base c.L,p.1<D)
  (r:RDs w.params (Zf c.base fz) vs xs.toList) (hQ:Q (.d (.list vs)) st):aP prog w c s fz ad fps Q (.ref D) { s with heap:=h',toks:=tk }:=by
 have z:=S.news (tk:=tk) ok F' N' lt
 exact⟨_,st,_,ad,fps,z.2,z.1,by exact(ex3 D xs n ⟨rfl,.inr (gp _ (.head _)),RDs.mono (Zf.ext λp hp=>dE _ hp) _ _ r⟩),hQ⟩
theorem IR{s:Shared}{fz ad fps}(ok:am K k c)(S:SR w.params c st fz ad fps s){a b:V}{va vb:Value}(ra:RV w.params (Zf c.base fz) ad a va)(rb:RV w.params (Zf c.base fz) ad b vb){Q:V->St->Prop}{vs ws:List D}
  (h1:d9 st.own a=some vs) (h2:d9 st.own b=some ws) (h3:vs.length+ws.length<=100000) (h4:Q (.d (.list (vs++ws))) st) {Ec:Value->Shared->Prop}:wpAny (model prog w) c.A (binaryOp .Add va vb) (aP prog w c s fz ad fps Q) Ec s:=by
 refine elE3 (S.lst ok ra h1) λl1 xs n1=>al λz0 e1 r1=>?_;subst z0
 refine elE3 (S.lst ok rb h2) λl2 ys n2=>al λz0 e2 r2=>?_;subst z0
 refine elE1 S.one λm S1=>?_
 have q1:=RDs.len r1
 have q2:=RDs.len r2
 exact kmk_add_lit (S1.fr ok) (fH _ _ _) (bR e1) (bR e2) rfl (λD h' F' N' lt=>aP.list ok S1 F' N' lt (RDs.app r1 r2) h4) (by refine rwr (sizeLine_eq ..) ?_;lia)
section
variable {op:Operator}{a b:V}{va vb:Value}{s:Shared}{fz:List (Addr×au)}{ad:List Addr}{fps:List (List (Addr×au))}{Q:V->St->Prop}{Ec:Value->Shared->Prop}{m n:Int}{x y:ac}{z u:List UInt8}
theorem Dd(S:SR w.params c st fz ad fps s)(ra:RV w.params (Zf c.base fz) ad (.d (.int m)) va)(rb:RV w.params (Zf c.base fz) ad (.d (.int n)) vb)(h:iI op m n λr=>Q (.d (.int r)) st):wpAny (model prog w) c.A (binaryOp op va vb) (aP prog w c s fz ad fps Q) Ec s:=by
 refine elE1 ra λt z0=>?_;clear ra;subst z0
 refine elE1 rb λu z0=>?_;clear rb;subst z0
 exact qL h λr tk tk' hQ=>.tok S hQ ⟨tk,rfl⟩
theorem JA(S:SR w.params c st fz ad fps s)(ra:RV w.params (Zf c.base fz) ad (.d (.str x)) va)(rb:RV w.params (Zf c.base fz) ad (.d (.int n)) vb)(h:op=.Mult/\x.length<=16/\n<=1000 /\ -1000<=n/\Q (.d (.str (Txt.mul x n))) st):wpAny (model prog w) c.A (binaryOp op va vb) (aP prog w c s fz ad fps Q) Ec s:=by
 refine elE1 ra λt z0=>?_;clear ra;subst z0
 refine elE1 rb λu z0=>?_;clear rb;subst z0
 refine gN h λz0 h1 h2 h3 h4=>?_;clear h;subst z0
 exact KXi.mul rfl h1 (by lia) (by lia) λt' k U U=>.tok S h4 ⟨t',rfl⟩
theorem FJ(S:SR w.params c st fz ad fps s)(ra:RV w.params (Zf c.base fz) ad (.d (.bytes z)) va)(rb:RV w.params (Zf c.base fz) ad (.d (.int n)) vb)(h:op=.Mult/\z≠[]/\z.length<=16/\n<=1000 /\ -1000<=n/\Q (.d (.bytes (ay n.toNat z).flatten)) st):wpAny (model prog w) c.A (binaryOp op va vb) (aP prog w c s fz ad fps Q) Ec s:=by
 refine elE1 ra λt z0=>?_;clear ra;subst z0
 refine elE1 rb λu z0=>?_;clear rb;subst z0
 refine nq h λz0 h1 h2 h3 h4 h5=>?_;clear h;subst z0
 exact bytes_mul_any h1 (by lia) (by lia) h2 λt' k=>.tok S h5 ⟨t',rfl⟩
theorem Cv(ok:am K k c)(S:SR w.params c st fz ad fps s)(ra:RV w.params (Zf c.base fz) ad a va)(rb:RV w.params (Zf c.base fz) ad (.d (.int n)) vb)(h:op=.Mult/\n<=1000/\0<=n/\∃vs,d9 st.own a=some vs/\vs.length*n.toNat<=256/\Q (.d (.list (ay n.toNat vs).flatten)) st):wpAny (model prog w) c.A (binaryOp op va vb) (aP prog w c s fz ad fps Q) Ec s:=by
 refine elE1 rb λu z0=>?_;clear rb;subst z0
 refine cX h λy5 h1 h2=>uE1 λvs=>al λh3 h4 h5=>?_;clear h;subst y5
 refine elE3 (S.lst ok ra h3) λl1 xs n1=>al λz0 e1 r1=>?_;subst z0
 refine elE1 S.one λm S1=>?_
 have q1:=RDs.len r1
 exact KMa.mul (S1.fr ok) (fH _ _ _) (vs:=xs.toList) (by refine rwr (uA ..) ?_;exact bR e1) (by lia) (by lia) (by refine rwr (q1 ..) ?_;exact h4) rfl λD h' F' N' lt=>aP.list ok S1 F' N' lt (RDs.rep r1 _) h5
theorem Db(S:SR w.params c st fz ad fps s)(ra:RV w.params (Zf c.base fz) ad (.d (.str x)) va)(rb:RV w.params (Zf c.base fz) ad (.d (.str y)) vb)(h:op=.Add/\x.length+y.length<=1000000/\Q (.d (.str (x++y))) st):wpAny (model prog w) c.A (binaryOp op va vb) (aP prog w c s fz ad fps Q) Ec s:=by
 refine elE1 ra λt z0=>?_;clear ra;subst z0
 refine elE1 rb λu z0=>?_;clear rb;subst z0
 refine bN h λz0 h1 h2=>?_;clear h;subst z0
 exact SB.add (λt' k=>.tok S h2 ⟨t',rfl⟩) (by refine rwr (sizeLine_eq ..) ?_;lia)
theorem Lb(S:SR w.params c st fz ad fps s)(ra:RV w.params (Zf c.base fz) ad (.d (.bytes z)) va)(rb:RV w.params (Zf c.base fz) ad (.d (.bytes u)) vb)(h:op=.Add/\z.length+u.length<=1000000/\Q (.d (.bytes (z++u))) st):wpAny (model prog w) c.A (binaryOp op va vb) (aP prog w c s fz ad fps Q) Ec s:=by
 refine elE1 ra λt z0=>?_;clear ra;subst z0
 refine elE1 rb λu z0=>?_;clear rb;subst z0
 refine bN h λz0 h1 h2=>?_;clear h;subst z0
 exact KBy.add_bytes (by simp;lia) λt' k=>.tok S h2 ⟨t',by simp⟩
theorem JV(ok:am K k c)(S:SR w.params c st fz ad fps s)(ra:RV w.params (Zf c.base fz) ad a va)(rb:RV w.params (Zf c.base fz) ad b vb)(h:qA st.own op a b λv=>Q v st):wpAny (model prog w) c.A (binaryOp op va vb) (aP prog w c s fz ad fps Q) Ec s :=
 ph h (λn e q=>ph q (λm e2 q=>Dd S (e2▸ra) (e▸rb) q) λq=>iU q (λx e2 q=>JA S (e2▸ra) (e▸rb) q) λq=>ij q (λx e2 q=>FJ S (e2▸ra) (e▸rb) q) λq=>Cv ok S ra (e▸rb) ⟨q.1,q.2.1,q.2.2.1,dk q.2.2.2⟩)
  λq=>iU q (λx e q=>have ⟨y,e2,q⟩:=gY q;Db S (e▸ra) (e2▸rb) q) λq=>ij q (λx e q=>have ⟨y,e2,q⟩:=rM q;Lb S (e▸ra) (e2▸rb) q)
   λq=>(dk q.2).elim λvs h=>(dk h.2).elim λws p=>q.1▸IR ok S ra rb h.1 p.1 p.2.1 p.2.2
end
end
end

section
open PySem PySem.W PyProof.Rows PySem.SeqAt PySem.MeetsSeq
theorem GP(x y:List UInt8):(x.toArray.toList==y.toArray.toList)=(x==y):=by simp
theorem K7{A:Around}{s:Shared}(a b:List UInt8)(t u:Tok):EqAt A s (.bytes a.toArray t) (.bytes b.toArray u) (a==b):=λprog w E Q h=>by
 unfold eqBool
 refine wpAny_holding ?_
 refine wpAny_ite_split (λhab=>?_) (λU=>?_)
 ·have e:a=b:=by have:=eq_of_beq hab;injection this with h1 h2;simpa using h1
  subst e
  rw[beq_self_eq_true]at h
  exact wpAny_bind (wpAny_rule (wpAny_pure h))
 ·refine wpAny_bind (wpAny_mono (Q:=λv s'=>v=.bool (a==b)/\s'=s) (E:=E) (richCompare_gives (typeIs_bytes s a.toArray t) (typeIs_bytes s b.toArray u) FB.slot_bytes_eq FB.entry_bytes_eq (FB.args_bytes_eq_2 _ _) (gives_bytes_eq a.toArray b.toArray t u) (by simp[Made.takes]) ?_) ?_ λU U e=>e)
  ·exact⟨by exact rwr (GP ..) rfl,rfl⟩
  ·refine λU U=>ae λz0 z1=>?_;subst z0;subst z1
   exact wpAny_truthy_bool h
section
variable {P:Params}{Z:Zt}{h:Heap}
mutual
theorem RD.uniq(hz:∀a o,Z a o->h.get? a=some o):∀(x y:D) (v:Value),ip x y->RD P Z x v->RD P Z y v->x=y
 |.bool a,y=>by
  induction y using D.casesOn with
  |bool b=>intro v U h1 h2;have e1:v=_:=h1;have e2:v=_:=h2;rw[e1]at e2;cases e2;rfl
  |_=>exact λU h=>h.elim
 |.int a,y=>by
  induction y using D.casesOn with
  |int b=>intro v U h1 h2;refine elE1 h1 λU z0=>?_;clear h1;subst z0;refine elE1 h2 λU e=>?_;clear h2;cases e;rfl
  |_=>exact λU h=>h.elim
 |.str a,y=>by
  induction y using D.casesOn with
  |str b=>intro v U h1 h2;refine elE1 h1 λU z0=>?_;clear h1;subst z0;refine elE1 h2 λU e=>?_;clear h2;cases e;rfl
  |_=>exact λU h=>h.elim
 |.bytes a,y=>by
  induction y using D.casesOn with
  |bytes b=>intro v U h1 h2;refine elE1 h1 λU z0=>?_;clear h1;subst z0;refine elE1 h2 λU e=>?_;clear h2;injection e with e1 e2;exact congrArg _ (by simpa using e1)
  |_=>exact λU h=>h.elim
 |.tup a,y=>by
  induction y using D.casesOn with
  |tup b =>
   intro v hl h1 h2
   refine elE3 h1 λa1 xs n=>al λz0 z1 r1=>?_;clear h1;subst z0
   refine elE3 h2 λa2 ys m=>al λe z2 r2=>?_;clear h2
   cases e
   have e1:=hz _ _ z1
   rw[hz _ _ z2]at e1
   cases e1
   exact rwr (RDs.uniq hz a b _ hl r1 r2 ..) rfl
  |_=>exact λU h=>h.elim
 |.list a,y=>by
  induction y using D.casesOn with
  |list b =>
   intro v hl h1 h2
   refine elE3 h1 λa1 xs n=>al λz0 z1 r1=>?_;clear h1;subst z0
   refine elE3 h2 λa2 ys m=>al λe z2 r2=>?_;clear h2
   cases e
   have e1:=hz _ _ z1
   rw[hz _ _ z2]at e1
   cases e1
   exact rwr (RDs.uniq hz a b _ hl r1 r2 ..) rfl
  |_=>exact λU h=>h.elim
 |.none,y=>by induction y using D.casesOn <;>exact λU h=>h.elim
 |.obj _ _,y=>by induction y using D.casesOn <;>exact λU h=>h.elim
theorem RDs.uniq(hz:∀a o,Z a o->h.get? a=some o):∀(x y:List D) (v:List Value),likeDs x y->RDs P Z x v->RDs P Z y v->x=y
 |[],[],_,_,_,_=>rfl
 |[],b::t,v,_,h1,h2=>by refine elE2 h2 λU U=>ae λe U=>?_;clear h2;exact nomatch (show v=[] from h1)▸e
 |a::r,[],v,_,h1,h2=>by refine elE2 h1 λU U=>ae λe U=>?_;clear h1;exact nomatch (show v=[] from h2)▸e
 |a::r,b::t,v,hl,h1,h2=>by
  refine elE2 h1 λx ys=>al λz0 q1 q2=>?_;clear h1;subst z0
  refine elE2 h2 λx' ys'=>al λe q3 q4=>?_;clear h2
  cases e
  exact rwr (RD.uniq hz a b _ hl.1 q1 q3 ..) (rwr (RDs.uniq hz r t _ hl.2 q2 q4 ..) rfl)
end
end
open Classical in
noncomputable def fW(xs ys:List D)(j:Nat):Bool:=decide (xs.getD j .none=ys.getD j .none)
theorem sX:∀(xs ys:List D),((bM (min xs.length ys.length)).all (fW xs ys)&&xs.length==ys.length)=true↔xs=ys
 |[],[]=>by simp
 |[],_::_=>by simp
 |_::_,[]=>by simp
 |x::xs,y::ys=>by
  have ih:=sX xs ys
  have e1:min (x::xs).length (y::ys).length=min xs.length ys.length+1:=Nat.add_min_add_right _ _ 1
  have e2:((x::xs).length==(y::ys).length)=(xs.length==ys.length):=by simp
  have e3:(bM (min xs.length ys.length+1)).all (fW (x::xs) (y::ys))=(fW (x::xs) (y::ys) 0&&(bM (min xs.length ys.length)).all (fW xs ys)):=by
   refine rwr (Ll ..) (rwr (List.all_cons ..) (rwr (List.all_map ..) ?_))
   rfl
  refine rwr (e1 ..) (rwr (e2 ..) (rwr (e3 ..) (rwr (Bool.and_assoc ..) (rwr (eO ..) (rwr (propext (ih ..)) ?_)))))
  simp[fW]
theorem ku{r:Bool}{q:Bool}{p:Prop}(h:r=true↔p)(h':q=true↔p):q=r:=by
 cases r <;>cases q <;>simp_all
section
variable {P:Params}{Z:Zt}
theorem RDs.at{Vs:List D}{xs:Array Value}(h:RDs P Z Vs xs.toList){j:Nat}(hj:j<xs.size):RD P Z (Vs.getD j .none) xs[j]:=by
 have hl:=RDs.len h
 have:j<Vs.length:=by refine rwr (aM (hl ..)) ?_;simpa using hj
 refine elE1 (RDs.get h (cM this)) λv=>ae λe r=>?_
 have e2:xs[j]=v:=by
  refine rwr (aM (Array.getElem_toList ..)) ?_
  exact(dD.mp e).2
 refine rwr (e2 ..) (rwr (uB ..) (rwr (cM this ..) ?_))
 exact r
theorem plainDs.at{n:Nat}:∀{Vs:List D},plainDs n Vs->∀{j},j<Vs.length->gI n (Vs.getD j .none)
 |[],_,j,hj=>absurd hj (mD _)
 |a::r,h,0,_=>h.1
 |a::r,h,j+1,hj=>by simpa using plainDs.at h.2 (j:=j) (by simpa using hj)
theorem likeDs.at:∀{Vs Ws:List D},likeDs Vs Ws->∀{j},j<Vs.length->j<Ws.length->ip (Vs.getD j .none) (Ws.getD j .none)
 |[],_,_,j,hj,_=>absurd hj (mD _)
 |_::_,[],_,j,_,hj=>absurd hj (mD _)
 |a::r,b::t,h,0,_,_=>h.1
 |a::r,b::t,h,j+1,h1,h2=>by simpa using likeDs.at h.2 (j:=j) (by simpa using h1) (by simpa using h2)
def tn(P:Params)(Z:Zt)(n:Nat):Prop:=∀(A:Around) (s:Shared) (x y:D) (v u:Value) (r:Bool),(∀a o,Z a o->s.heap.get? a=some o)->gI n x->ip x y->RD P Z x v->RD P Z y u->A.units+n<cLine->(r=true↔x=y)->EqAt A s v u r
theorem Ez{a b:Nat}(e:Nat->Bool)(h:a=b):(bM (min a b)).all e=(bM a).all e:=by exact rwr (h ..) (rwr (Nat.min_self ..) rfl)
open Classical in
theorem vZ{n:Nat}{A:Around}{s:Shared}{xs ys:List D}{va vb:Array Value}{a b:Addr}{m1 m2:Nat}{r:Bool}(ih:tn P Z n)(hz:∀a o,Z a o->s.heap.get? a=some o)(hp:plainDs n xs)(hl:likeDs xs ys)
  (z1:s.heap.get? a=some (listOf va m1)) (z2:s.heap.get? b=some (listOf vb m2)) (r1:RDs P Z xs va.toList) (r2:RDs P Z ys vb.toList) (hu:A.units+(n+1)<cLine) (hr:r=true↔xs=ys):
  RcAt A s (.ref a) (.ref b) r/\RcNeAt A s (.ref a) (.ref b) (!r):=by
 have n1:va.size=xs.length:=by simpa using RDs.len r1
 have n2:vb.size=ys.length:=by simpa using RDs.len r2
 have he:∀j (j1:j<va.size) (j2:j<vb.size),EqAt A.in1 s va[j] vb[j] (fW xs ys j):=λj j1 j2 =>
  ih A.in1 s _ _ _ _ _ hz (plainDs.at hp (by lia)) (likeDs.at hl (by lia) (by lia)) (RDs.at r1 j1) (RDs.at r2 j2) (by show A.units+1+n<cLine;lia) (by simp[fW])
 by_cases hsz:va.size=vb.size
 ·have e:(bM va.size).all (fW xs ys)=r:=by
   refine ku hr ?_
   refine rwr (propext (Iff.symm (sX xs ys ..))) (rwr (Ez _ (by lia:xs.length=ys.length)) (rwr (n1 ..) ?_))
   simp;lia
  refine rwr (aM (e ..)) ?_
  exact⟨RcAt.lists (bR z1) (bR z2) hsz (by lia) he,RcNeAt.lists (bR z1) (bR z2) hsz (by lia) he⟩
 ·have e:r=false:=by
   cases r with
   |false=>rfl
   |true=>have:=hr.mp rfl;rw[this]at n1;lia
  subst e
  exact⟨RcAt.lists_lengths (bR z1) (bR z2) (by simpa using hsz) (by lia),RcNeAt.lists_lengths (bR z1) (bR z2) (by simpa using hsz) (by lia)⟩
open Classical in
theorem wA{n:Nat}{A:Around}{s:Shared}{xs ys:List D}{va vb:Array Value}{a b:Addr}{m1 m2:Nat}{r:Bool}(ih:tn P Z n)(hz:∀a o,Z a o->s.heap.get? a=some o)(hp:plainDs n xs)(hl:likeDs xs ys)
  (z1:s.heap.get? a=some { cls:=.type "tuple",data:=.seq va m1 }) (z2:s.heap.get? b=some { cls:=.type "tuple",data:=.seq vb m2 }) (r1:RDs P Z xs va.toList) (r2:RDs P Z ys vb.toList) (hu:A.units+(n+1)<cLine) (hr:r=true↔xs=ys):
  RcAt A s (.ref a) (.ref b) r/\RcNeAt A s (.ref a) (.ref b) (!r):=by
 have n1:va.size=xs.length:=by simpa using RDs.len r1
 have n2:vb.size=ys.length:=by simpa using RDs.len r2
 have he:∀j (j1:j<va.size) (j2:j<vb.size),EqAt A.in1 s va[j] vb[j] (fW xs ys j):=λj j1 j2 =>
  ih A.in1 s _ _ _ _ _ hz (plainDs.at hp (by lia)) (likeDs.at hl (by lia) (by lia)) (RDs.at r1 j1) (RDs.at r2 j2) (by show A.units+1+n<cLine;lia) (by simp[fW])
 have t1:s.heap.IsTuple a va:=⟨_,z1,rfl,_,rfl⟩
 have t2:s.heap.IsTuple b vb:=⟨_,z2,rfl,_,rfl⟩
 have e:((bM (min va.size vb.size)).all (fW xs ys)&&va.size==vb.size)=r:=by
  refine ku hr ?_
  rw[<-sX xs ys,n1,n2]
 refine rwr (aM (e ..)) ?_
 exact⟨RcAt.tuples t1 t2 (by lia) he,RcNeAt.tuples t1 t2 (by lia) he⟩
theorem zF:∀n,tn P Z n:=by
 have base:∀(A:Around) (s:Shared) (x y:D) (v u:Value) (r:Bool),ip x y->RD P Z x v->RD P Z y u->(r=true↔x=y)->(∀vs,x≠.tup vs)->(∀vs,x≠.list vs)->EqAt A s v u r:=by
  intro A s x y v u r hl h1 h2 hr n1 n2
  cases x with
  |none=>cases y <;>exact hl.elim
  |bool a=>cases y with
   |bool b=>have e1:v=_:=h1;have e2:u=_:=h2;subst e1 e2;have:=EqAt.bool_bool (A:=A) (s:=s) a b;rwa [ku hr (q:=(a==b)) (by simp)]at this
   |_=>exact hl.elim
  |int a=>cases y with
   |int b=>refine elE1 h1 λt z0=>?_;clear h1;subst z0;refine elE1 h2 λt' z0=>?_;clear h2;subst z0;have:=EqAt.int_int (A:=A) (s:=s) a t b t';rwa [ku hr (q:=(a==b)) (by simp)]at this
   |_=>exact hl.elim
  |str a=>cases y with
   |str b=>refine elE1 h1 λt z0=>?_;clear h1;subst z0;refine elE1 h2 λt' z0=>?_;clear h2;subst z0;have:=EqAt.str_str (A:=A) (s:=s) a t b t';rwa [ku hr (q:=(a==b)) (by simp)]at this
   |_=>exact hl.elim
  |bytes a=>cases y with
   |bytes b=>refine elE1 h1 λt z0=>?_;clear h1;subst z0;refine elE1 h2 λt' z0=>?_;clear h2;subst z0;have:=K7 (A:=A) (s:=s) a b t t';rwa [ku hr (q:=(a==b)) (by simp)]at this
   |_=>exact hl.elim
  |tup vs=>exact absurd rfl (n1 vs)
  |list vs=>exact absurd rfl (n2 vs)
  |obj C fs=>cases y <;>exact hl.elim
 intro n
 induction n with
 |zero =>
  intro A s x y v u r hz hp hl h1 h2 hu hr
  refine base A s x y v u r hl h1 h2 hr (λvs e=>?_) λvs e=>?_
  ·subst e;exact dQ hp
  ·subst e;exact dQ hp
 |succ n ih =>
  intro A s x y v u r hz hp hl h1 h2 hu hr
  cases x with
  |tup xs=>cases y with
   |tup ys =>
    have h1':=h1
    have h2':=h2
    refine elE3 h1 λa1 va m1=>al λz0 z1 r1=>?_;clear h1;subst z0
    refine elE3 h2 λa2 vb m2=>al λz0 z2 r2=>?_;clear h2;subst z0
    by_cases hab:a1=a2
    ·subst hab
     have:=RD.uniq hz _ _ _ hl h1' h2'
     refine rwr (hr.mpr this ..) ?_
     exact EqAt.same _
    ·exact EqAt.of_refs hab (wA ih hz hp hl (hz _ _ z1) (hz _ _ z2) r1 r2 hu (by refine rwr (propext (hr ..)) ?_;simp)).1
   |_=>exact hl.elim
  |list xs=>cases y with
   |list ys =>
    have h1':=h1
    have h2':=h2
    refine elE3 h1 λa1 va m1=>al λz0 z1 r1=>?_;clear h1;subst z0
    refine elE3 h2 λa2 vb m2=>al λz0 z2 r2=>?_;clear h2;subst z0
    by_cases hab:a1=a2
    ·subst hab
     have:=RD.uniq hz _ _ _ hl h1' h2'
     refine rwr (hr.mpr this ..) ?_
     exact EqAt.same _
    ·exact EqAt.of_refs hab (vZ ih hz hp hl (hz _ _ z1) (hz _ _ z2) r1 r2 hu (by refine rwr (propext (hr ..)) ?_;simp)).1
   |_=>exact hl.elim
  |none=>exact base A s _ y v u r hl h1 h2 hr (λU e=>nomatch e) λU e=>nomatch e
  |bool a=>exact base A s _ y v u r hl h1 h2 hr (λU e=>nomatch e) λU e=>nomatch e
  |int a=>exact base A s _ y v u r hl h1 h2 hr (λU e=>nomatch e) λU e=>nomatch e
  |str a=>exact base A s _ y v u r hl h1 h2 hr (λU e=>nomatch e) λU e=>nomatch e
  |bytes a=>exact base A s _ y v u r hl h1 h2 hr (λU e=>nomatch e) λU e=>nomatch e
  |obj C fs=>exact base A s _ y v u r hl h1 h2 hr (λU e=>nomatch e) λU e=>nomatch e
end
end

section
open PySem PySem.W PyProof.Rows PySem.SeqAt PySem.MeetsSeq
section
variable {prog:Program}{w:World}{K:Frag}{k:Nat}{c:FC}{st:St}{X:Nat->St->Prop}
noncomputable def Zh(h:Heap):Zt:=λa o=>h.get? a=some o
theorem SR.ext{s:Shared}{fz ad fps}(ok:am K k c)(S:SR w.params c st fz ad fps s):d_ (Zf c.base fz) (Zh s.heap):=λa o z=>S.at ok z
theorem SR.asD{s:Shared}{fz ad fps}(ok:am K k c)(S:SR w.params c st fz ad fps s){V:V}{v:Value}{x:D}(rv:RV w.params (Zf c.base fz) ad V v)(e:asD st.own V=some x):RD w.params (Zh s.heap) x v:=by
 cases V with
 |d y=>cases e;exact RD.mono (S.ext ok) _ _ rv
 |own i =>
  have e:(f7 (getN st.own i)).casesOn (motive:=λU=>Option D) Bx (λvs=>some (.list vs))=some x:=e
  cases q:getN st.own i with
  |none=>rw[q]at e;cases e
  |some o =>
   rw[q]at e
   cases o with
   |lst vs =>
    cases e
    refine elE3 (S.lst ok rv (vs:=vs) (nT q)) λa xs n=>al λz0 e1 r=>?_;subst z0
    exact(ex3 a xs n ⟨rfl,e1,RDs.mono (S.ext ok) _ _ r⟩)
   |_=>cases e
def gy(s:Shared)(k:Bool->Prop)(v:Value)(s':Shared):Prop:=∃q,v=.bool q/\k q/\∃tk,s'={ s with toks:=tk }
theorem Jp{op:CmpOp}{a b:Int}{t u:Tok}{s:Shared}{kk:Bool->Prop}{Ec:Value->Shared->Prop}{A:Around}(h:lF op a b kk):wpAny (model prog w) A (compareOp op (.int a t) (.int b u)) (gy s kk) Ec s:=by
 cases op <;>first | exact h.elim | skip
 ·have e:(a==b)=decide (a=b):=by by_cases e:a=b <;>simp[e]
  exact eq_int ⟨_,rfl,by refine rwr (e ..) ?_;exact h,s.toks,rfl⟩
 ·have e:(a != b)=!decide (a=b):=by by_cases e:a=b <;>simp[e]
  exact ne_int ⟨_,rfl,by refine rwr (e ..) ?_;exact h,s.toks,rfl⟩
 ·exact lt_int ⟨_,rfl,h,s.toks,rfl⟩
 ·exact le_int ⟨_,rfl,h,s.toks,rfl⟩
 ·exact gt_int ⟨_,rfl,h,s.toks,rfl⟩
 ·exact ge_int ⟨_,rfl,h,s.toks,rfl⟩
section
variable {op:CmpOp}{va vb:Value}{s:Shared}{kk:Bool->Prop}{Ec:Value->Shared->Prop}{A:Around}{Z:Zt}{P:Params}
theorem vf{x y:ac}(ra:RD P Z (.str x) va)(rb:RD P Z (.str y) vb)(h:dU op (x=y) kk):wpAny (model prog w) A (compareOp op va vb) (gy s kk) Ec s:=by
 refine elE1 ra λt z0=>?_;clear ra;subst z0
 refine elE1 rb λu z0=>?_;clear rb;subst z0
 cases op <;>first | exact h.elim | skip
 ·exact eq_str ⟨_,rfl,h _ (by simp),s.toks,rfl⟩
 ·exact ne_str ⟨_,rfl,h _ (by simp),s.toks,rfl⟩
theorem Bq{x y:List UInt8}(ra:RD P Z (.bytes x) va)(rb:RD P Z (.bytes y) vb)(h:dU op (x=y) kk):wpAny (model prog w) A (compareOp op va vb) (gy s kk) Ec s:=by
 refine elE1 ra λt z0=>?_;clear ra;subst z0
 refine elE1 rb λu z0=>?_;clear rb;subst z0
 cases op <;>first | exact h.elim | skip
 ·exact eq_bytes ⟨_,rfl,h _ (by simp),s.toks,rfl⟩
 ·exact ne_bytes ⟨_,rfl,h _ (by simp),s.toks,rfl⟩
theorem wV{x y:Bool}(ra:RD P Z (.bool x) va)(rb:RD P Z (.bool y) vb)(h:dU op (x=y) kk):wpAny (model prog w) A (compareOp op va vb) (gy s kk) Ec s:=by
 have e1:va=_:=ra
 have e2:vb=_:=rb
 subst e1 e2
 cases op <;>first | exact h.elim | skip
 ·exact eq_bool ⟨_,rfl,h _ (by simp),s.toks,rfl⟩
 ·exact ne_bool ⟨_,rfl,h _ (by simp),s.toks,rfl⟩
theorem HC{x y:Int}(ra:RD P Z (.int x) va)(rb:RD P Z (.int y) vb)(h:dU op (x=y) kk):wpAny (model prog w) A (compareOp op va vb) (gy s kk) Ec s:=by
 refine elE1 ra λt z0=>?_;clear ra;subst z0
 refine elE1 rb λu z0=>?_;clear rb;subst z0
 cases op <;>first | exact h.elim | skip
 ·exact eq_int ⟨_,rfl,h _ (by simp),s.toks,rfl⟩
 ·exact ne_int ⟨_,rfl,h _ (by simp),s.toks,rfl⟩
theorem GJ{xs ys:List D}(hu:A.units+4<cLine)(r1:RD P (Zh s.heap) (.tup xs) va)(r2:RD P (Zh s.heap) (.tup ys) vb)(h3:likeDs xs ys)(h4:plainDs 3 xs)(h:dU op (D.tup xs=.tup ys) kk):wpAny (model prog w) A (compareOp op va vb) (gy s kk) Ec s:=by
 refine elE3 r1 ?_;clear r1;refine λa1 va m1=>al λz0 z1 r1=>?_;subst z0
 refine elE3 r2 ?_;clear r2;refine λa2 vb m2=>al λz0 z2 r2=>?_;subst z0
 have g:∀r:Bool,(r=true↔xs=ys)->_:=λr hr=>wA (n:=3) (A:=A) (s:=s) (zF 3) (λU U z=>z) h4 h3 z1 z2 r1 r2 hu hr
 have g:=g (@decide (xs=ys) (Lm _)) (by simp)
 cases op <;>first | exact h.elim | skip
 ·exact g.1 prog w _ _ ⟨_,rfl,h _ (by simp),s.toks,rfl⟩
 ·exact g.2 prog w _ _ ⟨_,rfl,h _ (by simp),s.toks,rfl⟩
theorem Ih{xs ys:List D}(hu:A.units+4<cLine)(r1:RD P (Zh s.heap) (.list xs) va)(r2:RD P (Zh s.heap) (.list ys) vb)(h3:likeDs xs ys)(h4:plainDs 3 xs)(h:dU op (D.list xs=.list ys) kk):wpAny (model prog w) A (compareOp op va vb) (gy s kk) Ec s:=by
 refine elE3 r1 ?_;clear r1;refine λa1 va m1=>al λz0 z1 r1=>?_;subst z0
 refine elE3 r2 ?_;clear r2;refine λa2 vb m2=>al λz0 z2 r2=>?_;subst z0
 have g:∀r:Bool,(r=true↔xs=ys)->_:=λr hr=>vZ (n:=3) (A:=A) (s:=s) (zF 3) (λU U z=>z) h4 h3 z1 z2 r1 r2 hu hr
 have g:=g (@decide (xs=ys) (Lm _)) (by simp)
 cases op <;>first | exact h.elim | skip
 ·exact g.1 prog w _ _ ⟨_,rfl,h _ (by simp),s.toks,rfl⟩
 ·exact g.2 prog w _ _ ⟨_,rfl,h _ (by simp),s.toks,rfl⟩
theorem Cp{x y:Int}(ra:RD P Z (.int x) va)(rb:RD P Z (.int y) vb)(h:lF op x y kk):wpAny (model prog w) A (compareOp op va vb) (gy s kk) Ec s:=by
 refine elE1 ra λt z0=>?_;clear ra;subst z0
 refine elE1 rb λu z0=>?_;clear rb;subst z0
 exact Jp h
theorem nJ{p q:Prop}(h:dU op p kk)(e:p↔q):dU op q kk:=propext e▸h
theorem IT{x y:D}(hu:A.units+4<cLine)(r1:RD P (Zh s.heap) x va)(r2:RD P (Zh s.heap) y vb)(h3:ip x y)(h4:gI 4 x)(h:dU op (x=y) kk):wpAny (model prog w) A (compareOp op va vb) (gy s kk) Ec s:=by
 induction x using D.casesOn with
 |bool p=>induction y using D.casesOn with
  |bool q=>exact wV r1 r2 (nJ h ⟨D.bool.inj,congrArg _⟩)
  |_=>exact h3.elim
 |int p=>induction y using D.casesOn with
  |int q=>exact HC r1 r2 (nJ h ⟨D.int.inj,congrArg _⟩)
  |_=>exact h3.elim
 |str p=>induction y using D.casesOn with
  |str q=>exact vf r1 r2 (nJ h ⟨D.str.inj,congrArg _⟩)
  |_=>exact h3.elim
 |bytes p=>induction y using D.casesOn with
  |bytes q=>exact Bq r1 r2 (nJ h ⟨D.bytes.inj,congrArg _⟩)
  |_=>exact h3.elim
 |tup p=>induction y using D.casesOn with
  |tup q=>exact GJ hu r1 r2 h3 h4 h
  |_=>exact h3.elim
 |list p=>induction y using D.casesOn with
  |list q=>exact Ih hu r1 r2 h3 h4 h
  |_=>exact h3.elim
 |none=>induction y using D.casesOn with | _=>exact h3.elim
 |obj _ _=>induction y using D.casesOn with | _=>exact h3.elim
end
theorem RV.dat{P:Params}{Z:Zt}{ad:List Addr}{a:V}{v:Value}{x:D}(h:RV P Z ad a v)(e:a=.d x):RD P Z x v:=by subst e;exact h
theorem Cq{op:CmpOp}{a b:V}{va vb:Value}{s:Shared}{fz ad fps}{kk:Bool->Prop}(ok:am K k c)(S:SR w.params c st fz ad fps s)(ra:RV w.params (Zf c.base fz) ad a va)(rb:RV w.params (Zf c.base fz) ad b vb)
  (h:kl st.own op a b kk) {Ec:Value->Shared->Prop}:wpAny (model prog w) c.A (compareOp op va vb) (gy s kk) Ec s :=
 ph h (λx e q=>have ⟨y,e2,q⟩:=dS q;Cp (ra.dat e) (rb.dat e2) q) λq=>iU q (λx e q=>have ⟨y,e2,q⟩:=gY q;vf (ra.dat e) (rb.dat e2) q) λq=>ij q (λx e q=>have ⟨y,e2,q⟩:=rM q;Bq (ra.dat e) (rb.dat e2) q)
  λq=>qY q (λx e q=>have ⟨y,e2,q⟩:=lV q;wV (ra.dat e) (rb.dat e2) q) λq=>(dk q).elim λx h=>(dk h.2).elim λy p=>IT (by have:=ok.units;lia) (S.asD ok ra h.1) (S.asD ok rb p.1) p.2.1 p.2.2.1 p.2.2.2.2
theorem gP{value slice:Expr}{o i:Value}{T id:String}{s:Shared}{Q:Value->Shared->Prop}{Ec:Value->Shared->Prop}{A:Around}(hT:s.TypeIs o T)(hl:typeLookup (.type T) "__getitem__" = pure (some (.builtin id)))(h:wpAny (model prog w) A (getItem o i) Q Ec s):
  wpAny (model prog w) A (subscriptTail value slice o i) Q Ec s:=by
 unfold subscriptTail
 refine wpAny_bind ?_
 refine rwr (getitemInPython_of_ne hT.not_modules ..) ?_
 refine wpAny_bind (wpAny_specialOf hT hl ?_)
 have fin:wpAny (model prog w) A (subscripted slice false o i) (λr s₃=>wpAny (model prog w) A (letTemporaryGo value o r >>= λU=>pure r) Q Ec s₃) Ec s:=by
  have:∃l,subscripted slice false o i=operate l (getItem o i):=by
   induction slice using Expr.casesOn with
   |Slice a b c p=>induction c using Option.casesOn with | _=>exact⟨_,rfl⟩
   |_=>exact⟨_,rfl⟩
  refine elE1 this λl e=>?_;clear this
  refine rwr (e ..) ?_
  exact wpAny_operating (wpAny_mono h (λr s₃ h₃=>wpAny_bind (wpAny_letTemporaryGo (wpAny_pure h₃))) λU U x=>x)
 first
  |exact wpAny_pure (wpAny_bind fin)
  |exact wpAny_bind (wpAny_pure (wpAny_bind fin))
  |exact wpAny_bind fin
theorem Jt{i:Int}{n:Nat}(h0:0<=i)(h:i.toNat<n)(h1:n<=1000000): -9223372036854775808<=i/\i<9223372036854775808:=⟨uC (by decide) h0,Int.lt_of_lt_of_le ((pT h0).mp (dG h h1)) (by decide)⟩
theorem Ac(n:Nat):((-1:Int)+(n:Int)).toNat=n-1:=by refine rwr (Int.add_comm ..) ?_;exact BF n 1
theorem Ij{s:Shared}{fz ad fps}{Q:V->St->Prop}{Ec:Value->Shared->Prop}{vs:List D}{xs:Array Value}{a:Addr}{i:Int}{t:Tok}{n:Nat}(S:SR w.params c st fz ad fps s)(hl:s.heap.get? a=some (listOf xs n))(r:RDs w.params (Zf c.base fz) vs xs.toList)
  (h:kr vs i λV=>Q V st):wpAny (model prog w) c.A (getItem (.ref a) (.int i t)) (aP prog w c s fz ad fps Q) Ec s:=by
 have hlen:=RDs.len r
 revert h;refine uO (al λh0 h1 h=>?_) (ae λz0 h=>?_) <;>(try subst z0)
 all_goals
  refine elE1 (dk h) λd=>ae λe hQ=>?_
 ·refine elE1 (RDs.get r e) λv=>ae λev rd=>?_
  refine wpAny_getItem_list (x:=v) (bR hl) h0 (by lia) (by refine rwr (aM (jq ..)) ?_;exact ev) (.tok (t:=s.toks) S hQ rd)
 ·have hne:0<vs.length:=by
   cases vs with
   |nil=>simp at e
   |cons _ _=>simp
  rw[Ln]at e
  refine elE1 (RDs.get r e) λv=>ae λev rd=>?_
  have:xs.size=vs.length:=by simpa using hlen
  refine wpAny_getItem_list_neg (x:=v) (bR hl) (by lia) (by lia) (by lia) ?_ (.tok (t:=s.toks) S hQ rd)
  refine rwr (aM (jq ..)) (rwr (this ..) (rwr (Ac ..) ?_))
  exact ev
theorem IV{s:Shared}{fz ad fps}{Q:V->St->Prop}{Ec:Value->Shared->Prop}{vs:List D}{xs:Array Value}{a:Addr}{i:Int}{t:Tok}{n:Nat}(S:SR w.params c st fz ad fps s)(hl:s.heap.get? a=some { cls:=.type "tuple",data:=.seq xs n })(r:RDs w.params (Zf c.base fz) vs xs.toList)
  (h:kr vs i λV=>Q V st):wpAny (model prog w) c.A (getItem (.ref a) (.int i t)) (aP prog w c s fz ad fps Q) Ec s:=by
 have hlen:=RDs.len r
 have hsz:xs.size=vs.length:=by simpa using hlen
 revert h;refine uO (al λh0 h1 h=>?_) (ae λz0 h=>?_) <;>(try subst z0)
 all_goals
  refine elE1 (dk h) λd=>ae λe hQ=>?_
 ·refine elE1 (RDs.get r e) λv=>ae λev rd=>?_
  have hlt:i.toNat<xs.size:=by refine rwr (hsz ..) ?_;exact(dD.mp e).1
  refine getItem_tuple (t:=a) (items:=xs) (j:=i.toNat) (x:=v) ⟨_,hl,rfl,_,rfl⟩ (by lia) (by lia) ?_ (by refine rwr (aM (jq ..)) ?_;exact ev) (.tok (t:=s.toks) S hQ rd)
  have hn:¬ i<0:=uD.mpr h0
  have h2:i<(xs.size:Int):=(pT h0).mp hlt
  simp[seqIndex?,hn,h0,h2]
 ·have hne:0<vs.length:=by
   cases vs with
   |nil=>simp at e
   |cons _ _=>simp
  rw[Ln]at e
  refine elE1 (RDs.get r e) λv=>ae λev rd=>?_
  refine getItem_tuple (t:=a) (items:=xs) (j:=vs.length-1) (x:=v) ⟨_,hl,rfl,_,rfl⟩ (by lia) (by lia) ?_ (by refine rwr (aM (jq ..)) ?_;exact ev) (.tok (t:=s.toks) S hQ rd)
  exact rwr (PySem.seqIndex_neg (by lia) (by lia)) (rwr (hsz ..) (rwr (Ac ..) rfl))
section
variable {value slice:Expr}{a b:V}{va vb:Value}{s:Shared}{fz:List (Addr×au)}{ad:List Addr}{fps:List (List (Addr×au))}{Q:V->St->Prop}{Ec:Value->Shared->Prop}{i:Int}
theorem Cd{x:List UInt8}(S:SR w.params c st fz ad fps s)(ra:RV w.params (Zf c.base fz) ad (.d (.bytes x)) va)(rb:RV w.params (Zf c.base fz) ad (.d (.int i)) vb)(h:0<=i/\x.length<=1000000/\∃c,x[i.toNat]? = some c/\Q (.d (.int c.toNat)) st):wpAny (model prog w) c.A (subscriptTail value slice va vb) (aP prog w c s fz ad fps Q) Ec s:=by
 refine elE1 ra λt z0=>?_;clear ra;subst z0
 refine elE1 rb λu z0=>?_;clear rb;subst z0
 refine bN h λh0 h1=>uE1 λcc=>ae λe hQ=>?_;clear h
 have hlt:=(dD.mp e).1
 refine gP (typeIs_bytes _ _ _) pU.lookup (PySem.W.getItem_bytes (by lia) h0 ((pT h0).mp hlt) ?_)
 refine .tok S hQ ⟨s.toks,?_⟩
 refine rwr (uB ..) (rwr (e ..) ?_);rfl
theorem CL{x:ac}(S:SR w.params c st fz ad fps s)(ra:RV w.params (Zf c.base fz) ad (.d (.str x)) va)(rb:RV w.params (Zf c.base fz) ad (.d (.int i)) vb)(h:0<=i/\x.length<=1000000/\∃c,x.cps.toList[i.toNat]? = some c/\Q (.d (.str ⟨#[c]⟩)) st):wpAny (model prog w) c.A (subscriptTail value slice va vb) (aP prog w c s fz ad fps Q) Ec s:=by
 refine elE1 ra λt z0=>?_;clear ra;subst z0
 refine elE1 rb λu z0=>?_;clear rb;subst z0
 refine bN h λh0 h1=>uE1 λcc=>ae λe hQ=>?_;clear h
 have hlt:=(dD.mp e).1
 have hxl:x.cps.toList.length=x.length:=by simp[mL]
 refine gP (typeIs_str _ _ _) F.slot_str_getitem.lookup (P.getItem_str (c:=cc) (by simp;exact Jt h0 (hxl▸hlt) h1) ?_ (.tok S hQ ⟨s.toks,rfl⟩))
 have hn:¬ i<0:=uD.mpr h0
 have h2:i<(x.length:Int):=(pT h0).mp (hxl▸hlt)
 simp[seqIndex?,hn,h0,h2]
 rw[<-jq];exact e
theorem FN{vs:List D}(ok:am K k c)(S:SR w.params c st fz ad fps s)(ra:RV w.params (Zf c.base fz) ad (.d (.tup vs)) va)(rb:RV w.params (Zf c.base fz) ad (.d (.int i)) vb)(h:kr vs i λv=>Q v st):wpAny (model prog w) c.A (subscriptTail value slice va vb) (aP prog w c s fz ad fps Q) Ec s:=by
 refine elE1 rb λu z0=>?_;clear rb;subst z0
 refine elE3 ra λa xs n=>al λz0 z r=>?_;clear ra;subst z0
 exact gP (T := "tuple") ⟨_,S.at ok z,rfl⟩ slot_tuple_getitem.lookup (IV S (S.at ok z) r h)
theorem FG(ok:am K k c)(S:SR w.params c st fz ad fps s)(ra:RV w.params (Zf c.base fz) ad a va)(rb:RV w.params (Zf c.base fz) ad (.d (.int i)) vb)(h:∃vs,d9 st.own a=some vs/\kr vs i λv=>Q v st):wpAny (model prog w) c.A (subscriptTail value slice va vb) (aP prog w c s fz ad fps Q) Ec s:=by
 refine elE1 rb λu z0=>?_;clear rb;subst z0
 refine elE1 h λvs=>ae λh1 h2=>?_;clear h
 refine elE3 (S.lst ok ra h1) λa xs n=>al λz0 e1 r=>?_;subst z0
 exact gP (T := "list") ⟨_,e1,rfl⟩ F.slot_list_getitem.lookup (Ij S e1 r h2)
theorem HU(ok:am K k c)(S:SR w.params c st fz ad fps s)(ra:RV w.params (Zf c.base fz) ad a va)(rb:RV w.params (Zf c.base fz) ad b vb)(h:ub st.own a b λv=>Q v st):wpAny (model prog w) c.A (subscriptTail value slice va vb) (aP prog w c s fz ad fps Q) Ec s :=
 have ⟨i,e,q⟩:=dS h
 ij q (λx e2 q=>Cd S (e2▸ra) (e▸rb) ⟨q.1,q.2.1,dk q.2.2⟩) λq=>iU q (λx e2 q=>CL S (e2▸ra) (e▸rb) ⟨q.1,q.2.1,dk q.2.2⟩) λq=>sT q (λx e2 q=>FN ok S (e2▸ra) (e▸rb) q) λq=>FG ok S ra (e▸rb) (dk q)
end
inductive fV:Option Int->Value->Prop
 |none:fV Bx .none
 |int (i:Int) (t:Tok):fV (some i) (.int i t)
theorem fV.is{o:Option Int}{v:Value}(h:fV o v):IsPart v o:=by cases h <;>constructor
theorem rJ{α:Type}(x:List α)(l h:Nat):(x.take h).drop l=(x.drop (min l x.length)).take (min h x.length-min l x.length):=by
 have a:(x.take h).drop l=(x.drop l).take (h-l):=pV
 refine rwr (a ..) ?_
 by_cases hl:l<=x.length
 ·refine rwr (gq hl ..) ?_
  by_cases hh:h<=x.length
  ·exact rwr (gq hh ..) rfl
  ·have hh:=ci (uE hh)
   rw[BG hh,mG (by rw[gE];exact lg hh l),mG (by rw[gE];exact bG _)]
 ·have hl:=ci (uE hl)
  exact rwr (List.drop_of_length_le hl ..) (rwr (BG hl ..) (rwr (BH ..) (rwr (pS ..) (rwr (pS ..) rfl))))
theorem pw{n:Nat}{i:Int}(h:0<=i):clipAt n i=min i.toNat n:=by
 refine elE1 (Int.eq_ofNat_of_zero_le h) λm z0=>?_;subst z0
 refine rwr (clipAt_nat ..) ?_;simp
theorem nG{α:Type}(x:List α){lo hi:Option Int}(h1:gD lo)(h2:gD hi):cut x lo hi=(x.drop (lo.elim 0 (clipAt x.length))).take (hi.elim x.length (clipAt x.length)-lo.elim 0 (clipAt x.length)):=by
 cases lo with
 |none=>cases hi with
  |none=>simp[cut]
  |some h=>have:=rJ x 0 h.toNat;simpa[cut,pw h2.1] using this
 |some l=>cases hi with
  |none=>have:=rJ x l.toNat x.length;simpa[cut,pw h1.1] using this
  |some h=>have:=rJ x l.toNat h.toNat;simpa[cut,pw h1.1,pw h2.1] using this
theorem Hb{α:Type}(x:List α)(lo hi:Option Int):(cut x lo hi).length<=x.length:=by
 unfold cut
 refine rwr (gE ..) ?_
 refine aJ (fb _ _) ?_
 cases hi with
 |none=>exact bG _
 |some h=>exact uF _ _
theorem RDs.cut{P:Params}{Z:Zt}{Vs:List D}{xs:List Value}(h:RDs P Z Vs xs)(lo hi:Option Int):RDs P Z (Mine.cut Vs lo hi) (Mine.cut xs lo hi):=by
 unfold Mine.cut
 cases hi with
 |none=>exact RDs.drop _ h
 |some i=>exact RDs.drop _ (RDs.take _ h)
theorem Gp(n:Nat)(i:Int):clipAt n i<=n:=fQ.mp (clipAt_cast n i▸Int.max_le.mpr ⟨Int.natCast_nonneg n,Int.min_le_right _ _⟩)
theorem zj(x:ac)(lo hi:Option Int):BI lo hi 1 x.length=(bM (hi.elim x.length (clipAt x.length)-lo.elim 0 (clipAt x.length))).map (lo.elim 0 (clipAt x.length) + ·):=by
 have e:BI lo hi 1 x.length=sliceRange (sliceBounds lo hi Bx x.length).1 (sliceBounds lo hi Bx x.length).2.1 (sliceBounds lo hi Bx x.length).2.2:=rfl
 refine rwr (e ..) (rwr (sliceBounds_plain ..) ?_)
 simp only[sliceRange_one]
theorem JF(x:ac){lo hi:Option Int}(h1:gD lo)(h2:gD hi):(BI lo hi 1 x.length).filterMap (x.cps[·]?)=cut x.cps.toList lo hi:=by
 rw[zj,nG _ h1 h2,pick_run]
 rfl
theorem Gn{H L n:Nat}(h:H-L=n)(hb:H<=n)(h0:¬ n=0):L=0:=(mM L).resolve_right λhL=>absurd h (k8 (dG (Nat.sub_lt (lh λe=>h0 (by rw[<-h,e,Nat.zero_sub])) hL) hb))
theorem HT(x:ac){t:Tok}{lo hi:Option (Int×Tok)}(h1:gD (lo.map (·.1)))(h2:gD (hi.map (·.1)))(hsz:x.length<=1000000){Q:Value->Shared->Prop}{s:Shared}(h:∀t' k,Q (.str ⟨(cut x.cps.toList (lo.map (·.1)) (hi.map (·.1))).toArray⟩ t') { s with toks:=k }):(sliceMade x t lo hi Bx).post Q s:=by
 unfold sliceMade slicePicked
 have e1:=JF x h1 h2
 have hl:=Hb x.cps.toList (lo.map (·.1)) (hi.map (·.1))
 have hxl:x.cps.toList.length=x.length:=by simp[mL]
 split
 ·rename_i hc
  simp only[Option.map_none,Option.getD_none,beq_self_eq_true,Bool.true_and,beq_iff_eq]at hc
  have e2:cut x.cps.toList (lo.map (·.1)) (hi.map (·.1))=x.cps.toList:=by
   rw[zj,cV,uG]at hc
   refine rwr (nG _ h1 h2 ..) (rwr (hxl ..) ?_)
   have hb:(hi.map (·.1)).elim x.length (clipAt x.length)<=x.length:=by
    cases hi with
    |none=>exact bG _
    |some i=>exact Gp _ _
   refine rwr (hc ..) (rwr (aM (hxl ..)) ?_)
   by_cases h0:x.length=0
   ·have:x.cps.toList=[]:=mC (hxl.trans h0)
    refine rwr (this ..) ?_;simp
   ·rw[show (lo.map (·.1)).elim 0 (clipAt x.cps.toList.length)=0 by rw[hxl];exact Gn hc hb h0,List.drop_zero,jr]
  have:=h t s.toks
  rw[e2]at this
  exact this
 ·rename_i hc
  simp only[Option.map_none,Option.getD_none]
  refine rwr (e1 ..) ?_
  exact⟨by refine rwr (sizeLine_eq ..) ?_;simp[mL];lia,h _ _⟩
theorem fV.pv{o:Option Int}{v:Value}(h:fV o v):∃p:Option (Int×Tok),v=partValue p/\p.map (·.1)=o:=by
 cases h with
 |none=>exact⟨Bx,rfl,rfl⟩
 |int i t=>exact⟨some (i,t),rfl,rfl⟩
theorem Ht{x:List UInt8}{lo hi:Option Int}(h1:gD lo)(h2:gD hi):KBy.picked x.toArray lo hi=(cut x lo hi).toArray:=by
 refine rwr (KBc.picked_eq ..) (rwr (nG _ h1 h2 ..) ?_)
 simp
theorem bF.push{s:Shared}{fz ad fps m}{o:au}{tk:Nat}(ok:am K k c)(S:bF w.params c st fz ad fps s m):SR w.params c st fz ad fps { s with heap:=s.heap.push o,toks:=tk }/\aA c s fz ad fps { s with heap:=s.heap.push o,toks:=tk } fz ad fps:=by
 have z:=bF.grow (tk:=tk) (h':=s.heap.push o) (fzn:=[]) ok S (λb ob e U=>eA _ e) ((S.1.fr ok).push o).ns λp hp=>nomatch hp
 rwa [bA]at z
theorem aP.adv{s s1:Shared}{fz ad fps fz1 ad1 fps1}{Q:V->St->Prop}{v:Value}{s':Shared}(A:aA c s fz ad fps s1 fz1 ad1 fps1)(B:aP prog w c s1 fz1 ad1 fps1 Q v s'):aP prog w c s fz ad fps Q v s':=by
 obtain⟨V,st',fz',ad',fps',a,r,p,q⟩:=B
 exact⟨V,st',fz',ad',fps',A.trans a,r,p,q⟩
theorem Cb{value slice:Expr}{a:V}{va vl vu:Value}{lo hi:Option Int}{s:Shared}{fz ad fps}{Q:V->St->Prop}(ok:am K k c)(S:SR w.params c st fz ad fps s)(ra:RV w.params (Zf c.base fz) ad a va)(rl:fV lo vl)(ru:fV hi vu)
  (h:qX st.own a lo hi λv=>Q v st) {Ec:Value->Shared->Prop}:wpAny (model prog w) c.A (subscriptTail value slice va (.ref s.heap.objs.size)) (aP prog w c s fz ad fps Q) Ec { s with heap:=s.heap.push { cls:=.type "slice",data:=.fields #[vl,vu,.none] } }:=by
 refine elE1 S.one λm S1=>?_
 have P1:=bF.push (tk:=s.toks) (o:={ cls:=.type "slice",data:=.fields #[vl,vu,.none] }) ok S1
 refine bN h ?_;clear h;refine λh1 h2 h=>?_
 have sl:({ s with heap:=s.heap.push { cls:=.type "slice",data:=.fields #[vl,vu,.none] } }:Shared).heap.IsSliceOf s.heap.objs.size vl vu .none:=Heap.IsSliceOf.new _ _ _ _
 refine ij h (λx e q=>?_) (λq=>iU q (λx e q=>?_) (λq=>?_))
 ·subst e
  refine elE1 ra λt z0=>?_;clear ra;subst z0
  refine ak q λh3 hQ=>?_;clear q
  refine gP (typeIs_bytes _ _ _) pU.lookup (getItem_meets (typeIs_bytes _ _ _) (by decide) pU FB.entry_bytes_getitem (FB.args_bytes_getitem_2 _ _) (KBc.meets_slice2 x.toArray t _ rl.is ru.is)
   ⟨sl,aJ (KBc.size_picked_le _ lo hi) (by refine rwr (sizeLine_eq ..) ?_;simp;lia),λt' kk=>?_⟩)
  refine rwr (Ht h1 h2 ..) ?_
  have P2:=bF.push (tk:=kk) (o:={ cls:=.type "slice",data:=.fields #[vl,vu,.none] }) ok S1
  exact⟨.d (.bytes (cut x lo hi)),st,fz,ad,fps,P2.2,P2.1,⟨t',rfl⟩,hQ⟩
 ·subst e
  refine elE1 ra λt z0=>?_;clear ra;subst z0
  refine ak q λh3 hQ=>?_;clear q
  refine elE1 rl.pv λpl=>ae λe1 e2=>?_
  refine elE1 ru.pv λpu=>ae λe3 e4=>?_
  subst e1 e3
  subst e2 e4
  refine gP (typeIs_str _ _ _) F.slot_str_getitem.lookup (wpAny_getItem_str_slice (l:=pl) (u:=pu) (st:=Bx) ⟨_,dt _ rfl,rfl,rfl⟩ rfl (HT x h1 h2 h3 λt' kk=>?_))
  have P2:=bF.push (tk:=kk) (o:={ cls:=.type "slice",data:=.fields #[partValue pl,partValue pu,.none] }) ok S1
  exact⟨.d (.str _),st,fz,ad,fps,P2.2,P2.1,⟨t',rfl⟩,hQ⟩
 ·refine elE1 (dk q) λvs=>al λh3 h4 hQ=>?_
  refine elE3 (S.lst ok ra h3) λa xs n=>al λz0 e1 r=>?_;subst z0
  have hlen:=RDs.len r
  have hsz:xs.size=vs.length:=by simpa using hlen
  have hl:({ s with heap:=s.heap.push { cls:=.type "slice",data:=.fields #[vl,vu,.none] } }:Shared).heap.IsList a xs:=(bR e1).push _
  refine gP (T := "list") hl.typeIs F.slot_list_getitem.lookup (wpAny_getItem_list_slice hl sl rl.is ru.is .none (by simp) ?_ (by refine rwr (sizeLine_eq ..) ?_;lia))
  have e5:slicePick xs lo hi Bx=(cut xs.toList lo hi).toArray:=by
   refine rwr (slicePick_plain ..) (rwr (nG _ h1 h2 ..) ?_);simp
  refine rwr (e5 ..) ?_
  refine elE1 P1.1.one λm1 S2=>?_
  have F2:=S2.fr ok
  have N2:=(fH { s with heap:=s.heap.push { cls:=.type "slice",data:=.fields #[vl,vu,.none] } }.heap c.base c.L).push F2 { cls:=.type "list",data:=.seq (cut xs.toList lo hi).toArray }
  exact aP.adv P1.2 (aP.list (tk:=s.toks) (n:=0) ok S2 (F2.push _) N2 (λp hp=>cL ((fH _ _ _) p hp).1) (RDs.cut r lo hi) hQ)
end
end

section
open PySem PySem.W PyProof.Rows PySem.SeqAt PySem.MeetsSeq
section
variable {prog:Program}{w:World}
open Builtin PySem.F
theorem IQ:typeLookup (.type "bytes") "__bytes__" = pure (some (.builtin "bytes.__bytes__")):=by refine rwr (typeLookup_type ..) (rwr (builtinLookup_eq_fast ..) ?_);kernel_rfl
theorem K_{x:List UInt8}{t:Tok}{s:Shared}{Q:Value->Shared->Prop}{E:Value->Shared->Prop}{A:Around}(hQ:∀tk,Q (.bytes x.toArray t) { s with toks:=tk }):
  codeAny (model prog w) A (.call (.builtin "bytes.__new__") ⟨[.type "bytes",.bytes x.toArray t],[]⟩) (wants Q E) s:=by
 refine codeAny_of_tree ?_
 show wpAny _ A.in1 (do checkBuiltinCall "bytes.__new__" ⟨[.type "bytes",.bytes x.toArray t],[]⟩;again (.builtin "bytes.__new__" ⟨[.type "bytes",.bytes x.toArray t],[]⟩)) _ _ s
 refine wpAny_bind (wpAny_of_eq (Lo _) (wpAny_pure ⟨plainId_quiet uH _,codeAny_builtin PySem.F.bm_entry ?_⟩))
 refine rwr (uI uH _ ..) ?_
 unfold Builtin.«bytes.__new__»
 refine wpAny_bind (wpAny_of_eq (a:=true) rfl ?_)
 refine bm_if_false rfl ?_
 refine wpAny_bind (wpAny_of_eq PySem.F.bm_sub ?_)
 refine bm_if_false rfl ?_
 refine wpAny_bind (wpAny_of_eq (PySem.F.bm_bind _) ?_)
 refine wpAny_bind (wpAny_of_eq (a:=()) rfl ?_)
 refine wpAny_bind (wpAny_of_eq (a:=()) rfl ?_)
 refine bm_if_false rfl ?_
 refine wpAny_bind (wpAny_specialOf (typeIs_bytes _ _ _) IQ ?_)
 refine wpAny_bind (wpAny_rule ?_)
 refine wpAny_bind (wpAny_typeOf (typeIs_bytes _ x.toArray t) ?_)
 refine bm_if_true rfl ?_
 show wpAny _ _ (if (uJ "bytes" == uJ "bytes")=true then _ else _) _ _ _
 refine bm_if_true (by decide) ?_
 first
  |exact wpAny_pure (hQ _)
  |exact wpAny_bind (wpAny_pure (wpAny_pure (hQ _)))
theorem Dw{x:List UInt8}{t:Tok}{s:Shared}{Q:Value->Shared->Prop}{Ec:Value->Shared->Prop}{A:Around}(h:∀tk,Q (.bytes x.toArray t) { s with toks:=tk }):wpAny (model prog w) A (call (.type "bytes") [.bytes x.toArray t]) Q Ec s:=by
 refine callType_codes (Q₁:=λobj s₁=>s₁.TypeIs obj "bytes" /\ Q obj s₁) mO (Lp _) Lq
  (K_ λtk=>⟨PySem.W.typeIs_bytes _ _ _,h tk⟩) λobj s₁ h₁=>?_
 exact⟨h₁.1,Lr obj _,object_init_meets mO.init.lookup mO.made (by decide) prog w A.in1 _ s₁ ⟨h₁.1,rfl,h₁.2⟩⟩
end
end

section
open PySem PySem.W PyProof.Rows PySem.SeqAt PySem.MeetsSeq
section
variable {prog:Program}{w:World}{M:Model}{A:Around}
open Builtin Builtin.Bytes PySem.F
theorem Fb{α:Type}{l:List α}{f:α->Bool}(h:∀x∈l,f x=false):l.any f=false:=by
 refine rwr (propext (List.any_eq_false ..)) ?_;intro x hx;refine rwr (h x hx ..) ?_;decide
theorem dn{c:Prop}{d:Decidable c}{α:Type}{a:c->α}{b:¬c->α}{z:α}(h:¬c)(k:b h=z):@dite α c d a b=z:=(dif_neg h).trans k
theorem AF{v:Value}{Q:Bool->Shared->Prop}{E:Value->Shared->Prop}{s:Shared}(hg:A.guards=some [])(h:Q false s):ag M A (Bytes.exported v) Q E s:=by
 refine ai (Fo λst h1 h2=>aF ?_)
 have hg':=h1 _ hg
 have eq:∀b:Bool,b=false->Q b s:=λb e=>e▸h
 refine eq _ (Fb ?_)
 intro x hx
 obtain⟨c,p⟩:=x
 have hng:c.isGuard=false:=by
  cases q:c.isGuard with
  |false=>rfl
  |true =>
   have:c∈guardsOf st:=uK.mpr ⟨aW.mpr ⟨_,hx,rfl⟩,q⟩
   exact nomatch (hg'▸this:c∈[])
 have hn:=h2 _ hx
 clear hx
 induction c using Code.casesOn with
 |builtin id args =>
  have bad:∀{x:String},guardIds.contains x=true->¬ id=x:=λh e=>nomatch h.symm.trans (e▸hng:guardIds.contains _=false)
  have hm:decodersThatHold.contains id=false:=(fe _).mp hn
  obtain⟨l,k⟩:=args
  delta L6
  refine dn (bad (by decide +kernel)) (dn (bad (by decide +kernel)) (dn (bad (by decide +kernel)) (dn (bad (by decide +kernel)) (dn (bad (by decide +kernel)) ?_))))
  induction l using List.casesOn with
  |nil=>rfl
  |cons a l=>exact(congrArg (Bytes.sameRef a v && ·) hm).trans (Bool.and_false _)
 |_=>rfl
theorem xA:Slot "bytearray" "append" "bytearray.append" :=
 .of (owner := "bytearray") (n := "append") (by refine rwr (typeLookup_type ..) (rwr (builtinLookup_eq_fast ..) ?_);kernel_rfl) (by decide +kernel) (by decide +kernel) (by decide +kernel)
  (by first | exact .inl (by decide +kernel) | exact .inr (by decide +kernel)) (by refine rwr (isSubtype_type ..) ?_;kernel_rfl)
theorem y_:Slot "bytearray" "extend" "bytearray.extend" :=
 .of (owner := "bytearray") (n := "extend") (by refine rwr (typeLookup_type ..) (rwr (builtinLookup_eq_fast ..) ?_);kernel_rfl) (by decide +kernel) (by decide +kernel) (by decide +kernel)
  (by first | exact .inl (by decide +kernel) | exact .inr (by decide +kernel)) (by refine rwr (isSubtype_type ..) ?_;kernel_rfl)
theorem Kh:entryFor table "bytearray.append" = some Builtin.«bytearray.append» := by first | exact entryFor_of_fast (by kernel_rfl) | exact entryFor_of_tree (by kernel_rfl)
theorem J5:entryFor table "bytearray.extend" = some Builtin.«bytearray.extend» := by first | exact entryFor_of_fast (by kernel_rfl) | exact entryFor_of_tree (by kernel_rfl)
theorem DX(a b:Value):argsOk "bytearray.append" ⟨[a,b],[]⟩:=by unfold argsOk;kernel_rfl
theorem Jj(a b:Value):argsOk "bytearray.extend" ⟨[a,b],[]⟩:=by unfold argsOk;kernel_rfl
theorem r8{E:Value->Shared->Prop}{s:Shared}{T:String}{name:ac}{id:String}{b:Builtin}{self:Value}{rest:List Value}{Q:Value->Shared->Prop}(h:Slot T name id)(hT:s.TypeIs self T)(hb:entryFor table id=some b)(hn:(!(decodersThatHold.contains id))=true)
  (hc:ag (model prog w) A.in1 (b ⟨self::rest,[]⟩) (λfin s'=>∃v,fin=.done (.ret v)/\Q v s') E s) (ha:argsOk id ⟨self::rest,[]⟩):ag (model prog w) A (call (.builtin id) (self::rest)) Q E s:=by
 refine jP (yP hn (plainId_quiet h.plain _) hb (h.check _ _ _ _ _ _ _ _ hT ha ?_))
 refine rwr (uI h.plain _ ..) ?_
 refine aD hc (λfin s' h'=>?_) λU U h'=>h'
 refine elE1 h' λv=>ae λz0 hv=>?_;clear h';subst z0;exact hv
noncomputable def eu(x:List UInt8):au:={ cls:=.type "bytearray",data:=.bytearray x.toArray 0 }
theorem wX{a:Addr}{x:List UInt8}{Q:Unit->Shared->Prop}{E:Value->Shared->Prop}{s:Shared}(hg:A.guards=some [])(e:s.heap.get? a=some (eu x))(h:Q () s):ag M A (checkResize (.ref a)) Q E s:=by
 unfold checkResize
 refine ai (ai (AF hg ?_))
 show ag M A (exportsOf (.ref a) >>= λn=>pure (decide (n>0))) _ _ s
 unfold exportsOf
 refine ai (ai (wpAny.n (wpAny_load e ?_)))
 show ag M A (pure 0) _ _ s
 refine aF (aF ?_)
 exact aF h
theorem tU{a:Addr}{x y:List UInt8}{f:Array UInt8->Array UInt8}{Q:Unit->Shared->Prop}{E:Value->Shared->Prop}{s:Shared}(e:s.heap.get? a=some (eu x))(hf:f x.toArray=y.toArray)(hl:y.length<=2000000)
  (h:Q () { s with heap:=s.heap.update a (BJ f) }):wpAny M A (Bytes.write (.ref a) f) Q E s:=by
 show wpAny _ _ (updateBytearray a f) _ _ _
 unfold updateBytearray
 refine wpAny_bind (wpAny_load e ?_)
 show wpAny _ _ (update a (BJ f) >>= λU=>lookBehind a) _ _ _
 refine wpAny_bind (wpAny_update e ?_)
 have hS:(s.heap.update a (BJ f)).get? a=some (eu y):=by
  refine rwr (uL _ e rfl ..) ?_
  show some ({ cls:=_,data:=.bytearray (f x.toArray) 0 }:au)=_
  refine rwr (hf ..) ?_;rfl
 refine wpAny_lookBehind hS ?_ h
 show (if y.toArray.size>sizeLine then some "bytearray:memory" else Bx)=Bx
 rw[if_neg]
 rw[sizeLine_eq,BK];lia
theorem Ku{x:List UInt8}{cc:UInt8}{t:Tok}{a:Addr}{s:Shared}{Q:Value->Shared->Prop}{Ec:Value->Shared->Prop}(hg:A.guards=some [])(e:s.heap.get? a=some { cls:=.type "bytearray",data:=.bytearray x.toArray 0 })(hl:x.length<=1000000)
  (h:∀h' tk,mP a s.heap h'->h'.get? a=some { cls:=.type "bytearray",data:=.bytearray (x++[cc]).toArray 0 }->Q .none { s with heap:=h',toks:=tk }):ag (model prog w) A (call (.builtin "bytearray.append") [.ref a,.int cc.toNat t]) Q Ec s:=by
 refine r8 xA ⟨_,e,rfl⟩ Kh (by decide +kernel) ?_ (DX _ _)
 unfold Builtin.«bytearray.append»
 refine ai (fY (a:=(.ref a,.int cc.toNat t)) rfl ?_)
 dsimp only
 have hc:=cc.toNat_lt
 have bv:byteValue (.int cc.toNat t)=pure cc:=by
  unfold byteValue
  show (if (decide ((cc.toNat:Int)<0)||decide ((cc.toNat:Int) ≥ 256))=true then _ else _)=_
  have:(decide ((cc.toNat:Int)<0)||decide ((cc.toNat:Int) ≥ 256))=false:=by
   simp only[Bool.or_eq_false_iff,decide_eq_false_iff_not];lia
  rw[if_neg (by rw[this];decide)]
  simp
 refine ai (fY bv ?_)
 refine ai (wX (A:=A.in1) hg e ?_)
 refine ai (wpAny.n (tU (y:=x++[cc]) e (by simp) (by simp;lia) ?_))
 refine aF ⟨.none,rfl,h _ s.toks (BL ..) ?_⟩
 refine rwr (uL _ e rfl ..) ?_
 show some ({ cls:=_,data:=.bytearray (x.toArray.push cc) 0 }:au)=_
 simp
end
end

section
open PySem PySem.W PyProof.Rows PySem.SeqAt PySem.MeetsSeq
set_option maxRecDepth 100000
section
variable {prog:Program}{w:World}{M:Model}{A:Around}
open Builtin Builtin.Bytes PySem.F
theorem jD:typeLookup (.type "bytes") "__buffer__" = pure (some (.builtin "bytes.__buffer__")):=by refine rwr (typeLookup_type ..) (rwr (builtinLookup_eq_fast ..) ?_);kernel_rfl
theorem sJ:typeLookup (.type "bytearray") "__buffer__" = pure (some (.builtin "bytearray.__buffer__")):=by refine rwr (typeLookup_type ..) (rwr (builtinLookup_eq_fast ..) ?_);kernel_rfl
theorem Cj:typeLookup (.type "bytes") "__release_buffer__" = pure Bx:=by refine rwr (typeLookup_type ..) (rwr (builtinLookup_eq_fast ..) ?_);kernel_rfl
theorem DL:typeLookup (.type "bytearray") "__release_buffer__" = pure (some (.builtin "bytearray.__release_buffer__")):=by refine rwr (typeLookup_type ..) (rwr (builtinLookup_eq_fast ..) ?_);kernel_rfl
theorem Bg:("bytes.__buffer__".endsWith ("." ++ "__buffer__"))=true:=by decide +kernel
theorem FO:("bytearray.__buffer__".endsWith ("." ++ "__buffer__"))=true:=by decide +kernel
theorem HP:("bytearray.__release_buffer__".endsWith ("." ++ "__release_buffer__"))=true:=by decide +kernel
theorem yy: "bytes.__buffer__".dropRight ("__buffer__".length+1) = "bytes" := by decide +kernel
theorem Jd: "bytearray.__buffer__".dropRight ("__buffer__".length+1) = "bytearray" := by decide +kernel
theorem HQ: "bytearray.__release_buffer__".dropRight ("__release_buffer__".length+1) = "bytearray" := by decide +kernel
theorem yv:isSubtype (.type "bytes") (.type "bytes")=pure true:=by refine rwr (isSubtype_type ..) ?_;kernel_rfl
theorem tC:isSubtype (.type "bytearray") (.type "bytearray")=pure true:=by refine rwr (isSubtype_type ..) ?_;kernel_rfl
variable {E:Value->Shared->Prop}{s:Shared}
theorem iS{α:Type}{c:Bool}{a b:Sem α}{Q:α->Shared->Prop}(hc:c=false)(h:ag M A b Q E s):ag M A (if c=true then a else b) Q E s:=by
 subst hc
 exact h
theorem xI{α:Type}{c:Bool}{a b:Sem α}{Q:α->Shared->Prop}(hc:c=true)(h:ag M A a Q E s):ag M A (if c=true then a else b) Q E s:=by
 subst hc
 exact h
theorem nZ{v:Value}{T id n:String}{Q:Bool->Shared->Prop}(hT:s.TypeIs v T)(hl:typeLookup (.type T) (n:ac)=pure (some (.builtin id)))(h1:id.endsWith ("." ++ n)=true)(h2:id.dropRight (n.length+1)=T)(h3:isSubtype (.type T) (.type T)=pure true)(h:Q true s):wpAny M A (slotIsOwn v n) Q E s:=by
 unfold slotIsOwn
 refine wpAny_bind (wpAny_specialOf hT hl ?_)
 dsimp only
 refine rwr (h1 ..) (rwr (h2 ..) ?_)
 refine bm_if_false rfl ?_
 exact wpAny_isInstance hT h3 h
theorem Il{v:Value}{T n:String}{Q:Bool->Shared->Prop}(hT:s.TypeIs v T)(hl:typeLookup (.type T) (n:ac)=pure Bx)(h:Q true s):wpAny M A (slotIsOwn v n) Q E s:=by
 unfold slotIsOwn
 refine wpAny_bind (wpAny_specialOf hT hl ?_)
 exact wpAny_pure h
theorem Ks{x:Array UInt8}{t:Tok}{Q:Bool->Shared->Prop}(h:Q false s):wpAny M A (ownRelease (.bytes x t)) Q E s:=by
 unfold ownRelease
 exact wpAny_bind (Il (PySem.W.typeIs_bytes _ _ _) Cj (wpAny_pure h))
theorem vY{a:Addr}{x:List UInt8}{Q:Bool->Shared->Prop}(e:s.heap.get? a=some (eu x))(h:Q false s):wpAny M A (ownRelease (.ref a)) Q E s:=by
 unfold ownRelease
 exact wpAny_bind (nZ (T := "bytearray") ⟨_,e,rfl⟩ DL HP HQ tC (wpAny_pure h))
theorem Jw{x:Array UInt8}{t:Tok}{Q:Array UInt8->Shared->Prop}(h:Q x s):wpAny M A (Bytes.payload (.bytes x t)) Q E s:=by
 unfold Bytes.payload
 exact wpAny_bind (wpAny_of_eq (a:=some x) rfl (wpAny_pure h))
theorem yH{a:Addr}{x:List UInt8}{Q:Array UInt8->Shared->Prop}(e:s.heap.get? a=some (eu x))(h:Q x.toArray s):wpAny M A (Bytes.payload (.ref a)) Q E s:=by
 unfold Bytes.payload Bytes.payload?
 refine wpAny_bind (wpAny_bind (wpAny_load e ?_))
 exact wpAny_pure (wpAny_pure h)
theorem JS{id:String}{x:Array UInt8}{t:Tok}{full:Bool}{Q:Option (Array UInt8)->Shared->Prop}(h:Q (some x) s):wpAny M A (buffer? id (.bytes x t) full) Q E s:=by
 have hT:=PySem.W.typeIs_bytes s x t
 unfold buffer?
 refine wpAny_bind (wpAny_specialOf hT jD ?_)
 dsimp only
 refine wpAny_bind (nZ hT jD Bg yy yv ?_)
 refine bm_if_false rfl ?_
 refine wpAny_bind (wpAny_specialOf hT jD ?_)
 refine wpAny_bind (Ks ?_)
 refine bm_if_false rfl ?_
 exact wpAny_bind (Jw (wpAny_pure h))
theorem JD{id:String}{a:Addr}{x:List UInt8}{full:Bool}{Q:Option (Array UInt8)->Shared->Prop}(e:s.heap.get? a=some (eu x))(h:Q (some x.toArray) s):wpAny M A (buffer? id (.ref a) full) Q E s:=by
 have hT:s.TypeIs (.ref a) "bytearray" := ⟨_,e,rfl⟩
 unfold buffer?
 refine wpAny_bind (wpAny_specialOf hT sJ ?_)
 dsimp only
 refine wpAny_bind (nZ hT sJ FO Jd tC ?_)
 refine bm_if_false rfl ?_
 refine wpAny_bind (wpAny_specialOf hT sJ ?_)
 refine wpAny_bind (vY e ?_)
 refine bm_if_false rfl ?_
 exact wpAny_bind (yH e (wpAny_pure h))
theorem CG{id:String}{x:Array UInt8}{t:Tok}{Q:Option (Array UInt8×Option Value)->Shared->Prop}(h:Q (some (x,Bx)) s):wpAny M A (takeBufferQuiet? id (.bytes x t) 0) Q E s:=by
 have hT:=PySem.W.typeIs_bytes s x t
 unfold takeBufferQuiet? takeBuffer?
 refine wpAny_bind (wpAny_attempt ?_)
 refine wpAny_bind (wpAny_specialOf hT jD ?_)
 dsimp only
 refine wpAny_bind (nZ hT jD Bg yy yv ?_)
 refine bm_if_false rfl ?_
 refine wpAny_bind (wpAny_specialOf hT jD ?_)
 refine wpAny_bind (JS ?_)
 exact wpAny_pure (wpAny_pure h)
theorem EH{x y:List UInt8}{t:Tok}{a:Addr}{s:Shared}{Q:Value->Shared->Prop}{Ec:Value->Shared->Prop}(hg:A.guards=some [])(e:s.heap.get? a=some { cls:=.type "bytearray",data:=.bytearray x.toArray 0 })(hl:x.length+y.length<=1000000)
  (h:∀h' tk,mP a s.heap h'->h'.get? a=some { cls:=.type "bytearray",data:=.bytearray (x++y).toArray 0 }->Q .none { s with heap:=h',toks:=tk }):ag (model prog w) A (call (.builtin "bytearray.extend") [.ref a,.bytes y.toArray t]) Q Ec s:=by
 refine r8 y_ ⟨_,e,rfl⟩ J5 (by decide +kernel) ?_ (Jj _ _)
 unfold Builtin.«bytearray.extend»
 refine ai (fY (a:=(.ref a,.bytes y.toArray t)) rfl ?_)
 dsimp only
 refine ai (wpAny.n (wpAny_specialOf (PySem.W.typeIs_bytes _ _ _) jD ?_))
 simp only[Option.isSome,if_true]
 refine ai (pk ?_)
 refine ai (wpAny.n (yH e ?_))
 refine ai (wpAny.n (CG ?_))
 dsimp only
 refine xI rfl ?_
 have tail:∀A',wpAny (model prog w) A' (Bytes.write (.ref a) (· ++ y.toArray) >>= λU=>ret .none) (λfin s'=>∃v,fin=.done (.ret v)/\Q v s') Ec s:=λA'=>by
  refine wpAny_bind (tU (y:=x++y) e (by simp) (by simp;lia) ?_)
  refine wpAny_pure ⟨.none,rfl,h _ s.toks (BL ..) ?_⟩
  refine rwr (uL _ e rfl ..) ?_
  show some ({ cls:=_,data:=.bytearray (x.toArray++y.toArray) 0 }:au)=_
  simp
 show ag _ _ (ite ((!y.toArray.isEmpty)=true) (checkResize (.ref a) >>= λU=>Bytes.write (.ref a) (· ++ y.toArray) >>= λU=>ret .none) (Bytes.write (.ref a) (· ++ y.toArray) >>= λU=>ret .none)) _ _ _
 cases q : !y.toArray.isEmpty with
 |false=>exact iS rfl (wpAny.n (tail _))
 |true=>exact xI rfl (ai (wX (A:=A.in1) hg e (wpAny.n (tail _))))
theorem H7:typeLookup (.type "bytearray") "__bytes__" = pure Bx:=by refine rwr (typeLookup_type ..) (rwr (builtinLookup_eq_fast ..) ?_);kernel_rfl
theorem KW:typeLookup (.type "bytearray") "__index__" = pure Bx:=by refine rwr (typeLookup_type ..) (rwr (builtinLookup_eq_fast ..) ?_);kernel_rfl
theorem Eh{x:List UInt8}{a:Addr}{s:Shared}{Q:Value->Shared->Prop}{E:Value->Shared->Prop}(e:s.heap.get? a=some (eu x))(hl:x.length<=1000000)(hQ:∀t tk,Q (.bytes x.toArray t) { s with toks:=tk }):
  codeAny (model prog w) A (.call (.builtin "bytes.__new__") ⟨[.type "bytes",.ref a],[]⟩) (wants Q E) s:=by
 refine codeAny_of_tree ?_
 show wpAny _ A.in1 (do checkBuiltinCall "bytes.__new__" ⟨[.type "bytes",.ref a],[]⟩;again (.builtin "bytes.__new__" ⟨[.type "bytes",.ref a],[]⟩)) _ _ s
 refine wpAny_bind (wpAny_of_eq (Lo _) (wpAny_pure ⟨plainId_quiet uH _,codeAny_builtin PySem.F.bm_entry ?_⟩))
 refine rwr (uI uH _ ..) ?_
 have hT:s.TypeIs (.ref a) "bytearray" := ⟨_,e,rfl⟩
 unfold Builtin.«bytes.__new__»
 refine wpAny_bind (wpAny_of_eq (a:=true) rfl ?_)
 refine bm_if_false rfl ?_
 refine wpAny_bind (wpAny_of_eq PySem.F.bm_sub ?_)
 refine bm_if_false rfl ?_
 refine wpAny_bind (wpAny_of_eq (PySem.F.bm_bind _) ?_)
 refine wpAny_bind (wpAny_of_eq (a:=()) rfl ?_)
 refine wpAny_bind (wpAny_of_eq (a:=()) rfl ?_)
 refine bm_if_false rfl ?_
 refine wpAny_bind (wpAny_specialOf hT H7 ?_)
 refine wpAny_bind (wpAny_bind ?_)
 show wpAny _ _ (load a >>= _) _ _ _
 refine wpAny_bind (wpAny_load e ?_)
 refine wpAny_pure (wpAny_pure ?_)
 refine bm_if_false rfl ?_
 refine wpAny_bind (wpAny_specialOf hT KW ?_)
 refine bm_if_true rfl ?_
 first
  |show wpAny _ _ (Ls "bytes.__new__" (.ref a) true >>= _) _ _ _
  |(refine wpAny_bind ?_;show wpAny _ _ (Ls "bytes.__new__" (.ref a) true >>= _) _ _ _)
 refine wpAny_bind (JD e ?_)
 refine wpAny_bind (wpAny_rule ?_)
 refine wpAny_bind (wpAny_mkBytes ?_ (by refine rwr (sizeLine_eq ..) (rwr (BK ..) ?_);lia))
 show wpAny _ _ (if (uJ "bytes" == uJ "bytes")=true then _ else _) _ _ _
 refine bm_if_true (by decide) ?_
 first
  |exact wpAny_pure (hQ _ _)
  |exact wpAny_bind (wpAny_pure (wpAny_pure (hQ _ _)))
  |exact wpAny_pure (wpAny_pure (hQ _ _))
  |exact wpAny_bind (wpAny_pure (wpAny_pure (wpAny_pure (hQ _ _))))
theorem G4{x:List UInt8}{a:Addr}{s:Shared}{Q:Value->Shared->Prop}{Ec:Value->Shared->Prop}(e:s.heap.get? a=some { cls:=.type "bytearray",data:=.bytearray x.toArray 0 })(hl:x.length<=1000000)(h:∀t tk,Q (.bytes x.toArray t) { s with toks:=tk }):wpAny (model prog w) A (call (.type "bytes") [.ref a]) Q Ec s:=by
 refine callType_codes (Q₁:=λobj s₁=>s₁.TypeIs obj "bytes" /\ Q obj s₁) mO (Lp _) Lq
  (Eh e hl λt tk=>⟨PySem.W.typeIs_bytes _ _ _,h t tk⟩) λobj s₁ h₁=>?_
 exact⟨h₁.1,Lr obj _,object_init_meets mO.init.lookup mO.made (by decide) prog w A.in1 _ s₁ ⟨h₁.1,rfl,h₁.2⟩⟩
end
end

section
open PySem PySem.W PyProof.Rows PySem.SeqAt PySem.MeetsSeq
set_option maxRecDepth 100000
section
variable {prog:Program}{w:World}{A:Around}
open Builtin Builtin.Bytes PySem.F
theorem AQ:PlainAttrs "bytearray" :=
 ⟨⟨"bytearray.__getattribute__",by refine rwr (typeLookup_type ..) (rwr (builtinLookup_eq_fast ..) ?_);kernel_rfl,by decide +kernel⟩,by refine rwr (typeLookup_type ..) (rwr (builtinLookup_eq_fast ..) ?_);kernel_rfl⟩
theorem CH:typeOf (.builtin "bytearray.append")=pure (.type "method_descriptor"):=by show builtinType _=_;refine rwr (builtinType_eq_fast ..) ?_;kernel_rfl
theorem Dm:typeOf (.builtin "bytearray.extend")=pure (.type "method_descriptor"):=by show builtinType _=_;refine rwr (builtinType_eq_fast ..) ?_;kernel_rfl
theorem rH:mroOf (.type "bytearray")=pure [.type "bytearray",.type "object"]:=by refine rwr (mroOf_type ..) ?_;kernel_rfl
theorem Dx:typeLookup (.type "bytearray") "__new__" = pure (some (.builtin "bytearray.__new__")):=by refine rwr (typeLookup_type ..) (rwr (builtinLookup_eq_fast ..) ?_);kernel_rfl
theorem AT:Slot "bytearray" "__init__" "bytearray.__init__" :=
 .of (owner := "bytearray") (n := "__init__") (by refine rwr (typeLookup_type ..) (rwr (builtinLookup_eq_fast ..) ?_);kernel_rfl) (by decide +kernel) (by decide +kernel) (by decide +kernel)
  (by first | exact .inl (by decide +kernel) | exact .inr (by decide +kernel)) (by refine rwr (isSubtype_type ..) ?_;kernel_rfl)
theorem C3:TypeCalled "bytearray" "bytearray.__new__" "bytearray.__init__" :=
 ⟨by decide +kernel,by decide +kernel,⟨_,_,rH⟩,madeBy_type rH Dx (by decide +kernel),by decide +kernel,by refine rwr (isSubtype_type ..) ?_;kernel_rfl,AT⟩
theorem KO:checkTypeCall "bytearray" ⟨[],[]⟩=pure ():=by kernel_rfl
theorem D3:checkBuiltinCall "bytearray.__new__" ⟨[.type "bytearray"],[]⟩=pure ():=by kernel_rfl
theorem F4:entryFor table "bytearray.__new__" = some Builtin.«list.__new__» :=
 entryFor_alias (id' := "list.__new__") (by kernel_rfl) rfl (by decide +kernel) (by kernel_rfl)
theorem K1:entryFor table "bytearray.__init__" = some Builtin.«bytearray.__init__» := by first | exact entryFor_of_fast (by kernel_rfl) | exact entryFor_of_tree (by kernel_rfl)
theorem Bu:plainId "bytearray.__new__" = true:=by decide +kernel
set_option maxHeartbeats 4000000 in
theorem DD:("bytearray.__new__".splitOn ".__new__").headD "" = "bytearray" := by refine rwr (splitQ_eq ..) ?_;decide +kernel
theorem Ie(a:Value):argsOk "bytearray.__init__" ⟨[a],[]⟩:=by unfold argsOk;kernel_rfl
theorem L1:Builtin.Bytes.bindOptional "bytearray.__init__" "bytearray" ["source", "encoding", "errors"] [] []=pure [Bx,Bx,Bx]:=by kernel_rfl
variable {E:Value->Shared->Prop}{s:Shared}
theorem I9{x:List UInt8}{a:Addr}{s:Shared}{pl:Sem Bool}{Q:Value×List Value->Shared->Prop}{Ec:Value->Shared->Prop}(e:s.heap.get? a=some { cls:=.type "bytearray",data:=.bytearray x.toArray 0 })(h:Q (.builtin "bytearray.append",[.ref a]) s):wpAny (model prog w) A (getMethod (.ref a) (aa "append") pl) Q Ec s :=
 getMethod_builtin ⟨_,e,rfl⟩ AQ xA CH (λa e'=>by cases e';exact⟨_,e,rfl⟩) h
theorem HG{x:List UInt8}{a:Addr}{s:Shared}{pl:Sem Bool}{Q:Value×List Value->Shared->Prop}{Ec:Value->Shared->Prop}(e:s.heap.get? a=some { cls:=.type "bytearray",data:=.bytearray x.toArray 0 })(h:Q (.builtin "bytearray.extend",[.ref a]) s):wpAny (model prog w) A (getMethod (.ref a) (aa "extend") pl) Q Ec s :=
 getMethod_builtin ⟨_,e,rfl⟩ AQ y_ Dm (λa e'=>by cases e';exact⟨_,e,rfl⟩) h
theorem Kl{Q₁:Value->Shared->Prop}
  (h:Q₁ (.ref s.heap.objs.size) { s with heap:=s.heap.push (eu []) }):
  codeAny (model prog w) A (.call (.builtin "bytearray.__new__") ⟨[.type "bytearray"],[]⟩) (wants Q₁ E) s:=by
 refine codeAny_of_tree ?_
 show wpAny _ A.in1 (do checkBuiltinCall "bytearray.__new__" ⟨[.type "bytearray"],[]⟩;again (.builtin "bytearray.__new__" ⟨[.type "bytearray"],[]⟩)) _ _ s
 refine wpAny_bind (wpAny_of_eq D3 (wpAny_pure ⟨plainId_quiet Bu _,codeAny_builtin_stack F4 rfl λp st=>?_⟩))
 refine rwr (uI Bu _ ..) ?_
 have hsub:=tC
 have hown:=DD
 obtain⟨hp,g,d,tk,os⟩:=s
 simp only[hown]
 wp_walk
 exact h
theorem JM{id:String}{args:Args}{b:Builtin}{s:Shared}{R:Result->Shared->Prop}(hn:(!(decodersThatHold.contains id))=true)(hb:entryFor table id=some b)
  (h:ag (model prog w) (A.under (.builtin id args)) (b args) (λfin s'=>match fin with | .done f=>R (.ok f) s' | .again c'=>c'.quiet=true/\bh (model prog w) A c' R s') (λe s'=>R (.error e) s') s):bh (model prog w) A (.builtin id args) R s:=by
 refine ge hn ?_
 show ag _ _ (match entryFor table id with | some b=>b args | Bx=>unsupported ((withoutEnding? id "#data").getD id)) _ _ s
 refine rwr (hb ..) ?_;exact h
theorem Kj(a:Addr):Builtin.«bytearray.__init__» ⟨[.ref a],[]⟩=(do
  if <-ownRelease (.ref a) then unsupported "bytearray.__init__:own-__release_buffer__-on-a-subclass"
  if <-Bytes.exported (.ref a) <||> (do return (<-exportsOf (.ref a))>0) then
   if !(<-Bytes.payload (.ref a)).isEmpty then checkResize (.ref a)
   unsupported "bytearray.__init__:exported"
  write (.ref a) λU => #[]
  ret .none):=by kernel_rfl
theorem Hc{a:Addr}{Q:Value->Shared->Prop}(hg:A.guards=some [])(e:s.heap.get? a=some (eu []))
  (h:∀h',mP a s.heap h'->h'.get? a=some (eu [])->Q .none { s with heap:=h' }):ag (model prog w) A (call (.builtin "bytearray.__init__") [.ref a]) Q E s:=by
 refine r8 AT ⟨_,e,rfl⟩ K1 (by decide +kernel) ?_ (Ie _)
 refine rwr (Kj ..) ?_
 refine ai (wpAny.n (vY e ?_))
 refine iS rfl ?_
 refine ai (ai (AF (A:=A.in1) hg ?_))
 show ag _ _ (exportsOf (.ref a) >>= λn=>pure (decide (n>0))) _ _ s
 unfold exportsOf
 refine ai (ai (wpAny.n (wpAny_load e ?_)))
 show ag _ _ (pure 0) _ _ s
 refine aF (aF ?_)
 refine iS rfl ?_
 refine ai (wpAny.n (tU (y:=[]) e rfl (by simp) ?_))
 refine aF ⟨.none,rfl,h _ (BL ..) ?_⟩
 refine rwr (uL _ e rfl ..) ?_
 rfl
theorem Ju{Q:Value->Shared->Prop}(hg:A.guards=some [])(h:∀h',(∀b o,s.heap.get? b=some o->h'.get? b=some o)->h'.get? s.heap.objs.size=some (eu [])->Q (.ref s.heap.objs.size) { s with heap:=h' }):ag (model prog w) A (call (.type "bytearray") []) Q E s:=by
 have ft:=C3
 refine jP (ge rfl ?_)
 show ag _ _ (callAny (.type "bytearray") _) _ _ _
 refine aF (a:=Fin.again (.builtin "type.__call__" ⟨[.type "bytearray"],[]⟩)) ⟨Code.quiet_builtin _ (by decide +kernel),JM (by decide +kernel) PySem.F.entry_type_call ?_⟩
 refine rwr (Around.under_plain (weight_type_call_type "bytearray" [] []) rfl ..) ?_
 unfold Builtin.«type.__call__»
 dsimp only
 refine iS ft.notType ?_
 refine iS ft.canCreate ?_
 refine ai (fY KO ?_)
 refine ai (fY rH ?_)
 refine iS rfl ?_
 refine ai (fY ft.made ?_)
 dsimp only
 refine ai (aF ?_)
 refine ai (bC (wpAny.n (wpAny_call (codeAny_mono (Kl (E:=λU U=>False) (Q₁:=λv s'=>v=.ref s.heap.objs.size/\s'={ s with heap:=s.heap.push (eu []) }) ⟨rfl,rfl⟩) λr s' hr=>?_))))
 rcases r with e | (v | _ | _ | _) <;>first | exact hr.elim | skip
 refine ak hr λz0 z1=>?_;clear hr;subst z0;subst z1
 have hx:(s.heap.push (eu [])).get? s.heap.objs.size=some (eu []):=dt _ rfl
 have hT:({ s with heap:=s.heap.push (eu []) }:Shared).TypeIs (.ref s.heap.objs.size) "bytearray" := ⟨_,hx,rfl⟩
 refine ai (wpAny.n (wpAny_isInstance hT ft.sub ?_))
 refine iS rfl ?_
 unfold callSpecial?
 refine ai (bC (ai (wpAny.n (wpAny_specialOf hT ft.init.lookup ?_))))
 dsimp only
 refine bC (ai (fY (ft.init.bind _) ?_))
 dsimp only
 refine ai (Hc (A:=A.in1) hg hx λh' hs ho=>?_)
 refine aF ?_
 dsimp only
 refine iS (by decide) ?_
 refine aF ?_
 refine h h' (λb o e=>(hs.2 b λq=>?_).trans (eA _ e)) ho
 rw[q]at e
 exact absurd (cL e) (fM _)
end
end

section
open PySem PySem.W PyProof.Rows PySem.SeqAt PySem.MeetsSeq
section
variable {prog:Program}{w:World}{K:Frag}{k:Nat}{c:FC}{st:St}{X:Nat->St->Prop}
theorem IntsAre.ofD{P:Params}{Z:Zt}:∀{ns:List Int} {xs:List Value},RDs P Z (ns.map D.int) xs->IntsAre xs ns
 |[],_,h=>by have h:_=_:=h;subst h;exact .nil
 |n::r,_,h=>by
  refine elE2 h λx ys=>al λz0=>uE1 λt z1 h2=>?_;clear h;subst z0;subst z1
  exact .cons n t (IntsAre.ofD h2)
theorem IntsAre.toD{P:Params}{Z:Zt}:∀{ns:List Int} {xs:List Value},IntsAre xs ns->RDs P Z (ns.map D.int) xs
 |_,_,.nil=>rfl
 |_,_,.cons n t r=>by
  exact(ex2 _ _ ⟨rfl,⟨t,rfl⟩,IntsAre.toD r⟩)
theorem aP.kept{s:Shared}{fz ad fps}{h':Heap}{tk:Nat}{Q:V->St->Prop}{V:V}{v:Value}(ok:am K k c)(S:SR w.params c st fz ad fps s)(hk:∀b o,s.heap.get? b=some o->h'.get? b=some o)
  (rv:RV w.params (Zf c.base fz) ad V v) (hQ:Q V st):aP prog w c s fz ad fps Q v { s with heap:=h',toks:=tk }:=by
 refine elE1 S.one λm S1=>?_
 have z:=bF.grow (tk:=tk) (h':=h') (fzn:=[]) ok S1 (λb ob e U=>hk _ _ e) ((S1.fr ok).keeps hk).ns λp hp=>nomatch hp
 rw[bA]at z
 exact⟨V,st,fz,ad,fps,z.2,z.1,rv,hQ⟩
theorem Ff{a:V}{va:Value}{s:Shared}{fz ad fps}{Q:V->St->Prop}(ok:am K k c)(S:SR w.params c st fz ad fps s)(ra:RV w.params (Zf c.base fz) ad a va)
  (h:wy st.own a λn=>Q (.d (.int n)) st) {Ec:Value->Shared->Prop} {A:Around}:wpAny (model prog w) A (call (.builtin "len") [va]) (aP prog w c s fz ad fps Q) Ec s:=by
 refine ij h (λx e q=>?_) (λq=>iU q (λx e q=>?_) (λq=>?_))
 ·refine elE1 (ra.dat e) λt z0=>?_;subst z0
  exact len_bytes (by have:=q.1;simp;lia) (.tok S q.2 ⟨s.toks+1,rfl⟩)
 ·refine elE1 (ra.dat e) λt z0=>?_;subst z0
  exact P.len_str (by have:=q.1;lia) (.tok S q.2 ⟨_,rfl⟩)
 ·refine elE1 (dk q) λvs=>al λh1 h2 h3=>?_
  refine elE3 (S.lst ok ra h1) λa xs n=>al λz0 e1 r=>?_;subst z0
  have hlen:=RDs.len r
  have hsz:xs.size=vs.length:=by simpa using hlen
  refine Calls.call_len_list (bR e1) (by refine rwr (hsz ..) ?_;lia) (.tok S h3 ⟨s.toks+1,?_⟩)
  exact rwr (hsz ..) rfl
theorem Dc{a:V}{va:Value}{s:Shared}{fz ad fps}{kk:Bool->Prop}(ok:am K k c)(S:SR w.params c st fz ad fps s)(ra:RV w.params (Zf c.base fz) ad a va)
  (h:q_ st.own a kk) {Ec:Value->Shared->Prop}:wpAny (model prog w) c.A (truthy va) (λq s'=>kk q/\∃tk,s'={ s with toks:=tk }) Ec s:=by
 refine qY h (λx e q=>?_) (λq=>?_)
 ·have:va=_:=ra.dat e
  subst this
  exact wpAny_truthy_bool ⟨q,s.toks,rfl⟩
 ·refine elE1 (dk q) λvs=>al λh1 h2 h3=>?_
  refine elE3 (S.lst ok ra h1) λa xs n=>al λz0 e1 r=>?_;subst z0
  have hlen:=RDs.len r
  have hsz:xs.size=vs.length:=by simpa using hlen
  refine wpAny_truthy_list (bR e1) (by lia) ⟨?_,_,rfl⟩
  have:xs.isEmpty=vs.isEmpty:=by rewrite[Array.isEmpty];refine rwr (hsz ..) ?_;cases vs <;>simp
  refine rwr (this ..) ?_;exact h3
theorem GG{bs:List UInt8}:byteArr (bs.map λc=>(c.toNat:Int))=bs.toArray:=by
 unfold byteArr
 congr 1
 refine rwr (dP ..) ?_
 conv=>rhs;rw[<-List.map_id bs]
 refine j_ λc U=>?_
 simp
theorem GH(bs:List UInt8):bs.map (λc=>D.int c.toNat)=(bs.map λc=>(c.toNat:Int)).map D.int:=by simp
theorem D8{bs:List UInt8}{va:Value}{a:V}{s:Shared}{fz ad fps}{Q:V->St->Prop}(ok:am K k c)(S:SR w.params c st fz ad fps s)(ra:RV w.params (Zf c.base fz) ad a va)
  (e:d9 st.own a=some (bs.map λc=>D.int c.toNat)) (hl:bs.length<=1000000) (hQ:Q (.d (.bytes bs)) st) {Ec:Value->Shared->Prop}:wpAny (model prog w) c.A (call (.type "bytes") [va]) (aP prog w c s fz ad fps Q) Ec s:=by
 refine elE3 (S.lst ok ra e) λa xs n=>al λz0 e1 r=>?_;subst z0
 rw[GH]at r
 refine call_bytes_ints (vs:=xs.toList) (ns:=bs.map λc=>(c.toNat:Int)) (by refine rwr (uA ..) ?_;exact bR e1) (IntsAre.ofD r) (λn hn=>?_) (by refine rwr (RDs.len r ..) (rwr (sizeLine_eq ..) ?_);simp;lia) ok.hh λh' t' kk hk=>?_
 ·refine elE1 (aW.mp hn) λb=>ae λU z0=>?_;subst z0
  have:=b.toNat_lt
  lia
 ·refine rwr (GG ..) ?_
  exact aP.kept (V:=.d (.bytes bs)) ok S hk ⟨t',rfl⟩ hQ
noncomputable def eE(b:Nat):Value:=List.getD [.builtin "len",.type "bytes",.type "bytearray",.type "str",.builtin "sum",.builtin "min",.builtin "max",.type "tuple",.builtin "sorted"] b (.type "range")
theorem Gd{b:Nat}{a:Addr}:eE b≠.ref a:=by
 have H:∀(l:List Value) (b:Nat),(∀v∈l,v≠.ref a)->l.getD b (.type "range")≠.ref a:=λl=>by
  induction l with
  |nil=>exact λb U e=>nomatch e
  |cons x r ih =>
   intro b h
   induction b using Nat.casesOn with
   |zero=>exact h x (.head _)
   |succ b=>exact ih b λv hv=>h v (.tail _ hv)
 refine H _ b λv hv e=>?_
 subst e
 exact absurd hv (by simp)
noncomputable def bI:Nat->ac
 |0=>aa "len" | 1=>aa "bytes" | 2=>aa "bytearray" | 3=>aa "str" | 4=>aa "sum" | 5=>aa "min" | 6=>aa "max" | 7=>aa "tuple" | 8=>aa "sorted" | _=>aa "range"
theorem bF.owned{s:Shared}{fz ad fps m}{h':Heap}{tk:Nat}{a:Addr}{o:af}{fp:List (Addr×au)}(ok:am K k c)(S:bF w.params c st fz ad fps s m)(hk:∀b o,s.heap.get? b=some o->h'.get? b=some o)
  (hn:∀p∈fp,h'.get? p.1=some p.2/\s.heap.get? p.1=Bx) (hnd:(fp.map (·.1)).Nodup) (hr:∀ad',cW w.params (Zf c.base fz) ad' o a fp):
  SR w.params c ⟨st.loc,st.own++[o]⟩ fz (ad++[a]) (fps++[fp]) { s with heap:=h',toks:=tk }/\aA c s fz ad fps { s with heap:=h',toks:=tk } fz (ad++[a]) (fps++[fp]):=by
 have F:=(S.fr ok).keeps hk
 obtain⟨I,R,LR,g1,g2,g3⟩:=S
 have pa:ad <+: ad++[a]:=List.prefix_append _ _
 have nF:∀p∈fps.flatten,∀q∈fp,p.1≠q.1:=λp hp q hq e=>by have:=(hn q hq).2;rw[<-e,(I.own p hp).1]at this;cases this
 refine⟨⟨m,?_,(R.mono (λU U z=>z) pa).snoc (hr _),LR.mono (λU U z=>z) pa,g1,g2,g3⟩,?_⟩
 ·have st1:=I.step (h':=h') (m':=m) (ds:=[]) (fzn:=[]) (F':=(fps++[fp]).flatten) ok F.ns (λU h=>nomatch h) (λb o e n U=>hk b o e) (λp hp=>nomatch hp) (λp hp=>?_) ?_ (λp hp q hq=>nomatch hq)
  ·rwa [bA]at st1
  ·rw[k_,BM]at hp
   refine ao (cQ.mp hp) (λhp=>?_) λhp=>?_
   ·exact⟨hk _ _ (I.own p hp).1,.inl (du hp)⟩
   ·exact⟨(hn p hp).1,.inr (hn p hp).2⟩
  ·refine rwr (k_ ..) (rwr (BM ..) (rwr (eK ..) ?_))
   refine jl.mpr ⟨I.nd,hnd,λx hx y hy e=>?_⟩
   refine elE1 (aW.mp hx) λp=>ae λhp z0=>?_;subst z0
   refine elE1 (aW.mp hy) λq=>ae λhq z0=>?_;subst z0
   exact nF p hp q hq e
 ·refine⟨λp hp=>hp,pa,λb o e U U U=>hk b o e,λx hx=>?_,λb o e U=>⟨o,hk b o e⟩,λp hp=>.inl hp⟩
  simp only[aT,k_,BM,eK,cQ]at hx
  refine ao hx (λhx=>?_) λhx=>?_
  ·exact .inl hx
  ·refine elE1 (aW.mp hx) λq=>ae λhq z0=>?_;subst z0
   exact .inr (hn q hq).2
theorem aP.ref_tup{s:Shared}{fz ad fps m}{h':Heap}{tk:Nat}{D:Addr}{xs:Array Value}{n:Nat}{Q:V->St->Prop}{vs:List Mine.D}(ok:am K k c)(S:bF w.params c st fz ad fps s m)(F':Fr c.base c.L h' m)(N':News c.base c.L h' ((D,{ cls:=.type "tuple",data:=.seq xs n })::eI s.heap c.base c.L))(hn:s.heap.get? D=Bx)
  (r:RDs w.params (Zf c.base fz) vs xs.toList) (hQ:Q (.d (.tup vs)) st):aP prog w c s fz ad fps Q (.ref D) { s with heap:=h',toks:=tk }:=by
 have z:=bF.grow (tk:=tk) (fzn:=[(D,{ cls:=.type "tuple",data:=.seq xs n })]) ok S (S.kept ok F' N' λp hp=>.tail _ hp) F'.ns λp hp=>by
  simp only[bj]at hp;subst hp;exact⟨(N' _ (.head _)).1,hn⟩
 exact⟨.d (.tup vs),st,_,ad,fps,z.2,z.1,by exact(ex3 D xs n ⟨rfl,.inr (gp _ (.head _)),RDs.mono (Zf.ext λp hp=>dE _ hp) _ _ r⟩),hQ⟩
theorem Kn{h h':Heap}{n:Nat}(hk:∀b o,h.get? b=some o->h'.get? b=some o)(hd:h'.get? n=Bx):h.get? n=Bx:=by
 cases q:h.get? n with
 |none=>rfl
 |some o=>rw[hk _ _ q]at hd;cases hd
theorem wJ{i:Int}(h:small i):i.natAbs.log2<1920:=by
 unfold small at h
 by_cases h0:i.natAbs=0
 ·refine rwr (h0 ..) ?_;decide
 ·exact dG ((Nat.log2_lt h0).mpr h) (by decide)
theorem aV.one{P:Params}{Z:Zt}{ad:List Addr}{a:V}{l:List Value}(h:aV P Z ad [a] l):∃v,l=[v]/\RV P Z ad a v:=by
 refine elE2 h λv r=>al λz0 h1 h2=>?_;clear h;subst z0
 have:r=[]:=h2
 exact⟨v,by exact rwr (this ..) rfl,h1⟩
theorem aV.two{P:Params}{Z:Zt}{ad:List Addr}{a b:V}{l:List Value}(h:aV P Z ad [a,b] l):∃v u,l=[v,u]/\RV P Z ad a v/\RV P Z ad b u:=by
 refine elE2 h λv r=>al λz0 h1 h2=>?_;clear h;subst z0
 refine elE1 (aV.one h2) λu=>ae λz0 h3=>?_;subst z0
 exact(ex2 v u ⟨rfl,h1,h3⟩)
section
variable {b:Nat}{Vs:List V}{vals:List Value}{va vb:Value}{s:Shared}{fz:List (Addr×au)}{ad:List Addr}{fps:List (List (Addr×au))}{Q:V->St->Prop}{Ec:Value->Shared->Prop}{a:V}{m n:Int}{vs:List D}
theorem zZ(ok:am K k c)(S:SR w.params c st fz ad fps s)(ra:RV w.params (Zf c.base fz) ad a va)(e:d9 st.own a=some vs)(h:n_ vs λbs=>Q (.d (.bytes bs)) st):ag (model prog w) c.A (call (.type "bytes") [va]) (aP prog w c s fz ad fps Q) Ec s:=by
 refine elE1 h λbs=>al λz0 h2 h3=>?_;clear h;subst z0
 exact wpAny.n (D8 ok S ra e h2 h3)
theorem I2{i:Nat}(ok:am K k c)(S:SR w.params c st fz ad fps s)(ra:RV w.params (Zf c.base fz) ad (.own i) va)(h:ob (getN st.own i) (λU U=>False) (λvs=>n_ vs λbs=>Q (.d (.bytes bs)) st) (λx=>x.length<=1000000/\Q (.d (.bytes x)) st)):
  ag (model prog w) c.A (call (.type "bytes") [va]) (aP prog w c s fz ad fps Q) Ec s:=by
 refine j5 h (λU U U q=>q.elim) (λvs e q=>zZ ok S ra (nT e) q) (λx e q=>?_)
 refine elE1 ra λa=>ae λea z0=>?_;clear ra;subst z0
 refine elE1 S.one λm z0=>?_;rcases z0 with ⟨I,R,_⟩
 rw[bk]at e
 refine elE2 (R.get e) λa' fp=>al λea' ef z0=>?_;subst z0
 rw[ea]at ea';cases ea'
 exact wpAny.n (G4 (I.own _ (dC ef (.head _))).1 q.1 λt tk=>.tok (V:=.d (.bytes x)) S q.2 ⟨t,rfl⟩)
theorem FX(ok:am K k c)(S:SR w.params c st fz ad fps s)(h:Q (.own st.own.length) ⟨st.loc,st.own++[.ba []]⟩):ag (model prog w) c.A (call (.type "bytearray") []) (aP prog w c s fz ad fps Q) Ec s:=by
 refine elE1 S.one λm S1=>?_
 refine Ju ok.hgd λh' hk ho=>?_
 have z:=bF.owned (h':=h') (tk:=s.toks) (a:=s.heap.objs.size) (o:=.ba []) (fp:=[(s.heap.objs.size,{ cls:=.type "bytearray",data:=.bytearray #[] 0 })]) ok S1 hk
  (λp hp=>by simp only[bj]at hp;subst hp;exact⟨ho,fk _⟩) (by simp) λad'=>rfl
 exact⟨.own st.own.length,_,_,_,_,z.2,z.1,⟨s.heap.objs.size,by refine rwr (S1.RO.len.1 ..) ?_;simp,rfl⟩,h⟩
theorem Do(ok:am K k c)(S:SR w.params c st fz ad fps s)(ra:RV w.params (Zf c.base fz) ad (.d (.list vs)) va)(h:∃ns:List Int,vs=ns.map D.int/\ns.length<=1000000/\(∀n∈ns,small n)/\Q (.d (.int ns.sum)) st):
  ag (model prog w) c.A (call (.builtin "sum") [va]) (aP prog w c s fz ad fps Q) Ec s:=by
 refine elE1 h λns=>aY λz0 h2 h3 h4=>?_;clear h;subst z0
 refine elE3 (S.lst ok ra rfl) λa xs n=>al λz0 e1 r=>?_;subst z0
 have hi:IntsAre xs.toList ns:=IntsAre.ofD r
 refine elE1 hi.allInts.items λys e=>?_
 rw[uA]at e
 subst e
 refine wpAny.n ?_
 refine sum_intListG ok.hh (bR e1) λh' tk t' hk=>?_
 refine aP.kept (V:=.d (.int ns.sum)) ok S hk ⟨t',?_⟩ h4
 have e2:=hi.numsOf
 rw[nums_intItems]at e2
 exact rwr (preSum_eq ..) (rwr (mG (by simp)) (rwr (e2 ..) rfl))
theorem Ic(ok:am K k c)(S:SR w.params c st fz ad fps s)(ra:RV w.params (Zf c.base fz) ad (.d (.int m)) va)(rb:RV w.params (Zf c.base fz) ad (.d (.int n)) vb)(h:Q (.d (.int (min m n))) st):ag (model prog w) c.A (call (.builtin "min") [va,vb]) (aP prog w c s fz ad fps Q) Ec s:=by
 refine elE1 ra λt z0=>?_;clear ra;subst z0
 refine elE1 rb λu z0=>?_;clear rb;subst z0
 refine wpAny.n ?_
 refine min_two_ints ok.hh λh' tk hk=>?_
 refine aP.kept (V:=.d (.int (min m n))) ok S hk ?_ h
 by_cases e:n<m
 ·refine rwr (if_pos e ..) (rwr (Int.min_eq_right (by lia)) ?_);exact⟨u,rfl⟩
 ·refine rwr (if_neg e ..) (rwr (Int.min_eq_left (by lia)) ?_);exact⟨t,rfl⟩
theorem Ka(ok:am K k c)(S:SR w.params c st fz ad fps s)(ra:RV w.params (Zf c.base fz) ad (.d (.int m)) va)(rb:RV w.params (Zf c.base fz) ad (.d (.int n)) vb)(h:Q (.d (.int (max m n))) st):ag (model prog w) c.A (call (.builtin "max") [va,vb]) (aP prog w c s fz ad fps Q) Ec s:=by
 refine elE1 ra λt z0=>?_;clear ra;subst z0
 refine elE1 rb λu z0=>?_;clear rb;subst z0
 refine wpAny.n ?_
 refine max_two_ints ok.hh λh' tk hk=>?_
 refine aP.kept (V:=.d (.int (max m n))) ok S hk ?_ h
 by_cases e:n>m
 ·refine rwr (if_pos e ..) (rwr (Int.max_eq_right (by lia)) ?_);exact⟨u,rfl⟩
 ·refine rwr (if_neg e ..) (rwr (Int.max_eq_left (by lia)) ?_);exact⟨t,rfl⟩
theorem FT(ok:am K k c)(S:SR w.params c st fz ad fps s)(ra:RV w.params (Zf c.base fz) ad (.d (.list vs)) va)(h:vs.length<=1000000/\Q (.d (.tup vs)) st):ag (model prog w) c.A (call (.type "tuple") [va]) (aP prog w c s fz ad fps Q) Ec s:=by
 refine elE3 (S.lst ok ra rfl) λa xs n=>al λz0 e1 r=>?_;subst z0
 refine elE1 S.one λm S1=>?_
 refine wpAny.n ?_
 refine call_tuple_list (bR e1) (λh' hk=>?_) (by have:=RDs.len r;refine rwr (sizeLine_eq ..) (rwr (aM (Lu ..)) ?_);lia)
 have F':=(S1.fr ok).keeps hk
 have N':News c.base c.L h' (eI s.heap c.base c.L):=λp hp=>⟨hk _ _ (fH _ _ _ p hp).1,(fH _ _ _ p hp).2⟩
 exact aP.ref_tup (n:=0) (tk:=s.toks) ok S1 (F'.push _) (N'.push F' _) (Kn hk (fk h')) r h.2
theorem ET(ok:am K k c)(S:SR w.params c st fz ad fps s)(ra:RV w.params (Zf c.base fz) ad (.d (.list vs)) va)(h:∃ns:List Int,vs=ns.map D.int/\ns.length<=60/\ns.Pairwise (· <= ·)/\Q (.d (.list vs)) st):
  ag (model prog w) c.A (call (.builtin "sorted") [va]) (aP prog w c s fz ad fps Q) Ec s:=by
 refine elE1 h λns=>aY λz0 h2 h3 h4=>?_;clear h;subst z0
 refine elE3 (S.lst ok ra rfl) λa xs n=>al λz0 e1 r=>?_;subst z0
 refine elE1 S.one λm S1=>?_
 refine wpAny.n ?_
 refine sorted_N (vs:=xs.toList) (S1.fr ok) (fH _ _ _) (by refine rwr (uA ..) ?_;exact bR e1) (IntsAre.ofD r) (by refine rwr (RDs.len r ..) ?_;simp;lia) λh' vs' ns' e F' N' hI' hp hs'=>?_
 have:ns'=ns:=List.Perm.eq_of_pairwise (λa b U U h1 h2=>Int.le_antisymm h1 h2) hs' h3 hp
 subst this
 exact aP.list (n:=e) ok S1 F' N' (λp hp=>uw (cL (fH _ _ _ p hp).1)) (IntsAre.toD hI') h4
theorem kz{t:Value}{f:V->Prop}(ra:aV w.params (Zf c.base fz) ad Vs vals)(h:l1 Vs f)(hf:∀a va,RV w.params (Zf c.base fz) ad a va->f a->ag (model prog w) c.A (call t [va]) (aP prog w c s fz ad fps Q) Ec s):
  ag (model prog w) c.A (call t vals) (aP prog w c s fz ad fps Q) Ec s:=by
 refine elE1 (qd h) λa=>ae λz0 h=>?_;subst z0
 refine elE1 (aV.one ra) λv=>ae λz0 r=>?_;subst z0
 exact hf a v r h
theorem AI{t:Value}{f:V->V->Prop}(ra:aV w.params (Zf c.base fz) ad Vs vals)(h:l2 Vs f)(hf:∀a b va vb,RV w.params (Zf c.base fz) ad a va->RV w.params (Zf c.base fz) ad b vb->f a b->ag (model prog w) c.A (call t [va,vb]) (aP prog w c s fz ad fps Q) Ec s):
  ag (model prog w) c.A (call t vals) (aP prog w c s fz ad fps Q) Ec s:=by
 refine elE2 (C_ h) λa b=>ae λz0 h=>?_;subst z0
 refine elE2 (aV.two ra) λv u=>al λz0 r1 r2=>?_;subst z0
 exact hf a b v u r1 r2 h
theorem iq{n:Nat}(e:aG b n=true)(h:ag (model prog w) c.A (call (eE n) vals) (aP prog w c s fz ad fps Q) Ec s):ag (model prog w) c.A (call (eE b) vals) (aP prog w c s fz ad fps Q) Ec s:=di e▸h
theorem D9(ok:am K k c)(S:SR w.params c st fz ad fps s)(ra:aV w.params (Zf c.base fz) ad Vs vals)(h:ui b Vs st Q):ag (model prog w) c.A (call (eE b) vals) (aP prog w c s fz ad fps Q) Ec s:=by
 refine eU h (λe q=>iq e (kz ra q λa va ra q=>wpAny.n (Ff ok S ra q))) λh=>?_
 refine eU h (λe q=>iq e (kz ra q λa va ra q=>?_)) λh=>?_
 ·refine ij q (λx e q=>?_) λq=>tW q (λvs e q=>zZ ok S ra (by refine rwr (e ..) ?_;rfl) q) λq=>have ⟨i,e,q⟩:=lA q;I2 ok S (e▸ra) q
  refine elE1 (ra.dat e) λt z0=>?_;subst z0
  exact wpAny.n (Dw λtk=>.tok S q ⟨t,rfl⟩)
 refine eU h (λe q=>iq e ?_) λh=>?_
 ·refine ak (Bm q) λe q=>?_
  rw[e]at ra
  have:vals=[]:=ra
  refine rwr (this ..) ?_
  exact FX ok S q
 refine eU h (λe q=>iq e (kz ra q λa va ra q=>?_)) λh=>?_
 ·refine elE1 (dS q) λi=>al λe h1 h2=>?_
  refine elE1 (ra.dat e) λt z0=>?_;subst z0
  exact wpAny.n (PySem.P.str_of_int (wJ h1) (.tok S h2 ⟨s.toks,rfl⟩))
 refine eU h (λe q=>iq e (kz ra q λa va ra q=>have ⟨vs,e,q⟩:=qT q;Do ok S (e▸ra) q)) λh=>?_
 refine eU h (λe q=>iq e (AI ra q λa b va vb ra rb q=>have ⟨x,e,q⟩:=dS q;have ⟨y,e2,q⟩:=dS q;Ic ok S (e▸ra) (e2▸rb) q)) λh=>?_
 refine eU h (λe q=>iq e (AI ra q λa b va vb ra rb q=>have ⟨x,e,q⟩:=dS q;have ⟨y,e2,q⟩:=dS q;Ka ok S (e▸ra) (e2▸rb) q)) λh=>?_
 refine eU h (λe q=>iq e (kz ra q λa va ra q=>have ⟨vs,e,q⟩:=qT q;FT ok S (e▸ra) q)) λh=>?_
 exact eU h (λe q=>iq e (kz ra q λa va ra q=>have ⟨vs,e,q⟩:=qT q;ET ok S (e▸ra) q)) dQ
end
noncomputable def i7:Nat->ac
 |0=>aa "append" | 1=>aa "extend" | 2=>aa "find" | _=>aa "startswith"
theorem bF.turn1{s:Shared}{fz ad fps m}{h':Heap}{tk:Nat}{i:Nat}{a:Addr}{ob ob':au}{o':af}(ok:am K k c)(S:bF w.params c st fz ad fps s m)(ea:ad[i]? = some a)(ef:fps[i]? = some [(a,ob)])(hs:mP a s.heap h')(ho:h'.get? a=some ob')
  (hr:cW w.params (Zf c.base fz) ad o' a [(a,ob')]):SR w.params c ⟨st.loc,setN st.own i o'⟩ fz ad (setN fps i [(a,ob')]) { s with heap:=h',toks:=tk }/\aA c s fz ad fps { s with heap:=h',toks:=tk } fz ad (setN fps i [(a,ob')]):=by
 obtain⟨I,R,LR,g1,g2,g3⟩:=S
 have hne:=(I.own _ (dC ef (.head _))).2.1
 have hb:=I.F0 ok (dC ef (.head _))
 refine SR.turn (s':={ s with heap:=h',toks:=tk }) ok I R LR g1 g2 g3 ea ef ((I.fr ok).change hs hne hb).ns (λb o e n1 n2=>(hs.2 b λq=>n2 (by refine rwr (q ..) ?_;exact .head _)).trans e) (λp hp=>?_) (λp hp=>?_) (by simp) hr
 ·simp only[bj]at hp;subst hp;exact⟨ho,.head _⟩
 ·simp only[bj]at hp;subst hp;exact⟨_,ho⟩
noncomputable def i8:Nat->Nat->String
 |0,0 => "list.append" | 1,0 => "bytearray.append" | 1,1 => "bytearray.extend" | 2,2 => "str.find" | _,_ => "str.startswith"
theorem IC{mm:Nat}(h:jS 2 mm=true):mm=2\/mm=3:=(Bool.or_eq_true_iff.mp h).imp di di
theorem E7{mm:Nat}(h:jS 0 mm=true):mm=0:=di h
theorem Kf{mm:Nat}(h:jS 1 mm=true):mm=0\/mm=1:=(Bool.or_eq_true_iff.mp h).imp di di
theorem Dq{A:Around}{x:ac}{t:Tok}{s:Shared}{pl:Sem Bool}{Q:Value×List Value->Shared->Prop}{Ec:Value->Shared->Prop}(h:Q (.builtin "str.find",[.str x t]) s):wpAny (model prog w) A (getMethod (.str x t) (aa "find") pl) Q Ec s:=by
 refine getMethod_builtin (T := "str") (id := "str.find") ?_ ?_ ?_ ?_ ?_ ?_
 ·exact typeIs_str _ _ _
 ·exact Lv
 ·exact PySem.F.slot_str_find
 ·exact PySem.F.type_str_find
 ·exact λU e=>nomatch e
 ·exact h
theorem J8{A:Around}{x:ac}{t:Tok}{s:Shared}{pl:Sem Bool}{Q:Value×List Value->Shared->Prop}{Ec:Value->Shared->Prop}(h:Q (.builtin "str.startswith",[.str x t]) s):wpAny (model prog w) A (getMethod (.str x t) (aa "startswith") pl) Q Ec s:=by
 refine getMethod_builtin (T := "str") (id := "str.startswith") ?_ ?_ ?_ ?_ ?_ ?_
 ·exact typeIs_str _ _ _
 ·exact Lv
 ·exact PySem.F.slot_str_startswith
 ·exact PySem.F.type_str_startswith
 ·exact λU e=>nomatch e
 ·exact h
set_option maxHeartbeats 4000000 in
theorem F5{kd mm:Nat}{V:V}{ov:Value}{s:Shared}{fz ad fps}{pl:Sem Bool}{Q:Value×List Value->Shared->Prop}{Ec:Value->Shared->Prop}(S:SR w.params c st fz ad fps s)(ro:RV w.params (Zf c.base fz) ad V ov)(h1:iG st.own V=some kd)(h2:jS kd mm=true)
  (h:Q (.builtin (i8 kd mm),[ov]) s):wpAny (model prog w) c.A (getMethod ov (i7 mm) pl) Q Ec s:=by
 induction V using Mine.V.casesOn with
 |d x=>induction x using D.casesOn with
  |str x =>
  cases h1
  refine elE1 ro λt z0=>?_;clear ro;subst z0
  have hm:mm=2\/mm=3:=IC h2
  refine ao hm (λz0=>?_) λz1=>?_ <;>clear hm <;>(try subst z0) <;>(try subst z1)
  ·have e1:i8 2 2 = "str.find" := rfl
   have e2:i7 2=aa "find" := rfl
   rw[e1]at h
   refine rwr (e2 ..) ?_
   exact Dq h
  ·have e1:i8 2 3 = "str.startswith" := rfl
   have e2:i7 3=aa "startswith" := rfl
   rw[e1]at h
   refine rwr (e2 ..) ?_
   exact J8 h
  |_=>exact nomatch h1
 |own i =>
  refine elE1 ro λa=>ae λea z0=>?_;clear ro;subst z0
  refine elE1 S.one λm S1=>?_
  have h1:nV (getN st.own i)=some kd:=h1
  cases e:getN st.own i with
  |none=>rw[e]at h1;exact nomatch h1
  |some o =>
  rw[e]at h1
  induction o using af.casesOn with
  |lst vs =>
   cases h1
   rw[bk]at e
   refine elE2 (S1.RO.get e) λa' fp=>al λea' ef=>uE2 λxs n=>ae λy5 r=>?_;subst y5
   rw[ea]at ea';cases ea'
   have hin:=(S1.1.own _ (dC ef (.head _))).1
   have hm:mm=0:=E7 h2
   subst hm
   have e1:i8 0 0 = "list.append" := rfl
   have e2:i7 0=aa "append" := rfl
   rw[e1]at h
   refine rwr (e2 ..) ?_
   exact getMethod_builtin ⟨_,hin,rfl⟩ PySem.F.plainAttrs_list PySem.F.slot_list_append PySem.F.type_list_append (λa e=>by cases e;exact⟨_,hin,rfl⟩) h
  |ba x =>
   cases h1
   rw[bk]at e
   refine elE2 (S1.RO.get e) λa' fp=>al λea' ef z0=>?_;subst z0
   rw[ea]at ea';cases ea'
   have hin:=(S1.1.own _ (dC ef (.head _))).1
   have hm:mm=0\/mm=1:=Kf h2
   refine ao hm (λz0=>?_) λz1=>?_ <;>clear hm <;>(try subst z0) <;>(try subst z1)
   ·have e1:i8 1 0 = "bytearray.append" := rfl
    have e2:i7 0=aa "append" := rfl
    rw[e1]at h
    refine rwr (e2 ..) ?_
    exact I9 hin h
   ·have e1:i8 1 1 = "bytearray.extend" := rfl
    have e2:i7 1=aa "extend" := rfl
    rw[e1]at h
    refine rwr (e2 ..) ?_
    exact HG hin h
  |_=>exact nomatch h1
section
variable {mm:Nat}{o:V}{Vs:List V}{ov va:Value}{vals:List Value}{s:Shared}{fz:List (Addr×au)}{ad:List Addr}{fps:List (List (Addr×au))}{Q:V->St->Prop}{Ec:Value->Shared->Prop}{a:V}{i:Nat}{vs:List D}{x:List UInt8}
inductive eQ(prog:Program)(w:World)(c:FC)(st:St)(s:Shared)(fz:List (Addr×au))(ad:List Addr)(fps:List (List (Addr×au)))(Q:V->St->Prop)(Ec:Value->Shared->Prop)(mm:Nat)(o:V)(ov:Value)(vals:List Value):Prop
 |mk (kd:Nat) (_:iG st.own o=some kd) (_:jS kd mm=true) (_:ag (model prog w) c.A (call (.builtin (i8 kd mm)) (ov::vals)) (aP prog w c s fz ad fps Q) Ec s):eQ prog w c st s fz ad fps Q Ec mm o ov vals
theorem G6(ok:am K k c)(S:SR w.params c st fz ad fps s)(ro:RV w.params (Zf c.base fz) ad (.own i) ov)(ra:RV w.params (Zf c.base fz) ad a va)(e:getN st.own i=some (.lst vs))(h:∃d,a=.d d/\vs.length<=1000000/\Q (.d .none) ⟨st.loc,setN st.own i (.lst (vs++[d]))⟩):
  eQ prog w c st s fz ad fps Q Ec 0 (.own i) ov [va]:=by
 refine elE1 h λd=>al λz0 h1 h2=>?_;clear h;subst z0
 refine elE1 ro λa=>ae λea z0=>?_;clear ro;subst z0
 refine elE1 S.one λm S1=>?_
 have e0:=e
 rw[bk]at e
 refine elE2 (S1.RO.get e) λa' fp=>al λea' ef=>uE2 λxs n=>ae λy5 r=>?_;subst y5
 rw[ea]at ea';cases ea'
 have hin:=S1.1.own _ (dC ef (.head _))
 refine⟨0,lz e0,rfl,wpAny.n <| append_at (hsz:=by have:=RDs.len r;refine rwr (sizeLine_eq ..) (rwr (aM (Lu ..)) ?_);lia) hin.1 λh' hs ho=>?_⟩
 have z:=S1.turn1 (tk:=s.toks) (o':=.lst (vs++[d])) ok ea ef hs ho ⟨xs.push va,n+1,rfl,by refine rwr (Array.toList_push ..) ?_;exact RDs.app r (ex2 va [] ⟨rfl,ra,rfl⟩)⟩
 exact⟨.d .none,_,fz,ad,_,z.2,z.1,rfl,h2⟩
theorem Hu(ok:am K k c)(S:SR w.params c st fz ad fps s)(ro:RV w.params (Zf c.base fz) ad (.own i) ov)(ra:RV w.params (Zf c.base fz) ad a va)(e:getN st.own i=some (.ba x))(h:∃c:UInt8,a=.d (.int c.toNat)/\x.length<=1000000/\Q (.d .none) ⟨st.loc,setN st.own i (.ba (x++[c]))⟩):
  eQ prog w c st s fz ad fps Q Ec 0 (.own i) ov [va]:=by
 refine elE1 h λcc=>al λz0 h1 h2=>?_;clear h;subst z0
 refine elE1 ro λa=>ae λea z0=>?_;clear ro;subst z0
 refine elE1 S.one λm S1=>?_
 have e0:=e
 rw[bk]at e
 refine elE2 (S1.RO.get e) λa' fp=>al λea' ef z0=>?_;subst z0
 rw[ea]at ea';cases ea'
 refine elE1 ra λt z0=>?_;clear ra;subst z0
 have hin:=S1.1.own _ (dC ef (.head _))
 refine⟨1,lz e0,rfl,Ku ok.hgd hin.1 h1 λh' tk hs ho=>?_⟩
 have z:=S1.turn1 (tk:=tk) (o':=.ba (x++[cc])) ok ea ef hs ho rfl
 exact⟨.d .none,_,fz,ad,_,z.2,z.1,rfl,h2⟩
theorem K4{y:List UInt8}(ok:am K k c)(S:SR w.params c st fz ad fps s)(ro:RV w.params (Zf c.base fz) ad (.own i) ov)(ra:RV w.params (Zf c.base fz) ad (.d (.bytes y)) va)(e:getN st.own i=some (.ba x))(h:x.length+y.length<=1000000/\Q (.d .none) ⟨st.loc,setN st.own i (.ba (x++y))⟩):
  eQ prog w c st s fz ad fps Q Ec 1 (.own i) ov [va]:=by
 refine ak h λh1 h2=>?_;clear h
 refine elE1 ro λa=>ae λea z0=>?_;clear ro;subst z0
 refine elE1 S.one λm S1=>?_
 have e0:=e
 rw[bk]at e
 refine elE2 (S1.RO.get e) λa' fp=>al λea' ef z0=>?_;subst z0
 rw[ea]at ea';cases ea'
 refine elE1 ra λt z0=>?_;clear ra;subst z0
 have hin:=S1.1.own _ (dC ef (.head _))
 refine⟨1,lz e0,rfl,EH ok.hgd hin.1 h1 λh' tk hs ho=>?_⟩
 have z:=S1.turn1 (tk:=tk) (o':=.ba (x++y)) ok ea ef hs ho rfl
 exact⟨.d .none,_,fz,ad,_,z.2,z.1,rfl,h2⟩
theorem oC{f:V->Prop}(ra:aV w.params (Zf c.base fz) ad Vs vals)(h:l1 Vs f)(hf:∀a va,RV w.params (Zf c.base fz) ad a va->f a->eQ prog w c st s fz ad fps Q Ec mm o ov [va]):eQ prog w c st s fz ad fps Q Ec mm o ov vals:=by
 refine elE1 (qd h) λa=>ae λz0 h=>?_;subst z0
 refine elE1 (aV.one ra) λv=>ae λz0 r=>?_;subst z0
 exact hf a v r h
theorem JE{x y:ac}(S:SR w.params c st fz ad fps s)(ro:RV w.params (Zf c.base fz) ad (.d (.str x)) ov)(ra:RV w.params (Zf c.base fz) ad (.d (.str y)) va)(h:x.length<=1000000/\y.length=1/\Q (.d (.int (cz x y))) st):eQ prog w c st s fz ad fps Q Ec 2 (.d (.str x)) ov [va]:=by
 refine elE1 ro λt z0=>?_;clear ro;subst z0
 refine elE1 ra λu z0=>?_;clear ra;subst z0
 exact⟨2,rfl,rfl,wpAny.n <| SC.find (.tok S h.2.2 ⟨s.toks,rfl⟩)⟩
theorem CO{x y:ac}(S:SR w.params c st fz ad fps s)(ro:RV w.params (Zf c.base fz) ad (.d (.str x)) ov)(ra:RV w.params (Zf c.base fz) ad (.d (.str y)) va)(h:Q (.d (.bool (pO x y))) st):eQ prog w c st s fz ad fps Q Ec 3 (.d (.str x)) ov [va]:=by
 refine elE1 ro λt z0=>?_;clear ro;subst z0
 refine elE1 ra λu z0=>?_;clear ra;subst z0
 exact⟨2,rfl,rfl,wpAny.n <| SC.startswith (.tok (t:=s.toks) S h rfl)⟩
theorem oZ{n:Nat}(e:aG mm n=true)(h:eQ prog w c st s fz ad fps Q Ec n o ov vals):eQ prog w c st s fz ad fps Q Ec mm o ov vals:=di e▸h
theorem nz{o':V}(e:o=o')(h:eQ prog w c st s fz ad fps Q Ec mm o' ov vals):eQ prog w c st s fz ad fps Q Ec mm o ov vals:=e▸h
theorem Fw(ok:am K k c)(S:SR w.params c st fz ad fps s)(ro:RV w.params (Zf c.base fz) ad o ov)(ra:aV w.params (Zf c.base fz) ad Vs vals)(h:oF mm o Vs st Q):eQ prog w c st s fz ad fps Q Ec mm o ov vals:=by
 refine eU h (λe q=>oZ e (have ⟨i,e,q⟩:=lA q;nz e (oC ra q λa va ra q=>j5 q (λU U U q=>q.elim) (λvs e2 q=>G6 ok S (e▸ro) ra e2 q) (λx e2 q=>Hu ok S (e▸ro) ra e2 q)))) λh=>?_
 refine eU h (λe q=>oZ e (have ⟨i,e,q⟩:=lA q;nz e (oC ra q λa va ra q=>have ⟨y,e1,q⟩:=rM q;j5 q (λU U U q=>q.elim) (λU U q=>q.elim) (λx e2 q=>K4 ok S (e▸ro) (e1▸ra) e2 q)))) λh=>?_
 refine eU h (λe q=>oZ e (have ⟨x,e,q⟩:=gY q;nz e (oC ra q λa va ra q=>have ⟨y,e1,q⟩:=gY q;JE S (e▸ro) (e1▸ra) q))) λh=>?_
 exact eU h (λe q=>oZ e (have ⟨x,e,q⟩:=gY q;nz e (oC ra q λa va ra q=>have ⟨y,e1,q⟩:=gY q;CO S (e▸ro) (e1▸ra) q))) dQ
end
end
end

section
open PySem PySem.W PyProof.Rows PySem.SeqAt PySem.MeetsSeq
theorem aE{p:Prop}(h:false=true):p:=nomatch h
theorem aB{a b:Bool}(h:(a&&b)=true):a=true/\b=true:=by cases a <;>cases b <;>first | exact⟨rfl,rfl⟩ | exact Bool.noConfusion h
theorem bc{a b:Bool}{G:Prop}(h:(a&&b)=true)(k:a=true->b=true->G):G:=k (aB h).1 (aB h).2
@[elab_as_elim] theorem bo {α:Type}[BEq α][LawfulBEq α]{a b:α}{C:α->Prop}(h:(a==b)=true)(k:C b):C a:=eq_of_beq h▸k
noncomputable def bY{α:Type}(l:List α)(f:α->Bool):Bool:=match l with | [a]=>f a | _=>false
@[elab_as_elim] theorem cq {α:Type}{l:List α}{f:α->Bool}{C:List α->Prop}(h:bY l f=true)(k:∀a,f a=true->C [a]):C l:=match l,h with
 |[],h=>aE h
 |[a],h=>k a h
 |_::_::_,h=>aE h
noncomputable def ck{α:Type}(l:List α)(b:Bool):Bool:=match l with | []=>b | _=>false
@[elab_as_elim] theorem cK {α:Type}{l:List α}{b:Bool}{C:List α->Prop}(h:ck l b=true)(k:b=true->C []):C l:=match l,h with
 |[],h=>k h
 |_::_,h=>aE h
noncomputable def lP{α:Type}(l:Option α)(f:α->Bool):Bool:=match l with | some a=>f a | Bx=>false
@[elab_as_elim] theorem rh {α:Type}{l:Option α}{f:α->Bool}{C:Option α->Prop}(h:lP l f=true)(k:∀a,f a=true->C (some a)):C l:=match l,h with
 |some a,h=>k a h
 |none,h=>aE h
noncomputable def lL{α:Type}(l:Option α)(b:Bool):Bool:=match l with | some _=>false | Bx=>b
@[elab_as_elim] theorem nc {α:Type}{l:Option α}{b:Bool}{C:Option α->Prop}(h:lL l b=true)(k:b=true->C Bx):C l:=match l,h with
 |some _,h=>aE h
 |none,h=>k h
noncomputable def so(g:Comprehension)(f:Expr->Expr->List Expr->Int->Bool):Bool:=f g.target g.iter g.ifs g.is_async
@[elab_as_elim] theorem xz {g:Comprehension}{f:Expr->Expr->List Expr->Int->Bool}{C:Comprehension->Prop}(h:so g f=true)(k:∀t i fs a,f t i fs a=true->C ⟨t,i,fs,a⟩):C g:=by
 revert h;induction g using Comprehension.casesOn;exact k _ _ _ _
noncomputable def bu(z:Expr)(f:ac->Pos->Bool):Bool:=z.casesOn (λU U U=>false) (λU U U=>false) (λU U U U=>false) (λU U U=>false) (λU U U U=>false) (λU U U U=>false) (λU U U=>false) (λU U U=>false) (λU U U U=>false) (λU U U U=>false) (λU U U U U=>false) (λU U U U=>false) (λU U=>false) (λU U=>false) (λU U=>false) (λU U U U=>false) (λU U U U=>false) (λU U U U=>false) (λU U=>false) (λU U U=>false) (λU U U=>false) (λU U U=>false) (λU U=>false) f (λU U=>false) (λU U U=>false) (λU U U U=>false)
@[elab_as_elim] theorem bx {z:Expr}{f:ac->Pos->Bool}{C:Expr->Prop}(h:bu z f=true)(k:∀x p,f x p=true->C (.Name x p)):C z:=by
 revert h;induction z using Expr.casesOn <;>first | exact aE | exact k _ _
noncomputable def iK(z:Expr)(f:Expr->ac->Pos->Bool):Bool:=z.casesOn (λU U U=>false) (λU U U=>false) (λU U U U=>false) (λU U U=>false) (λU U U U=>false) (λU U U U=>false) (λU U U=>false) (λU U U=>false) (λU U U U=>false) (λU U U U=>false) (λU U U U U=>false) (λU U U U=>false) (λU U=>false) (λU U=>false) (λU U=>false) (λU U U U=>false) (λU U U U=>false) (λU U U U=>false) (λU U=>false) (λU U U=>false) f (λU U U=>false) (λU U=>false) (λU U=>false) (λU U=>false) (λU U U=>false) (λU U U U=>false)
@[elab_as_elim] theorem jb {z:Expr}{f:Expr->ac->Pos->Bool}{C:Expr->Prop}(h:iK z f=true)(k:∀v a p,f v a p=true->C (.Attribute v a p)):C z:=by
 revert h;induction z using Expr.casesOn <;>first | exact aE | exact k _ _ _
noncomputable def eP(z:Expr)(f:Expr->List Expr->List Keyword->Pos->Bool):Bool:=z.casesOn (λU U U=>false) (λU U U=>false) (λU U U U=>false) (λU U U=>false) (λU U U U=>false) (λU U U U=>false) (λU U U=>false) (λU U U=>false) (λU U U U=>false) (λU U U U=>false) (λU U U U U=>false) (λU U U U=>false) (λU U=>false) (λU U=>false) (λU U=>false) (λU U U U=>false) f (λU U U U=>false) (λU U=>false) (λU U U=>false) (λU U U=>false) (λU U U=>false) (λU U=>false) (λU U=>false) (λU U=>false) (λU U U=>false) (λU U U U=>false)
@[elab_as_elim] theorem dA {z:Expr}{f:Expr->List Expr->List Keyword->Pos->Bool}{C:Expr->Prop}(h:eP z f=true)(k:∀g as ks p,f g as ks p=true->C (.Call g as ks p)):C z:=by
 revert h;induction z using Expr.casesOn <;>first | exact aE | exact k _ _ _ _
noncomputable def mY(z:Expr)(f:List Expr->Nat->Pos->Bool):Bool:=z.casesOn (λU U U=>false) (λU U U=>false) (λU U U U=>false) (λU U U=>false) (λU U U U=>false) (λU U U U=>false) (λU U U=>false) (λU U U=>false) (λU U U U=>false) (λU U U U=>false) (λU U U U U=>false) (λU U U U=>false) (λU U=>false) (λU U=>false) (λU U=>false) (λU U U U=>false) (λU U U U=>false) (λU U U U=>false) (λU U=>false) (λU U U=>false) (λU U U=>false) (λU U U=>false) (λU U=>false) (λU U=>false) (λU U=>false) f (λU U U U=>false)
@[elab_as_elim] theorem nU {z:Expr}{f:List Expr->Nat->Pos->Bool}{C:Expr->Prop}(h:mY z f=true)(k:∀ts k p,f ts k p=true->C (.Tuple ts k p)):C z:=by
 revert h;induction z using Expr.casesOn <;>first | exact aE | exact k _ _ _
noncomputable def mq(z:Expr)(f:Expr->Operator->Expr->Pos->Bool):Bool:=z.casesOn (λU U U=>false) (λU U U=>false) f (λU U U=>false) (λU U U U=>false) (λU U U U=>false) (λU U U=>false) (λU U U=>false) (λU U U U=>false) (λU U U U=>false) (λU U U U U=>false) (λU U U U=>false) (λU U=>false) (λU U=>false) (λU U=>false) (λU U U U=>false) (λU U U U=>false) (λU U U U=>false) (λU U=>false) (λU U U=>false) (λU U U=>false) (λU U U=>false) (λU U=>false) (λU U=>false) (λU U=>false) (λU U U=>false) (λU U U U=>false)
@[elab_as_elim] theorem kM {z:Expr}{f:Expr->Operator->Expr->Pos->Bool}{C:Expr->Prop}(h:mq z f=true)(k:∀a op b p,f a op b p=true->C (.BinOp a op b p)):C z:=by
 revert h;induction z using Expr.casesOn <;>first | exact aE | exact k _ _ _ _
noncomputable def iR(z:Expr)(f:UnaryOp->Expr->Pos->Bool):Bool:=z.casesOn (λU U U=>false) (λU U U=>false) (λU U U U=>false) f (λU U U U=>false) (λU U U U=>false) (λU U U=>false) (λU U U=>false) (λU U U U=>false) (λU U U U=>false) (λU U U U U=>false) (λU U U U=>false) (λU U=>false) (λU U=>false) (λU U=>false) (λU U U U=>false) (λU U U U=>false) (λU U U U=>false) (λU U=>false) (λU U U=>false) (λU U U=>false) (λU U U=>false) (λU U=>false) (λU U=>false) (λU U=>false) (λU U U=>false) (λU U U U=>false)
@[elab_as_elim] theorem nu {z:Expr}{f:UnaryOp->Expr->Pos->Bool}{C:Expr->Prop}(h:iR z f=true)(k:∀op a p,f op a p=true->C (.UnaryOp op a p)):C z:=by
 revert h;induction z using Expr.casesOn <;>first | exact aE | exact k _ _ _
noncomputable def fS(z:Expr)(f:Const->Nat->Pos->Bool):Bool:=z.casesOn (λU U U=>false) (λU U U=>false) (λU U U U=>false) (λU U U=>false) (λU U U U=>false) (λU U U U=>false) (λU U U=>false) (λU U U=>false) (λU U U U=>false) (λU U U U=>false) (λU U U U U=>false) (λU U U U=>false) (λU U=>false) (λU U=>false) (λU U=>false) (λU U U U=>false) (λU U U U=>false) (λU U U U=>false) (λU U=>false) f (λU U U=>false) (λU U U=>false) (λU U=>false) (λU U=>false) (λU U=>false) (λU U U=>false) (λU U U U=>false)
@[elab_as_elim] theorem gf {z:Expr}{f:Const->Nat->Pos->Bool}{C:Expr->Prop}(h:fS z f=true)(k:∀c k p,f c k p=true->C (.Constant c k p)):C z:=by
 revert h;induction z using Expr.casesOn <;>first | exact aE | exact k _ _ _
noncomputable def lM(z:Expr)(f:Expr->Expr->Pos->Bool):Bool:=z.casesOn (λU U U=>false) (λU U U=>false) (λU U U U=>false) (λU U U=>false) (λU U U U=>false) (λU U U U=>false) (λU U U=>false) (λU U U=>false) (λU U U U=>false) (λU U U U=>false) (λU U U U U=>false) (λU U U U=>false) (λU U=>false) (λU U=>false) (λU U=>false) (λU U U U=>false) (λU U U U=>false) (λU U U U=>false) (λU U=>false) (λU U U=>false) (λU U U=>false) f (λU U=>false) (λU U=>false) (λU U=>false) (λU U U=>false) (λU U U U=>false)
@[elab_as_elim] theorem kB {z:Expr}{f:Expr->Expr->Pos->Bool}{C:Expr->Prop}(h:lM z f=true)(k:∀a b p,f a b p=true->C (.Subscript a b p)):C z:=by
 revert h;induction z using Expr.casesOn <;>first | exact aE | exact k _ _ _
noncomputable def lJ(z:Expr)(f:BoolOp->List Expr->Pos->Bool):Bool:=z.casesOn f (λU U U=>false) (λU U U U=>false) (λU U U=>false) (λU U U U=>false) (λU U U U=>false) (λU U U=>false) (λU U U=>false) (λU U U U=>false) (λU U U U=>false) (λU U U U U=>false) (λU U U U=>false) (λU U=>false) (λU U=>false) (λU U=>false) (λU U U U=>false) (λU U U U=>false) (λU U U U=>false) (λU U=>false) (λU U U=>false) (λU U U=>false) (λU U U=>false) (λU U=>false) (λU U=>false) (λU U=>false) (λU U U=>false) (λU U U U=>false)
@[elab_as_elim] theorem lI {z:Expr}{f:BoolOp->List Expr->Pos->Bool}{C:Expr->Prop}(h:lJ z f=true)(k:∀op vs p,f op vs p=true->C (.BoolOp op vs p)):C z:=by
 revert h;induction z using Expr.casesOn <;>first | exact aE | exact k _ _ _
noncomputable def nP(z:Expr)(f:Expr->List CmpOp->List Expr->Pos->Bool):Bool:=z.casesOn (λU U U=>false) (λU U U=>false) (λU U U U=>false) (λU U U=>false) (λU U U U=>false) (λU U U U=>false) (λU U U=>false) (λU U U=>false) (λU U U U=>false) (λU U U U=>false) (λU U U U U=>false) (λU U U U=>false) (λU U=>false) (λU U=>false) (λU U=>false) f (λU U U U=>false) (λU U U U=>false) (λU U=>false) (λU U U=>false) (λU U U=>false) (λU U U=>false) (λU U=>false) (λU U=>false) (λU U=>false) (λU U U=>false) (λU U U U=>false)
@[elab_as_elim] theorem pg {z:Expr}{f:Expr->List CmpOp->List Expr->Pos->Bool}{C:Expr->Prop}(h:nP z f=true)(k:∀a os bs p,f a os bs p=true->C (.Compare a os bs p)):C z:=by
 revert h;induction z using Expr.casesOn <;>first | exact aE | exact k _ _ _ _
noncomputable def pF(z:Expr)(f:Expr->List Comprehension->Scope->Pos->Bool):Bool:=z.casesOn (λU U U=>false) (λU U U=>false) (λU U U U=>false) (λU U U=>false) (λU U U U=>false) (λU U U U=>false) (λU U U=>false) (λU U U=>false) f (λU U U U=>false) (λU U U U U=>false) (λU U U U=>false) (λU U=>false) (λU U=>false) (λU U=>false) (λU U U U=>false) (λU U U U=>false) (λU U U U=>false) (λU U=>false) (λU U U=>false) (λU U U=>false) (λU U U=>false) (λU U=>false) (λU U=>false) (λU U=>false) (λU U U=>false) (λU U U U=>false)
@[elab_as_elim] theorem lH {z:Expr}{f:Expr->List Comprehension->Scope->Pos->Bool}{C:Expr->Prop}(h:pF z f=true)(k:∀e gs sc p,f e gs sc p=true->C (.ListComp e gs sc p)):C z:=by
 revert h;induction z using Expr.casesOn <;>first | exact aE | exact k _ _ _ _
noncomputable def zv(z:Expr)(f:Expr->Expr->Expr->Pos->Bool):Bool:=z.casesOn (λU U U=>false) (λU U U=>false) (λU U U U=>false) (λU U U=>false) (λU U U U=>false) f (λU U U=>false) (λU U U=>false) (λU U U U=>false) (λU U U U=>false) (λU U U U U=>false) (λU U U U=>false) (λU U=>false) (λU U=>false) (λU U=>false) (λU U U U=>false) (λU U U U=>false) (λU U U U=>false) (λU U=>false) (λU U U=>false) (λU U U=>false) (λU U U=>false) (λU U=>false) (λU U=>false) (λU U=>false) (λU U U=>false) (λU U U U=>false)
@[elab_as_elim] theorem Ds {z:Expr}{f:Expr->Expr->Expr->Pos->Bool}{C:Expr->Prop}(h:zv z f=true)(k:∀t a b p,f t a b p=true->C (.IfExp t a b p)):C z:=by
 revert h;induction z using Expr.casesOn <;>first | exact aE | exact k _ _ _ _
noncomputable def sI(z:Expr)(f:List Expr->Pos->Bool):Bool:=z.casesOn (λU U U=>false) (λU U U=>false) (λU U U U=>false) (λU U U=>false) (λU U U U=>false) (λU U U U=>false) (λU U U=>false) (λU U U=>false) (λU U U U=>false) (λU U U U=>false) (λU U U U U=>false) (λU U U U=>false) (λU U=>false) (λU U=>false) (λU U=>false) (λU U U U=>false) (λU U U U=>false) (λU U U U=>false) (λU U=>false) (λU U U=>false) (λU U U=>false) (λU U U=>false) (λU U=>false) (λU U=>false) f (λU U U=>false) (λU U U U=>false)
@[elab_as_elim] theorem nA {z:Expr}{f:List Expr->Pos->Bool}{C:Expr->Prop}(h:sI z f=true)(k:∀es p,f es p=true->C (.List es p)):C z:=by
 revert h;induction z using Expr.casesOn <;>first | exact aE | exact k _ _
noncomputable def vP(z:Expr)(f:Option Expr->Option Expr->Option Expr->Pos->Bool):Bool:=z.casesOn (λU U U=>false) (λU U U=>false) (λU U U U=>false) (λU U U=>false) (λU U U U=>false) (λU U U U=>false) (λU U U=>false) (λU U U=>false) (λU U U U=>false) (λU U U U=>false) (λU U U U U=>false) (λU U U U=>false) (λU U=>false) (λU U=>false) (λU U=>false) (λU U U U=>false) (λU U U U=>false) (λU U U U=>false) (λU U=>false) (λU U U=>false) (λU U U=>false) (λU U U=>false) (λU U=>false) (λU U=>false) (λU U=>false) (λU U U=>false) f
@[elab_as_elim] theorem DJ {z:Expr}{f:Option Expr->Option Expr->Option Expr->Pos->Bool}{C:Expr->Prop}(h:vP z f=true)(k:∀l h s p,f l h s p=true->C (.Slice l h s p)):C z:=by
 revert h;induction z using Expr.casesOn <;>first | exact aE | exact k _ _ _ _
noncomputable def Bp(z:Expr)(f:List Expr->Pos->Bool):Bool:=z.casesOn (λU U U=>false) (λU U U=>false) (λU U U U=>false) (λU U U=>false) (λU U U U=>false) (λU U U U=>false) (λU U U=>false) (λU U U=>false) (λU U U U=>false) (λU U U U=>false) (λU U U U U=>false) (λU U U U=>false) (λU U=>false) (λU U=>false) (λU U=>false) (λU U U U=>false) (λU U U U=>false) (λU U U U=>false) f (λU U U=>false) (λU U U=>false) (λU U U=>false) (λU U=>false) (λU U=>false) (λU U=>false) (λU U U=>false) (λU U U U=>false)
@[elab_as_elim] theorem zU {z:Expr}{f:List Expr->Pos->Bool}{C:Expr->Prop}(h:Bp z f=true)(k:∀vs p,f vs p=true->C (.JoinedStr vs p)):C z:=by
 revert h;induction z using Expr.casesOn <;>first | exact aE | exact k _ _
noncomputable def w5(z:Expr)(f:Expr->Int->Option Expr->Pos->Bool):Bool:=z.casesOn (λU U U=>false) (λU U U=>false) (λU U U U=>false) (λU U U=>false) (λU U U U=>false) (λU U U U=>false) (λU U U=>false) (λU U U=>false) (λU U U U=>false) (λU U U U=>false) (λU U U U U=>false) (λU U U U=>false) (λU U=>false) (λU U=>false) (λU U=>false) (λU U U U=>false) (λU U U U=>false) f (λU U=>false) (λU U U=>false) (λU U U=>false) (λU U U=>false) (λU U=>false) (λU U=>false) (λU U=>false) (λU U U=>false) (λU U U U=>false)
@[elab_as_elim] theorem AN {z:Expr}{f:Expr->Int->Option Expr->Pos->Bool}{C:Expr->Prop}(h:w5 z f=true)(k:∀v i s p,f v i s p=true->C (.FormattedValue v i s p)):C z:=by
 revert h;induction z using Expr.casesOn <;>first | exact aE | exact k _ _ _ _
noncomputable def je(z:Stmt)(f:List Expr->Expr->Pos->Bool):Bool:=z.casesOn (λU U U U U U U U U U=>false) (λU U U U U U U U U U=>false) (λU U U U U U U U U U U=>false) (λU U=>false) (λU U=>false) f (λU U U U U U U=>false) (λU U U U=>false) (λU U U U U=>false) (λU U U U U=>false) (λU U U U U=>false) (λU U U U=>false) (λU U U U=>false) (λU U U=>false) (λU U U=>false) (λU U U=>false) (λU U U=>false) (λU U U U U=>false) (λU U U U U=>false) (λU U U=>false) (λU U=>false) (λU U U U=>false) (λU U=>false) (λU U=>false) (λU U=>false) (λU=>false) (λU=>false) (λU=>false)
@[elab_as_elim] theorem jw {z:Stmt}{f:List Expr->Expr->Pos->Bool}{C:Stmt->Prop}(h:je z f=true)(k:∀ts v p,f ts v p=true->C (.Assign ts v p)):C z:=by
 revert h;induction z using Stmt.casesOn <;>first | exact aE | exact k _ _ _
noncomputable def qP(z:Stmt)(f:Expr->Operator->Expr->Pos->Bool):Bool:=z.casesOn (λU U U U U U U U U U=>false) (λU U U U U U U U U U=>false) (λU U U U U U U U U U U=>false) (λU U=>false) (λU U=>false) (λU U U=>false) (λU U U U U U U=>false) f (λU U U U U=>false) (λU U U U U=>false) (λU U U U U=>false) (λU U U U=>false) (λU U U U=>false) (λU U U=>false) (λU U U=>false) (λU U U=>false) (λU U U=>false) (λU U U U U=>false) (λU U U U U=>false) (λU U U=>false) (λU U=>false) (λU U U U=>false) (λU U=>false) (λU U=>false) (λU U=>false) (λU=>false) (λU=>false) (λU=>false)
@[elab_as_elim] theorem yJ {z:Stmt}{f:Expr->Operator->Expr->Pos->Bool}{C:Stmt->Prop}(h:qP z f=true)(k:∀t op v p,f t op v p=true->C (.AugAssign t op v p)):C z:=by
 revert h;induction z using Stmt.casesOn <;>first | exact aE | exact k _ _ _ _
noncomputable def oz(z:Stmt)(f:Expr->Expr->List Stmt->List Stmt->Pos->Bool):Bool:=z.casesOn (λU U U U U U U U U U=>false) (λU U U U U U U U U U=>false) (λU U U U U U U U U U U=>false) (λU U=>false) (λU U=>false) (λU U U=>false) (λU U U U U U U=>false) (λU U U U=>false) (λU U U U U=>false) f (λU U U U U=>false) (λU U U U=>false) (λU U U U=>false) (λU U U=>false) (λU U U=>false) (λU U U=>false) (λU U U=>false) (λU U U U U=>false) (λU U U U U=>false) (λU U U=>false) (λU U=>false) (λU U U U=>false) (λU U=>false) (λU U=>false) (λU U=>false) (λU=>false) (λU=>false) (λU=>false)
@[elab_as_elim] theorem ri {z:Stmt}{f:Expr->Expr->List Stmt->List Stmt->Pos->Bool}{C:Stmt->Prop}(h:oz z f=true)(k:∀t i b o p,f t i b o p=true->C (.For t i b o p)):C z:=by
 revert h;induction z using Stmt.casesOn <;>first | exact aE | exact k _ _ _ _ _
noncomputable def yk(z:Stmt)(f:Expr->List Stmt->List Stmt->Pos->Bool):Bool:=z.casesOn (λU U U U U U U U U U=>false) (λU U U U U U U U U U=>false) (λU U U U U U U U U U U=>false) (λU U=>false) (λU U=>false) (λU U U=>false) (λU U U U U U U=>false) (λU U U U=>false) (λU U U U U=>false) (λU U U U U=>false) (λU U U U U=>false) f (λU U U U=>false) (λU U U=>false) (λU U U=>false) (λU U U=>false) (λU U U=>false) (λU U U U U=>false) (λU U U U U=>false) (λU U U=>false) (λU U=>false) (λU U U U=>false) (λU U=>false) (λU U=>false) (λU U=>false) (λU=>false) (λU=>false) (λU=>false)
@[elab_as_elim] theorem JG {z:Stmt}{f:Expr->List Stmt->List Stmt->Pos->Bool}{C:Stmt->Prop}(h:yk z f=true)(k:∀t b o p,f t b o p=true->C (.While t b o p)):C z:=by
 revert h;induction z using Stmt.casesOn <;>first | exact aE | exact k _ _ _ _
noncomputable def wk(z:Stmt)(f:Expr->List Stmt->List Stmt->Pos->Bool):Bool:=z.casesOn (λU U U U U U U U U U=>false) (λU U U U U U U U U U=>false) (λU U U U U U U U U U U=>false) (λU U=>false) (λU U=>false) (λU U U=>false) (λU U U U U U U=>false) (λU U U U=>false) (λU U U U U=>false) (λU U U U U=>false) (λU U U U U=>false) (λU U U U=>false) f (λU U U=>false) (λU U U=>false) (λU U U=>false) (λU U U=>false) (λU U U U U=>false) (λU U U U U=>false) (λU U U=>false) (λU U=>false) (λU U U U=>false) (λU U=>false) (λU U=>false) (λU U=>false) (λU=>false) (λU=>false) (λU=>false)
@[elab_as_elim] theorem FZ {z:Stmt}{f:Expr->List Stmt->List Stmt->Pos->Bool}{C:Stmt->Prop}(h:wk z f=true)(k:∀t a b p,f t a b p=true->C (.If t a b p)):C z:=by
 revert h;induction z using Stmt.casesOn <;>first | exact aE | exact k _ _ _ _
noncomputable def ze(z:Stmt)(f:Option Expr->Pos->Bool):Bool:=z.casesOn (λU U U U U U U U U U=>false) (λU U U U U U U U U U=>false) (λU U U U U U U U U U U=>false) f (λU U=>false) (λU U U=>false) (λU U U U U U U=>false) (λU U U U=>false) (λU U U U U=>false) (λU U U U U=>false) (λU U U U U=>false) (λU U U U=>false) (λU U U U=>false) (λU U U=>false) (λU U U=>false) (λU U U=>false) (λU U U=>false) (λU U U U U=>false) (λU U U U U=>false) (λU U U=>false) (λU U=>false) (λU U U U=>false) (λU U=>false) (λU U=>false) (λU U=>false) (λU=>false) (λU=>false) (λU=>false)
@[elab_as_elim] theorem J1 {z:Stmt}{f:Option Expr->Pos->Bool}{C:Stmt->Prop}(h:ze z f=true)(k:∀v p,f v p=true->C (.Return v p)):C z:=by
 revert h;induction z using Stmt.casesOn <;>first | exact aE | exact k _ _
noncomputable def AY(z:Stmt)(f:Option Expr->Option Expr->Pos->Bool):Bool:=z.casesOn (λU U U U U U U U U U=>false) (λU U U U U U U U U U=>false) (λU U U U U U U U U U U=>false) (λU U=>false) (λU U=>false) (λU U U=>false) (λU U U U U U U=>false) (λU U U U=>false) (λU U U U U=>false) (λU U U U U=>false) (λU U U U U=>false) (λU U U U=>false) (λU U U U=>false) (λU U U=>false) (λU U U=>false) (λU U U=>false) f (λU U U U U=>false) (λU U U U U=>false) (λU U U=>false) (λU U=>false) (λU U U U=>false) (λU U=>false) (λU U=>false) (λU U=>false) (λU=>false) (λU=>false) (λU=>false)
@[elab_as_elim] theorem J_ {z:Stmt}{f:Option Expr->Option Expr->Pos->Bool}{C:Stmt->Prop}(h:AY z f=true)(k:∀v w p,f v w p=true->C (.Raise v w p)):C z:=by
 revert h;induction z using Stmt.casesOn <;>first | exact aE | exact k _ _ _
noncomputable def tN(z:Stmt)(f:Expr->Pos->Bool):Bool:=z.casesOn (λU U U U U U U U U U=>false) (λU U U U U U U U U U=>false) (λU U U U U U U U U U U=>false) (λU U=>false) (λU U=>false) (λU U U=>false) (λU U U U U U U=>false) (λU U U U=>false) (λU U U U U=>false) (λU U U U U=>false) (λU U U U U=>false) (λU U U U=>false) (λU U U U=>false) (λU U U=>false) (λU U U=>false) (λU U U=>false) (λU U U=>false) (λU U U U U=>false) (λU U U U U=>false) (λU U U=>false) (λU U=>false) (λU U U U=>false) (λU U=>false) (λU U=>false) f (λU=>false) (λU=>false) (λU=>false)
@[elab_as_elim] theorem zs {z:Stmt}{f:Expr->Pos->Bool}{C:Stmt->Prop}(h:tN z f=true)(k:∀v p,f v p=true->C (.Expr v p)):C z:=by
 revert h;induction z using Stmt.casesOn <;>first | exact aE | exact k _ _
noncomputable def s_(z:Stmt)(f:List Stmt->List ExceptHandler->List Stmt->List Stmt->Pos->Bool):Bool:=z.casesOn (λU U U U U U U U U U=>false) (λU U U U U U U U U U=>false) (λU U U U U U U U U U U=>false) (λU U=>false) (λU U=>false) (λU U U=>false) (λU U U U U U U=>false) (λU U U U=>false) (λU U U U U=>false) (λU U U U U=>false) (λU U U U U=>false) (λU U U U=>false) (λU U U U=>false) (λU U U=>false) (λU U U=>false) (λU U U=>false) (λU U U=>false) f (λU U U U U=>false) (λU U U=>false) (λU U=>false) (λU U U U=>false) (λU U=>false) (λU U=>false) (λU U=>false) (λU=>false) (λU=>false) (λU=>false)
@[elab_as_elim] theorem yQ {z:Stmt}{f:List Stmt->List ExceptHandler->List Stmt->List Stmt->Pos->Bool}{C:Stmt->Prop}(h:s_ z f=true)(k:∀b hs o l p,f b hs o l p=true->C (.Try b hs o l p)):C z:=by
 revert h;induction z using Stmt.casesOn <;>first | exact aE | exact k _ _ _ _ _
noncomputable def w9(z:ExceptHandler)(f:Option Expr->Option ac->List Stmt->Pos->Bool):Bool:=z.casesOn f
@[elab_as_elim] theorem CI {z:ExceptHandler}{f:Option Expr->Option ac->List Stmt->Pos->Bool}{C:ExceptHandler->Prop}(h:w9 z f=true)(k:∀t n b p,f t n b p=true->C (.ExceptHandler t n b p)):C z:=by
 revert h;induction z using ExceptHandler.casesOn <;>first | exact aE | exact k _ _ _ _
end

section
open PySem PySem.W PyProof.Rows PySem.SeqAt PySem.MeetsSeq
inductive GV where
 |int (i:Int) | str (s:ac) | fn (a:Addr) | bi (b:Nat) | ex (C:Addr)
 deriving DecidableEq
structure aU where
 nm:List ac
 sc:List (ac×NameKind)
 G:List (ac×GV)
noncomputable def z9:Const->D->Bool
 |.none,.none=>true
 |.bool a,.bool b=>a==b
 |.int a,.int b=>a==b
 |.str a,.str b=>a==b
 |.bytes a,.bytes b=>a==b
 |_,_=>false
noncomputable def zm:GV->D->Bool
 |.int a,.int b=>a==b
 |.str a,.str b=>a==b
 |_,_=>false
noncomputable def jF(e:Expr):Bool:=!aG e.ctorIdx 22
noncomputable def jI(e:Expr):Bool:=!aG e.ctorIdx 16
noncomputable def nX(e:Expr):Bool:=b_ e.ctorIdx 8||b_ 10 e.ctorIdx
noncomputable def aU.glob(S:aU)(x:ac)(g:GV->Bool):Bool:=(S.sc.lookup x==some .globalImplicit)&&(!(x==("__debug__" : ac)))&&match S.G.lookup x with
 |some v=>g v
 |none=>false
structure jA where
 e:Expr->Bool
 a:List Expr->Bool
 o:Option Expr->Bool
noncomputable def jA.of(e:Expr->Bool):jA:=⟨e,λU=>false,λo=>match o with | some x=>e x | Bx=>false⟩
noncomputable def w_:Const->D->Bool
 |.int j,.int i=>i == -j
 |_,_=>false
noncomputable def lp(d:D)(e:Expr):Bool:=bif iR e λU U U=>true then iR e λop a U=>(op==.USub)&&fS a λc U U=>w_ c d else fS e λc U U=>z9 c d
noncomputable def aN(S:aU)(T:Nat->Expr->Bool):Ex->jA
 |.k d=>.of (lp d)
 |.g x d=>.of λe=>bu e λy U=>(y==x)&&S.glob x λv=>zm v d
 |.v i=>.of λe=>bu e λy U=>getN S.nm i==some y
 |.attr e f=>.of λt=>iK t λv a U=>(a==aK f)&&(b_ f 20&&(jI v&&(aN S T e).e v))
 |.bin op l r=>.of λt=>mq t λa op' b U=>(op'==op)&&((aN S T l).e a&&(aN S T r).e b)
 |.fmt n e=>.of λt=>mq t λa op b U=>fS a λc U U=>(c==.str (zl n))&&((op==.Mod)&&(aN S T e).e b)
 |.cmp op l r=>.of λt=>nP t λa os bs U=>(os==[op])&&bY bs λb=>(!behindInMarks op b)&&((aN S T l).e a&&(aN S T r).e b)
 |.not e=>.of λt=>iR t λop a U=>(op==.Not)&&(aN S T e).e a
 |.and es=>.of λt=>lJ t λop vs U=>(op==.And)&&(aN S T es).a vs
 |.or es=>.of λt=>lJ t λop vs U=>(op==.Or)&&(aN S T es).a vs
 |.ite t a b=>.of λx=>zv x λt' a' b' U=>(aN S T t).e t'&&((aN S T a).e a'&&(aN S T b).e b')
 |.call x f es=>.of λt=>eP t λg as ks U=>ck ks (bu g λy U=>(y==x)&&((S.glob x λv=>v==.fn f)&&(aN S T es).a as))
 |.meth e m es=>.of λt=>eP t λg as ks ps=>ck ks (iK g λo x ap=>(x==cN m)&&(b_ m 12&&(jI o&&((ap.endLine==ps.line)&&(b_ as.length 30&&((aN S T e).e o&&(aN S T es).a as))))))
 |.bi b es=>.of λt=>eP t λg as ks U=>ck ks (bu g λy U=>(y==bI b)&&((S.glob (bI b) λv=>v==.bi b)&&(aN S T es).a as))
 |.bm e m es=>.of λt=>eP t λg as ks ps=>ck ks (iK g λo x ap=>(x==i7 m)&&(jI o&&((ap.endLine==ps.line)&&(b_ as.length 30&&((aN S T e).e o&&(aN S T es).a as)))))
 |.tup es=>.of λt=>mY t λas U U=>(aN S T es).a as
 |.lst es=>.of λt=>sI t λas U=>(aN S T es).a as
 |.lst0=>.of λt=>sI t λas U=>ck as true
 |.sub e i=>.of λt=>lM t λa b U=>(aN S T e).e a&&(aN S T i).e b
 |.slc e lo hi=>.of λt=>lM t λa b U=>vP b λl h s U=>lL s ((aN S T e).e a&&((aN S T lo).o l&&(aN S T hi).o h))
 |.txt es=>.of λt=>Bp t λvs U=>b_ vs.length 100&&(aN S T es).a vs
 |.fv e=>.of λt=>w5 t λv i s U=>(i == -1)&&lL s ((aN S T e).e v)
 |.orc n=>.of (T n)
 |.nil=>⟨λU=>false,λas=>as.isEmpty,λo=>o.isNone⟩
 |.cons e r=>⟨λU=>false,λas=>match as with
  |a::t=>jF a&&(aN S T e).e a&&(aN S T r).a t
  |[]=>false,λU=>false⟩
noncomputable def oQ:List Value:=[.type "Exception",.type "BaseException",.type "object"]
structure bX(K:Frag)(S:aU)(c:FC):Prop where
 nm:c.nm=S.nm
 sc:∀x k,S.sc.lookup x=some k->c.env.kindOf x=some k
 int:∀x i,S.G.lookup x=some (.int i)->∃t,c.gn x=some (.int i t)
 str:∀x i,S.G.lookup x=some (.str i)->∃t,c.gn x=some (.str i t)
 fn:∀x a,S.G.lookup x=some (.fn a)->c.gn x=some (.ref a)/\keepIn K (.ref a)=true
 bi:∀x b,S.G.lookup x=some (.bi b)->c.gn x=Bx/\c.bn x=some (eE b)
 ex:∀x C,S.G.lookup x=some (.ex C)->OwnCls x C oQ "Exception.__new__" c.gn c.base
structure cJ(K:Frag):Prop where
 cls:∀C,iL C=true->dc K C=true/\∀f<20,dX K C f=true
 meth:∀C m f,kY C m=some f->dc K C=true/\fj K C (cN m) f=true
theorem lr{e:Expr}(h:jF e=true)(r:List Expr)(env:Env):starEach (e::r) env=(false,eval e env)::starEach r env:=by
 induction e using Expr.casesOn with
 |Starred _ _=>exact aE h
 |_=>rfl
theorem ky{o:Expr}(h:jI o=true)(x:ac)(env:Env)(t:Sem Value):attributeBase o x env t=t:=by
 induction o using Expr.casesOn with
 |Call _ _ _ _=>exact aE h
 |_=>rfl
noncomputable def fi(e:Expr):Bool:=!aG e.ctorIdx 0&&(!aG e.ctorIdx 5&&(!aG e.ctorIdx 15 && !iR e λop U U=>op==.Not))
theorem Kv{e:Expr}(h:fi e=true)(env:Env)(whole:Sem Value):isTrue e env whole=(do let v <-whole;standAt e.pos;holding [v] (truthy v)):=by
 induction e using Expr.casesOn with
 |BoolOp _ _ _=>exact aE h
 |IfExp _ _ _ _=>exact aE h
 |Compare _ _ _ _=>exact aE h
 |UnaryOp op _ _=>induction op using UnaryOp.casesOn with
  |Not=>exact aE h
  |_=>rfl
 |_=>rfl
theorem rP{e:Expr}(h:nX e=true)(t:Option Expr)(n:Nat)(env:Env):swapsWith e t n env=pure false:=by
 induction e using Expr.casesOn with
 |ListComp _ _ _ _=>exact aE h
 |SetComp _ _ _ _=>exact aE h
 |DictComp _ _ _ _ _=>exact aE h
 |_=>rfl
section
variable {prog:Program}{w:World}{K:Frag}{k:Nat}{c:FC}{st:St}{X:Nat->St->Prop}
theorem Cy{e:Expr}{whole:Sem Value}{Q:Bool->St->Prop}(ok:am K k c)(he:fi e=true)(h:WE prog w c whole st (λV st1=>q_ st1.own V λq=>Q q st1) X):WT prog w c (isTrue e c.env whole) st Q X:=λs fz ad fps S=>by
 refine rwr (Kv he ..) ?_
 refine ai (h.use S (λv s1 V st1 fz1 ad1 fps1 x1 S1 rv hQ=>?_) λU U e=>e)
 refine ai (a_ (bC (wpAny.n (wpAny_mono (Dc ok S1 rv hQ) ?_ λU U e=>e))))
 refine λq s2=>ae λhq=>uE1 λtk y5=>?_;subst y5
 exact⟨q,st1,fz1,ad1,fps1,x1.trans (aA.tok tk),S1,rfl,hq⟩
end
end

section
open PySem PySem.W PyProof.Rows PySem.SeqAt PySem.MeetsSeq
section
variable {prog:Program}{w:World}{K:Frag}{k:Nat}{c:FC}{st:St}{X:Nat->St->Prop}{Γ:Addr->aH->Prop}{O:bf}{S:aU}{T:Nat->Expr->Bool}
theorem rR{f:Addr}{Vs:List V}{Q:V->St->Prop}(hΓ:∀f C,Γ f C->ah prog w K c.gn c.bn k (.ref f) C)(h:fJ Γ f Vs st Q X):∃C,ah prog w K c.gn c.bn k (.ref f) C/\ti C st Vs Q X:=by
 obtain⟨C,h1,⟨a1,a2,a3,a4,a5⟩,h3⟩:=h
 refine⟨C,hΓ f C h1,ex3 (selV st.own Vs []) _ _ ⟨a1,a2,?_,λt o e=>?_,a4,a3,h3⟩⟩
 ·simp[j4]
 ·rw[dO]at e
  unfold j4 at e
  rw[dO]at e
  cases q:(selV st.own Vs [])[t]? with
  |none=>rw[q]at e;cases e
  |some i =>
   rw[q]at e
   refine elE1 (a5 i (cw q)) λo'=>al λe1 e2 e3=>?_
   simp only[li,lj]at e
   rw[e1]at e
   simp only[BN]at e
   subst e
   refine⟨e2,?_⟩
   exact rwr (o_ q ..) (rwr (aM (bk ..)) (rwr (e1 ..) (rwr (aM (e3 ..)) rfl)))
structure bb(prog:Program)(w:World)(c:FC)(X:Nat->St->Prop)(W:W)(o:jA):Prop where
 e:∀e,o.e e=true->∀st Q,W.e st Q->WE prog w c (eval e c.env) st Q X
 t:∀e,o.e e=true->∀st Q,W.t st Q->WT prog w c (isTrue e c.env (eval e c.env)) st Q X
 p:∀as,o.a as=true->cj as c.env
 a:∀as,o.a as=true->∀st Q,W.a st Q->∀pos,WA prog w c (spliced (backTo pos (starEach as c.env))) st Q X
 n:∀st Q,o.a []=true->W.a st Q->Q [] st
 tA:∀as,o.a as=true->∀st Q,W.tA st Q->∀pos whole,WT prog w c (isTrue (.BoolOp .And as pos) c.env whole) st Q X
 tO:∀as,o.a as=true->∀st Q,W.tO st Q->∀pos whole,WT prog w c (isTrue (.BoolOp .Or as pos) c.env whole) st Q X
 vA:∀as,o.a as=true->∀st Q,W.vA st Q->∀pos,WE prog w c (boolOp pos .And (evalEach as c.env)) st (λV st'=>∃q,V=.d (.bool q)/\Q q st') X
 vO:∀as,o.a as=true->∀st Q,W.vO st Q->∀pos,WE prog w c (boolOp pos .Or (evalEach as c.env)) st (λV st'=>∃q,V=.d (.bool q)/\Q q st') X
 x:∀as,o.a as=true->∀st Q,W.tx st Q->∀out:ac,out.length+200*as.length<=100000->WE prog w c (joinParts out (evalEach as c.env)) st (λV st1=>(∃x,V=.d (.str x))/\Q st1) X
 x1:∀a,o.a [a]=true->∀st Q,W.tx st Q->WE prog w c (eval a c.env) st (λV st1=>(∃x,V=.d (.str x))/\Q st1) X
 o:∀oe,o.o oe=true->∀st Q,W.o st Q->WG prog w c (λU U i v=>fV i v) (evalPart oe c.env) st Q X
theorem bb.of{f:St->(V->St->Prop)->Prop}{g:Expr->Bool}(ok:am K k c)(hp:∀e,g e=true->fi e=true)(h:∀e,g e=true->∀st Q,f st Q->WE prog w c (eval e c.env) st Q X):bb prog w c X (W.of f) (jA.of g) where
 e:=h
 t:=λe he st Q hq=>Cy ok (hp e he) (h e he st _ hq)
 p:=λU he=>nomatch he
 a:=λU he=>nomatch he
 n:=λU U he=>nomatch he
 tA:=λU he=>nomatch he
 tO:=λU he=>nomatch he
 vA:=λU he=>nomatch he
 vO:=λU he=>nomatch he
 x:=λU he=>nomatch he
 x1:=λU he=>nomatch he
 o:=λoe he st Q hq=>by
  cases oe with
  |none=>cases he
  |some e =>
   refine rwr (evalPart_some ..) ?_
   exact λs fz ad fps S=>(h e he st _ hq).use S (λv s1 V st1 fz1 ad1 fps1 x S1 rv hQ=>by
    refine elE1 (dS hQ) λi=>ae λe hQ=>?_
    refine elE1 (rv.dat e) λt z0=>?_;subst z0
    exact⟨some i,st1,fz1,ad1,fps1,x,S1,.int i t,hQ⟩) λU U e=>e
theorem bb.with_t{f:St->(V->St->Prop)->Prop}{t:St->(Bool->St->Prop)->Prop}{g:Expr->Bool}(h:∀e,g e=true->∀st Q,f st Q->WE prog w c (eval e c.env) st Q X)
  (ht:∀e,g e=true->∀st Q,t st Q->WT prog w c (isTrue e c.env (eval e c.env)) st Q X) (ok:am K k c):bb prog w c X { W.of f with t:=t } (jA.of g) where
 e:=h
 t:=ht
 p:=λU he=>nomatch he
 a:=λU he=>nomatch he
 n:=λU U he=>nomatch he
 tA:=λU he=>nomatch he
 tO:=λU he=>nomatch he
 vA:=λU he=>nomatch he
 vO:=λU he=>nomatch he
 x:=λU he=>nomatch he
 x1:=λU he=>nomatch he
 o:=λoe he st Q hq=>by
  cases oe with
  |none=>cases he
  |some e =>
   refine rwr (evalPart_some ..) ?_
   exact λs fz ad fps S=>(h e he st _ hq).use S (λv s1 V st1 fz1 ad1 fps1 x S1 rv hQ=>by
    refine elE1 (dS hQ) λi=>ae λe hQ=>?_
    refine elE1 (rv.dat e) λt z0=>?_;subst z0
    exact⟨some i,st1,fz1,ad1,fps1,x,S1,.int i t,hQ⟩) λU U e=>e
theorem Jz{C:Const}{kd:Nat}{pos:Pos}{d:D}{Q:V->St->Prop}(he:z9 C d=true)(h:Q (.d d) st):WE prog w c (eval (.Constant C kd pos) c.env) st Q X:=by
 induction C using Const.casesOn with
 |none=>induction d using D.casesOn with
  |none=>exact GZ h
  |_=>exact aE he
 |bool a=>induction d using D.casesOn with
  |bool b=>exact(eq_of_beq he:a=b)▸DP h
  |_=>exact aE he
 |int a=>induction d using D.casesOn with
  |int b=>exact(eq_of_beq he:a=b)▸HO h
  |_=>exact aE he
 |str a=>induction d using D.casesOn with
  |str b=>exact(eq_of_beq he:a=b)▸GR h
  |_=>exact aE he
 |bytes a=>induction d using D.casesOn with
  |bytes b=>exact(eq_of_beq he:a=b)▸Hl h
  |_=>exact aE he
 |_=>exact aE he
theorem yw:∀p<20,∀m<12,(aK p==cN m)=false:=by decide +kernel
theorem xG{own:List af}{V:V}{f:Nat}{kk:Mine.V->Prop}(hK:cJ K)(hq:lX own V f kk):∃r,sM K own V f r/\kk r :=
 have two:∀{C:Nat} {P:Prop},cond (iL C&&b_ f 20) P False->dc K C=true/\dX K C f=true/\P:=λh =>
  have ⟨h1,h⟩:=g_ h
  have h1:=dh.mp h1
  ⟨(hK.cls _ h1.1).1,(hK.cls _ h1.1).2 f (fN.mp h1.2),h⟩
 na hq (λi e h=>j5 h (λC fs e2 h=>have ⟨h1,h2,h⟩:=two h;have ⟨r,e3,h⟩:=dk h;⟨r,e▸⟨C,fs,e2,h1,h2,e3⟩,h⟩) (λU U h=>h.elim) λU U h=>h.elim)
  λh=>yY h (λC fs e h=>have ⟨h1,h2,h⟩:=two h;have ⟨r,e3,h⟩:=dk h;⟨.d r,e▸⟨r,h1,h2,e3,rfl⟩,h⟩) dQ
theorem sK{α:Type}{mm:Nat}(hm:mm<12){fs:List (Nat×α)}(h:(fs.all λp=>b_ p.1 20)=true):kG (cN mm) (fs.map (·.1)):=by
 induction fs with
 |nil=>trivial
 |cons p r ih =>
  have h:=dh.mp h
  exact⟨yw _ (fN.mp h.1) _ hm,ih h.2⟩
theorem Ai{own:List af}{V:V}{mm:Nat}{kk:Addr->Prop}(hK:cJ K)(hm:mm<12)(hq:jG own V mm kk):∃f,jZ K own V (cN mm) f/\kk f :=
 na hq (λi e h=>j5 h (λC fs e2 h=>have ⟨h1,h⟩:=g_ h;have ⟨f,e3,h⟩:=dk h;have ⟨k1,k2⟩:=hK.meth C mm f e3;⟨f,e▸⟨C,fs,e2,k1,k2,sK hm h1⟩,h⟩) (λU U h=>h.elim) λU U h=>h.elim)
  λh=>yY h (λC fs e h=>have ⟨h1,h⟩:=g_ h;have ⟨f,e3,h⟩:=dk h;have ⟨k1,k2⟩:=hK.meth C mm f e3;⟨f,e▸⟨k1,k2,sK hm h1⟩,h⟩) dQ
theorem Ik{value:Expr}{f:Nat}{pos:Pos}{Q:V->St->Prop}(ok:am K k c)(hc:jI value=true)(hK:cJ K)
  (h:WE prog w c (eval value c.env) st (λV st1=>lX st1.own V f λr=>Q r st1) X):WE prog w c (eval (.Attribute value (aK f) pos) c.env) st Q X:=λs fz ad fps S=>by
 refine rwr (arm_eval_Attribute ..) (rwr (ky hc ..) ?_)
 refine ai (h.use S (λo s1 V st1 fz1 ad1 fps1 x S1 rv hq=>?_) λU U e=>e)
 refine elE1 (xG hK hq) λr=>ae λha hQ=>?_
 refine ai (a_ (ai (bC (wpAny.n (vd ok S1 rv ha λv tk r'=>?_)))))
 exact wpAny.n <| wpAny_bind (wpAny_letTemporaryGo (wpAny_pure ⟨r,st1,fz1,ad1,fps1,x.trans (aA.tok tk),S1,r',hQ⟩))
theorem KQ{pos:Pos}{op:BoolOp}{x y:Sem Value}{rest:List (Sem Value)}:boolOp pos op (x::y::rest)=(do
  let v <-x
  standAt pos
  let t <-holding [v] (truthy v)
  match op,t with
  |.And,false | .Or,true=>pure v
  |_,_=>boolOp pos op (y::rest)):=rfl
theorem cj.all{es:List Expr}{env:Env}{pos:Pos}(h:cj es env):(backTo pos (starEach es env)).all (!·.1)=true:=by
 have:=cj.any (pos:=pos) h
 refine rwr (List.all_eq_not_any_not ..) ?_
 simpa using this
theorem m8{f:Value}{first:List Value}{es:List Expr}{pos:Pos}{s:Shared}{fz ad fps}(hf:∀a,f≠.ref a)(S0:SR w.params c st fz ad fps s)(hp:cj es c.env){Qa:List V->St->Prop}{Qc:Value->Shared->Prop}{Ec:Value->Shared->Prop}
  (h:ju prog w c pos es st Qa X) (he:∀e s',bD prog w c X e s'->Ec e s')
  (hq:∀vs s' Vs st' fz' ad' fps',aA c s fz ad fps s' fz' ad' fps'->SR w.params c st' fz' ad' fps' s'->aV w.params (Zf c.base fz') ad' Vs vs->Qa Vs st'->ag (model prog w) c.A (call f (first++vs)) Qc Ec s'):
  ag (model prog w) c.A (callWith pos f first (backTo pos (starEach es c.env)) []) Qc Ec s:=by
 refine iH (P:=λU=>True) (cj.any hp) (λh U=>⟨.machine,.inr (.inl rfl),?_⟩) ?_
 ·cases f <;>first | exact Looks.now | exact absurd rfl (hf _)
 ·cases es with
  |nil=>exact nx ⟨trivial,hq [] s [] st fz ad fps aA.refl S0 rfl h⟩
  |cons e r =>
   have h':WA prog w c (spliced (backTo pos (starEach (e::r) c.env))) st Qa X:=h
   rw[hp.1]at h' ⊢
   exact kX (WG.use h' S0 (λvs s1 Vs st1 fz1 ad1 fps1 x S1 rv hQ=>⟨trivial,hq vs s1 Vs st1 fz1 ad1 fps1 x S1 rv hQ⟩) he)
theorem bb.ar{W:W}{o:jA}(h:bb prog w c X W o){as:List Expr}(ho:o.a as=true){st:St}{Q:List V->St->Prop}(hq:W.a st Q)(pos:Pos):ju prog w c pos as st Q X:=by
 cases as with
 |nil=>exact h.n st Q ho hq
 |cons e r=>exact h.a _ ho st Q hq pos
theorem Kg{b:Nat}{np pos:Pos}{es:List Expr}{Q:V->St->Prop}(ok:am K k c)(hx:c.env.kindOf (bI b)=some .globalImplicit)(hd:(bI b==("__debug__" : ac))=false)(hg:c.gn (bI b)=Bx)(hb:c.bn (bI b)=some (eE b))
  (hp:cj es c.env) (h:ju prog w c pos es st (λVs st1=>ui b Vs st1 Q) X):WE prog w c (eval (.Call (.Name (bI b) np) es [] pos) c.env) st Q X:=λs fz ad fps S=>by
 have hbv:∀a,eE b≠.ref a:=λa=>Gd
 refine jv (wpAny.n (jj ok.hk hx (uM (by refine rwr (ok.hg ..) ?_;exact ok.gns.keeps (S.heap ok)) hg (by refine rwr (ok.hb ..) ?_;exact ok.bns.keeps (S.heap ok)) hb ?_) hd))
 refine m8 hbv S hp h (λU U e=>e) λvs s1 Vs st1 fz1 ad1 fps1 x S1 rv hC=>?_
 refine aD (D9 ok S1 rv hC) (λv s' hB=>?_) λU U e=>e
 exact aP.adv x hB
theorem my{o:Expr}{x:ac}{apos pos:Pos}{ov:Value}{es:List Expr}{Q:Value->Shared->Prop}{Ec:Value->Shared->Prop}{s:Shared}(hp:cj es c.env)(hl:es.length<30)(he:apos.endLine=pos.line)
  (h:∀pl,wpAny (model prog w) c.A (getMethod ov x pl) (λfx s₂=>ag (model prog w) c.A (callWith pos fx.1 fx.2 (backTo pos (starEach es c.env)) []) Q Ec s₂) Ec s):
  ag (model prog w) c.A (methodCall o x apos pos c.env ov (es.length+([]:List Keyword).length) (backTo pos (starEach es c.env)) (backToKw pos (keywordEach [] c.env))) Q Ec s:=by
 have hf:methodCallForm (es.length+([]:List Keyword).length) (backTo pos (starEach es c.env)) (backToKw pos (keywordEach [] c.env))=true:=by
  show ((backTo pos (starEach es c.env)).all (!·.1)&&true&&decide (es.length+0+0<30))=true
  refine rwr (cj.all hp ..) ?_
  exact decide_eq_true hl
 unfold methodCall
 refine rwr (hf ..) ?_
 refine ai (bC ?_)
 show ag _ _ (getMethod ov x _) _ _ _
 refine wpAny.n <| wpAny_mono (h _) (λfx s₂ h₂=>?_) λU U e=>e
 obtain⟨f,first⟩:=fx
 show ag _ _ (methodCallPos true o c.env apos pos >>= λcallPos=>callWith callPos f first _ _) _ _ _
 unfold methodCallPos
 have e2:(!true||apos.endLine==pos.line)=true:=by simp[he]
 refine rwr (if_pos e2 ..) ?_
 exact ai (aF h₂)
theorem Gb{e:Expr}{mm:Nat}{apos pos:Pos}{es:List Expr}{Q:V->St->Prop}(ok:am K k c)(hc:jI e=true)(hp:cj es c.env)(hl:es.length<30)(he:apos.endLine=pos.line)
  (h:WE prog w c (eval e c.env) st (λV st1=>∃kd,iG st1.own V=some kd/\jS kd mm=true/\ju prog w c pos es st1 (λVs st2=>cond (o4 (iG st2.own V) kd) (oF mm V Vs st2 Q) False) X) X):WE prog w c (eval (.Call (.Attribute e (i7 mm) apos) es [] pos) c.env) st Q X:=λs fz ad fps S=>by
 refine rwr (arm_eval_Call ..) (rwr (ky hc ..) ?_)
 refine ai (h.use S (λov s1 V st1 fz1 ad1 fps1 x S1 rv hq=>?_) λU U e=>e)
 refine elE1 hq λkd=>al λh1 h2 h3=>?_;clear hq
 refine ai (a_ (my hp hl he λpl=>F5 S1 rv h1 h2 ?_))
 refine m8 (f:=.builtin (i8 kd mm)) (by intro a e;cases e) S1 hp h3 (λU U e=>e) λvs s2 Vs st2 fz2 ad2 fps2 y S2 rvs hC=>?_
 refine ak (g_ hC) λh4 h5=>?_
 have h4:=IZ h4
 obtain⟨kd',e1,_,hw⟩:=Fw ok S2 (RV.mono (Zf.ext y.fz) y.ad _ _ rv) rvs h5 (Ec:=bD prog w c X)
 rw[h4]at e1;cases e1
 refine aD hw (λv s' hB=>?_) λU U e=>e
 exact aP.adv (x.trans y) hB
theorem E1{e:Expr}{mm:Nat}{apos pos:Pos}{es:List Expr}{Q:V->St->Prop}(ok:am K k c)(hK:cJ K)(hm:mm<12)(hc:jI e=true)(hp:cj es c.env)(hl:es.length<30)(he:apos.endLine=pos.line)
  (hΓ:∀f C,Γ f C->ah prog w K c.gn c.bn k (.ref f) C)
  (h:WE prog w c (eval e c.env) st (λV st1=>jG st1.own V mm λf=>ju prog w c pos es st1 (λVs st2=>fJ Γ f (V::Vs) st2 Q X) X) X):WE prog w c (eval (.Call (.Attribute e (cN mm) apos) es [] pos) c.env) st Q X:=λs fz ad fps S=>by
 refine rwr (arm_eval_Call ..) (rwr (ky hc ..) ?_)
 refine ai (h.use S (λov s1 V st1 fz1 ad1 fps1 x S1 rv hq=>?_) λU U e=>e)
 refine elE1 (Ai hK hm hq) λf=>ae λhm' ha=>?_
 refine ai (a_ (my hp hl he λpl=>oH ok S1 rv hm' ?_))
 refine w7 ok S1 hm'.keep hp ha (λU U e=>e) λvs s2 Vs st2 fz2 ad2 fps2 y S2 rvs hC=>?_
 refine elE1 (rR hΓ hC) λC=>ae λhs hC=>?_
 refine vG ok hs S2 (show aV _ _ _ (V::Vs) ([ov]++vs) from (ex2 ov vs ⟨rfl,RV.mono (Zf.ext y.fz) y.ad _ _ rv,rvs⟩)) hC (λv s' V' st' fz' ad' fps' z S' rv' hQ=>?_) λU U e=>e
 exact⟨V',st',fz',ad',fps',(x.trans y).trans z,S',rv',hQ⟩
end
end

section
open PySem PySem.W PyProof.Rows PySem.SeqAt PySem.MeetsSeq
section
variable {prog:Program}{w:World}{K:Frag}{k:Nat}{c:FC}{st:St}{X:Nat->St->Prop}{Γ:Addr->aH->Prop}{O:bf}{S:aU}{T:Nat->Expr->Bool}
theorem G5{op:Operator}{a b:V}{Q:V->St->Prop}(ok:am K k c)(h:qA st.own op a b λv=>Q v st):O2 prog w c (binaryOp op) a b st Q X :=
 λs fz ad fps va vb S ra rb=>wpAny.n (JV ok S ra rb h)
theorem zE{op:CmpOp}{a b:V}{Q:V->St->Prop}(ok:am K k c)(h:kl st.own op a b λq=>Q (.d (.bool q)) st):O2 prog w c (compareOp op) a b st Q X :=
 λs fz ad fps va vb S ra rb=>wpAny.n (wpAny_mono (Cq ok S ra rb h) (λv s' ⟨q,e,hq,tk,e2⟩=>by subst e e2;exact⟨.d (.bool q),st,fz,ad,fps,aA.tok tk,S,rfl,hq⟩) λU U e=>e)
theorem GB{t a b:Expr}{pos:Pos}{Q:V->St->Prop}(h:WT prog w c (isTrue t c.env (eval t c.env)) st (λq st1=>(q=true->WE prog w c (eval a c.env) st1 Q X)/\(q=false->WE prog w c (eval b c.env) st1 Q X)) X):
  WE prog w c (eval (.IfExp t a b pos) c.env) st Q X:=λs fz ad fps S =>
 GD (h.use S (λq s1 q' st1 fz1 ad1 fps1 x1 S1 rq hQ=>by
  have:q'=q:=rq
  subst this
  cases q' with
  |true=>exact(if_pos rfl).mpr (WG.use (hQ.1 rfl) S1 (λr s2 r' st2 fz2 ad2 fps2 y1 S2 rr hQ2=>⟨r',st2,fz2,ad2,fps2,x1.trans y1,S2,rr,hQ2⟩) λU U e=>e)
  |false=>exact(if_neg (by decide)).mpr (WG.use (hQ.2 rfl) S1 (λr s2 r' st2 fz2 ad2 fps2 y1 S2 rr hQ2=>⟨r',st2,fz2,ad2,fps2,x1.trans y1,S2,rr,hQ2⟩) λU U e=>e)) λU U e=>e)
theorem sP{P:Params}{Z:Zt}{ad:List Addr}:∀{ds:List D} {vs:List Value},aV P Z ad (ds.map V.d) vs->RDs P Z ds vs
 |[],_,h=>h
 |d::r,_,h=>by
  refine elE2 h λx ys=>al λz0 h1 h2=>?_;clear h;subst z0
  exact(ex2 x ys ⟨rfl,h1,sP h2⟩)
theorem K2{as:List Expr}{kd:Nat}{pos:Pos}{Q:V->St->Prop}(ok:am K k c)(h:WA prog w c (spliced (backTo pos (starEach as c.env))) st (λVs st1=>lG Vs λds=>Q (.d (.tup ds)) st1) X):WE prog w c (eval (.Tuple as kd pos) c.env) st Q X:=λs fz ad fps S =>
 JJ (h.use S (λvs s1 Vs st1 fz1 ad1 fps1 x S1 rv hQ=>by
  refine elE1 (xT hQ) λds=>al λe hl hz=>?_
  have r:=sP (e▸rv)
  refine elE1 S1.one λm S2=>?_
  refine newTuple_N (S2.fr ok) (fH _ _ _) (λh' F' N'=>?_) (by refine rwr (RDs.len r ..) (rwr (sizeLine_eq ..) ?_);lia)
  exact aP.adv (prog:=prog) x (aP.ref_tup (n:=0) (xs:=vs.toArray) (tk:=s1.toks) ok S2 F' N' (fk _) r hz)) λU U e=>e)
theorem CY{as:List Expr}{pos:Pos}{Q:V->St->Prop}(ok:am K k c)(h:WA prog w c (spliced (backTo pos (starEach as c.env))) st (λVs st1=>lG Vs λds=>Q (.d (.list ds)) st1) X):WE prog w c (eval (.List as pos) c.env) st Q X:=λs fz ad fps S =>
 z7 (h.use S (λvs s1 Vs st1 fz1 ad1 fps1 x S1 rv hQ=>by
  refine elE1 (xT hQ) λds=>al λe hl hz=>?_
  have r:=sP (e▸rv)
  refine elE1 S1.one λm S2=>?_
  refine newList_N (S2.fr ok) (fH _ _ _) (λh' F' N'=>?_) (by refine rwr (RDs.len r ..) (rwr (sizeLine_eq ..) ?_);lia)
  exact aP.adv (prog:=prog) x (aP.list (n:=0) (xs:=vs.toArray) (tk:=s1.toks) ok S2 F' N' (λp hp=>cL (fH _ _ _ p hp).1) r hz)) λU U e=>e)
theorem I7{pos:Pos}{Q:V->St->Prop}(ok:am K k c)(h:Q (.own st.own.length) ⟨st.loc,st.own++[.lst []]⟩):WE prog w c (eval (.List [] pos) c.env) st Q X:=λs fz ad fps S =>
 z7 (zh (by
  refine elE1 S.one λm S2=>?_
  have z:=bF.owned (tk:=s.toks) (h':=s.heap.push { cls:=.type "list",data:=.seq (([]:List Value)).toArray }) (a:=s.heap.objs.size) (o:=.lst []) (fp:=[(s.heap.objs.size,listOf #[] 0)]) ok S2 (λb o e=>eA _ e)
   (λp hp=>by simp only[bj]at hp;subst hp;exact⟨dt _ rfl,fk _⟩) (by simp) λad'=>⟨#[],0,rfl,rfl⟩
  exact wpAny_newList ⟨.own st.own.length,_,_,_,_,z.2,z.1,⟨s.heap.objs.size,by refine rwr (S2.RO.len.1 ..) ?_;simp,rfl⟩,h⟩))
theorem KH{a b:Expr}{pos:Pos}{Q:V->St->Prop}(ok:am K k c)(h:WE prog w c (eval a c.env) st (λA st1=>WE prog w c (eval b c.env) st1 (λB st2=>ub st2.own A B λr=>Q r st2) X) X):WE prog w c (eval (.Subscript a b pos) c.env) st Q X:=λs fz ad fps S =>
 nN (h.use S (λva s1 A st1 fz1 ad1 fps1 x S1 ra h1=>h1.use S1 (λvb s2 B st2 fz2 ad2 fps2 y S2 rb h2 =>
  wpAny.n (wpAny_mono (HU ok S2 (RV.mono (Zf.ext y.fz) y.ad _ _ ra) rb h2) (λv s' B=>aP.adv (x.trans y) B) λU U e=>e)) λU U e=>e) λU U e=>e)
theorem K3{a:Expr}{lo hi:Option Expr}{p pos:Pos}{Q:V->St->Prop}(ok:am K k c)(h:WE prog w c (eval a c.env) st (λA st1=>WG prog w c (λU U i v=>fV i v) (evalPart lo c.env) st1 (λl st2=>WG prog w c (λU U i v=>fV i v) (evalPart hi c.env) st2 (λh st3=>qX st3.own A l h λr=>Q r st3) X) X) X):
  WE prog w c (eval (.Subscript a (.Slice lo hi Bx p) pos) c.env) st Q X:=λs fz ad fps S =>
 nN (h.use S (λva s1 A st1 fz1 ad1 fps1 x S1 ra h1=>GX (h1.use S1 (λvl s2 l st2 fz2 ad2 fps2 y S2 rl h2=>h2.use S2 (λvu s3 u st3 fz3 ad3 fps3 z S3 ru h3=>by
  refine rwr (evalPart_none ..) ?_
  refine aF ?_
  have yz:=y.trans z
  exact wpAny.n <| wpAny_mono (Cb ok S3 (RV.mono (Zf.ext yz.fz) yz.ad _ _ ra) rl ru h3) (λv s' B=>aP.adv (x.trans yz) B) λU U e=>e) λU U e=>e) λU U e=>e)) λU U e=>e)
end
end

section
open PySem PySem.W PyProof.Rows PySem.SeqAt PySem.MeetsSeq
section
variable {prog:Program}{w:World}{K:Frag}{k:Nat}{c:FC}{st:St}{X:Nat->St->Prop}{Γ:Addr->aH->Prop}{O:bf}{S:aU}{T:Nat->Expr->Bool}
theorem IA{j:Int}{kd:Nat}{p pos:Pos}{Q:V->St->Prop}(h:Q (.d (.int (-j))) st):WE prog w c (eval (.UnaryOp .USub (.Constant (.int j) kd p) pos) c.env) st Q X:=λs fz ad fps S =>
 Ct (wpAny.n (wpAny_Constant_int (wpAny.n (neg_int ⟨.d (.int (-j)),st,fz,ad,fps,aA.tok _,S,⟨_,rfl⟩,h⟩))))
theorem Es{n:Nat}{kd:Nat}{b:Expr}{p pos:Pos}{Q:V->St->Prop}(ok:am K k c)(h:WE prog w c (eval b c.env) st (λV st1=>vI V (λi=>0<=i/\i<10^16/\Q (.d (.str (fy n i))) st1) False) X):
  WE prog w c (eval (.BinOp (.Constant (.str (zl n)) kd p) .Mod b pos) c.env) st Q X:=λs fz ad fps S =>
 ot (wpAny.n (wpAny_Constant_str (h.use (S.tok _) (λv s1 V st1 fz1 ad1 fps1 x1 S1 rv hQ=>by
  refine elE1 (dS hQ) λi=>aY λe h0 h1 hQ=>?_
  refine elE1 (rv.dat e) λu z0=>?_;subst z0
  have hl:i.natAbs.log2<1920:=PyProof.Rows.shown (N:=2^1920) (by lia) (by lia) (Int.le_refl _)
  refine wpAny.n (KPc.mod_lit (T:=fy n i) rfl hl (λa b=>?_) λt' k'=>⟨.d (.str (fy n i)),st1,fz1,ad1,fps1,(aA.tok _).trans (x1.trans (aA.tok k')),S1.tok k',⟨t',rfl⟩,hQ⟩)
  match n with
  |0=>exact Fa h0 h1 a b
  |1=>exact FM h0 h1 a b
  |2=>exact Kq h0 h1 a b
  |_+3=>exact Fj h0 h1 a b) λU U e=>e)))
theorem EA:bb prog w c X (wp Γ O X .nil) (aN S T .nil) where
 e:=λU he=>nomatch he
 t:=λU he=>nomatch he
 p:=λas h=>by
  have:as=[]:=gk.mp h
  subst this;trivial
 a:=λas h st Q hq pos=>by
  have:as=[]:=gk.mp h
  subst this;exact yq hq
 n:=λst Q U hq=>hq
 tA:=λas h st Q hq pos whole=>by
  have:as=[]:=gk.mp h
  subst this;exact KV hq
 tO:=λas h st Q hq pos whole=>by
  have:as=[]:=gk.mp h
  subst this;exact E8 hq
 vA:=λas h st Q hq pos=>hq.elim
 vO:=λas h st Q hq pos=>hq.elim
 x:=λas h st Q hq out hl=>by
  have:as=[]:=gk.mp h
  subst this
  exact λs fz ad fps S=>wpAny.n <| joinParts_nil ⟨.d (.str out),st,fz,ad,fps,aA.tok (s.toks+1),S,⟨s.toks,rfl⟩,⟨out,rfl⟩,hq⟩ (by refine rwr (sizeLine_eq ..) ?_;lia)
 x1:=λa h=>nomatch h
 o:=λoe h st Q hq=>by
  have:oe=Bx:=uN.mp h
  subst this
  refine rwr (evalPart_none ..) ?_
  exact λs fz ad fps S=>aF ⟨Bx,st,fz,ad,fps,aA.refl,S,.none,hq⟩
theorem zq{pos:Pos}{op:BoolOp}{e:Sem Value}{y:Sem Value}{rest:List (Sem Value)}{Q:Bool->St->Prop}{stop:Bool}(hs:stop=match op with | .And=>false | .Or=>true)(he:WE prog w c e st (λV st1=>∃q,V=.d (.bool q)/\(q=!stop->WE prog w c (boolOp pos op (y::rest)) st1 (λV st'=>∃q,V=.d (.bool q)/\Q q st') X)/\(q=stop->Q stop st1)) X):
  WE prog w c (boolOp pos op (e::y::rest)) st (λV st'=>∃q,V=.d (.bool q)/\Q q st') X:=λs fz ad fps S=>by
 refine rwr (KQ ..) ?_
 refine ai (he.use S (λv s1 V st1 fz1 ad1 fps1 x S1 rv hq=>?_) λU U e=>e)
 refine elE1 hq λq=>al λz0 h1 h2=>?_;clear hq;subst z0
 have:v=.bool q:=rv
 subst this
 refine ai (a_ (ai (bC (wpAny.n (wpAny_truthy_bool ?_)))))
 subst hs
 have go:∀{z},WE prog w c (boolOp pos op (y::rest)) z (λV st'=>∃q,V=.d (.bool q)/\Q q st') X->st1=z->ag (model prog w) c.A (boolOp pos op (y::rest)) (dK w.params c (RV w.params) (λV st'=>∃q,V=.d (.bool q)/\Q q st') s fz ad fps) (bD prog w c X) s1:=λh e=>by
  subst e
  exact WG.use h S1 (λv s2 V st2 fz2 ad2 fps2 y S2 rv hq=>⟨V,st2,fz2,ad2,fps2,x.trans y,S2,rv,hq⟩) λU U e=>e
 cases op <;>cases q
 ·exact aF ⟨.d (.bool false),st1,fz1,ad1,fps1,x,S1,rfl,false,rfl,h2 rfl⟩
 ·exact go (h1 rfl) rfl
 ·exact go (h1 rfl) rfl
 ·exact aF ⟨.d (.bool true),st1,fz1,ad1,fps1,x,S1,rfl,true,rfl,h2 rfl⟩
theorem zQ{pos:Pos}{op:BoolOp}{e:Sem Value}{Q:Bool->St->Prop}(he:WE prog w c e st (λV st1=>∃q,V=.d (.bool q)/\Q q st1) X):WE prog w c (boolOp pos op [e]) st (λV st'=>∃q,V=.d (.bool q)/\Q q st') X:=he
theorem sq{r:Ex}(h:(aN S T r).a []=true):r=.nil:=by
 induction r using Ex.casesOn with
 |nil=>rfl
 |_=>exact aE h
theorem yT{r:Ex}{a:Expr}{t:List Expr}(h:(aN S T r).a (a::t)=true):∃e' r',r=.cons e' r':=by
 induction r using Ex.casesOn with
 |cons e r=>exact(ex2 e r rfl)
 |_=>exact aE h
theorem Kz{e r:Ex}(h1:bb prog w c X (wp Γ O X e) (aN S T e))(h2:bb prog w c X (wp Γ O X r) (aN S T r)):bb prog w c X (wp Γ O X (.cons e r)) (aN S T (.cons e r)):=by
 have split:∀as,(aN S T (.cons e r)).a as=true->∃a t,as=a::t/\jF a=true/\(aN S T e).e a=true/\(aN S T r).a t=true:=λas h=>by
  cases as with
  |nil=>cases h
  |cons a t=>exact let ⟨h1,h2⟩:=aB h;let ⟨h3,h4⟩:=aB h1;⟨a,t,rfl,h3,h4,h2⟩
 have pl:∀as,(aN S T (.cons e r)).a as=true->cj as c.env:=λas h=>by
  refine elE2 (split as h) λa t=>aY λz0 g1 g2 g3=>?_;subst z0
  exact⟨lr g1 _ _,h2.p t g3⟩
 refine⟨(λU he=>nomatch he),(λU he=>nomatch he),pl,λas h st Q hq pos=>?_,λst Q h U=>?_,λas h st Q hq pos whole=>?_,λas h st Q hq pos whole=>?_,λas h st Q hq pos=>?_,λas h st Q hq pos=>?_,λas h st Q hq out hl=>?_,λas h st Q hq=>?_,λU h=>nomatch h⟩
 ·have hp:=pl as h
  refine elE2 (split as h) λa t=>aY λz0 g1 g2 g3=>?_;subst z0
  exact yl hp (WG.mono (h1.e a g2 st _ hq) (λV st1 hq1=>h2.a t g3 st1 _ hq1 pos) λU U x=>x)
 ·refine elE2 (split [] h) λa t=>ae λe U=>?_
  cases e
 ·refine elE2 (split as h) λa t=>aY λz0 g1 g2 g3=>?_;subst z0
  exact Gs (WG.mono (h1.t a g2 st _ hq) (λq st1 hq1=>⟨λe=>h2.tA t g3 st1 _ (hq1.1 e) pos whole,hq1.2⟩) λU U x=>x)
 ·refine elE2 (split as h) λa t=>aY λz0 g1 g2 g3=>?_;subst z0
  exact Eu (WG.mono (h1.t a g2 st _ hq) (λq st1 hq1=>⟨λe=>h2.tO t g3 st1 _ (hq1.1 e) pos whole,hq1.2⟩) λU U x=>x)
 ·refine elE2 (split as h) λa t=>aY λz0 g1 g2 g3=>?_;subst z0
  cases t with
  |nil =>
   refine zQ (WG.mono (h1.e a g2 st _ hq) (λV st1 hq1=>?_) λU U x=>x)
   refine elE1 (lV hq1) λq=>ae λe1 hq2=>?_
   refine⟨q,e1,?_⟩
   rw[sq g3]at hq2
   exact hq2
  |cons b t =>
   refine zq (stop:=false) rfl (WG.mono (h1.e a g2 st _ hq) (λV st1 hq1=>?_) λU U x=>x)
   refine elE1 (lV hq1) λq=>ae λe1 hq2=>?_
   refine⟨q,e1,?_⟩
   refine elE2 (yT g3) λe' r' e2=>?_
   rw[e2]at hq2
   rw[e2]at h2
   rw[e2]at g3
   exact⟨λe=>h2.vA _ g3 st1 _ (hq2.1 e) pos,λe=>hq2.2 e⟩
 ·refine elE2 (split as h) λa t=>aY λz0 g1 g2 g3=>?_;subst z0
  cases t with
  |nil =>
   refine zQ (WG.mono (h1.e a g2 st _ hq) (λV st1 hq1=>?_) λU U x=>x)
   refine elE1 (lV hq1) λq=>ae λe1 hq2=>?_
   refine⟨q,e1,?_⟩
   rw[sq g3]at hq2
   exact hq2
  |cons b t =>
   refine zq (stop:=true) rfl (WG.mono (h1.e a g2 st _ hq) (λV st1 hq1=>?_) λU U x=>x)
   refine elE1 (lV hq1) λq=>ae λe1 hq2=>?_
   refine⟨q,e1,?_⟩
   refine elE2 (yT g3) λe' r' e2=>?_
   rw[e2]at hq2
   rw[e2]at h2
   rw[e2]at g3
   exact⟨λe=>h2.vO _ g3 st1 _ (hq2.1 e) pos,λe=>hq2.2 e⟩
 ·refine elE2 (split as h) λa t=>aY λz0 g1 g2 g3=>?_;subst z0
  refine λs fz ad fps S=>Dl (x:=eval a c.env) (rest:=evalEach t c.env) (WG.use (h1.e a g2 st _ hq) S (λv s1 V st1 fz1 ad1 fps1 x1 S1 rv hQ=>?_) λU U e=>e)
  refine elE1 (gY hQ) λy=>al λe1 hy hz=>?_
  subst e1
  refine elE1 rv λu z0=>?_;clear rv;subst z0
  have la:=Lj out y
  simp only[iA]at hl
  refine⟨by refine rwr (la ..) (rwr (sizeLine_eq ..) ?_);lia,WG.use (h2.x t g3 st1 Q hz (out++y) (by refine rwr (la ..) ?_;lia)) S1 (λv2 s2 V2 st2 fz2 ad2 fps2 y2 S2 rv2 hq2=>⟨V2,st2,fz2,ad2,fps2,x1.trans y2,S2,rv2,hq2⟩) λU U e=>e⟩
 ·refine elE2 (split _ h) λa t=>aY λe g1 g2 g3=>?_
  cases e
  refine WG.mono (h1.e _ g2 st _ hq) (λV st1 hQ=>?_) λU U x=>x
  refine elE1 (gY hQ) λy=>al λe1 hy hz=>?_
  subst e1
  refine⟨⟨y,rfl⟩,?_⟩
  rw[sq g3]at hz
  exact hz
end
end

section
open PySem PySem.W PyProof.Rows PySem.SeqAt PySem.MeetsSeq
section
variable {prog:Program}{w:World}{K:Frag}{k:Nat}{c:FC}{st:St}{X:Nat->St->Prop}{Γ:Addr->aH->Prop}{O:bf}{S:aU}{T:Nat->Expr->Bool}
theorem aU.glob_of{x:ac}{g:GV->Bool}(hN:bX K S c)(h:S.glob x g=true):c.env.kindOf x=some .globalImplicit/\(x==("__debug__" : ac))=false/\∃v,S.G.lookup x=some v/\g v=true:=by
 unfold aU.glob at h
 simp only[eO,beq_iff_eq,fe]at h
 refine ak h (ae λh1 h2 h3=>?_);clear h
 refine⟨hN.sc x _ h1,h2,?_⟩
 cases e:S.G.lookup x with
 |none=>rw[e]at h3;cases h3
 |some v=>rw[e]at h3;exact⟨v,rfl,h3⟩
set_option tactic.hygienic true in
theorem EG{x:ac}{d:D}{pos:Pos}{Q:V->St->Prop}(ok:am K k c)(hN:bX K S c)(h:S.glob x (λv=>zm v d)=true)(hq:Q (.d d) st):WE prog w c (eval (.Name x pos) c.env) st Q X:=by
 refine bN (aU.glob_of hN h) λh1 h2=>uE1 λv=>ae λh3 h4=>?_
 cases v with
 |int i =>
  cases d <;>first | (cases h4;done) | skip
  rename_i j
  have:i=j:=eq_of_beq h4
  subst this
  refine elE1 (hN.int x i h3) λt e=>?_
  exact zA (V:=.d (.int i)) ok h1 h2 e (λU U=>⟨t,rfl⟩) hq
 |str i =>
  cases d <;>first | (cases h4;done) | skip
  rename_i j
  have:i=j:=eq_of_beq h4
  subst this
  refine elE1 (hN.str x i h3) λt e=>?_
  exact zA (V:=.d (.str i)) ok h1 h2 e (λU U=>⟨t,rfl⟩) hq
 |fn _=>cases h4
 |bi _=>cases h4
 |ex _=>cases h4
theorem ow{op:CmpOp}{p:Prop}{k k':Bool->Prop}(h:dU op p k)(hk:∀q,k q->k' q):dU op p k':=by
 cases op <;>first | exact h.elim | exact λr hr=>hk _ (h r hr)
theorem DA{op:CmpOp}{a b:Int}{k k':Bool->Prop}(h:lF op a b k)(hk:∀q,k q->k' q):lF op a b k':=by
 cases op <;>first | exact h.elim | exact hk _ h
theorem Dt{own:List af}{op:CmpOp}{a b:V}{k k':Bool->Prop}(h:kl own op a b k)(hk:∀q,k q->k' q):kl own op a b k' :=
 wR h (λU q=>wR q (λU q=>DA q hk) id) λq=>sy q (λU q=>sy q (λU q=>ow q hk) id) λq=>rn q (λU q=>rn q (λU q=>ow q hk) id) λq=>xw q (λU q=>xw q (λU q=>ow q hk) id)
  λq=>mA q λU q=>mA q λU q=>⟨q.1,q.2.1,q.2.2.1,ow q.2.2.2 hk⟩
theorem Fp{own:List af}{a:V}{m:Nat}{k k':Addr->Prop}(h:jG own a m k)(hk:∀q,k q->k' q):jG own a m k' :=
 Ag h (λU q=>zn q (λU U q=>wq q λq=>mA q hk) (λU q=>q) λU q=>q) λq=>KN q (λU U q=>wq q λq=>mA q hk) id
theorem GS{A:Around}{E:Value->Shared->Prop}{s:Shared}{env:Env}{value:Expr}{pos:Pos}{Q:Value->Shared->Prop}(h:ag (model prog w) A (eval value env) (λv s₁=>ag (model prog w) A (formatField v Str.empty) Q E s₁) E s):
  ag (model prog w) A (eval (.FormattedValue value (-1) Bx pos) env) Q E s:=by
 refine rwr (arm_eval_FormattedValue ..) ?_
 refine ai (aD h (λv s₁ h₁=>?_) λU U x=>x)
 refine ai (a_ ?_)
 show ag _ _ (do let v' <-holding [v] (pure v);formatField v' Str.empty) Q E s₁
 exact ai (bC (aF h₁))
theorem Hp{x:ac}{np pos:Pos}{es:List Expr}{f:Addr}{Q:V->St->Prop}(ok:am K k c)(hx:c.env.kindOf x=some .globalImplicit)(hd:(x==("__debug__" : ac))=false)(hg:c.gn x=some (.ref f))
  (hk:keepIn K (.ref f)=true) (hp:cj es c.env) (hΓ:∀f C,Γ f C->ah prog w K c.gn c.bn k (.ref f) C) (h:ju prog w c pos es st (λVs st1=>fJ Γ f Vs st1 Q X) X):
  WE prog w c (eval (.Call (.Name x np) es [] pos) c.env) st Q X:=λs fz ad fps S=>by
 refine jv (wpAny.n (jj ok.hk hx (pJ (by refine rwr (ok.hg ..) ?_;exact ok.gns.keeps (S.heap ok)) hg ?_) hd))
 refine w7 ok S hk hp h (λU U e=>e) λvs s1 Vs st1 fz1 ad1 fps1 x S1 rv hC=>?_
 refine elE1 (rR hΓ hC) λC=>ae λhs hC=>?_
 refine vG ok hs S1 rv hC (λv s' V st' fz' ad' fps' y S' rv' hQ=>?_) λU U e=>e
 exact⟨V,st',fz',ad',fps',x.trans y,S',rv',hQ⟩
theorem JW{c:Const}{d:D}(h:w_ c d=true):∃j,c=.int j/\d=.int (-j):=by
 induction c using Const.casesOn with
 |int j=>induction d using D.casesOn with
  |int i=>exact⟨j,rfl,congrArg _ (eq_of_beq h)⟩
  |_=>exact aE h
 |_=>exact aE h
theorem C8{d:D}{e:Expr}(h:lp d e=true):fi e=true:=by
 unfold lp at h
 cases q:iR e λU U U=>true with
 |true =>
  rw[q]at h
  revert h
  exact λh=>nu h λop a p h=>bc h λh1 U=>bo h1 rfl
 |false =>
  rw[q]at h
  revert h
  exact λh=>gf h λU U U U=>rfl
theorem CU{d:D}{e:Expr}{Q:V->St->Prop}(h:lp d e=true)(hq:Q (.d d) st):WE prog w c (eval e c.env) st Q X:=by
 unfold lp at h
 cases q:iR e λU U U=>true with
 |true =>
  rw[q]at h
  revert h
  refine λh=>nu h λop a p h=>bc h λh1 h=>bo h1 (gf h λcc kd p2 h=>?_)
  refine elE1 (JW h) λj=>ae λz0 z1=>?_;subst z0;subst z1
  exact IA hq
 |false =>
  rw[q]at h
  revert h
  exact λh=>gf h λcc kd p2 h=>Jz h hq
theorem yi{l:List (Option V)}{i:Nat}{P:V->Prop}(h:match getN l i with | some (some V)=>P V | _=>False):∃V,getN l i=some (some V)/\P V:=by
 revert h
 rcases getN l i with _ | _ | V
 ·exact dQ
 ·exact dQ
 ·exact λh=>⟨V,rfl,h⟩
theorem lN(ok:am K k c)(hN:bX K S c)(hK:cJ K)(hΓ:∀f C,Γ f C->ah prog w K c.gn c.bn k (.ref f) C)
  (hO:∀n e,T n e=true->fi e=true/\∀st Q,O n st Q X->WE prog w c (eval e c.env) st Q X):∀x:Ex,bb prog w c X (wp Γ O X x) (aN S T x):=by
 intro x
 induction x with
 |k d=>exact bb.of ok (λe=>C8) λe he st Q hq=>CU he hq
 |g x d=>exact bb.of ok (λe he=>bx he λU U U=>rfl) λe he st Q hq=>bx he λy p he=>bc he λh1 h=>bo h1 (EG ok hN h hq)
 |v i =>
  refine bb.of ok (λe he=>bx he λU U U=>rfl) λe he st Q hq=>bx he λy p he=>?_
  have he:=eq_of_beq he
  rw[bk,<-hN.nm]at he
  refine elE1 (yi hq) λV=>ae λe hq=>?_
  exact yh ok he e hq
 |attr e f ih=>exact bb.of ok (λe he=>jb he λU U U U=>rfl) λe he st Q hq=>jb he λv a p he=>bc he λh1 he=>bo h1 (bc he λh2 he=>bc he λh3 h4=>Ik ok h3 hK (ih.e _ h4 st _ hq))
 |bin op l r ihl ihr =>
  exact bb.of ok (λe he=>kM he λU U U U U=>rfl) λe he st Q hq=>kM he λa op' b p he=>bc he λh1 he=>bo h1 (bc he λh2 h3 =>
   JB (WG.mono (ihl.e _ h2 st _ hq) (λa st1 h1=>WG.mono (ihr.e _ h3 st1 _ h1) (λb st2 h2=>G5 ok h2) λU U x=>x) λU U x=>x))
 |fmt n e ih =>
  exact bb.of ok (λe he=>kM he λU U U U U=>rfl) λe he st Q hq=>kM he λa op b p he=>gf he λc kd p2 he=>bc he λh1 he=>bo h1 (bc he λh2 h3=>bo h2 (Es ok (ih.e _ h3 st _ hq)))
 |cmp op l r ihl ihr =>
  refine bb.with_t (λe he st Q hq=>pg he λa os bs p he=>bc he λh0 he=>bo h0 (cq he λb he=>bc he λh1 he=>bc he λh2 h3=>?_)) (λe he st Q hq=>pg he λa os bs p he=>bc he λh0 he=>bo h0 (cq he λb he=>bc he λh1 he=>bc he λh2 h3=>?_)) ok
  ·exact vD (λU U U x=>C6 x ((fe _).mp h1)) (WG.mono (ihl.e _ h2 st _ hq) (λa st1 h1=>WG.mono (ihr.e _ h3 st1 _ h1) (λb st2 h2=>zE ok h2) λU U x=>x) λU U x=>x)
  ·exact Ef ((fe _).mp h1) (WG.mono (ihl.e _ h2 st _ hq) (λa st1 h1=>WG.mono (ihr.e _ h3 st1 _ h1) (λb st2 h2=>zE (Q:=λV st3=>∃q,V=.d (.bool q)/\Q q st3) ok (Dt h2 λq hq=>⟨q,rfl,hq⟩)) λU U x=>x) λU U x=>x)
 |not e ih=>exact bb.with_t (λe he st Q hq=>hq.elim) (λe he st Q hq=>nu he λop a p he=>bc he λh1 he=>bo h1 (Dz (ih.t _ he st _ hq))) ok
 |and es ih =>
  exact bb.with_t (λe he st Q hq=>lI he λop vs p he=>bc he λh1 he=>bo h1 (WG.mono (ih.vA _ he st _ hq _) (λV st' ⟨q,e,hq⟩=>e▸hq) λU U x=>x))
   (λe he st Q hq=>lI he λop vs p he=>bc he λh1 he=>bo h1 (ih.tA _ he st _ hq _ _)) ok
 |or es ih =>
  exact bb.with_t (λe he st Q hq=>lI he λop vs p he=>bc he λh1 he=>bo h1 (WG.mono (ih.vO _ he st _ hq _) (λV st' ⟨q,e,hq⟩=>e▸hq) λU U x=>x))
   (λe he st Q hq=>lI he λop vs p he=>bc he λh1 he=>bo h1 (ih.tO _ he st _ hq _ _)) ok
 |ite t a b iht iha ihb =>
  exact bb.with_t (λe he st Q hq=>Ds he λt' a' b' p he=>bc he λh1 he=>bc he λh2 h3 =>
   GB (WG.mono (iht.t _ h1 st _ hq) (λq st1 hq1=>⟨λe=>iha.e _ h2 st1 _ (hq1.1 e),λe=>ihb.e _ h3 st1 _ (hq1.2 e)⟩) λU U x=>x)) (λe he st Q hq=>hq.elim) ok
 |call x f es ih =>
  refine bb.of ok (λe he=>dA he λU U U U U=>rfl) λe he st Q hq=>dA he λg as ks p he=>cK he λhe=>bx he λy yp he=>bc he λh1 he=>bo h1 (bc he λh2 h3=>?_)
  refine bN (aU.glob_of hN h2) λg1 g2=>uE1 λv=>ae λg3 g4=>?_
  refine ak (hN.fn _ _ (eq_of_beq g4▸g3)) λg5 g6=>?_
  exact Hp ok g1 g2 g5 g6 (ih.p _ h3) hΓ (ih.ar h3 hq _)
 |meth e m es ih1 ih2 =>
  exact bb.of ok (λe he=>dA he λU U U U U=>rfl) λe he st Q hq=>dA he λg as ks ps he=>cK he λhe=>jb he λo x ap he=>bc he λh1 he=>bo h1 (bc he λh2 he=>bc he λh3 he=>bc he λh4 he=>bc he λh5 he=>bc he λh6 h7 =>
   E1 ok hK (fN.mp h2) h3 (ih2.p _ h7) (fN.mp h5) (eq_of_beq h4) hΓ (WG.mono (ih1.e _ h6 st _ hq) (λV st1 h=>Fp h λf hf=>ih2.ar h7 hf _) λU U x=>x))
 |bi b es ih =>
  refine bb.of ok (λe he=>dA he λU U U U U=>rfl) λe he st Q hq=>dA he λg as ks p he=>cK he λhe=>bx he λy yp he=>bc he λh1 he=>bo h1 (bc he λh2 h3=>?_)
  refine bN (aU.glob_of hN h2) λg1 g2=>uE1 λv=>ae λg3 g4=>?_
  refine ak (hN.bi _ _ (eq_of_beq g4▸g3)) λg5 g6=>?_
  exact Kg ok g1 g2 g5 g6 (ih.p _ h3) (ih.ar h3 hq _)
 |bm e m es ih1 ih2 =>
  exact bb.of ok (λe he=>dA he λU U U U U=>rfl) λe he st Q hq=>dA he λg as ks ps he=>cK he λhe=>jb he λo x ap he=>bc he λh1 he=>bo h1 (bc he λh3 he=>bc he λh4 he=>bc he λh5 he=>bc he λh6 h7 =>
   Gb ok h3 (ih2.p _ h7) (fN.mp h5) (eq_of_beq h4) (WG.mono (ih1.e _ h6 st _ hq) (λV st1 h=>have ⟨kd,a1,h⟩:=dk h;have ⟨a2,a3⟩:=g_ h;⟨kd,a1,a2,ih2.ar h7 a3 _⟩) λU U x=>x))
 |tup es ih=>exact bb.of ok (λe he=>nU he λU U U U=>rfl) λe he st Q hq=>nU he λas kk p he=>K2 ok (ih.a _ he st _ hq _)
 |lst es ih=>exact bb.of ok (λe he=>nA he λU U U=>rfl) λe he st Q hq=>nA he λas p he=>CY ok (ih.a _ he st _ hq _)
 |lst0=>exact bb.of ok (λe he=>nA he λU U U=>rfl) λe he st Q hq=>nA he λas p he=>cK he λU=>I7 ok hq
 |sub e i ih1 ih2=>exact bb.of ok (λe he=>kB he λU U U U=>rfl) λe he st Q hq=>kB he λa b p he=>bc he λh1 h2=>KH ok (WG.mono (ih1.e _ h1 st _ hq) (λA st1 h3=>ih2.e _ h2 st1 _ h3) λU U x=>x)
 |slc e lo hi ih1 ih2 ih3 =>
  exact bb.of ok (λe he=>kB he λU U U U=>rfl) λe he st Q hq=>kB he λa b p he=>DJ he λl h s p2 he=>nc he λhe=>bc he λh1 he=>bc he λh2 h3 =>
   K3 ok (WG.mono (ih1.e _ h1 st _ hq) (λA st1 h4=>WG.mono (ih2.o _ h2 st1 _ h4) (λl st2 h5=>ih3.o _ h3 st2 _ h5) λU U x=>x) λU U x=>x)
 |txt es ih =>
  refine bb.of ok (λe he=>zU he λU U U=>rfl) λe he st Q hq=>zU he λvs p he=>bc he λh1 h2=>?_
  have hl:=fN.mp h1
  have fin:∀t:Sem Value,WE prog w c t st (λV st1=>(∃x,V=.d (.str x))/\∀x,Q (.d (.str x)) st1) X->WE prog w c t st Q X:=λt h=>WG.mono h (λV st1 ⟨⟨x,e⟩,hQ⟩=>e▸hQ x) λU U x=>x
  refine rwr (arm_eval_JoinedStr ..) ?_
  have e0:(uy).length=0:=rfl
  rcases vs with _ | ⟨a,_ | ⟨b,t⟩⟩
  ·exact fin _ (ih.x [] h2 st _ hq uy (by refine rwr (e0 ..) ?_;simp))
  ·exact fin _ (ih.x1 a h2 st _ hq)
  ·exact fin _ (ih.x _ h2 st _ hq uy (by refine rwr (e0 ..) ?_;lia))
 |fv e ih =>
  refine bb.of ok (λe he=>AN he λU U U U U=>rfl) λe he st Q hq=>AN he λv i s p he=>bc he λh1 he=>bo h1 (nc he λhe=>?_)
  exact λs fz ad fps S=>GS (WG.use (ih.e _ he st _ hq) S (λv s1 V st1 fz1 ad1 fps1 x1 S1 rv hQ=>by
    refine elE1 (dS hQ) λi=>al λe hs hQ=>?_
    refine elE1 (rv.dat e) λt z0=>?_;subst z0
    exact wpAny.n <| wpAny_formatField_int (wJ (by unfold small;lia)) ⟨.d (.str (aa (toString i))),st1,fz1,ad1,fps1,x1.trans (aA.tok _),S1,⟨_,rfl⟩,hQ _ (aJ (toString_length_le (k:=20) hs.1 (by decide) (by lia)) (by decide))⟩) λU U e=>e)
 |orc n=>exact bb.of ok (λe he=>(hO n e he).1) λe he st Q hq=>(hO n e he).2 st Q hq
 |nil=>exact EA
 |cons e r ih1 ih2=>exact Kz ih1 ih2
end
end

section
open PySem PySem.W PyProof.Rows PySem.SeqAt PySem.MeetsSeq
section
variable {prog:Program}{w:World}{K:Frag}{k:Nat}{c:FC}{st:St}{X:Nat->St->Prop}{Γ:Addr->aH->Prop}{O:bf}{S:aU}{T:Nat->Expr->Bool}
inductive dr(prog:Program)(w:World)(c:FC)(s₀:Shared)(fz:List (Addr×au))(ad:List Addr)(fps:List (List (Addr×au)))(items:List D)(st:St)(it:Value)(s:Shared):Prop
 |mk (fps':List (List (Addr×au))) (I:Addr) (fp wr:List Addr) (n:Nat) (P:Nat->Value->Prop) (Stt:Nat->Heap->Prop) (_:it=.ref I) (_:Walks prog w c.A I fp wr n P Stt) (_:items.length=n) (_:∀j v,j<n->P j v->∃d,items[j]? = some d/\RD w.params (Zf c.base fz) d v)
  (_:aA c s₀ fz ad fps s fz ad fps') (_:SR w.params c st fz ad fps' s) (_:Stt 0 s.heap) (_:∀b∈wr,s₀.heap.get? b=Bx/\bS c fz fps' b/\∃o,s.heap.get? b=some o) (_:∀b∈fp,b≠c.L/\b∉c.frs/\b∉aT fps'/\∃o,s.heap.get? b=some o)
  (_:∀b∈wr,∀j h,Stt j h->∃o,h.get? b=some o):dr prog w c s₀ fz ad fps items st it s
theorem dr.one{s:Shared}{fz ad fps}{items:List D}{o:au}{n:Nat}{P:Nat->Value->Prop}{Stt:Nat->Heap->Prop}(ok:am K k c)(S:SR w.params c st fz ad fps s)(W:Walks prog w c.A s.heap.objs.size [s.heap.objs.size] [s.heap.objs.size] n P Stt)
  (hl:items.length=n) (hP:∀j v,j<n->P j v->∃d,items[j]? = some d/\RD w.params (Zf c.base fz) d v) (h0:o.isFreed=false) (hS:Stt 0 (s.heap.push o)) (hlv:∀j h,Stt j h->∃o,h.get? s.heap.objs.size=some o) (tk:Nat):
  dr prog w c s fz ad fps items st (.ref s.heap.objs.size) { s with heap:=s.heap.push o,toks:=tk }:=by
 refine elE1 S.one λm S1=>?_
 have P1:=bF.push (tk:=tk) (o:=o) ok S1
 have u:=bS.new ok S (fk s.heap)
 have e:({ s with heap:=s.heap.push o,toks:=tk }:Shared).heap.get? s.heap.objs.size=some o:=dt _ h0
 exact⟨fps,_,_,_,n,P,Stt,rfl,W,hl,hP,P1.2,P1.1,hS,λb hb=>by simp only[bj]at hb;subst hb;exact⟨fk _,u,o,e⟩,
  λb hb=>by simp only[bj]at hb;subst hb;exact⟨u.1,u.2.1,u.2.2.1,o,e⟩,λb hb=>by simp only[bj]at hb;subst hb;exact hlv⟩
theorem dr.two{s s₀:Shared}{fz ad fps fps₀}{items:List D}{o ox:au}{ax:Addr}{n:Nat}{P:Nat->Value->Prop}{Stt:Nat->Heap->Prop}(ok:am K k c)(A:aA c s₀ fz ad fps₀ s fz ad fps)(hs:s.heap=s₀.heap)(S:SR w.params c st fz ad fps s)(W:Walks prog w c.A s.heap.objs.size [s.heap.objs.size,ax] [s.heap.objs.size] n P Stt)
  (hl:items.length=n) (hP:∀j v,j<n->P j v->∃d,items[j]? = some d/\RD w.params (Zf c.base fz) d v) (h0:o.isFreed=false) (hS:Stt 0 (s.heap.push o)) (hlv:∀j h,Stt j h->∃o,h.get? s.heap.objs.size=some o) (tk:Nat)
  (hx:s.heap.get? ax=some ox) (hax:ax≠c.L/\ax∉c.frs/\ax∉aT fps):
  dr prog w c s₀ fz ad fps₀ items st (.ref s.heap.objs.size) { s with heap:=s.heap.push o,toks:=tk }:=by
 refine elE1 S.one λm S1=>?_
 have P1:=bF.push (tk:=tk) (o:=o) ok S1
 have u:=bS.new ok S (fk s.heap)
 have e:({ s with heap:=s.heap.push o,toks:=tk }:Shared).heap.get? s.heap.objs.size=some o:=dt _ h0
 refine⟨fps,_,_,_,n,P,Stt,rfl,W,hl,hP,A.trans P1.2,P1.1,hS,λb hb=>by simp only[bj]at hb;subst hb;exact⟨by refine rwr (aM (hs ..)) ?_;exact fk _,u,o,e⟩,
  λb hb=>?_,λb hb=>by simp only[bj]at hb;subst hb;exact hlv⟩
 refine ao (bZ.mp hb) (λz0=>?_) λhb=>?_ <;>(try subst z0)
 ·exact⟨u.1,u.2.1,u.2.2.1,o,e⟩
 ·simp only[bj]at hb;subst hb
  exact⟨hax.1,hax.2.1,hax.2.2,ox,eA _ hx⟩
theorem SR.zf{s:Shared}{fz ad fps}(ok:am K k c)(S:SR w.params c st fz ad fps s){a:Addr}{o:au}(z:Zf c.base fz a o):a≠c.L/\a∉c.frs/\a∉aT fps:=by
 obtain⟨m,I,_⟩:=S
 refine ao z (λz=>?_) λz=>?_
 ·refine⟨λq=>?_,λq=>?_,λq=>?_⟩
  ·have:=cI.baseL ok;rw[<-q,z]at this;cases this
  ·have:=ok.frBase q;rw[z]at this;cases this
  ·refine elE1 (aW.mp q) λp=>ae λhp e=>?_
   have:=I.F0 ok hp;rw[e,z]at this;cases this
 ·refine cX (I.fzH _ z) λU b1 b2 U=>?_
  refine⟨b1,b2,λq=>?_⟩
  refine elE1 (aW.mp q) λp=>ae λhp e=>?_
  exact I.dis p hp _ z e
section
variable {P:Params}{Z:Zt}{vs:List D}{xs:Array Value}
theorem pb(r:RDs P Z vs xs.toList):vs.length=xs.size:=by have:=RDs.len r;simpa using this.symm
theorem rU(r:RDs P Z vs xs.toList)(j:Nat)(v:Value)(e:xs[j]? = some v):∃d,vs[j]? = some d/\RD P Z d v:=by
 have hj:j<vs.length:=by refine rwr (pb r ..) ?_;exact(Lw.mp e).1
 refine elE1 (RDs.get r (cM hj)) λv'=>ae λe' rd=>?_
 rw[jq,e]at e';cases e'
 exact⟨_,cM hj,rd⟩
theorem uf{h:Heap}{a:Addr}{o:au}(e:h.get? a=some o):a≠h.objs.size:=k8 (cL e)
end
section
variable {v:Value}{s:Shared}{fz:List (Addr×au)}{ad:List Addr}{fps:List (List (Addr×au))}{kk:List D->List af->Prop}{Ec:Value->Shared->Prop}
theorem H8{vs:List D}(ok:am K k c)(S:SR w.params c st fz ad fps s)(rv:RD w.params (Zf c.base fz) (.list vs) v)(h:kk vs st.own):wpAny (model prog w) c.A (pyIter v) (λit s'=>∃items own',kk items own'/\dr prog w c s fz ad fps items ⟨st.loc,own'⟩ it s') Ec s:=by
 refine elE3 rv λa xs n=>al λz0 z r=>?_;clear rv;subst z0
 have e:=S.at ok z
 refine wpAny_pyIter_list (bR e) (ex2 _ _ ⟨h,dr.two (tk:=s.toks) (fps₀:=fps) ok aA.refl rfl S (uP ok.hh _ a (uf e) xs) (pb r) (λj v U e=>rU r j v e) rfl ⟨⟨_,dt _ rfl,rfl,rfl⟩,(bR e).push _⟩ (λj h st=>?_) e (S.zf ok z)⟩)
 refine ak st (uE1 λo=>ae λho U U=>?_);clear st;exact⟨o,ho⟩
theorem JK{vs:List D}(ok:am K k c)(S:SR w.params c st fz ad fps s)(rv:RD w.params (Zf c.base fz) (.tup vs) v)(h:kk vs st.own):wpAny (model prog w) c.A (pyIter v) (λit s'=>∃items own',kk items own'/\dr prog w c s fz ad fps items ⟨st.loc,own'⟩ it s') Ec s:=by
 refine elE3 rv λa xs n=>al λz0 z r=>?_;clear rv;subst z0
 have e:=S.at ok z
 have ht:s.heap.IsTuple a xs:=⟨_,e,rfl,_,rfl⟩
 refine wpAny_pyIter_tuple ht (ex2 _ _ ⟨h,dr.two (tk:=s.toks) (fps₀:=fps) ok aA.refl rfl S (Walks.tuple ok.hh _ a (uf e) xs) (pb r) (λj v U e=>rU r j v e) rfl ⟨⟨_,dt _ rfl,rfl,rfl⟩,ht.push _⟩ (λj h st=>?_) e (S.zf ok z)⟩)
 refine ak st (uE1 λo=>ae λho U U=>?_);clear st;exact⟨o,ho⟩
theorem Go{b:List UInt8}(ok:am K k c)(S:SR w.params c st fz ad fps s)(rv:RD w.params (Zf c.base fz) (.bytes b) v)(h:kk (b.map λc=>.int c.toNat) st.own):wpAny (model prog w) c.A (pyIter v) (λit s'=>∃items own',kk items own'/\dr prog w c s fz ad fps items ⟨st.loc,own'⟩ it s') Ec s:=by
 refine elE1 rv λt z0=>?_;clear rv;subst z0
 refine KBw.pyIter_bytes (ex2 _ _ ⟨h,dr.one (tk:=s.toks) ok S (KBw.walks ok.hh _ b.toArray t) (by simp) (λj v U hP=>?_) rfl ⟨_,dt _ rfl,rfl,rfl⟩ λj h st=>?_⟩)
 ·refine elE2 hP λcc u=>ae λe z0=>?_;clear hP;subst z0
  refine⟨.int cc.toNat,?_,u,rfl⟩
  refine rwr (dO ..) ?_
  rw[Lx]at e
  refine rwr (e ..) ?_;rfl
 ·refine elE1 st λo=>ae λho U=>?_;clear st;exact⟨o,ho⟩
theorem Eb{x:ac}(ok:am K k c)(S:SR w.params c st fz ad fps s)(rv:RD w.params (Zf c.base fz) (.str x) v)(h:kk (x.cps.toList.map λc=>.str ⟨#[c]⟩) st.own):wpAny (model prog w) c.A (pyIter v) (λit s'=>∃items own',kk items own'/\dr prog w c s fz ad fps items ⟨st.loc,own'⟩ it s') Ec s:=by
 refine elE1 rv λt z0=>?_;clear rv;subst z0
 have fin:∀ty,Walks prog w c.A s.heap.objs.size [s.heap.objs.size] [s.heap.objs.size] x.cps.size (SignAt x) (λi h=>h.IsStrIter s.heap.objs.size ty x t i) ->
   dr prog w c s fz ad fps (x.cps.toList.map λc=>.str ⟨#[c]⟩) ⟨st.loc,st.own⟩ (.ref s.heap.objs.size) { s with heap:=s.heap.push { cls:=.type ty,data:=.fields #[.str x t,.int 0 0] },toks:=s.toks }:=λty W=>by
  refine dr.one ok S W (by simp) (λj v U hP=>?_) rfl ⟨_,dt _ rfl,rfl,rfl⟩ (λj h st=>?_) _
  ·refine elE2 hP λcc u=>ae λe z0=>?_;clear hP;subst z0
   refine⟨.str ⟨#[cc]⟩,?_,u,rfl⟩
   refine rwr (dO ..) (rwr (jq ..) (rwr (e ..) ?_));rfl
  ·refine elE1 st λo=>ae λho U=>?_;clear st;exact⟨o,ho⟩
 cases ha:x.cps.all (· < 128)
 ·exact wpAny_pyIter_wide ha (ex2 _ _ ⟨h,fin _ (Walks.strWide ok.hh _ x t)⟩)
 ·exact wpAny_pyIter_ascii ha (ex2 _ _ ⟨h,fin _ (Walks.strAscii ok.hh _ x t)⟩)
theorem C9{i:Nat}{vs:List D}(ok:am K k c)(S:SR w.params c st fz ad fps s)(rv:RV w.params (Zf c.base fz) ad (.own i) v)(q:getN st.own i=some (.lst vs))(h:kk vs (setN st.own i .dead)):wpAny (model prog w) c.A (pyIter v) (λit s'=>∃items own',kk items own'/\dr prog w c s fz ad fps items ⟨st.loc,own'⟩ it s') Ec s:=by
 refine elE1 rv λa=>ae λea z0=>?_;clear rv;subst z0
 obtain⟨m,I,R,LR,g1,g2,g3⟩:=S
 have S0:SR w.params c st fz ad fps s:=⟨m,I,R,LR,g1,g2,g3⟩
 rw[bk]at q
 refine elE2 (R.get q) λa' fp=>al λea' ef=>uE2 λxs n=>ae λy5 r=>?_;subst y5
 rw[ea]at ea';cases ea'
 have hin:=I.own _ (dC ef (.head _))
 have z:=SR.turn (s:=s) (s':=s) (o':=.dead) (fp':=[]) ok I R LR g1 g2 g3 ea ef I.ns (λb o e U U=>e) (λp hp=>nomatch hp) (λp hp=>by simp only[bj]at hp;subst hp;exact⟨_,hin.1⟩) ix rfl
 have hno:a∉aT (setN fps i []):=λhm=>by
  have p0:=jY fps [(a,listOf xs n)] (dD.mp ef).1
  rw[lx ef]at p0
  have nd0:=(p0.map (·.1)).nodup_iff.mp I.nd
  rw[eK]at nd0
  exact(jl.mp nd0).2.2 a (by simp) a hm rfl
 refine wpAny_pyIter_list (bR hin.1) (ex2 _ _ ⟨h,dr.two (tk:=s.toks) (fps₀:=fps) ok z.2 rfl z.1 (uP ok.hh _ a (uf hin.1) xs) (pb r) (λj v U e=>rU r j v e) rfl ⟨⟨_,dt _ rfl,rfl,rfl⟩,(bR hin.1).push _⟩ (λj h st=>?_) hin.1 ⟨hin.2.1,hin.2.2.1,hno⟩⟩)
 refine ak st (uE1 λo=>ae λho U U=>?_);clear st;exact⟨o,ho⟩
theorem Jq{V:V}(ok:am K k c)(S:SR w.params c st fz ad fps s)(rv:RV w.params (Zf c.base fz) ad V v)(h:kt V st.own kk):wpAny (model prog w) c.A (pyIter v) (λit s'=>∃items own',kk items own'/\dr prog w c s fz ad fps items ⟨st.loc,own'⟩ it s') Ec s :=
 tW h (λvs e q=>H8 ok S (rv.dat e) q) λq=>sT q (λvs e q=>JK ok S (rv.dat e) q) λq=>ij q (λb e q=>Go ok S (rv.dat e) q) λq=>iU q (λx e q=>Eb ok S (rv.dat e) q)
  λq=>na q (λi e q=>j5 q (λU U U q=>q.elim) (λvs e2 q=>C9 ok S (e▸rv) e2 q) λU U q=>q.elim) dQ
end
theorem wZ{i:Nat}{x:ac}{np:Pos}{body:List Stmt}{it:Value}{s₀ s:Shared}{fz ad fps}{Q:Fl->St->Prop}{items:List D}(ok:am K k c)(hx:c.nm[i]? = some x)(hI:dr prog w c s₀ fz ad fps items st it s)
  (J:Nat->St->Prop) (h0:J 0 st) (turn:∀j d st1,items[j]? = some d->J j st1->WS prog w c (execs body c.env) ⟨setN st1.loc i (some (.d d)),st1.own⟩ (ey (J (j+1)) Q) X) (hend:∀st1,J items.length st1->Q .next st1):
  bh (model prog w) c.A (.forLoop (.Name x np) it body [] c.env) (eH prog w c.A c.env (dK w.params c (e9 w.params) Q s₀ fz ad fps) (bD prog w c X)) s:=by
 obtain⟨fps',I,fp,wr,n,P,Stt,rfl,W,hl,hP,A0,S,hst,hwr,hfp,hlv⟩:=hI
 exact HX ok hx W hP A0 S hst hwr hfp hlv J h0 turn (λst1 h=>hend st1 (by refine rwr (hl ..) ?_;exact h))
end
end

section
open PySem PySem.W PyProof.Rows PySem.SeqAt PySem.MeetsSeq
section
variable {prog:Program}{w:World}{K:Frag}{k:Nat}{c:FC}{st:St}{X:Nat->St->Prop}{Γ:Addr->aH->Prop}{O:bf}{S:aU}{T:Nat->Expr->Bool}
theorem H'{x:ac}{C:Addr}{np cpos pos:Pos}{e:Expr}{Q:Fl->St->Prop}(ok:am K k c)(hx:c.env.kindOf x=some .globalImplicit)(hd:(x==("__debug__" : ac))=false)(hO:OwnCls x C oQ "Exception.__new__" c.gn c.base)(hp:cj [e] c.env)
  (h:WA prog w c (spliced (backTo cpos (starEach [e] c.env))) st (λVs st1=>Vs.length<=100/\X C st1) X):WS prog w c (exec (.Raise (some (.Call (.Name x np) [e] [] cpos)) Bx pos) c.env) st Q X:=λs fz ad fps S0=>by
 have O1:=hO.keeps (S0.heap ok)
 refine Gh hO.obj λtl N nm q bs hdct sn sub ab col dd k0 k1 k2 k3 k5=>uE1 λmN=>aY λhC hN hni Tl=>?_
 have FB:=PySem.F.excBase_Exception
 refine K5 (C:=C) (nm:=nm) (q:=q) (N:=N) (bs:=bs) (bm:=tl) (hdct:=hdct) (sn:=sn) (sub:=sub) (ab:=ab) (col:=col) (dd:=dd) (k0:=k0) (k1:=k1) (k2:=k2) (k3:=k3) (k5:=k5)
  FB (mN:=mN) (Tl.hasType FB.hasBase) ok.hh (cj.any hp) hni (jj ok.hk hx (pJ (by refine rwr (ok.hg ..) ?_;exact ok.gns.keeps (S0.heap ok)) hO.bound ⟨rfl,?_⟩) hd)
 rw[hp.1]at h ⊢
 refine kX (WG.use h S0 (λvs s1 Vs st1 fz1 ad1 fps1 x1 S1 rv hX=>?_) λU U e=>e)
 have kp:=S1.heap ok
 refine⟨rfl,by refine rwr (aV.len rv ..) (rwr (sizeLine_eq ..) ?_);have:=hX.1;lia,kp _ _ hC,hN.keeps kp,Tl.keeps kp,λh' ea hm=>?_⟩
 refine elE1 S1.one λm S2=>?_
 exact wF ok (st:=st1) ⟨s1.heap,m,fz1,ad1,S2.I.toX,S2.LR,S2.g,S2.d,S2.o,.inl ⟨_,hm⟩⟩ hX.2
theorem eH.adv{Q:Fl->St->Prop}{s s1:Shared}{fz ad fps fz1 ad1 fps1}{r:Result}{s':Shared}(A:aA c s fz ad fps s1 fz1 ad1 fps1)(h:eH prog w c.A c.env (dK w.params c (e9 w.params) Q s1 fz1 ad1 fps1) (bD prog w c X) r s'):
  eH prog w c.A c.env (dK w.params c (e9 w.params) Q s fz ad fps) (bD prog w c X) r s':=by
 cases r with
 |error e=>exact h
 |ok f =>
  have h:dK w.params c (e9 w.params) Q s1 fz1 ad1 fps1 f s':=h
  obtain⟨fl,st',fz',ad',fps',A',S',rf,hq⟩:=h
  exact⟨fl,st',fz',ad',fps',A.trans A',S',rf,hq⟩
theorem Fu{i:Nat}{x:ac}{np pos:Pos}{iter:Expr}{body:List Stmt}{Q:Fl->St->Prop}(ok:am K k c)(hx:c.nm[i]? = some x)(hs:∀x,foldedSetIterable iter c.env x=pure x)
  (h:WE prog w c (eval iter c.env) st (λV st1=>kt V st1.own λitems own'=>∃J:Nat->St->Prop,J 0 ⟨st1.loc,own'⟩/\(∀j d st2,items[j]? = some d->J j st2->WS prog w c (execs body c.env) ⟨setN st2.loc i (some (.d d)),st2.own⟩ (ey (J (j+1)) Q) X)/\∀st2,J items.length st2->Q .next st2) X):
  WS prog w c (exec (.For (.Name x np) iter body [] pos) c.env) st Q X:=λs fz ad fps S0 =>
 th (h.use S0 (λv s1 V st1 fz1 ad1 fps1 x1 S1 rv hQ=>wpAny.n <| wpAny_mono (Jq ok S1 rv hQ) (λit s2 zz=>by
  refine elE2 zz λitems own'=>ae (uE1 λJ=>al λh0 turn hend hI=>?_);clear zz
  exact ee (wZ ok hx hI J h0 turn hend) λr s' hr=>eH.adv x1 hr) λU U e=>e) λU U e=>e) hs
theorem gW{i:Int}(h1 : -2000000<=i)(h2:i<=2000000):Ly i=true:=by
 unfold Ly
 simp
 lia
theorem Ja{i:Nat}{x:ac}{np rp cp pos:Pos}{e:Expr}{body:List Stmt}{Q:Fl->St->Prop}(ok:am K k c)(hx:c.nm[i]? = some x)(hk:c.env.kindOf (bI 9)=some .globalImplicit)(hd:(bI 9==("__debug__" : ac))=false)(hg:c.gn (bI 9)=Bx)(hb:c.bn (bI 9)=some (eE 9))(hp:cj [e] c.env)
  (h:WA prog w c (spliced (backTo cp (starEach [e] c.env))) st (λVs st1=>∃n:Int,Vs=[.d (.int n)]/\(-1000000<=n/\n<=1000000)/\∃J:Nat->St->Prop,J 0 st1/\(∀j d st2,((bM n.toNat).map λ(j:Nat)=>D.int j)[j]? = some d->J j st2->WS prog w c (execs body c.env) ⟨setN st2.loc i (some (.d d)),st2.own⟩ (ey (J (j+1)) Q) X) /\
   ∀st2,J n.toNat st2->Q .next st2) X):
  WS prog w c (exec (.For (.Name x np) (.Call (.Name (bI 9) rp) [e] [] cp) body [] pos) c.env) st Q X:=λs fz ad fps S0=>by
 refine th (jv (wpAny.n (jj ok.hk hk (uM (by refine rwr (ok.hg ..) ?_;exact ok.gns.keeps (S0.heap ok)) hg (by refine rwr (ok.hb ..) ?_;exact ok.bns.keeps (S0.heap ok)) hb ?_) hd))) (λU=>rfl)
 refine m8 (f:=eE 9) (λa e=>by cases e) S0 hp h (λU U e=>e) λvs s1 Vs st1 fz1 ad1 fps1 x1 S1 rv hC=>?_
 refine elE1 hC λn=>al λy5 hn=>uE1 λJ=>al λh0 turn hend=>?_;clear hC;subst y5
 refine elE2 rv λv U=>al λz0=>uE1 λt z1 r2=>?_;clear rv;subst z0;subst z1
 have:_=[]:=r2
 subst this
 refine wpAny.n <| call_range_1 ?_
 refine elE1 S1.one λm S2=>?_
 have P1:=bF.push (tk:=s1.toks+1+1) (o:={ cls:=.type "range",data:=.fields #[.int 0 s1.toks,.int n t,.int 1 (s1.toks+1)] }) ok S2
 have sz:uQ 0 n 1=(n.toNat:Int):=by
  unfold uQ
  simp only[show (1:Int)>0 by decide,if_true]
  by_cases h:0<n
  ·refine rwr (if_pos h ..) ?_;lia
  ·refine rwr (if_neg h ..) ?_;lia
 have h0n:n.toNat<=1000000:=by lia
 have sm:uR 0 n 1=true:=by
  unfold uR
  rw[sz,gW (i:=0) (by lia) (by lia),gW (i:=n) (by lia) (by lia),gW (i:=1) (by lia) (by lia),gW (i:=(n.toNat:Int)) (by lia) (by lia),gW (i:=n+(1-1)) (by lia) (by lia)]
  simp
 refine wpAny.n <| wpAny_pyIter_range (IsRange.new ..) sm ?_
 have W:=Walks.range (prog:=prog) (w:=w) (A:=c.A) ok.hh (s1.heap.push { cls:=.type "range",data:=.fields #[.int 0 s1.toks,.int n t,.int 1 (s1.toks+1)] }).objs.size 0 1 n.toNat
 refine rwr (sz ..) ?_
 have hI:=dr.one (items:=(bM n.toNat).map λ(j:Nat)=>D.int j) (o:={ cls:=.type "range_iterator",data:=.fields #[rawInt 0,rawInt (n.toNat:Int),rawInt 1] }) (tk:=s1.toks+1+1) ok P1.1 W (by simp) (λj v hj hv=>by
  refine elE1 hv λu z0=>?_;clear hv;subst z0
  refine⟨.int j,?_,u,by simp⟩
  refine rwr (dO ..) (rwr (BO hj ..) ?_);rfl) rfl (by
  show Heap.get? _ _=_
  refine rwr (dt _ rfl ..) ?_
  simp) (λj h st=>⟨_,st⟩)
 exact ee (wZ ok hx hI J h0 turn (by simpa using hend)) λr s' hr=>eH.adv (x1.trans P1.2) hr
end
end

section
open PySem PySem.W PyProof.Rows PySem.SeqAt PySem.MeetsSeq
noncomputable def lC(e:Expr):Bool:=!aG e.ctorIdx 7
theorem qS{e:Expr}{env:Env}(h:lC e=true)(x:Value):foldedSetIterable e env x=pure x:=by
 induction e using Expr.casesOn with
 |Set _ _ _=>exact aE h
 |_=>rfl
noncomputable def wD(e:Expr):Bool:=eP e λU U U U=>true
noncomputable def qu:Operator->Bool
 |.Add=>true | .Sub=>true | .BitOr=>true | .RShift=>true | _=>false
theorem zt{op:Operator}(h:qu op=true):op=.Add\/op=.Sub\/op=.BitOr\/op=.RShift:=by
 cases op <;>first | (cases h;done) | simp
structure md where
 s:Stmt->Bool
 l:List Stmt->Bool
noncomputable def md.of(s:Stmt->Bool):md:=⟨s,λU=>false⟩
noncomputable def FI{α:Type}(l:List α)(f:α->List α->Bool):Bool:=l.casesOn false f
noncomputable def pE(nm:List ac):List Nat->List Expr->Bool
 |[],ts=>ts.isEmpty
 |i::is,ts=>FI ts λt es=>bu t λx U=>(getN nm i==some x)&&pE nm is es
inductive gb(nm:List ac):List Nat->List Expr->Prop
 |nil:gb nm [] []
 |cons {i:Nat} {is:List Nat} {x:ac} {p:Pos} {ts:List Expr} (h:nm[i]? = some x) (r:gb nm is ts):gb nm (i::is) (.Name x p::ts)
theorem gb.of{nm:List ac}{is:List Nat}:∀{ts:List Expr},pE nm is ts=true->gb nm is ts:=by
 induction is with
 |nil=>exact λh=>gk.mp h▸.nil
 |cons i is ih =>
  intro ts h
  induction ts using List.casesOn with
  |nil=>exact aE h
  |cons t es=>exact bx (show bu t _=true from h) λx p h=>have ⟨h1,h2⟩:=aB h;.cons (by refine rwr (aM (bk ..)) ?_;exact eq_of_beq h1) (ih h2)
noncomputable def ej(S:aU)(T:Nat->Expr->Bool)(TS:Nat->Stmt->Bool):Sx->md
 |.nil=>⟨λU=>false,λl=>l.isEmpty⟩
 |.cons s r=>⟨λU=>false,λl=>match l with
  |a::t=>(ej S T TS s).s a&&(ej S T TS r).l t
  |[]=>false⟩
 |.asg i e=>.of λt=>je t λts v U=>bY ts λy=>bu y λx U=>(getN S.nm i==some x)&&(nX v&&(aN S T e).e v)
 |.asgT is e=>.of λt=>je t λts v U=>bY ts λy=>mY y λts U U=>pE S.nm is ts&&(wD v&&(aN S T e).e v)
 |.asgA o f e=>.of λt=>je t λts v U=>bY ts λy=>iK y λov a U=>(a==aK f)&&(nX v&&((aN S T o).e ov&&(aN S T e).e v))
 |.aug i op e=>.of λt=>qP t λy op' v U=>bu y λx U=>(getN S.nm i==some x)&&((op'==op)&&(qu op&&(aN S T e).e v))
 |.augA o f op e=>.of λt=>qP t λy op' v U=>iK y λov a U=>(a==aK f)&&((op'==op)&&(qu op&&((aN S T o).e ov&&(aN S T e).e v)))
 |.ex e=>.of λt=>tN t λv U=>nX v&&(aN S T e).e v
 |.ite t a b=>.of λx=>wk x λt' a' b' U=>(aN S T t).e t'&&((ej S T TS a).l a'&&(ej S T TS b).l b')
 |.whl t b=>.of λx=>yk x λt' b' o U=>ck o ((aN S T t).e t'&&(ej S T TS b).l b')
 |.forL i it b=>.of λx=>oz x λy it' b' o U=>ck o (bu y λy U=>(getN S.nm i==some y)&&(lC it'&&((aN S T it).e it'&&(ej S T TS b).l b')))
 |.forR i n b=>.of λx=>oz x λy it' b' o U=>ck o (bu y λy U=>eP it' λg as ks U=>ck ks (bu g λz U=>bY as λe=>(getN S.nm i==some y)&&((z==bI 9)&&((S.glob (bI 9) λv=>v==.bi 9)&&(jF e&&((aN S T n).e e&&(ej S T TS b).l b'))))))
 |.forT is it b=>.of λU=>false
 |.ret e=>.of λt=>ze t λv U=>lP v λv=>(aN S T e).e v
 |.raise x C e=>.of λt=>AY t λv w U=>lL w (lP v λv=>eP v λg as ks U=>ck ks (bu g λy U=>bY as λv=>(y==x)&&((S.glob x λg=>g==.ex C)&&(jF v&&(aN S T e).e v))))
 |.orc n=>.of (TS n)
section
variable {prog:Program}{w:World}{K:Frag}{k:Nat}{c:FC}{st:St}{X:Nat->St->Prop}{Γ:Addr->aH->Prop}{O:bf}{OS:bJ}{S:aU}{T:Nat->Expr->Bool}{TS:Nat->Stmt->Bool}
theorem rI{e:Expr}{pos:Pos}{Q:List V->St->Prop}(hs:jF e=true)(h:WE prog w c (eval e c.env) st (λV st1=>Q [V] st1) X):WA prog w c (spliced (backTo pos (starEach [e] c.env))) st Q X :=
 yl ⟨lr hs _ _,trivial⟩ (WG.mono h (λV st1 hq=>yq hq) λU U x=>x)
theorem vc{op:Operator}{a b:Int}{kk:Int->Prop}(h:iI op a b kk)(ho:op=.Add\/op=.Sub\/op=.BitOr\/op=.RShift):O2 prog w c (inplaceOp op) (.d (.int a)) (.d (.int b)) st (λr st2=>∃x,r=.d (.int x)/\kk x/\st2=st) X :=
 λs fz ad fps va vb S ra rb=>by
  refine elE1 ra λt z0=>?_;clear ra;subst z0
  refine elE1 rb λu z0=>?_;clear rb;subst z0
  have go:∀r tk tk',kk r->dK w.params c (RV w.params) (λV st'=>∃x,V=.d (.int x)/\kk x/\st'=st) s fz ad fps (.int r tk) { s with toks:=tk' }:=
   λr tk tk' hk=>⟨.d (.int r),st,fz,ad,fps,aA.tok tk',S,⟨tk,rfl⟩,r,rfl,hk,rfl⟩
  refine ao ho (λz0=>?_) (uO (λz1=>?_) (uO (λz2=>?_) (λz3=>?_))) <;>clear ho <;>(try subst z0) <;>(try subst z1) <;>(try subst z2) <;>(try subst z3)
  ·exact wpAny.n <| PyProof.Rows.iadd_int (go _ _ _ h)
  ·exact wpAny.n <| PyProof.Rows.isub_int (go _ _ _ h)
  ·exact wpAny.n <| ior_int (go _ _ _ h)
  ·exact wpAny.n <| irshift_int h.1 (go _ _ _ h.2)
theorem O2.mono{t:Value->Value->Sem Value}{a b:V}{Q Q':V->St->Prop}(h:O2 prog w c t a b st Q X)(hq:∀V st',Q V st'->Q' V st'):O2 prog w c t a b st Q' X :=
 λs fz ad fps va vb S ra rb=>aD (h s fz ad fps va vb S ra rb) (λv s' ⟨V,st',fz',ad',fps',a1,a2,a3,a4⟩=>⟨V,st',fz',ad',fps',a1,a2,a3,hq _ _ a4⟩) λU U e=>e
theorem AE{nm:List ac}{is:List Nat}{ts:List Expr}(h:gb nm is ts):(assignEach ts c.env).length=is.length/\(assignEach ts c.env).findIdx? (·.1)=Bx:=by
 induction h with
 |nil=>exact⟨rfl,rfl⟩
 |@cons i is x p ts h r ih =>
  refine rwr (show assignEach (.Name x p::ts) c.env=(false,assign (.Name x p) c.env)::assignEach ts c.env from rfl) ?_
  refine⟨by simp[ih.1],?_⟩
  refine rwr (List.findIdx?_cons ..) ?_
  simp[ih.2]
theorem vV(ok:am K k c){own:List af}{fz ad fps}{Q:Unit->Shared->Prop}{Ec:Value->Shared->Prop}{is:List Nat}{ts:List Expr}(h:gb c.nm is ts):∀{ds:List D} {xs:List Value} {loc:List (Option V)} {s:Shared},RDs w.params (Zf c.base fz) ds xs->ds.length=is.length ->
  SR w.params c ⟨loc,own⟩ fz ad fps s->(∀s',SR w.params c ⟨iW loc is ds,own⟩ fz ad fps s'->aA c s fz ad fps s' fz ad fps->Q () s')->wpAny (model prog w) c.A (assignInOrder ((assignEach ts c.env).map (·.2)) xs) Q Ec s:=by
 induction h with
 |nil =>
  intro ds xs loc s r hl S hq
  rw[mC hl]at hq
  exact assignInOrder_nil (hq s S aA.refl)
 |@cons i is x p ts h r ih =>
  intro ds xs loc s r hl S hq
  induction ds using List.casesOn with
  |nil=>cases hl
  |cons d ds =>
   refine elE2 r λv ys=>al λz0 r1 r2=>?_;clear r;subst z0
   exact assignInOrder_cons (assign_Name (jU ok h S (V:=.d d) r1 λs' S' A'=>ih r2 (BP hl) S' λs2 S2 A2=>hq s2 S2 (A'.trans A2)))
theorem Km{M:Model}{A:Around}{E:Value->Shared->Prop}{s:Shared}{env:Env}{elts:List Expr}{k:Nat}{tpos pos:Pos}{value:Expr}{Q:Flow->Shared->Prop}
  (h:ag M A (eval value env) (λv s₁=>wpAny M A (assign (.Tuple elts k tpos) env v) (λU=>Q .next) E s₁) E s)
  (hs:swapsWithSole [.Tuple elts k tpos] value pos.line env=pure false)
  (hw:swappedStores [.Tuple elts k tpos] value env=pure Bx):
  ag M A (exec (.Assign [.Tuple elts k tpos] value pos) env) Q E s:=by
 refine rwr (exec_Assign ..) ?_
 refine ai (a_ ?_)
 refine rwr (hs ..) ?_
 refine ai (aF ?_)
 refine rwr (if_neg (by decide)) ?_
 refine ai (aD h (λv s₁ h₁=>?_) λU U x=>x)
 refine rwr (hw ..) ?_
 refine ai (aF ?_)
 show ag M A (do assignAll v [assign (.Tuple elts k tpos) env];pure .next) Q E s₁
 exact ai (wpAny.n (wpAny_mono h₁ (λU U x=>aF x) λU U x=>x))
theorem Eo{is:List Nat}{ts:List Expr}{kd:Nat}{tp pos:Pos}{v:Expr}{Q:Fl->St->Prop}(ok:am K k c)(hn:gb c.nm is ts)(hv:wD v=true)
  (h:WE prog w c (eval v c.env) st (λV st1=>vT V (λds=>cond (aG ds.length is.length) (Q .next ⟨iW st1.loc is ds,st1.own⟩) False) False) X):WS prog w c (exec (.Assign [.Tuple ts kd tp] v pos) c.env) st Q X:=λs fz ad fps S=>by
 have hs:swapsWithSole [.Tuple ts kd tp] v pos.line c.env=pure false:=dA hv λU U U U U=>rfl
 have hw:swappedStores [.Tuple ts kd tp] v c.env=pure Bx:=dA hv λU U U U U=>rfl
 refine Km (h.use S (λu s1 V st1 fz1 ad1 fps1 x1 S1 rv hQ=>?_) λU U e=>e) hs hw
 refine elE1 (E3 hQ) λds=>ae λe hQ=>?_
 refine ak (g_ hQ) λhl hQ=>?_
 have hl:=di hl
 refine elE3 (rv.dat e) λa xs n=>al λz0 z r=>?_;subst z0
 refine ak (AE (c:=c) hn) λe1 e2=>?_
 refine assign_Tuple_tuple ok.hh ⟨_,S1.at ok z,rfl,_,rfl⟩ (by refine rwr (e1 ..) (rwr (aM (hl ..)) ?_);have:=RDs.len r;simpa using this.symm) e2 λh' he=>?_
 refine elE1 S1.one λm S2=>?_
 have kp:∀b o,s1.heap.get? b=some o->h'.get? b=some o:=λb o e=>he b o (k8 (cL e)) e
 have g:=bF.grow (tk:=s1.toks) (h':=h') (fzn:=[]) ok S2 (λb o e U=>kp b o e) ((S2.fr ok).keeps kp).ns λp hp=>nomatch hp
 rw[bA]at g
 exact vV ok hn r hl g.1 λs' S' A'=>⟨.next,_,fz1,ad1,fps1,(x1.trans g.2).trans A',S',rfl,hQ⟩
structure dL(prog:Program)(w:World)(c:FC)(f:(Nat->St->Prop)->St->(Fl->St->Prop)->Prop)(o:md):Prop where
 s:∀t,o.s t=true->∀X st Q,f X st Q->WS prog w c (exec t c.env) st Q X
 l:∀ts,o.l ts=true->∀X st Q,f X st Q->WS prog w c (execs ts c.env) st Q X
theorem dL.of{f:(Nat->St->Prop)->St->(Fl->St->Prop)->Prop}{g:Stmt->Bool}(h:∀t,g t=true->∀X st Q,f X st Q->WS prog w c (exec t c.env) st Q X):dL prog w c f (md.of g):=⟨h,λU he=>nomatch he⟩
theorem Eg{V:V}{own:List af}{k k':List D->List af->Prop}(h:kt V own k)(hk:∀a b,k a b->k' a b):kt V own k' :=
 Ei h (λU=>hk _ _) λh=>KS h (λU=>hk _ _) λh=>rn h (λU=>hk _ _) λh=>sy h (λU=>hk _ _) λh=>Ag h (λU h=>zn h (λU U h=>h) (λU=>hk _ _) λU h=>h) id
theorem qM(ok:am K k c)(hN:bX K S c)(hK:cJ K)(hi:interactive c.env=false)(hΓ:∀f C,Γ f C->ah prog w K c.gn c.bn k (.ref f) C)
  (hO:∀X n e,T n e=true->fi e=true/\∀st Q,O n st Q X->WE prog w c (eval e c.env) st Q X) (hOS:∀X n t,TS n t=true->∀st Q,OS n st Q X->WS prog w c (exec t c.env) st Q X):
  ∀x:Sx,dL prog w c (aj Γ O OS x) (ej S T TS x):=by
 have E:∀X (e:Ex),bb prog w c X (wp Γ O X e) (aN S T e):=λX e=>lN ok hN hK hΓ (hO X) e
 have nm:∀{i x},(getN S.nm i==some x)=true->c.nm[i]? = some x:=λh=>by
  rw[beq_iff_eq,bk]at h
  refine rwr (hN.nm ..) ?_;exact h
 intro x
 induction x with
 |nil =>
  refine⟨(λU he=>nomatch he),λts h X st Q hq=>?_⟩
  have:ts=[]:=gk.mp h
  subst this;exact Kx hq
 |cons s r ih1 ih2 =>
  refine⟨(λU he=>nomatch he),λts h X st Q hq=>?_⟩
  cases ts with
  |nil=>cases h
  |cons a t =>
   have h:=aB h
   refine GT (WG.mono (ih1.s a h.1 X st _ hq) (λfl st1 h1=>?_) λU U x=>x)
   cases fl with
   |next=>exact ih2.l t h.2 X st1 Q h1
   |brk=>exact h1
   |cont=>exact h1
   |ret V=>exact h1
 |asg i e =>
  refine dL.of λt he X st Q hq=>?_
  refine jw he λU v U he=>?_
  refine cq he λU he=>?_
  refine bx he λx U he=>?_
  refine ak (aB he) λh1 he=>?_
  refine ak (aB he) λh2 h3=>?_
  exact Dj ok (nm h1) (rP h2 _ _ _) ((E X e).e _ h3 st _ hq)
 |asgT is e =>
  refine dL.of λt he X st Q hq=>?_
  refine jw he λU v U he=>?_
  refine cq he λU he=>?_
  refine nU he λU U U he=>?_
  refine ak (aB he) λh1 he=>?_
  refine ak (aB he) λh2 h3=>?_
  exact Eo ok (hN.nm▸.of h1) h2 ((E X e).e _ h3 st _ hq)
 |asgA o f e =>
  refine dL.of λt he X st Q hq=>?_
  refine jw he λU v U he=>?_
  refine cq he λU he=>?_
  refine jb he λU a U he=>?_
  refine ak (aB he) λh1 he=>?_
  refine ak (aB he) λh2 he=>?_
  refine ak (aB he) λh3 h4=>?_
  refine bo h1 ?_
  refine Dn ok (rP h2 _ _ _) (WG.mono ((E X e).e _ h4 st _ hq) (λV st1 h1=>WG.mono ((E X o).e _ h3 st1 _ h1) (λO' st2 h2=>?_) λU U x=>x) λU U x=>x)
  refine elE1 (lA h2) λi=>ae λe1 h2=>?_
  refine elE2 (wU h2) λC fs=>kI λe2 e3 e4 e5 e6=>?_
  exact(ex3 i C fs ⟨e1,e2,(hK.cls C e3).1,(hK.cls C e3).2 f e4,e5,e6⟩)
 |aug i op e =>
  refine dL.of λt he X st Q hq=>?_
  refine yJ he λU op1 v U he=>?_
  refine bx he λx U he=>?_
  refine ak (aB he) λh1 he=>?_
  refine ak (aB he) λh2 he=>?_
  refine ak (aB he) λh0 h3=>?_
  refine bo h2 ?_
  have hq:(wp Γ O X (.v i)).e st _:=hq
  refine elE1 (yi hq) λV0=>ae λe1 hq=>?_
  refine Kr ok (nm h1) e1 (WG.mono ((E X e).e _ h3 st _ hq) (λV st1 h4=>?_) λU U x=>x)
  refine elE1 (dS h4) λx=>ae λe3 h5=>?_
  refine elE1 (dS h5) λy=>ae λe4 h5=>?_
  refine rwr (e3 ..) (rwr (e4 ..) ?_)
  refine(vc h5 (zt h0)).mono λV st' h6=>?_
  refine elE1 h6 λr=>al λz0 hr z1=>?_;clear h6;subst z0;subst z1
  exact hr
 |augA o f op e =>
  refine dL.of λt he X st Q hq=>?_
  refine yJ he λU op1 v U he=>?_
  refine jb he λU a U he=>?_
  refine ak (aB he) λh1 he=>?_
  refine ak (aB he) λh2 he=>?_
  refine ak (aB he) λh0 he=>?_
  refine ak (aB he) λh3 h4=>?_
  refine bo h1 ?_
  refine bo h2 ?_
  refine FY ok (WG.mono ((E X o).e _ h3 st _ hq) (λO' st1 h5=>?_) λU U x=>x)
  refine elE1 (lA h5) λi=>ae λe0 h5=>?_
  refine elE1 (xG hK h5) λr0=>ae λha h5=>?_
  refine(ex2 i r0 ⟨e0,e0▸ha,WG.mono ((E X e).e _ h4 st1 _ h5) (λb st2 h6=>?_) λU U x=>x⟩)
  refine elE1 (dS h6) λx=>ae λe3 h7=>?_
  refine elE1 (dS h7) λy=>ae λe4 h7=>?_
  refine rwr (e3 ..) (rwr (e4 ..) ?_)
  refine(vc h7 (zt h0)).mono λV st' h8=>?_
  refine elE1 h8 λr=>al λz0 hr z1=>?_;clear h8;subst z0;subst z1
  refine elE2 (wU hr) λC fs=>kI λe1 e2 e3 e4 hr=>?_
  exact(ex2 C fs ⟨e1,(hK.cls C e2).1,(hK.cls C e2).2 f e3,e4,hr⟩)
 |ex e =>
  refine dL.of λt he X st Q hq=>?_
  refine zs he λv U he=>?_
  have he:=aB he
  exact CD hi (rP he.1 _ _ _) ((E X e).e _ he.2 st _ hq)
 |ite t a b iha ihb =>
  refine dL.of λx he X st Q hq=>?_
  refine FZ he λU U U U he=>?_
  refine ak (aB he) λh1 he=>?_
  refine ak (aB he) λh2 h3=>?_
  exact GW (WG.mono ((E X t).t _ h1 st _ hq) (λq st1 h4=>⟨λe=>iha.l _ h2 X st1 Q (h4.1 e),λe=>ihb.l _ h3 X st1 Q (h4.2 e)⟩) λU U x=>x)
 |whl t b ihb =>
  refine dL.of λx he X st Q hq=>?_
  refine JG he λU U U U he=>?_
  refine cK he λhe=>?_
  have he:=aB he
  refine elE2 hq λJ n=>ae λh0 turn=>?_;clear hq
  exact Et J n h0 λn st1 hJ=>WG.mono ((E X t).t _ he.1 st1 _ (turn n st1 hJ)) (λq st2 h2=>⟨λe=>ihb.l _ he.2 X st2 _ (h2.1 e),h2.2⟩) λU U x=>x
 |forL i it b ihb =>
  refine dL.of λx he X st Q hq=>?_
  refine ri he λU it' U U U he=>?_
  refine cK he λhe=>?_
  refine bx he λy U he=>?_
  refine ak (aB he) λh1 he=>?_
  refine ak (aB he) λh2 he=>?_
  refine ak (aB he) λh3 h4=>?_
  refine Fu ok (nm h1) (λx=>?_) (WG.mono ((E X it).e _ h3 st _ hq) (λV st1 h5=>Eg h5 λitems own' h6=>?_) λU U x=>x)
  ·skip
   exact qS h2 x
  ·refine elE1 h6 λJ=>aY λU j0 turn hend=>?_;clear h6
   exact⟨J,j0,λj d st2 hd hJ=>ihb.l _ h4 X _ _ (turn j d st2 hd hJ),hend⟩
 |forR i n b ihb =>
  refine dL.of λx he X st Q hq=>?_
  refine ri he λU U U U U he=>?_
  refine cK he λhe=>?_
  refine bx he λy U he=>?_
  refine dA he λU U U U he=>?_
  refine cK he λhe=>?_
  refine bx he λz U he=>?_
  refine cq he λU he=>?_
  refine ak (aB he) λh1 he=>?_
  refine ak (aB he) λh7 he=>?_
  refine ak (aB he) λh2 he=>?_
  refine ak (aB he) λh3 he=>?_
  refine ak (aB he) λh4 h5=>?_
  refine bo h7 ?_
  refine bN (aU.glob_of hN h2) λg1 g2=>uE1 λv=>ae λg3 g4=>?_
  have:=eq_of_beq g4
  subst this
  refine ak (hN.bi _ _ g3) λg5 g6=>?_
  refine Ja ok (nm h1) g1 g2 g5 g6 ⟨lr h3 _ _,trivial⟩ (rI h3 (WG.mono ((E X n).e _ h4 st _ hq) (λV st1 h6=>?_) λU U x=>x))
  refine elE1 (dS h6) λm=>al λe hm=>uE1 λJ=>aY λU j0 turn hend=>?_
  exact⟨m,e▸rfl,hm,J,j0,λj d st2 hd hJ=>ihb.l _ h5 X _ _ (turn j d st2 hd hJ),by simpa using hend⟩
 |forT is it b ihb =>
  exact dL.of λx he X st Q hq=>nomatch he
 |ret e =>
  refine dL.of λt he X st Q hq=>?_
  refine J1 he λU U he=>?_
  refine rh he λU he=>?_
  exact D1 ((E X e).e _ he st _ hq)
 |raise x C e =>
  refine dL.of λt he X st Q hq=>?_
  refine J_ he λU U U he=>?_
  refine nc he λhe=>?_
  refine rh he λU he=>?_
  refine dA he λU U U U he=>?_
  refine cK he λhe=>?_
  refine bx he λy U he=>?_
  refine cq he λU he=>?_
  refine ak (aB he) λh1 he=>?_
  refine ak (aB he) λh2 he=>?_
  refine ak (aB he) λh3 h4=>?_
  refine bo h1 ?_
  refine bN (aU.glob_of hN h2) λg1 g2=>uE1 λv=>ae λg3 g4=>?_
  have:=eq_of_beq g4
  subst this
  exact H' ok g1 g2 (hN.ex _ _ g3) ⟨lr h3 _ _,trivial⟩ (rI h3 (WG.mono ((E X e).e _ h4 st _ hq) (λV st1 h6=>have ⟨_,_,h6⟩:=gY h6;⟨by simp,h6⟩) λU U x=>x))
 |orc n =>
  exact dL.of λt he X st Q hq=>hOS X n t he st Q hq
end
end

section
open PySem PySem.W PyProof.Rows PySem.SeqAt PySem.MeetsSeq
noncomputable def dM(K:Frag)(fa:Addr):List (ac×NameKind):=match K.lookup fa with
 |some ⟨_,_,.func fd,_⟩=>fd.scope.names
 |_=>[]
inductive ln(K:Frag)(G:List (ac×GV))(T:Nat->Expr->Bool)(TS:Nat->Stmt->Bool)(fa:Addr)(np:Nat)(nm:List ac)(ir:Sx)(dv:List Value:=[]):Prop
 |mk (oc:Value) (od:Option Addr) (osl:Array (Option Value)) (fd:FuncData) (body:List Stmt):K.lookup fa=some ⟨oc,od,.func fd,osl⟩->fd.body=.stmts body->codeIn K fd.code fd.qualname=true ->
  (∀(vals:List Value) (s:Shared),K.In s.heap->vals.length+dv.length=np->BindsTo s fd ⟨vals,[]⟩ ((nm.take np).zip (vals++dv))) ->
  (nm.all λx=>(fd.scope.names.lookup x==some .local) && !(x==("__debug__" : ac)))=true->(fd.scope.names.all λx=>!(x.2==.cell))=true->nm.Nodup->np<=nm.length ->
  fd.globals=mainGlobals->fd.builtins=builtinsNs->fd.scope.isCoroutine=false->fd.scope.isGenerator=false->fd.scope.kind=.function ->
  (ej ⟨nm,fd.scope.names,G⟩ T TS ir).l body=true->ln K G T TS fa np nm ir dv
structure iT(K:Frag)(G:List (ac×GV))(gn bn:ac->Option Value)(base:Heap):Prop where
 int:∀x i,G.lookup x=some (.int i)->∃t,gn x=some (.int i t)
 str:∀x i,G.lookup x=some (.str i)->∃t,gn x=some (.str i t)
 fn:∀x a,G.lookup x=some (.fn a)->gn x=some (.ref a)/\keepIn K (.ref a)=true
 bi:∀x b,G.lookup x=some (.bi b)->gn x=Bx/\bn x=some (eE b)
 ex:∀x C,G.lookup x=some (.ex C)->OwnCls x C oQ "Exception.__new__" gn base
structure aC(np:Nat)(Q:V->List af->Prop)(fl:Fl)(st:St):Prop where
 h:∃V,(fl=.ret V\/(fl=.next/\V=.d .none))/\∃V' own',Fin np V st.own V' own'/\Q V' own'
theorem aC.keep{np:Nat}{Q:V->List af->Prop}{V:V}{st:St}(n:Nat)(hn:np<=n)(hb:ec n V)(ho:ib n (st.own.take n))(h:Q V (st.own.take n)):aC np Q (.ret V) st :=
 ⟨V,.inl rfl,V,_,.keep n hn hb ho,h⟩
theorem aC.none{np:Nat}{Q:V->List af->Prop}{st:St}(n:Nat)(hn:np<=n)(ho:ib n (st.own.take n))(h:Q (.d .none) (st.own.take n)):aC np Q .next st :=
 ⟨.d .none,.inr ⟨rfl,rfl⟩,.d .none,_,.keep n hn trivial ho,h⟩
theorem aC.frz{np:Nat}{Q:V->List af->Prop}{st:St}{items:List D}(n j:Nat)(hn:np<=n)(hj:n<=j)(e:getN st.own j=some (.lst items))(ho:ib n (st.own.take n))(h:Q (.d (.list items)) (st.own.take n)):aC np Q (.ret (.own j)) st :=
 ⟨.own j,.inl rfl,_,_,.frz n j hn hj e ho,h⟩
section
variable {prog:Program}{w:World}{K:Frag}{k:Nat}{gn bn:ac->Option Value}{G:List (ac×GV)}{T:Nat->Expr->Bool}{TS:Nat->Stmt->Bool}{C:aH}{fa:Addr}{np:Nat}{nm:List ac}{ir:Sx}
theorem ah.of_ir{OX:FC->bf}{OSX:FC->bJ}{dv:List Value}{dargs:List V}(hdv:∀Z ad,aV w.params Z ad dargs dv)(hF:ln K G T TS fa np nm ir dv)(hG:∀base,K.In base->base.Ns mainGlobals gn->base.Ns builtinsNs bn->base.NoLimit->iT K G gn bn base)(hK:cJ K)
  (hO:∀c,am K k c->bX K ⟨nm,dM K fa,G⟩ c->c.gn=gn->c.bn=bn->interactive c.env=false->∀X n e,T n e=true->fi e=true/\∀st Q,OX c n st Q X->WE prog w c (eval e c.env) st Q X)
  (hOS:∀c,am K k c->bX K ⟨nm,dM K fa,G⟩ c->c.gn=gn->c.bn=bn->interactive c.env=false->∀X n t,TS n t=true->∀st Q,OSX c n st Q X->WS prog w c (exec t c.env) st Q X)
  (hC:∀args own Q X,C args own Q X->args.length+dargs.length=np)
  (h:∀args own Q X,C args own Q X->∀c,c.gn=gn->c.bn=bn->(own=[]->c.mu=[])->aj (λf C=>ah prog w K gn bn k (.ref f) C) (OX c) (OSX c) ir (λCn U=>X Cn) ⟨(args++dargs).map some++ay (nm.length-np) Bx,own⟩ (aC own.length Q)):
  ah prog w K gn bn (k+1) (.ref fa) C:=by
 obtain⟨oc,od,osl,fd,body,h1,h2,h3,h4,h5,h6,h7,h8,h9,h10,h11,h12,h13,h14⟩:=hF
 have hloc:∀x∈nm,fd.scope.names.lookup x=some .local/\(x==("__debug__" : ac))=false:=λx hx=>by
  have:=fR.mp h5 x hx
  simpa using this
 have hlt:(nm.take np).length=np:=by simp;lia
 refine ah.of_body hdv (ps:=nm.take np) (nm:=nm) h1 h2 h3 (λvals s hX hl=>h4 vals s hX (by exact rwr (hl ..) (rwr (hlt ..) rfl))) (λx hx=>(hloc x (mB hx)).1) (λx hx e=>?_) h9 h10 (List.take_prefix _ _) h7 hloc
  (λargs own Q X hh=>by refine rwr (hlt ..) ?_;exact hC _ _ _ _ hh) (λc ok e1 e2 e3 e4 args own Q X hh hmu=>?_) h11 h12 h13
 ·have:=fR.mp h6 x hx
  rw[e]at this;cases this
 ·refine elE1 e4 λL eL=>?_;clear e4
  have g:=hG c.base ok.kin (by refine rwr (aM (e2 ..)) ?_;exact ok.gns) (by refine rwr (aM (e3 ..)) ?_;exact ok.bns) ok.lim
  have hsc:dM K fa=fd.scope.names:=by unfold dM;exact rwr (h1 ..) rfl
  have hN:bX K ⟨nm,dM K fa,G⟩ c:=by
   refine rwr (hsc ..) ?_
   refine⟨e1,λx k' hx=>?_,λx i hx=>?_,λx i hx=>?_,λx a hx=>?_,λx b hx=>?_,λx Cx hx=>?_⟩
   ·refine rwr (eL ..) ?_;exact hx
   ·refine rwr (e2 ..) ?_;exact g.int x i hx
   ·refine rwr (e2 ..) ?_;exact g.str x i hx
   ·refine rwr (e2 ..) ?_;exact g.fn x a hx
   ·refine rwr (e2 ..) (rwr (e3 ..) ?_);exact g.bi x b hx
   ·refine rwr (e2 ..) ?_;exact g.ex x Cx hx
  have hi:interactive c.env=false:=by
   refine rwr (eL ..) ?_
   have:(callEnv fd L fa).scope.kind=.function:=h13
   unfold interactive
   refine rwr (this ..) ?_;rfl
  have:=(qM (Γ:=λf C=>ah prog w K gn bn k (.ref f) C) ok hN hK hi (λf C hs=>by refine rwr (e2 ..) (rwr (e3 ..) ?_);exact hs) (hO c ok hN e2 e3 hi) (hOS c ok hN e2 e3 hi) ir).l body (by refine rwr (hsc ..) ?_;exact h14) _ _ _ (h args own Q X hh c e2 e3 hmu)
  refine rwr (hlt ..) ?_
  exact WG.mono this (λU U h=>h.h) λU U x=>x
end
end

section
noncomputable def glob:List (ac×GV):=[((aa "MAX_32"),.int 4294967295),
 ((aa "MAX_64"),.int 18446744073709551615),
 ((aa "NONE"),.int 0),
 ((aa "ENTRY_NORMAL"),.int 0),
 ((aa "ENTRY_CONF"),.int 2),
 ((aa "RW_HARD"),.int 1),
 ((aa "RW_ENTRY"),.int 2),
 ((aa "RW_FOLD"),.int 4),
 ((aa "SEGMENT_HEAD"),.str (aa "wal-")),
 ((aa "NAME_OTHER"),.int 0),
 ((aa "NAME_CURRENT"),.int 1),
 ((aa "NAME_MANIFEST"),.int 2),
 ((aa "NAME_LOG"),.int 3),
 ((aa "NAME_TABLE"),.int 4),
 ((aa "NAME_TEMP"),.int 5),
 ((aa "CURRENT"),.str (aa "CURRENT")),
 ((aa "write_groups"),.fn 89),
 ((aa "read_groups"),.fn 96),
 ((aa "put_varint"),.fn 103),
 ((aa "read_varint"),.fn 110),
 ((aa "put_varint32"),.fn 117),
 ((aa "read_varint32"),.fn 124),
 ((aa "read_lengthed"),.fn 131),
 ((aa "Cursor"),.fn 212),
 ((aa "Sink"),.fn 289),
 ((aa "rising"),.fn 300),
 ((aa "take_count"),.fn 307),
 ((aa "Entry"),.fn 352),
 ((aa "decode_entry"),.fn 363),
 ((aa "HardState"),.fn 408),
 ((aa "ConfState"),.fn 443),
 ((aa "put_ids"),.fn 454),
 ((aa "take_ids"),.fn 461),
 ((aa "encode_conf"),.fn 468),
 ((aa "decode_conf"),.fn 475),
 ((aa "segment_name"),.fn 482),
 ((aa "hard_record"),.fn 489),
 ((aa "fold_record"),.fn 496),
 ((aa "read_pointer"),.fn 503),
 ((aa "SegmentState"),.fn 555),
 ((aa "log_name"),.fn 566),
 ((aa "table_name"),.fn 573),
 ((aa "temp_name"),.fn 580),
 ((aa "manifest_name"),.fn 587),
 ((aa "read_digits"),.fn 594),
 ((aa "parse_name"),.fn 601),
 ((aa "_law_draw"),.fn 608),
 ((aa "_law_pieces"),.fn 615),
 ((aa "_law_figures"),.fn 622),
 ((aa "_law_octets"),.fn 627),
 ((aa "_law_name"),.fn 634),
 ((aa "_law_reading"),.fn 639),
 ((aa "_law_read"),.fn 646),
 ((aa "_law_pointer"),.fn 651),
 ((aa "_law_names"),.fn 658),
 ((aa "_law_put"),.fn 665),
 ((aa "_law_ids"),.fn 672),
 ((aa "_law_segment"),.fn 677),
 ((aa "law"),.fn 682),
 ((aa "len"),.bi 0),
 ((aa "bytes"),.bi 1),
 ((aa "bytearray"),.bi 2),
 ((aa "str"),.bi 3),
 ((aa "sum"),.bi 4),
 ((aa "min"),.bi 5),
 ((aa "max"),.bi 6),
 ((aa "tuple"),.bi 7),
 ((aa "sorted"),.bi 8),
 ((aa "range"),.bi 9),
 ((aa "Corrupt"),.ex 56),
 ((aa "ShortOctets"),.ex 68),
 ((aa "BadOption"),.ex 80)]
noncomputable def Ho:Sx :=
 (.cons (.ex (.bm (.v 2) 0 (.cons (.v 0) .nil)))
  (.cons (.ret (.bi 1 (.cons (.v 2) .nil)))
  .nil))
noncomputable def CB:Ex:=(.cmp .GtE (.v 0) (.k (.int (128))))
noncomputable def I3:Sx :=
 (.cons (.ex (.bm (.v 2) 0 (.cons (.bin .BitOr (.bin .BitAnd (.v 0) (.k (.int (127)))) (.k (.int (128)))) .nil)))
  (.cons (.aug 0 .RShift (.k (.int (7))))
  .nil))
noncomputable def Bh:List ac:=[aa "n",aa "most",aa "out"]
noncomputable def te:Sx :=
 (.cons (.ite (.or (.cons (.cmp .Lt (.v 0) (.k (.int (0)))) (.cons (.cmp .Gt (.v 0) (.v 1)) .nil))) (.cons (.raise (aa "BadOption") 80 (.txt (.cons (.fv (.v 0)) (.cons (.k (.str (aa " does not fit a varint of at most "))) (.cons (.fv (.v 1)) .nil)))))
  .nil) .nil)
  (.cons (.asg 2 (.bi 2 .nil))
  (.cons (.whl CB I3)
  Ho)))
noncomputable def K8:Sx :=
 (.cons (.raise (aa "Corrupt") 56 (.txt (.cons (.k (.str (aa "a varint goes on behind "))) (.cons (.fv (.v 2)) (.cons (.k (.str (aa " octets"))) .nil)))))
  .nil)
noncomputable def F7:Sx :=
 (.cons (.ite (.cmp .GtE (.v 1) (.bi 0 (.cons (.v 0) .nil))) (.cons (.raise (aa "ShortOctets") 68 (.k (.str (aa "the octets end within a varint"))))
  .nil) .nil)
  (.cons (.asg 7 (.sub (.v 0) (.v 1)))
  (.cons (.aug 1 .Add (.k (.int (1))))
  (.cons (.aug 4 .BitOr (.bin .LShift (.bin .BitAnd (.v 7) (.k (.int (127)))) (.v 5)))
  (.cons (.ite (.cmp .Lt (.v 7) (.k (.int (128)))) (.cons (.ite (.cmp .Gt (.v 4) (.v 3)) (.cons (.raise (aa "Corrupt") 56 (.txt (.cons (.k (.str (aa "a varint holds "))) (.cons (.fv (.v 4)) (.cons (.k (.str (aa ", over "))) (.cons (.fv (.v 3)) .nil))))))
  .nil) .nil)
  (.cons (.ret (.tup (.cons (.v 4) (.cons (.v 1) .nil))))
  .nil)) .nil)
  (.cons (.aug 5 .Add (.k (.int (7))))
  .nil))))))
noncomputable def xQ:List ac:=[aa "data",aa "at",aa "octets",aa "most",aa "n",aa "shift",aa "turn",aa "octet"]
noncomputable def r7:Sx :=
 (.cons (.ite (.cmp .Lt (.v 1) (.k (.int (0)))) (.cons (.raise (aa "ShortOctets") 68 (.txt (.cons (.k (.str (aa "a varint is asked at "))) (.cons (.fv (.v 1)) .nil))))
  .nil) .nil)
  (.cons (.asg 4 (.k (.int (0))))
  (.cons (.asg 5 (.k (.int (0))))
  (.cons (.forR 6 (.v 2) F7)
  K8))))
noncomputable def yA:List ac:=[aa "n"]
noncomputable def qb:Sx :=
 (.cons (.ite (.and (.cons (.cmp .GtE (.v 0) (.k (.int (0)))) (.cons (.cmp .Lt (.v 0) (.k (.int (128)))) .nil))) (.cons (.ret (.bi 1 (.cons (.lst (.cons (.v 0) .nil)) .nil)))
  .nil) .nil)
  (.cons (.ret (.call (aa "write_groups") 89 (.cons (.v 0) (.cons (.g (aa "MAX_64") (.int (18446744073709551615))) .nil))))
  .nil))
noncomputable def wM:List ac:=[aa "data",aa "at"]
noncomputable def rA:Sx :=
 (.cons (.ite (.and (.cons (.cmp .GtE (.v 1) (.k (.int (0)))) (.cons (.cmp .Lt (.v 1) (.bi 0 (.cons (.v 0) .nil))) (.cons (.cmp .Lt (.sub (.v 0) (.v 1)) (.k (.int (128)))) .nil)))) (.cons (.ret (.tup (.cons (.sub (.v 0) (.v 1)) (.cons (.bin .Add (.v 1) (.k (.int (1)))) .nil))))
  .nil) .nil)
  (.cons (.ret (.call (aa "read_groups") 96 (.cons (.v 0) (.cons (.v 1) (.cons (.k (.int (10))) (.cons (.g (aa "MAX_64") (.int (18446744073709551615))) .nil))))))
  .nil))
noncomputable def zK:List ac:=[aa "n"]
noncomputable def tP:Sx :=
 (.cons (.ite (.and (.cons (.cmp .GtE (.v 0) (.k (.int (0)))) (.cons (.cmp .Lt (.v 0) (.k (.int (128)))) .nil))) (.cons (.ret (.bi 1 (.cons (.lst (.cons (.v 0) .nil)) .nil)))
  .nil) .nil)
  (.cons (.ret (.call (aa "write_groups") 89 (.cons (.v 0) (.cons (.g (aa "MAX_32") (.int (4294967295))) .nil))))
  .nil))
noncomputable def Bi:List ac:=[aa "data",aa "at"]
noncomputable def rB:Sx :=
 (.cons (.ite (.and (.cons (.cmp .GtE (.v 1) (.k (.int (0)))) (.cons (.cmp .Lt (.v 1) (.bi 0 (.cons (.v 0) .nil))) (.cons (.cmp .Lt (.sub (.v 0) (.v 1)) (.k (.int (128)))) .nil)))) (.cons (.ret (.tup (.cons (.sub (.v 0) (.v 1)) (.cons (.bin .Add (.v 1) (.k (.int (1)))) .nil))))
  .nil) .nil)
  (.cons (.ret (.call (aa "read_groups") 96 (.cons (.v 0) (.cons (.v 1) (.cons (.k (.int (5))) (.cons (.g (aa "MAX_32") (.int (4294967295))) .nil))))))
  .nil))
noncomputable def xm:List ac:=[aa "data",aa "at",aa "count"]
noncomputable def qW:Sx :=
 (.cons (.asgT [2,1] (.call (aa "read_varint32") 124 (.cons (.v 0) (.cons (.v 1) .nil))))
  (.cons (.ite (.cmp .Gt (.bin .Add (.v 1) (.v 2)) (.bi 0 (.cons (.v 0) .nil))) (.cons (.raise (aa "ShortOctets") 68 (.txt (.cons (.fv (.v 2)) (.cons (.k (.str (aa " octets are told, "))) (.cons (.fv (.bin .Sub (.bi 0 (.cons (.v 0) .nil)) (.v 1))) (.cons (.k (.str (aa " are there"))) .nil))))))
  .nil) .nil)
  (.cons (.ret (.tup (.cons (.bi 1 (.cons (.slc (.v 0) (.v 1) (.bin .Add (.v 1) (.v 2))) .nil)) (.cons (.bin .Add (.v 1) (.v 2)) .nil))))
  .nil)))
noncomputable def yR:List ac:=[aa "self",aa "data",aa "at"]
noncomputable def sh:Sx :=
 (.cons (.ite (.or (.cons (.cmp .Lt (.v 2) (.k (.int (0)))) (.cons (.cmp .Gt (.v 2) (.bi 0 (.cons (.v 1) .nil))) .nil))) (.cons (.raise (aa "ShortOctets") 68 (.txt (.cons (.k (.str (aa "place "))) (.cons (.fv (.v 2)) (.cons (.k (.str (aa " is not within "))) (.cons (.fv (.bi 0 (.cons (.v 1) .nil))) (.cons (.k (.str (aa " octets"))) .nil)))))))
  .nil) .nil)
  (.cons (.asgA (.v 0) 0 (.v 1))
  (.cons (.asgA (.v 0) 1 (.v 2))
  .nil)))
noncomputable def AH:List ac:=[aa "self"]
noncomputable def um:Sx :=
 (.cons (.ret (.bin .Sub (.bi 0 (.cons (.attr (.v 0) 0) .nil)) (.attr (.v 0) 1)))
  .nil)
noncomputable def zM:List ac:=[aa "self",aa "at",aa "n"]
noncomputable def qx:Sx :=
 (.cons (.asg 1 (.attr (.v 0) 1))
  (.cons (.ite (.and (.cons (.cmp .Lt (.v 1) (.bi 0 (.cons (.attr (.v 0) 0) .nil))) (.cons (.cmp .Lt (.sub (.attr (.v 0) 0) (.v 1)) (.k (.int (128)))) .nil))) (.cons (.asgA (.v 0) 1 (.bin .Add (.v 1) (.k (.int (1)))))
  (.cons (.ret (.sub (.attr (.v 0) 0) (.v 1)))
  .nil)) .nil)
  (.cons (.asgT [2,1] (.call (aa "read_varint") 110 (.cons (.attr (.v 0) 0) (.cons (.v 1) .nil))))
  (.cons (.asgA (.v 0) 1 (.v 1))
  (.cons (.ret (.v 2))
  .nil)))))
noncomputable def wa:List ac:=[aa "self",aa "b",aa "at"]
noncomputable def un:Sx :=
 (.cons (.asgT [1,2] (.call (aa "read_lengthed") 131 (.cons (.attr (.v 0) 0) (.cons (.attr (.v 0) 1) .nil))))
  (.cons (.asgA (.v 0) 1 (.v 2))
  (.cons (.ret (.v 1))
  .nil)))
noncomputable def Ah:List ac:=[aa "self",aa "n"]
noncomputable def s6:Sx :=
 (.cons (.ite (.cmp .GtE (.attr (.v 0) 1) (.bi 0 (.cons (.attr (.v 0) 0) .nil))) (.cons (.raise (aa "ShortOctets") 68 (.k (.str (aa "a flag is asked at the end"))))
  .nil) .nil)
  (.cons (.asg 1 (.sub (.attr (.v 0) 0) (.attr (.v 0) 1)))
  (.cons (.ite (.cmp .Gt (.v 1) (.k (.int (1)))) (.cons (.raise (aa "Corrupt") 56 (.txt (.cons (.k (.str (aa "a flag is "))) (.cons (.fv (.v 1)) .nil))))
  .nil) .nil)
  (.cons (.augA (.v 0) 1 .Add (.k (.int (1))))
  (.cons (.ret (.cmp .Eq (.v 1) (.k (.int (1)))))
  .nil)))))
noncomputable def wf:List ac:=[aa "self"]
noncomputable def qa:Sx :=
 (.cons (.ite (.cmp .Lt (.attr (.v 0) 1) (.bi 0 (.cons (.attr (.v 0) 0) .nil))) (.cons (.raise (aa "Corrupt") 56 (.txt (.cons (.fv (.meth (.v 0) 0 .nil)) (.cons (.k (.str (aa " octets are left over"))) .nil))))
  .nil) .nil)
  .nil)
noncomputable def za:List ac:=[aa "self"]
noncomputable def qF:Sx :=
 (.cons (.asgA (.v 0) 2 (.bi 2 .nil))
  .nil)
noncomputable def zS:List ac:=[aa "self",aa "n"]
noncomputable def ue:Sx :=
 (.cons (.ite (.and (.cons (.cmp .GtE (.v 1) (.k (.int (0)))) (.cons (.cmp .Lt (.v 1) (.k (.int (128)))) .nil))) (.cons (.ex (.bm (.attr (.v 0) 2) 0 (.cons (.v 1) .nil)))
  .nil) (.cons (.ex (.bm (.attr (.v 0) 2) 1 (.cons (.call (aa "put_varint") 103 (.cons (.v 1) .nil)) .nil)))
  .nil))
  .nil)
noncomputable def wB:List ac:=[aa "self",aa "b"]
noncomputable def sO:Sx :=
 (.cons (.ex (.bm (.attr (.v 0) 2) 1 (.cons (.call (aa "put_varint32") 117 (.cons (.bi 0 (.cons (.v 1) .nil)) .nil)) .nil)))
  (.cons (.ex (.bm (.attr (.v 0) 2) 1 (.cons (.v 1) .nil)))
  .nil))
noncomputable def w6:List ac:=[aa "self",aa "n"]
noncomputable def tm:Sx :=
 (.cons (.ite (.or (.cons (.cmp .Lt (.v 1) (.k (.int (0)))) (.cons (.cmp .Gt (.v 1) (.k (.int (255)))) .nil))) (.cons (.raise (aa "BadOption") 80 (.txt (.cons (.fv (.v 1)) (.cons (.k (.str (aa " is not an octet"))) .nil))))
  .nil) .nil)
  (.cons (.ex (.bm (.attr (.v 0) 2) 0 (.cons (.v 1) .nil)))
  .nil))
noncomputable def v6:List ac:=[aa "self",aa "b"]
noncomputable def tX:Sx :=
 (.cons (.ite (.v 1) (.cons (.ex (.bm (.attr (.v 0) 2) 0 (.cons (.k (.int (1))) .nil)))
  .nil) (.cons (.ex (.bm (.attr (.v 0) 2) 0 (.cons (.k (.int (0))) .nil)))
  .nil))
  .nil)
noncomputable def yd:List ac:=[aa "self"]
noncomputable def ua:Sx :=
 (.cons (.ret (.bi 1 (.cons (.attr (.v 0) 2) .nil)))
  .nil)
noncomputable def I0:Sx :=
 (.cons (.ret (.v 1))
  .nil)
noncomputable def Js:Sx :=
 (.cons (.ite (.or (.cons (.not (.v 1)) (.cons (.cmp .NotEq (.sub (.v 1) (.k (.int (-1)))) (.v 2)) .nil))) (.cons (.ex (.bm (.v 1) 0 (.cons (.v 2) .nil)))
  .nil) .nil)
  .nil)
noncomputable def AM:List ac:=[aa "ids",aa "out",aa "nid"]
noncomputable def si:Sx :=
 (.cons (.asg 1 .lst0)
  (.cons (.forL 2 (.bi 8 (.cons (.v 0) .nil)) Js)
  I0))
noncomputable def zG:List ac:=[aa "cursor",aa "count"]
noncomputable def sb:Sx :=
 (.cons (.asg 1 (.meth (.v 0) 1 .nil))
  (.cons (.ite (.cmp .Gt (.v 1) (.meth (.v 0) 0 .nil)) (.cons (.raise (aa "ShortOctets") 68 (.txt (.cons (.k (.str (aa "a list of "))) (.cons (.fv (.v 1)) (.cons (.k (.str (aa " parts in "))) (.cons (.fv (.meth (.v 0) 0 .nil)) (.cons (.k (.str (aa " octets"))) .nil)))))))
  .nil) .nil)
  (.cons (.ret (.v 1))
  .nil)))
noncomputable def vz:List ac:=[aa "self",aa "term",aa "index",aa "kind",aa "data"]
noncomputable def sF:Sx :=
 (.cons (.asgA (.v 0) 3 (.v 1))
  (.cons (.asgA (.v 0) 4 (.v 2))
  (.cons (.asgA (.v 0) 5 (.v 3))
  (.cons (.asgA (.v 0) 0 (.v 4))
  .nil))))
noncomputable def AO:List ac:=[aa "self"]
noncomputable def qs:Sx :=
 (.cons (.ret (.tup (.cons (.attr (.v 0) 3) (.cons (.attr (.v 0) 4) (.cons (.attr (.v 0) 5) (.cons (.attr (.v 0) 0) .nil))))))
  .nil)
noncomputable def xU:List ac:=[aa "data",aa "cursor",aa "term",aa "index",aa "kind",aa "body"]
noncomputable def tE:Sx :=
 (.cons (.asg 1 (.call (aa "Cursor") 212 (.cons (.v 0) .nil)))
  (.cons (.asg 2 (.meth (.v 1) 1 .nil))
  (.cons (.asg 3 (.meth (.v 1) 1 .nil))
  (.cons (.asg 4 (.meth (.v 1) 1 .nil))
  (.cons (.ite (.and (.cons (.cmp .NotEq (.v 4) (.g (aa "ENTRY_NORMAL") (.int (0)))) (.cons (.cmp .NotEq (.v 4) (.g (aa "ENTRY_CONF") (.int (2)))) .nil))) (.cons (.raise (aa "Corrupt") 56 (.txt (.cons (.k (.str (aa "no kind of entry is "))) (.cons (.fv (.v 4)) .nil))))
  .nil) .nil)
  (.cons (.asg 5 (.meth (.v 1) 2 .nil))
  (.cons (.ex (.meth (.v 1) 6 .nil))
  (.cons (.ret (.call (aa "Entry") 352 (.cons (.v 2) (.cons (.v 3) (.cons (.v 4) (.cons (.v 5) .nil))))))
  .nil))))))))
noncomputable def zb:List ac:=[aa "self",aa "term",aa "vote",aa "commit"]
noncomputable def t8:Sx :=
 (.cons (.asgA (.v 0) 3 (.v 1))
  (.cons (.asgA (.v 0) 6 (.v 2))
  (.cons (.asgA (.v 0) 7 (.v 3))
  .nil)))
noncomputable def vj:List ac:=[aa "self"]
noncomputable def qV:Sx :=
 (.cons (.ret (.tup (.cons (.attr (.v 0) 3) (.cons (.attr (.v 0) 6) (.cons (.attr (.v 0) 7) .nil)))))
  .nil)
noncomputable def vK:List ac:=[aa "self",aa "voters",aa "learners",aa "outgoing",aa "learners_next",aa "auto_leave"]
noncomputable def qn:Sx :=
 (.cons (.asgA (.v 0) 8 (.call (aa "rising") 300 (.cons (.v 1) .nil)))
  (.cons (.asgA (.v 0) 9 (.call (aa "rising") 300 (.cons (.v 2) .nil)))
  (.cons (.asgA (.v 0) 10 (.call (aa "rising") 300 (.cons (.v 3) .nil)))
  (.cons (.asgA (.v 0) 11 (.call (aa "rising") 300 (.cons (.v 4) .nil)))
  (.cons (.asgA (.v 0) 12 (.v 5))
  .nil)))))
noncomputable def wj:List ac:=[aa "self"]
noncomputable def sG:Sx :=
 (.cons (.ret (.tup (.cons (.bi 7 (.cons (.attr (.v 0) 8) .nil)) (.cons (.bi 7 (.cons (.attr (.v 0) 9) .nil)) (.cons (.bi 7 (.cons (.attr (.v 0) 10) .nil)) (.cons (.bi 7 (.cons (.attr (.v 0) 11) .nil)) (.cons (.attr (.v 0) 12) .nil)))))))
  .nil)
noncomputable def HM:Sx :=
 (.cons (.ex (.meth (.v 0) 1 (.cons (.v 2) .nil)))
  .nil)
noncomputable def Aa:List ac:=[aa "sink",aa "ids",aa "nid"]
noncomputable def tQ:Sx :=
 (.cons (.ex (.meth (.v 0) 1 (.cons (.bi 0 (.cons (.v 1) .nil)) .nil)))
  (.cons (.forL 2 (.v 1) HM)
  .nil))
noncomputable def FQ:Sx :=
 (.cons (.ret (.v 1))
  .nil)
noncomputable def K9:Sx :=
 (.cons (.asg 3 (.meth (.v 0) 1 .nil))
  (.cons (.ite (.and (.cons (.v 1) (.cons (.cmp .LtE (.v 3) (.sub (.v 1) (.k (.int (-1))))) .nil))) (.cons (.raise (aa "Corrupt") 56 (.txt (.cons (.k (.str (aa "id "))) (.cons (.fv (.v 3)) (.cons (.k (.str (aa " stands behind id "))) (.cons (.fv (.sub (.v 1) (.k (.int (-1))))) .nil))))))
  .nil) .nil)
  (.cons (.ex (.bm (.v 1) 0 (.cons (.v 3) .nil)))
  .nil)))
noncomputable def wb:List ac:=[aa "cursor",aa "out",aa "_",aa "nid"]
noncomputable def qK:Sx :=
 (.cons (.asg 1 .lst0)
  (.cons (.forR 2 (.call (aa "take_count") 307 (.cons (.v 0) .nil)) K9)
  FQ))
noncomputable def yb:List ac:=[aa "conf",aa "sink"]
noncomputable def ul:Sx :=
 (.cons (.asg 1 (.call (aa "Sink") 289 .nil))
  (.cons (.ex (.call (aa "put_ids") 454 (.cons (.v 1) (.cons (.attr (.v 0) 8) .nil))))
  (.cons (.ex (.call (aa "put_ids") 454 (.cons (.v 1) (.cons (.attr (.v 0) 9) .nil))))
  (.cons (.ex (.call (aa "put_ids") 454 (.cons (.v 1) (.cons (.attr (.v 0) 10) .nil))))
  (.cons (.ex (.call (aa "put_ids") 454 (.cons (.v 1) (.cons (.attr (.v 0) 11) .nil))))
  (.cons (.ex (.meth (.v 1) 4 (.cons (.attr (.v 0) 12) .nil)))
  (.cons (.ret (.meth (.v 1) 6 .nil))
  .nil)))))))
noncomputable def vm:List ac:=[aa "data",aa "cursor",aa "voters",aa "learners",aa "outgoing",aa "learners_next",aa "auto_leave"]
noncomputable def qH:Sx :=
 (.cons (.asg 1 (.call (aa "Cursor") 212 (.cons (.v 0) .nil)))
  (.cons (.asg 2 (.call (aa "take_ids") 461 (.cons (.v 1) .nil)))
  (.cons (.asg 3 (.call (aa "take_ids") 461 (.cons (.v 1) .nil)))
  (.cons (.asg 4 (.call (aa "take_ids") 461 (.cons (.v 1) .nil)))
  (.cons (.asg 5 (.call (aa "take_ids") 461 (.cons (.v 1) .nil)))
  (.cons (.asg 6 (.meth (.v 1) 4 .nil))
  (.cons (.ex (.meth (.v 1) 6 .nil))
  (.cons (.ret (.call (aa "ConfState") 443 (.cons (.v 2) (.cons (.v 3) (.cons (.v 4) (.cons (.v 5) (.cons (.v 6) .nil)))))))
  .nil))))))))
noncomputable def A6:List ac:=[aa "number"]
noncomputable def r_:Sx :=
 (.cons (.ret (.bin .Add (.g (aa "SEGMENT_HEAD") (.str (aa "wal-"))) (.fmt 0 (.v 0))))
  .nil)
noncomputable def Bn:List ac:=[aa "hard",aa "sink"]
noncomputable def ql:Sx :=
 (.cons (.asg 1 (.call (aa "Sink") 289 .nil))
  (.cons (.ex (.meth (.v 1) 3 (.cons (.g (aa "RW_HARD") (.int (1))) .nil)))
  (.cons (.ex (.meth (.v 1) 1 (.cons (.attr (.v 0) 3) .nil)))
  (.cons (.ex (.meth (.v 1) 1 (.cons (.attr (.v 0) 6) .nil)))
  (.cons (.ex (.meth (.v 1) 1 (.cons (.attr (.v 0) 7) .nil)))
  (.cons (.ret (.meth (.v 1) 6 .nil))
  .nil))))))
noncomputable def zy:List ac:=[aa "index",aa "term",aa "conf",aa "sink"]
noncomputable def sQ:Sx :=
 (.cons (.asg 3 (.call (aa "Sink") 289 .nil))
  (.cons (.ex (.meth (.v 3) 3 (.cons (.g (aa "RW_FOLD") (.int (4))) .nil)))
  (.cons (.ex (.meth (.v 3) 1 (.cons (.v 0) .nil)))
  (.cons (.ex (.meth (.v 3) 1 (.cons (.v 1) .nil)))
  (.cons (.ex (.meth (.v 3) 2 (.cons (.call (aa "encode_conf") 468 (.cons (.v 2) .nil)) .nil)))
  (.cons (.ret (.meth (.v 3) 6 .nil))
  .nil))))))
noncomputable def IM:Sx :=
 (.cons (.ret (.v 1))
  .nil)
noncomputable def H5:Sx :=
 (.cons (.ite (.or (.cons (.cmp .Lt (.v 2) (.k (.int (48)))) (.cons (.cmp .Gt (.v 2) (.k (.int (57)))) .nil))) (.cons (.raise (aa "Corrupt") 56 (.k (.str (aa "the pointer of raft's log is not a number"))))
  .nil) .nil)
  (.cons (.asg 1 (.bin .Sub (.bin .Add (.bin .Mult (.v 1) (.k (.int (10)))) (.v 2)) (.k (.int (48)))))
  .nil))
noncomputable def vX:List ac:=[aa "data",aa "number",aa "octet"]
noncomputable def tF:Sx :=
 (.cons (.ite (.or (.cons (.cmp .Lt (.bi 0 (.cons (.v 0) .nil)) (.k (.int (2)))) (.cons (.cmp .NotEq (.sub (.v 0) (.bin .Sub (.bi 0 (.cons (.v 0) .nil)) (.k (.int (1))))) (.k (.int (10)))) .nil))) (.cons (.raise (aa "Corrupt") 56 (.k (.str (aa "the pointer of raft's log is not a number and an end of line"))))
  .nil) .nil)
  (.cons (.asg 1 (.k (.int (0))))
  (.cons (.forL 2 (.slc (.v 0) .nil (.bin .Sub (.bi 0 (.cons (.v 0) .nil)) (.k (.int (1))))) H5)
  IM)))
noncomputable def wl:List ac:=[aa "self"]
noncomputable def t4:Sx :=
 (.cons (.asgA (.v 0) 13 (.k (.int (0))))
  (.cons (.asgA (.v 0) 14 (.k (.int (0))))
  (.cons (.asgA (.v 0) 15 (.k (.int (0))))
  (.cons (.asgA (.v 0) 16 (.k .none))
  (.cons (.asgA (.v 0) 17 (.call (aa "HardState") 408 (.cons (.k (.int (0))) (.cons (.k (.int (0))) (.cons (.k (.int (0))) .nil)))))
  (.cons (.asgA (.v 0) 18 .lst0)
  (.cons (.asgA (.v 0) 19 .lst0)
  .nil)))))))
noncomputable def x0:List ac:=[aa "self",aa "record",aa "kind"]
noncomputable def t5:Sx :=
 (.cons (.ite (.cmp .Eq (.bi 0 (.cons (.v 1) .nil)) (.k (.int (0)))) (.cons (.raise (aa "Corrupt") 56 (.k (.str (aa "an empty record in raft's log"))))
  .nil) .nil)
  (.cons (.asg 2 (.sub (.v 1) (.k (.int (0)))))
  (.cons (.ite (.and (.cons (.cmp .Eq (.attr (.v 0) 13) (.k (.int (0)))) (.cons (.cmp .NotEq (.v 2) (.g (aa "RW_FOLD") (.int (4)))) .nil))) (.cons (.raise (aa "Corrupt") 56 (.k (.str (aa "a segment of raft's log does not open with its base"))))
  .nil) .nil)
  (.cons (.ite (.and (.cons (.cmp .Eq (.attr (.v 0) 13) (.k (.int (1)))) (.cons (.cmp .NotEq (.v 2) (.g (aa "RW_HARD") (.int (1)))) .nil))) (.cons (.raise (aa "Corrupt") 56 (.k (.str (aa "a segment of raft's log has no hard state behind its base"))))
  .nil) .nil)
  (.cons (.ite (.cmp .Eq (.v 2) (.g (aa "RW_FOLD") (.int (4)))) (.cons (.ex (.meth (.v 0) 8 (.cons (.v 1) .nil)))
  .nil) (.cons (.ite (.cmp .Eq (.v 2) (.g (aa "RW_HARD") (.int (1)))) (.cons (.ex (.meth (.v 0) 9 (.cons (.v 1) .nil)))
  .nil) (.cons (.ite (.cmp .Eq (.v 2) (.g (aa "RW_ENTRY") (.int (2)))) (.cons (.ex (.bm (.attr (.v 0) 19) 0 (.cons (.call (aa "decode_entry") 363 (.cons (.slc (.v 1) (.k (.int (1))) .nil) .nil)) .nil)))
  .nil) (.cons (.raise (aa "Corrupt") 56 (.bin .Add (.k (.str (aa "an unknown record in raft's log: "))) (.bi 3 (.cons (.v 2) .nil))))
  .nil))
  .nil))
  .nil))
  (.cons (.augA (.v 0) 13 .Add (.k (.int (1))))
  .nil))))))
noncomputable def Ba:List ac:=[aa "self",aa "record",aa "cursor"]
noncomputable def qv:Sx :=
 (.cons (.ite (.cmp .Gt (.attr (.v 0) 13) (.k (.int (0)))) (.cons (.raise (aa "Corrupt") 56 (.k (.str (aa "a second base in a segment of raft's log"))))
  .nil) .nil)
  (.cons (.asg 2 (.call (aa "Cursor") 212 (.cons (.v 1) (.cons (.k (.int (1))) .nil))))
  (.cons (.asgA (.v 0) 14 (.meth (.v 2) 1 .nil))
  (.cons (.asgA (.v 0) 15 (.meth (.v 2) 1 .nil))
  (.cons (.asgA (.v 0) 16 (.call (aa "decode_conf") 475 (.cons (.meth (.v 2) 2 .nil) .nil)))
  (.cons (.ex (.meth (.v 2) 6 .nil))
  .nil))))))
noncomputable def Ce:Sx :=
 (.cons (.asgA (.v 0) 19 .lst0)
  (.cons (.asgA (.v 0) 17 (.call (aa "HardState") 408 (.cons (.v 3) (.cons (.v 4) (.cons (.v 5) .nil)))))
  .nil))
noncomputable def DC:Sx :=
 (.cons (.ex (.meth (.v 0) 10 (.cons (.v 6) .nil)))
  .nil)
noncomputable def Aj:List ac:=[aa "self",aa "record",aa "cursor",aa "term",aa "vote",aa "commit",aa "entry"]
noncomputable def tK:Sx :=
 (.cons (.asg 2 (.call (aa "Cursor") 212 (.cons (.v 1) (.cons (.k (.int (1))) .nil))))
  (.cons (.asg 3 (.meth (.v 2) 1 .nil))
  (.cons (.asg 4 (.meth (.v 2) 1 .nil))
  (.cons (.asg 5 (.meth (.v 2) 1 .nil))
  (.cons (.ex (.meth (.v 2) 6 .nil))
  (.cons (.forL 6 (.attr (.v 0) 19) DC)
  Ce))))))
noncomputable def xl:List ac:=[aa "self",aa "entry",aa "place"]
noncomputable def sd:Sx :=
 (.cons (.asg 2 (.bin .Sub (.bin .Sub (.attr (.v 1) 4) (.attr (.v 0) 14)) (.k (.int (1)))))
  (.cons (.ite (.cmp .Lt (.v 2) (.k (.int (0)))) (.cons (.raise (aa "Corrupt") 56 (.k (.str (aa "an entry of raft's log lies at or before its base"))))
  .nil) .nil)
  (.cons (.ite (.cmp .Gt (.v 2) (.bi 0 (.cons (.attr (.v 0) 18) .nil))) (.cons (.raise (aa "Corrupt") 56 (.bin .Add (.bin .Add (.k (.str (aa "a hole before entry "))) (.bi 3 (.cons (.attr (.v 1) 4) .nil))) (.k (.str (aa " of raft's log")))))
  .nil) .nil)
  (.cons (.ite (.cmp .Lt (.v 2) (.bi 0 (.cons (.attr (.v 0) 18) .nil))) (.cons (.asgA (.v 0) 18 (.slc (.attr (.v 0) 18) .nil (.v 2)))
  .nil) .nil)
  (.cons (.ex (.bm (.attr (.v 0) 18) 0 (.cons (.v 1) .nil)))
  .nil)))))
noncomputable def yI:List ac:=[aa "self"]
noncomputable def qq:Sx :=
 (.cons (.ite (.cmp .Lt (.attr (.v 0) 13) (.k (.int (2)))) (.cons (.raise (aa "Corrupt") 56 (.k (.str (aa "a segment of raft's log lacks its base or hard state"))))
  .nil) .nil)
  .nil)
noncomputable def Ap:List ac:=[aa "number"]
noncomputable def ss:Sx :=
 (.cons (.ret (.fmt 1 (.v 0)))
  .nil)
noncomputable def Af:List ac:=[aa "number",aa "digits"]
noncomputable def rZ:Sx :=
 (.cons (.asg 1 (.bi 3 (.cons (.v 0) .nil)))
  (.cons (.ret (.bin .Add (.bin .Add (.bin .Mult (.k (.str (aa "0"))) (.bin .Sub (.k (.int (6))) (.bi 0 (.cons (.v 1) .nil)))) (.v 1)) (.k (.str (aa ".ldb")))))
  .nil))
noncomputable def wg:List ac:=[aa "number"]
noncomputable def rm:Sx :=
 (.cons (.ret (.fmt 2 (.v 0)))
  .nil)
noncomputable def vN:List ac:=[aa "number"]
noncomputable def uc:Sx :=
 (.cons (.ret (.fmt 3 (.v 0)))
  .nil)
noncomputable def Cf:Sx :=
 (.cons (.ret (.v 1))
  .nil)
noncomputable def H4:Sx :=
 (.cons (.asg 3 (.bm (.k (.str (aa "0123456789"))) 2 (.cons (.v 2) .nil)))
  (.cons (.ite (.cmp .Lt (.v 3) (.k (.int (0)))) (.cons (.ret (.k (.int (-1))))
  .nil) .nil)
  (.cons (.asg 1 (.bin .Add (.bin .Mult (.v 1) (.k (.int (10)))) (.v 3)))
  (.cons (.ite (.cmp .Gt (.v 1) (.k (.int (1152921504606846975)))) (.cons (.ret (.k (.int (-1))))
  .nil) .nil)
  .nil))))
noncomputable def yg:List ac:=[aa "text",aa "number",aa "letter",aa "place"]
noncomputable def tB:Sx :=
 (.cons (.ite (.cmp .Eq (.v 0) (.k (.str (aa "")))) (.cons (.ret (.k (.int (-1))))
  .nil) .nil)
  (.cons (.asg 1 (.k (.int (0))))
  (.cons (.forL 2 (.v 0) H4)
  Cf)))
noncomputable def zc:List ac:=[aa "name",aa "dot",aa "number",aa "tail"]
noncomputable def tI:Sx :=
 (.cons (.ite (.cmp .Eq (.v 0) (.g (aa "CURRENT") (.str (aa "CURRENT")))) (.cons (.ret (.tup (.cons (.g (aa "NAME_CURRENT") (.int (1))) (.cons (.k (.int (0))) .nil))))
  .nil) .nil)
  (.cons (.ite (.bm (.v 0) 3 (.cons (.k (.str (aa "MANIFEST-"))) .nil)) (.cons (.asg 2 (.call (aa "read_digits") 594 (.cons (.slc (.v 0) (.bi 0 (.cons (.k (.str (aa "MANIFEST-"))) .nil)) .nil) .nil)))
  (.cons (.ite (.cmp .Lt (.v 2) (.k (.int (0)))) (.cons (.ret (.tup (.cons (.g (aa "NAME_OTHER") (.int (0))) (.cons (.k (.int (0))) .nil))))
  .nil) .nil)
  (.cons (.ret (.tup (.cons (.g (aa "NAME_MANIFEST") (.int (2))) (.cons (.v 2) .nil))))
  .nil))) .nil)
  (.cons (.asg 1 (.bm (.v 0) 2 (.cons (.k (.str (aa "."))) .nil)))
  (.cons (.ite (.cmp .Lt (.v 1) (.k (.int (0)))) (.cons (.ret (.tup (.cons (.g (aa "NAME_OTHER") (.int (0))) (.cons (.k (.int (0))) .nil))))
  .nil) .nil)
  (.cons (.asg 2 (.call (aa "read_digits") 594 (.cons (.slc (.v 0) .nil (.v 1)) .nil)))
  (.cons (.asg 3 (.slc (.v 0) (.v 1) .nil))
  (.cons (.ite (.cmp .Lt (.v 2) (.k (.int (0)))) (.cons (.ret (.tup (.cons (.g (aa "NAME_OTHER") (.int (0))) (.cons (.k (.int (0))) .nil))))
  .nil) .nil)
  (.cons (.ite (.cmp .Eq (.v 3) (.k (.str (aa ".log")))) (.cons (.ret (.tup (.cons (.g (aa "NAME_LOG") (.int (3))) (.cons (.v 2) .nil))))
  .nil) .nil)
  (.cons (.ite (.cmp .Eq (.v 3) (.k (.str (aa ".ldb")))) (.cons (.ret (.tup (.cons (.g (aa "NAME_TABLE") (.int (4))) (.cons (.v 2) .nil))))
  .nil) .nil)
  (.cons (.ite (.cmp .Eq (.v 3) (.k (.str (aa ".dbtmp")))) (.cons (.ret (.tup (.cons (.g (aa "NAME_TEMP") (.int (5))) (.cons (.v 2) .nil))))
  .nil) .nil)
  (.cons (.ret (.tup (.cons (.g (aa "NAME_OTHER") (.int (0))) (.cons (.k (.int (0))) .nil))))
  .nil)))))))))))
noncomputable def Au:List ac:=[aa "nums",aa "i"]
noncomputable def qO:Sx :=
 (.cons (.ret (.bin .Add (.sub (.v 0) (.bin .Mod (.v 1) (.bi 0 (.cons (.v 0) .nil)))) (.bin .Mult (.k (.int (7919))) (.bin .FloorDiv (.v 1) (.bi 0 (.cons (.v 0) .nil))))))
  .nil)
noncomputable def Bj:List ac:=[]
noncomputable def tb:Sx :=
 (.cons (.ret (.lst (.cons (.k (.bytes [58])) (.cons (.k (.bytes [47])) (.cons (.k (.bytes [95])) (.cons (.k (.bytes [32])) (.cons (.k (.bytes [43])) (.cons (.k (.bytes [45])) (.cons (.k (.bytes [46])) (.cons (.k (.bytes [10])) (.cons (.k (.bytes [13])) (.cons (.k (.bytes [0])) (.cons (.k (.bytes [120])) (.cons (.k (.bytes [101])) (.cons (.k (.bytes [255])) (.cons (.k (.bytes [217,163])) (.cons (.k (.bytes [194,178])) .nil)))))))))))))))))
  .nil)
noncomputable def Iq:Sx :=
 (.cons (.ret (.v 2))
  .nil)
noncomputable def Hn:Ex:=(.or (.cons (.cmp .Gt (.v 0) (.k (.int (0)))) (.cons (.cmp .Lt (.bi 0 (.cons (.v 2) .nil)) (.v 1)) .nil)))
noncomputable def HS:Sx :=
 (.cons (.asg 2 (.bin .Add (.lst (.cons (.bin .Mod (.v 0) (.k (.int (10)))) .nil)) (.v 2)))
  (.cons (.asg 0 (.bin .FloorDiv (.v 0) (.k (.int (10)))))
  .nil))
noncomputable def vi:List ac:=[aa "n",aa "least",aa "out"]
noncomputable def ta:Sx :=
 (.cons (.asg 2 (.lst .nil))
  (.cons (.whl Hn HS)
  Iq))
noncomputable def AR:List ac:=[aa "figures"]
noncomputable def rV:Sx :=
 (.cons (.ret (.bi 1 (.cons (.orc 0) .nil)))
  .nil)
noncomputable def DQ:Sx :=
 (.cons (.ret (.bin .Add (.v 3) (.v 2)))
  .nil)
noncomputable def Ib:Sx :=
 (.cons (.asg 3 (.bin .Add (.v 3) (.sub (.k (.str (aa "0123456789"))) (.v 4))))
  .nil)
noncomputable def yX:List ac:=[aa "head",aa "n",aa "tail",aa "out",aa "f"]
noncomputable def rO:Sx :=
 (.cons (.asg 3 (.v 0))
  (.cons (.forL 4 (.call (aa "_law_figures") 622 (.cons (.v 1) (.cons (.k (.int (6))) .nil))) Ib)
  DQ))
noncomputable def LQ:List ac:=[aa "data"]
noncomputable def L0:Sx :=
 (.cons (.ite (.or (.cons (.cmp .Lt (.bi 0 (.cons (.v 0) .nil)) (.k (.int (2)))) (.cons (.cmp .NotEq (.sub (.v 0) (.bin .Sub (.bi 0 (.cons (.v 0) .nil)) (.k (.int (1))))) (.k (.int (10)))) .nil))) (.cons (.ret (.k (.int (-1))))
  .nil) .nil)
  (.cons (.ite (.cmp .Gt (.bi 0 (.cons (.orc 1) .nil)) (.k (.int (0)))) (.cons (.ret (.k (.int (-1))))
  .nil) .nil)
  (.cons (.ret (.bi 4 (.cons (.orc 0) .nil)))
  .nil)))
noncomputable def u_:List ac:=[aa "data",aa "got"]
noncomputable def qw:Sx :=
 (.cons (.orc 0)
  (.cons (.ret (.v 1))
  .nil))
noncomputable def LY:List ac:=[aa "n",aa "way",aa "y",aa "figures",aa "place",aa "piece"]
noncomputable def LX:Sx :=
 (.cons (.asg 1 (.bin .Mod (.v 0) (.k (.int (8)))))
  (.cons (.asg 2 (.bin .FloorDiv (.v 0) (.k (.int (8)))))
  (.cons (.asg 3 (.call (aa "_law_octets") 627 (.cons (.bin .Add (.bin .Mult (.lst (.cons (.k (.int (0))) .nil)) (.bin .Mod (.v 2) (.k (.int (3))))) (.call (aa "_law_figures") 622 (.cons (.bin .Mod (.bin .FloorDiv (.v 2) (.k (.int (3)))) (.bin .Pow (.k (.int (10))) (.bin .Add (.k (.int (1))) (.bin .Mod (.v 2) (.k (.int (12))))))) (.cons (.k (.int (1))) .nil)))) .nil)))
  (.cons (.asg 4 (.bin .Mod (.bin .FloorDiv (.v 2) (.k (.int (5)))) (.bin .Add (.bi 0 (.cons (.v 3) .nil)) (.k (.int (1))))))
  (.cons (.asg 5 (.bi 1 (.cons (.lst (.cons (.bin .Mod (.bin .FloorDiv (.v 2) (.k (.int (7)))) (.k (.int (256)))) .nil)) .nil)))
  (.cons (.ite (.cmp .Eq (.bin .Mod (.v 2) (.k (.int (2)))) (.k (.int (0)))) (.cons (.asg 5 (.sub (.call (aa "_law_pieces") 615 .nil) (.bin .Mod (.bin .FloorDiv (.v 2) (.k (.int (14)))) (.k (.int (15))))))
  .nil) .nil)
  (.cons (.ite (.cmp .Eq (.v 1) (.k (.int (2)))) (.cons (.ret (.bin .Add (.v 3) (.slc (.k (.bytes [10,10])) .nil (.bin .Mult (.bin .Mod (.v 2) (.k (.int (2)))) (.k (.int (2)))))))
  .nil) .nil)
  (.cons (.ite (.cmp .Eq (.v 1) (.k (.int (3)))) (.cons (.ret (.bin .Add (.bin .Add (.bin .Add (.slc (.v 3) .nil (.v 4)) (.v 5)) (.slc (.v 3) (.v 4) .nil)) (.k (.bytes [10]))))
  .nil) .nil)
  (.cons (.ite (.cmp .Eq (.v 1) (.k (.int (4)))) (.cons (.ret (.bin .Add (.bin .Add (.bin .Add (.slc (.v 3) .nil (.v 4)) (.v 5)) (.slc (.v 3) (.bin .Add (.v 4) (.k (.int (1)))) .nil)) (.k (.bytes [10]))))
  .nil) .nil)
  (.cons (.ite (.cmp .Eq (.v 1) (.k (.int (5)))) (.cons (.ret (.slc (.bin .Add (.v 3) (.k (.bytes [10]))) .nil (.v 4)))
  .nil) .nil)
  (.cons (.ite (.cmp .Eq (.v 1) (.k (.int (6)))) (.cons (.ret (.bin .Add (.bin .Mult (.k (.bytes [48])) (.bin .Mod (.v 2) (.k (.int (14))))) (.k (.bytes [10]))))
  .nil) .nil)
  (.cons (.ite (.cmp .Eq (.v 1) (.k (.int (7)))) (.cons (.ret (.bi 1 (.cons (.orc 0) .nil)))
  .nil) .nil)
  (.cons (.ret (.bin .Add (.v 3) (.k (.bytes [10]))))
  .nil)))))))))))))
noncomputable def Kb:Sx :=
 (.cons (.ret (.k (.bool true)))
  .nil)
noncomputable def D4:Sx :=
 (.cons (.ite (.or (.cons (.cmp .NotEq (.v 3) (.call (aa "_law_name") 634 (.cons (.v 4) (.cons (.v 0) (.cons (.v 5) .nil))))) (.cons (.cmp .NotEq (.call (aa "parse_name") 601 (.cons (.v 3) .nil)) (.tup (.cons (.v 6) (.cons (.v 0) .nil)))) .nil))) (.cons (.ret (.k (.bool false)))
  .nil) .nil)
  .nil)
noncomputable def LS:List ac:=[aa "n",aa "segment",aa "said",aa "name",aa "head",aa "tail",aa "kind"]
noncomputable def LW:Sx :=
 (.cons (.asg 1 (.call (aa "segment_name") 482 (.cons (.v 0) .nil)))
  (.cons (.ite (.cmp .NotEq (.v 1) (.call (aa "_law_name") 634 (.cons (.k (.str (aa "wal-"))) (.cons (.v 0) (.cons (.k (.str (aa ""))) .nil))))) (.cons (.ret (.k (.bool false)))
  .nil) .nil)
  (.cons (.ite (.or (.cons (.cmp .NotEq (.call (aa "parse_name") 601 (.cons (.v 1) .nil)) (.tup (.cons (.g (aa "NAME_OTHER") (.int (0))) (.cons (.k (.int (0))) .nil)))) (.cons (.cmp .NotEq (.call (aa "parse_name") 601 (.cons (.bin .Add (.v 1) (.k (.str (aa ".log")))) .nil)) (.tup (.cons (.g (aa "NAME_OTHER") (.int (0))) (.cons (.k (.int (0))) .nil)))) .nil))) (.cons (.ret (.k (.bool false)))
  .nil) .nil)
  (.cons (.asg 2 (.lst (.cons (.tup (.cons (.call (aa "manifest_name") 587 (.cons (.v 0) .nil)) (.cons (.k (.str (aa "MANIFEST-"))) (.cons (.k (.str (aa ""))) (.cons (.g (aa "NAME_MANIFEST") (.int (2))) .nil))))) (.cons (.tup (.cons (.call (aa "log_name") 566 (.cons (.v 0) .nil)) (.cons (.k (.str (aa ""))) (.cons (.k (.str (aa ".log"))) (.cons (.g (aa "NAME_LOG") (.int (3))) .nil))))) (.cons (.tup (.cons (.call (aa "table_name") 573 (.cons (.v 0) .nil)) (.cons (.k (.str (aa ""))) (.cons (.k (.str (aa ".ldb"))) (.cons (.g (aa "NAME_TABLE") (.int (4))) .nil))))) (.cons (.tup (.cons (.call (aa "temp_name") 580 (.cons (.v 0) .nil)) (.cons (.k (.str (aa ""))) (.cons (.k (.str (aa ".dbtmp"))) (.cons (.g (aa "NAME_TEMP") (.int (5))) .nil))))) .nil))))))
  (.cons (.forT [3,4,5,6] (.v 2) D4)
  Kb)))))
noncomputable def Er:Sx :=
 (.cons (.ret (.bi 1 (.cons (.bin .Add (.v 1) (.lst (.cons (.v 0) .nil))) .nil)))
  .nil)
noncomputable def Cg:Ex:=(.cmp .Gt (.v 0) (.k (.int (127))))
noncomputable def FK:Sx :=
 (.cons (.ex (.bm (.v 1) 0 (.cons (.bin .Add (.bin .Mod (.v 0) (.k (.int (128)))) (.k (.int (128)))) .nil)))
  (.cons (.asg 0 (.bin .FloorDiv (.v 0) (.k (.int (128)))))
  .nil))
noncomputable def Aq:List ac:=[aa "n",aa "out"]
noncomputable def qI:Sx :=
 (.cons (.asg 1 .lst0)
  (.cons (.whl Cg FK)
  Er))
noncomputable def I4:Sx :=
 (.cons (.ret (.v 1))
  .nil)
noncomputable def DV:Sx :=
 (.cons (.asg 1 (.bin .Add (.v 1) (.call (aa "_law_put") 665 (.cons (.v 2) .nil))))
  .nil)
noncomputable def yx:List ac:=[aa "ids",aa "out",aa "one"]
noncomputable def rN:Sx :=
 (.cons (.asg 1 (.bi 1 (.cons (.lst (.cons (.bi 0 (.cons (.v 0) .nil)) .nil)) .nil)))
  (.cons (.forL 2 (.v 0) DV)
  I4))
noncomputable def C4:Sx :=
 (.cons (.ret (.k (.bool true)))
  .nil)
noncomputable def sL:Sx :=
 (.cons (.asg 14 (.call (aa "_law_draw") 608 (.cons (.v 0) (.cons (.bin .Add (.k (.int (3))) (.v 13)) .nil))))
  (.cons (.asg 15 (.bin .FloorDiv (.v 14) (.k (.int (200)))))
  (.cons (.asg 16 (.sub (.tup (.cons (.k (.int (4))) (.cons (.k (.int (1))) (.cons (.k (.int (2))) (.cons (.k (.int (1))) .nil))))) (.v 13)))
  (.cons (.ite (.cmp .Eq (.bin .Mod (.v 14) (.k (.int (5)))) (.k (.int (4)))) (.cons (.asg 16 (.sub (.tup (.cons (.k (.int (1))) (.cons (.k (.int (2))) (.cons (.k (.int (4))) (.cons (.k (.int (0))) (.cons (.k (.int (7))) .nil)))))) (.bin .Mod (.bin .FloorDiv (.v 14) (.k (.int (5)))) (.k (.int (5))))))
  .nil) .nil)
  (.cons (.asg 17 (.tup (.cons (.bin .Add (.v 4) (.bin .Mod (.v 15) (.k (.int (200))))) (.cons (.bin .Mod (.bin .FloorDiv (.v 15) (.k (.int (3)))) (.k (.int (5)))) (.cons (.bin .Add (.v 3) (.bin .Mod (.bin .FloorDiv (.v 15) (.k (.int (7)))) (.k (.int (3))))) .nil)))))
  (.cons (.asg 18 (.v 9))
  (.cons (.ite (.cmp .Eq (.v 16) (.k (.int (1)))) (.cons (.asg 18 (.bin .Add (.bin .Add (.bin .Add (.k (.bytes [1])) (.call (aa "_law_put") 665 (.cons (.sub (.v 17) (.k (.int (0)))) .nil))) (.call (aa "_law_put") 665 (.cons (.sub (.v 17) (.k (.int (1)))) .nil))) (.call (aa "_law_put") 665 (.cons (.sub (.v 17) (.k (.int (2)))) .nil))))
  (.cons (.ite (.cmp .NotEq (.call (aa "hard_record") 489 (.cons (.call (aa "HardState") 408 (.cons (.sub (.v 17) (.k (.int (0)))) (.cons (.sub (.v 17) (.k (.int (1)))) (.cons (.sub (.v 17) (.k (.int (2)))) .nil)))) .nil)) (.v 18)) (.cons (.ret (.k (.bool false)))
  .nil) .nil)
  .nil)) .nil)
  (.cons (.asg 19 (.tup (.cons (.sub (.v 17) (.k (.int (0)))) (.cons (.bin .Add (.bin .Add (.v 3) (.k (.int (1)))) (.bi 0 (.cons (.v 11) .nil))) (.cons (.bin .Mult (.bin .Mod (.v 15) (.k (.int (2)))) (.k (.int (2)))) (.cons (.bi 1 (.cons (.bin .Mult (.lst (.cons (.bin .Mod (.v 15) (.k (.int (251)))) .nil)) (.bin .Mod (.v 15) (.k (.int (3))))) .nil)) .nil))))))
  (.cons (.ite (.cmp .Eq (.v 16) (.k (.int (2)))) (.cons (.asg 18 (.bin .Add (.bin .Add (.bin .Add (.bin .Add (.k (.bytes [2])) (.call (aa "_law_put") 665 (.cons (.sub (.v 19) (.k (.int (0)))) .nil))) (.call (aa "_law_put") 665 (.cons (.sub (.v 19) (.k (.int (1)))) .nil))) (.bi 1 (.cons (.lst (.cons (.sub (.v 19) (.k (.int (2)))) (.cons (.bi 0 (.cons (.sub (.v 19) (.k (.int (3)))) .nil)) .nil))) .nil))) (.sub (.v 19) (.k (.int (3))))))
  .nil) (.cons (.ite (.cmp .Eq (.v 16) (.k (.int (0)))) (.cons (.asg 18 (.k (.bytes [])))
  .nil) (.cons (.ite (.cmp .Eq (.v 16) (.k (.int (7)))) (.cons (.asg 18 (.bi 1 (.cons (.lst (.cons (.sub (.tup (.cons (.k (.int (0))) (.cons (.k (.int (3))) (.cons (.k (.int (5))) (.cons (.k (.int (7))) (.cons (.k (.int (64))) (.cons (.k (.int (129))) (.cons (.k (.int (255))) .nil)))))))) (.bin .Mod (.v 15) (.k (.int (7))))) (.cons (.k (.int (1))) (.cons (.k (.int (1))) (.cons (.k (.int (1))) .nil))))) .nil)))
  .nil) .nil)
  .nil))
  .nil))
  (.cons (.asg 20 (.or (.cons (.cmp .Eq (.v 16) (.k (.int (1)))) (.cons (.cmp .Eq (.v 16) (.k (.int (2)))) (.cons (.cmp .Eq (.v 16) (.k (.int (4)))) .nil)))))
  (.cons (.asg 21 (.bin .Mod (.bin .FloorDiv (.v 14) (.k (.int (25)))) (.k (.int (8)))))
  (.cons (.ite (.cmp .Eq (.v 21) (.k (.int (1)))) (.cons (.asg 18 (.slc (.v 18) .nil (.bin .Mod (.v 15) (.bi 6 (.cons (.k (.int (1))) (.cons (.bi 0 (.cons (.v 18) .nil)) .nil))))))
  (.cons (.asg 20 (.k (.bool false)))
  .nil)) (.cons (.ite (.and (.cons (.cmp .Eq (.v 21) (.k (.int (2)))) (.cons (.cmp .NotEq (.v 16) (.k (.int (0)))) .nil))) (.cons (.asg 18 (.bin .Add (.v 18) (.bi 1 (.cons (.lst (.cons (.bin .Mod (.v 15) (.k (.int (256)))) .nil)) .nil))))
  (.cons (.asg 20 (.k (.bool false)))
  .nil)) .nil)
  .nil))
  (.cons (.asg 22 (.and (.cons (.v 20) (.cons (.ite (.cmp .Eq (.v 13) (.k (.int (0)))) (.cmp .Eq (.v 16) (.k (.int (4)))) (.ite (.cmp .Eq (.v 13) (.k (.int (1)))) (.cmp .Eq (.v 16) (.k (.int (1)))) (.cmp .NotEq (.v 16) (.k (.int (4)))))) .nil))))
  (.cons (.asg 23 (.k (.bool false)))
  (.cons (.orc 1)
  (.cons (.ite (.cmp .Eq (.v 23) (.v 22)) (.cons (.ret (.k (.bool false)))
  .nil) .nil)
  (.cons (.ite (.v 23) (.cons (.ret (.k (.bool true)))
  .nil) .nil)
  (.cons (.ite (.cmp .Eq (.v 16) (.k (.int (1)))) (.cons (.asg 10 (.v 17))
  (.cons (.asg 12 (.bin .Add (.v 12) (.v 11)))
  (.cons (.asg 11 .lst0)
  .nil))) (.cons (.ite (.cmp .Eq (.v 16) (.k (.int (2)))) (.cons (.ex (.bm (.v 11) 0 (.cons (.v 19) .nil)))
  .nil) .nil)
  .nil))
  (.cons (.ite (.cmp .NotEq (.tup (.cons (.attr (.v 1) 13) (.cons (.attr (.v 1) 14) (.cons (.attr (.v 1) 15) .nil)))) (.tup (.cons (.bin .Add (.v 13) (.k (.int (1)))) (.cons (.v 3) (.cons (.v 4) .nil))))) (.cons (.ret (.k (.bool false)))
  .nil) .nil)
  (.cons (.ite (.or (.cons (.cmp .NotEq (.meth (.attr (.v 1) 16) 7 .nil) (.tup (.cons (.bi 7 (.cons (.v 5) .nil)) (.cons (.bi 7 (.cons (.v 6) .nil)) (.cons (.tup .nil) (.cons (.tup .nil) (.cons (.v 7) .nil))))))) (.cons (.cmp .NotEq (.meth (.attr (.v 1) 17) 7 .nil) (.v 10)) .nil))) (.cons (.ret (.k (.bool false)))
  .nil) .nil)
  (.cons (.ite (.or (.cons (.cmp .NotEq (.orc 1) (.v 11)) (.cons (.cmp .NotEq (.orc 0) (.v 12)) .nil))) (.cons (.ret (.k (.bool false)))
  .nil) .nil)
  (.cons (.asg 24 (.k (.bool false)))
  (.cons (.orc 0)
  (.cons (.ite (.cmp .NotEq (.v 24) (.cmp .Eq (.v 13) (.k (.int (0))))) (.cons (.ret (.k (.bool false)))
  .nil) .nil)
  .nil))))))))))))))))))))))))
noncomputable def zW:List ac:=[aa "nums",aa "state",aa "d",aa "base",aa "term",aa "ids",aa "learns",aa "auto",aa "conf",aa "opening",aa "hard",aa "pending",aa "stand",aa "i",aa "x",aa "y",aa "what",aa "told",aa "record",aa "entry",aa "whole",aa "hurt",aa "let",aa "refused",aa "broken"]
noncomputable def qB:Sx :=
 (.cons (.asg 1 (.call (aa "SegmentState") 555 .nil))
  (.cons (.asg 2 (.call (aa "_law_draw") 608 (.cons (.v 0) (.cons (.k (.int (2))) .nil))))
  (.cons (.asg 3 (.bin .Mod (.bin .FloorDiv (.v 2) (.k (.int (16)))) (.k (.int (400)))))
  (.cons (.asg 4 (.bin .Mod (.bin .FloorDiv (.v 2) (.k (.int (6400)))) (.k (.int (300)))))
  (.cons (.asg 5 (.sub (.lst (.cons (.lst (.cons (.k (.int (1))) (.cons (.k (.int (2))) .nil))) (.cons (.lst (.cons (.k (.int (1))) (.cons (.k (.int (2))) (.cons (.k (.int (3))) .nil)))) (.cons (.lst (.cons (.k (.int (4))) (.cons (.k (.int (130))) .nil))) (.cons (.lst .nil) .nil))))) (.bin .Mod (.v 2) (.k (.int (4))))))
  (.cons (.asg 6 (.sub (.lst (.cons (.lst .nil) (.cons (.lst (.cons (.k (.int (5))) (.cons (.k (.int (300))) .nil))) .nil))) (.bin .Mod (.bin .FloorDiv (.v 2) (.k (.int (4)))) (.k (.int (2))))))
  (.cons (.asg 7 (.cmp .Eq (.bin .Mod (.bin .FloorDiv (.v 2) (.k (.int (8)))) (.k (.int (2)))) (.k (.int (1)))))
  (.cons (.asg 8 (.bin .Add (.bin .Add (.call (aa "_law_ids") 672 (.cons (.v 5) .nil)) (.call (aa "_law_ids") 672 (.cons (.v 6) .nil))) (.bi 1 (.cons (.lst (.cons (.k (.int (0))) (.cons (.k (.int (0))) (.cons (.bin .Mod (.bin .FloorDiv (.v 2) (.k (.int (8)))) (.k (.int (2)))) .nil)))) .nil))))
  (.cons (.asg 9 (.bin .Add (.bin .Add (.bin .Add (.bin .Add (.k (.bytes [4])) (.call (aa "_law_put") 665 (.cons (.v 3) .nil))) (.call (aa "_law_put") 665 (.cons (.v 4) .nil))) (.call (aa "_law_put") 665 (.cons (.bi 0 (.cons (.v 8) .nil)) .nil))) (.v 8)))
  (.cons (.ite (.cmp .NotEq (.call (aa "fold_record") 496 (.cons (.v 3) (.cons (.v 4) (.cons (.call (aa "ConfState") 443 (.cons (.v 5) (.cons (.v 6) (.cons (.lst .nil) (.cons (.lst .nil) (.cons (.v 7) .nil)))))) .nil)))) (.v 9)) (.cons (.ret (.k (.bool false)))
  .nil) .nil)
  (.cons (.asg 10 (.tup (.cons (.k (.int (0))) (.cons (.k (.int (0))) (.cons (.k (.int (0))) .nil)))))
  (.cons (.asg 11 .lst0)
  (.cons (.asg 12 (.lst .nil))
  (.cons (.forR 13 (.k (.int (4))) sL)
  C4))))))))))))))
noncomputable def ES:Sx :=
 (.cons (.ret (.call (aa "_law_segment") 677 (.cons (.v 1) .nil)))
  .nil)
noncomputable def GC:Sx :=
 (.cons (.ite (.cmp .NotEq (.call (aa "parse_name") 601 (.cons (.v 9) .nil)) (.tup (.cons (.g (aa "NAME_OTHER") (.int (0))) (.cons (.k (.int (0))) .nil)))) (.cons (.ret (.k (.bool false)))
  .nil) .nil)
  .nil)
noncomputable def DI:Sx :=
 (.cons (.forL 9 (.tup (.cons (.k (.str (aa "RAFT"))) (.cons (.k (.str (aa "RAFT.new"))) .nil))) GC)
  ES)
noncomputable def G8:Sx :=
 (.cons (.ite (.not (.call (aa "_law_names") 658 (.cons (.v 8) .nil))) (.cons (.ret (.k (.bool false)))
  .nil) .nil)
  .nil)
noncomputable def It:Sx :=
 (.cons (.forL 8 (.tup (.cons (.v 6) (.cons (.bin .Add (.k (.int (999998))) (.bin .Mod (.v 2) (.k (.int (4))))) (.cons (.bin .Mod (.bin .FloorDiv (.call (aa "_law_draw") 608 (.cons (.v 1) (.cons (.k (.int (1))) .nil))) (.k (.int (4)))) (.bin .Add (.bin .Pow (.k (.int (10))) (.k (.int (12)))) (.k (.int (1))))) .nil)))) G8)
  DI)
noncomputable def E_:Sx :=
 (.cons (.asg 3 (.call (aa "_law_pointer") 651 (.cons (.call (aa "_law_draw") 608 (.cons (.v 1) (.cons (.v 7) .nil))) .nil)))
  (.cons (.asg 10 (.call (aa "_law_reading") 639 (.cons (.v 3) .nil)))
  (.cons (.ite (.cmp .NotEq (.call (aa "_law_read") 646 (.cons (.v 3) .nil)) (.v 10)) (.cons (.ret (.k (.bool false)))
  .nil) .nil)
  (.cons (.ite (.cmp .GtE (.v 10) (.k (.int (0)))) (.cons (.asg 6 (.v 10))
  .nil) .nil)
  .nil))))
noncomputable def Ej:Sx :=
 (.cons (.asg 6 (.k (.int (0))))
  (.cons (.forR 7 (.bin .Add (.k (.int (2))) (.bi 5 (.cons (.k (.int (6))) (.cons (.bi 0 (.cons (.v 1) .nil)) .nil)))) E_)
  It))
noncomputable def Kp:Sx :=
 (.cons (.asg 3 (.sub (.lst (.cons (.bin .Add (.bin .Add (.k (.bytes [49])) (.sub (.v 4) (.v 5))) (.k (.bytes [50,10]))) (.cons (.bin .Add (.sub (.v 4) (.v 5)) (.k (.bytes [49,50,10]))) (.cons (.bin .Add (.bin .Add (.k (.bytes [49,50])) (.sub (.v 4) (.v 5))) (.k (.bytes [10]))) .nil)))) (.bin .Mod (.bin .Add (.v 5) (.v 2)) (.k (.int (3))))))
  (.cons (.ite (.cmp .Lt (.v 5) (.k (.int (3)))) (.cons (.asg 3 (.bin .Add (.bin .Add (.k (.bytes [49])) (.sub (.v 4) (.v 5))) (.k (.bytes [50,10]))))
  .nil) .nil)
  (.cons (.ite (.cmp .NotEq (.call (aa "_law_read") 646 (.cons (.v 3) .nil)) (.k (.int (-1)))) (.cons (.ret (.k (.bool false)))
  .nil) .nil)
  .nil)))
noncomputable def Gx:Sx :=
 (.cons (.asg 4 (.call (aa "_law_pieces") 615 .nil))
  (.cons (.forR 5 (.k (.int (15))) Kp)
  Ej))
noncomputable def Jb:Sx :=
 (.cons (.ite (.cmp .NotEq (.call (aa "_law_read") 646 (.cons (.v 3) .nil)) (.call (aa "_law_reading") 639 (.cons (.v 3) .nil))) (.cons (.ret (.k (.bool false)))
  .nil) .nil)
  .nil)
noncomputable def LP:List ac:=[aa "script",aa "nums",aa "head",aa "data",aa "pieces",aa "k",aa "number",aa "i",aa "n",aa "name",aa "want"]
noncomputable def LO:Sx :=
 (.cons (.asg 1 (.orc 0))
  (.cons (.ite (.cmp .Eq (.bi 0 (.cons (.v 1) .nil)) (.k (.int (0)))) (.cons (.asg 1 (.lst (.cons (.k (.int (0))) .nil)))
  .nil) .nil)
  (.cons (.asg 2 (.call (aa "_law_draw") 608 (.cons (.v 1) (.cons (.k (.int (0))) .nil))))
  (.cons (.forL 3 (.lst (.cons (.k (.bytes [])) (.cons (.k (.bytes [10])) (.cons (.k (.bytes [55])) (.cons (.k (.bytes [48])) (.cons (.k (.bytes [48,10])) (.cons (.k (.bytes [48,57,10])) (.cons (.k (.bytes [48,48,55,10])) (.cons (.k (.bytes [49,48,10,10])) (.cons (.k (.bytes [49,10,50,10])) .nil)))))))))) Jb)
  Gx))))
end

noncomputable def gK:Nat->Nat->List UInt8
 |0,n=>[n.toUInt8]
 |f+1,n=>if n<128 then [n.toUInt8] else (n%128+128).toUInt8::gK f (n/128)
noncomputable def az(n:Nat):List UInt8:=gK n n
theorem jx{n:Nat}(h:n<128):∀f,gK f n=[n.toUInt8]
 |0=>rfl
 |_+1=>if_pos h
theorem Aw:∀{f g n:Nat},n<=f->n<=g->gK f n=gK g n
 |0,g,n,h,_=>by rw[jx (by lia),jx (by lia)]
 |f+1,0,n,_,h=>by rw[jx (by lia),jx (by lia)]
 |f+1,g+1,n,h1,h2=>by
  by_cases h:n<128
  ·exact rwr (jx h ..) (rwr (jx h ..) rfl)
  ·show (if n<128 then _ else _::gK f (n/128))=(if n<128 then _ else _::gK g (n/128))
   exact rwr (if_neg h ..) (rwr (if_neg h ..) (rwr (Aw (f:=f) (g:=g) (by lia) (by lia)) rfl))
theorem ew{n:Nat}(h:n<128):az n=[n.toUInt8]:=jx h n
theorem j3{n:Nat}(h:128<=n):az n=(n%128+128).toUInt8::az (n/128):=by
 refine elE1 (show ∃m,n=m+1 from ⟨n-1,(pW (aJ (by decide) h)).symm⟩) λm e=>?_
 have e2:az n=gK (m+1) n:=by unfold az;exact rwr (aM (e ..)) rfl
 refine rwr (e2 ..) ?_
 show (if n<128 then _ else _::gK m (n/128))=_
 refine rwr (if_neg (by lia)) (rwr (Aw (f:=m) (g:=n/128) (by lia) (bG _)) ?_)
 rfl
theorem EM(k n:Nat)(h:n<128^k):(az n).length<=k+1:=by
 induction k generalizing n with
 |zero=>refine rwr (ew (by simp at h;lia)) ?_;simp
 |succ k ih =>
  by_cases c:n<128
  ·refine rwr (ew c ..) ?_;simp
  ·have:=ih (n/128) (by rw[mQ]at h;lia)
   refine rwr (j3 (by lia)) ?_
   simp;lia
theorem Nat.toUInt8_toNat_small{n:Nat}(h:n<256):n.toUInt8.toNat=n:=by
 simp[Nat.toUInt8,UInt8.toNat_ofNat',BQ h]
theorem nk(n:Nat):mJ (n:Int) 127=((n%128:Nat):Int):=by
 refine rwr (bitAnd_m7 ..) ?_;simp
theorem rS(a b:Nat):mK (a:Int) (b:Int)=((a ||| b:Nat):Int):=by
 have h1:iB (a:Int) = -(a:Int)-1:=rfl
 have h2:iB (b:Int) = -(b:Int)-1:=rfl
 have n1:decide (0<=iB (a:Int))=false:=by refine rwr (h1 ..) ?_;exact decide_eq_false (by lia)
 have n2:decide (0<=iB (b:Int))=false:=by refine rwr (h2 ..) ?_;exact decide_eq_false (by lia)
 unfold mK mJ
 refine rwr (n1 ..) (rwr (n2 ..) ?_)
 have e1:(iB (iB (a:Int))).toNat=a:=by
  show (-(-(a:Int)-1)-1).toNat=a
  lia
 have e2:(iB (iB (b:Int))).toNat=b:=by
  show (-(-(b:Int)-1)-1).toNat=b
  lia
 show iB (iB _)=_
 refine rwr (e1 ..) (rwr (e2 ..) ?_)
 show -(-(((a ||| b:Nat):Int))-1)-1=_
 lia
theorem IS(n:Nat)(h:n<128):mK (n:Int) 128=((n+128:Nat):Int):=by
 have e:∀n<128,n ||| 128=n+128:=by decide
 have:=rS n 128
 rw[e n h]at this
 exact this
theorem Fq(n:Nat):(n:Int).fdiv (2^(7:Int).toNat)=((n/128:Nat):Int):=by
 show (n:Int).fdiv 128=_
 refine rwr (Lz _ (by decide)) ?_
 simp
theorem mz{p:Prop}[Decidable p](e:(!decide p)=true):¬p:=by simpa using e
theorem tL{p:Prop}[Decidable p](e:(!decide p)=false):p:=by simpa using e
theorem and_id{A B:Prop}(h:A/\B):A/\B:=h
theorem brT{p A B:Prop}[Decidable p](h:p)(a:A):(decide p=true->A)/\(decide p=false->B):=⟨λU=>a,λe=>absurd h (of_decide_eq_false e)⟩
theorem brF{p A B:Prop}[Decidable p](h:¬p)(b:B):(decide p=true->A)/\(decide p=false->B):=⟨λe=>absurd (of_decide_eq_true e) h,λU=>b⟩
theorem brT'{p A B:Prop}[Decidable p](h:p)(a:A):(decide p=false->B)/\(decide p=true->A):=⟨λe=>absurd h (of_decide_eq_false e),λU=>a⟩
theorem brF'{p A B:Prop}[Decidable p](h:¬p)(b:B):(decide p=false->B)/\(decide p=true->A):=⟨λU=>b,λe=>absurd (of_decide_eq_true e) h⟩
theorem brnT{p A B:Prop}[Decidable p](h:p)(b:B):((!decide p)=true->A)/\((!decide p)=false->B):=⟨λe=>absurd h (mz e),λU=>b⟩
theorem brnF{p A B:Prop}[Decidable p](h:¬p)(a:A):((!decide p)=true->A)/\((!decide p)=false->B):=⟨λU=>a,λe=>absurd (tL e) h⟩
theorem brnT'{p A B:Prop}[Decidable p](h:p)(b:B):((!decide p)=false->B)/\((!decide p)=true->A):=⟨λU=>b,λe=>absurd h (mz e)⟩
theorem brnF'{p A B:Prop}[Decidable p](h:¬p)(a:A):((!decide p)=false->B)/\((!decide p)=true->A):=⟨λe=>absurd (tL e) h,λU=>a⟩
theorem brt{A B:Prop}(a:A):(true=true->A)/\(true=false->B):=⟨λU=>a,λe=>Bool.noConfusion e⟩
theorem brf{A B:Prop}(b:B):(false=true->A)/\(false=false->B):=⟨λe=>Bool.noConfusion e,λU=>b⟩
theorem brt'{A B:Prop}(a:A):(true=false->B)/\(true=true->A):=⟨λe=>Bool.noConfusion e,λU=>a⟩
theorem brf'{A B:Prop}(b:B):(false=false->B)/\(false=true->A):=⟨λU=>b,λe=>Bool.noConfusion e⟩
theorem fu{p A B:Prop}[Decidable p](a:p->A)(b:¬p->B):(decide p=true->A)/\(decide p=false->B):=⟨λe=>a (of_decide_eq_true e),λe=>b (of_decide_eq_false e)⟩
theorem LU{p A B:Prop}[Decidable p](a:p->A)(b:¬p->B):(decide p=false->B)/\(decide p=true->A):=⟨λe=>b (of_decide_eq_false e),λe=>a (of_decide_eq_true e)⟩
theorem bp{a b m n k:Nat}(ha:a<=m)(hb:b<=n)(h:dR (m+n) k=true):a+b<=k:=aJ (iz ha hb) (bL h)
theorem et{α:Type}{x y:List α}{m n k:Nat}(ha:x.length<=m)(hb:y.length<=n)(h:dR (m+n) k=true):(x++y).length<=k:=bV▸bp ha hb h
theorem bP{a m k:Nat}(ha:a<=m)(h:dR m k=true):a<=k:=aJ ha (bL h)
theorem dJ{a m k:Nat}(ha:a<m)(h:dR m k=true):a<k:=dG ha (bL h)
theorem fD{a m k:Nat}(ha:a<=m)(h:b_ m k=true):a<k:=cy ha (bL h)
theorem ig{y n k:Nat}(h:b_ 0 n=true)(h2:dR n k=true):y%n<k:=dJ (bE y (bL h)) h2
theorem fG{y n k:Nat}(h:b_ 0 n=true)(h2:dR n (k+1)=true):y%n<=k:=lk (ig h h2)
theorem gz{n m:Nat}(h:n<m)(h2:dR m 18446744073709551616=true):((n:Nat):Int).natAbs<2^64:=dJ h h2
theorem nmd{n m:Nat}(h:b_ 0 m=true)(h2:dR m 18446744073709551616=true):((n%m:Nat):Int).natAbs<2^64:=gz (bE _ (bL h)) h2
theorem AA{n m:Nat}(h:n<=m)(k:dR m 1000000=true):((n:Nat):Int)<2^60:=by have:=bP h k;lia
theorem zJ{n m:Nat}(h:n<=m)(k:dR m 1000000=true):((n:Nat):Int)<2^64:=by have:=bP h k;lia
theorem arf{α:Sort _}{a:α}{Q:Prop}(q:Q):a=a/\Q:=⟨rfl,q⟩
theorem atr{Q:Prop}(q:Q):True/\Q:=⟨trivial,q⟩
theorem AS{n a:Nat}(h:n-a=1):n=a+1:=by exact rwr (aM (pW (ci (Nat.lt_of_sub_eq_succ h)) ..)) (rwr (h ..) (rwr (ll ..) rfl))
theorem sD{n m:Nat}(h:n<=m):((n:Nat):Int)<=(m:Nat):=fQ.mpr h
theorem eF{n m:Nat}(h:n<m):((n:Nat):Int)<(m:Nat):=cB.mpr h
theorem bW{n:Nat}:(0:Int)<=(n:Nat):=Int.natCast_nonneg n
theorem f8{α:Type}{x:List α}{n m:Nat}(h:x.length<=m):(x.take n).length<=m:=aJ (uF _ _) h
theorem EN{α:Type}{x:List α}{n:Nat}:(x.take n).length<=n:=List.length_take_le _ _
theorem mo{α:Type}{x:List α}{n m:Nat}(h:x.length<=m):(x.drop n).length<=m:=gE▸aJ (fb _ _) h
local macro_rules | `(tactic| walk_at "Z") => `(tactic| first | with_reducible assumption | exact nmd rfl rfl | (refine And.intro ?_ ?_ <;> walk_at "Z") | (fail_if_success (fail_if_success omega)); lia)
set_option hygiene false in
local macro_rules | `(tactic| walk_at "R") => do
  let mut a ← `(tactic| refine And.intro (Nat.le_of_ble_eq_true rfl) ?_)
  for s in "arf And.intro atr brnF' brnT' brnF brnT brF' brT' brF brT brf' brt' brf brt".splitOn do
    let i := Lean.mkIdent s.toName
    a ← if s.any Char.isUpper then `(tactic| first | (refine $i ?_ ?_; · walk_at "Z") | $a:tactic) else `(tactic| first | refine $i ?_ | $a:tactic)
  `(tactic| repeat (first | (refine and_id ?_; $a:tactic) | refine ⟨_, rfl, ?_⟩ | refine ⟨_, _, rfl, rfl, ?_⟩ | walk_at "X" | intro ζ))
local macro_rules | `(tactic| walk_at "S") => `(tactic| (walk_at "R"; try (conv => whnf)))
local macro_rules | `(tactic| walk_at "L") => `(tactic| first | walk_at "Z" | (simp only [List.length_append, List.length_nil, List.length_cons, List.length_singleton]; walk_at "Z"))
section
inductive lq(args:List V)(own:List af)(Q:V->List af->Prop)(X:Nat->Prop):Prop
 |mk (n most:Nat) (_:args=[.d (.int n),.d (.int most)]) (_:own=[]) (_:n<=most) (_:n<2^64) (_:Q (.d (.bytes (az n))) []):lq args own Q X
theorem Jl{Γ:Addr->aH->Prop}{O:bf}{OS:bJ}{args own Q X}(h:lq args own Q X):
  aj Γ O OS te (λCn U=>X Cn) ⟨args.map some++ay (Bh.length-2) Bx,own⟩ (aC own.length Q):=by
 obtain⟨n,most,rfl,rfl,h1,h2,hQ⟩:=h
 show aj Γ O OS te _ ⟨[some (.d (.int n)),some (.d (.int most)),Bx],[]⟩ _
 walk_at"S"
 ·refine⟨λm st=>∃l:List UInt8,st=⟨[some (.d (.int m)),some (.d (.int most)),some (.own 0)],[.ba l]⟩/\m<2^64/\l.length+(az m).length<=100/\l++az m=az n,n,⟨[],rfl,h2,?_,rfl⟩,?_⟩
  ·have:=EM 10 n (by lia)
   simp;lia
  ·refine λm st=>uE1 λl=>aY λz0 hm hl he=>?_;subst z0
   walk_at"S"
   refine⟨λe4=>?_,λe4=>?_⟩
   ·have h128:128<=m:=by have:=of_decide_eq_true e4;lia
    walk_at"S"
    refine⟨(m%128+128).toUInt8,by exact rwr (nk ..) (rwr (IS _ (by lia)) (rwr (Nat.toUInt8_toNat_small (by lia)) rfl)),by lia,?_⟩
    walk_at"S"
    refine⟨m/128,by lia,l++[(m%128+128).toUInt8],by refine rwr (Fq ..) ?_;rfl,by lia,?_,?_⟩
    ·rw[j3 h128]at hl
     simp at hl ⊢;lia
    ·refine rwr (aM (he ..)) (rwr (j3 h128 ..) ?_);simp
   ·have h128:m<128:=by have:=of_decide_eq_false e4;lia
    walk_at"S"
    refine⟨m.toUInt8,by exact rwr (Nat.toUInt8_toNat_small (by lia)) rfl,by lia,?_⟩
    walk_at"S"
    refine⟨by simp at hl ⊢;lia,?_⟩
    refine .keep 0 (cR _) trivial trivial ?_
    rw[ew h128]at he
    refine rwr (he ..) ?_;exact hQ
end

section
noncomputable def el(n:Nat):Nat:=if n<128 then 1 else 2
theorem cr{n:Nat}(h:n<16384):(az n).length=el n:=by
 unfold el
 split
 ·refine rwr (ew (by assumption)) ?_;rfl
 ·refine rwr (j3 (by lia)) (rwr (ew (by lia)) ?_);rfl
def br(xs:List UInt8)(at' n:Nat):Prop:=(n<128/\xs[at']? = some n.toUInt8)\/(128<=n/\n<16384/\xs[at']? = some (n%128+128).toUInt8/\xs[at'+1]? = some (n/128).toUInt8)
def cC(xs:List UInt8)(at':Nat):Prop:=xs.length<=at'\/(xs.length=at'+1/\∃c:UInt8,128<=c.toNat/\xs[at']? = some c)
theorem cE{α:Type}{xs:List α}{i:Nat}{a:α}(h:xs[i]? = some a):i<xs.length:=(dD.mp h).1
theorem iY{J:Nat->St->Prop}{m:Nat}{body:Nat->D->St->(Fl->St->Prop)->Prop}{st:St}{Q:Fl->St->Prop}(hm:m<=1000000)(h0:J 0 st)(turn:∀j st1,j<m->J j st1->body j (.int j) st1 (ey (J (j+1)) Q))(hend:∀st1,J m st1->Q .next st1):
  mh J ((bM (m:Int).toNat).map λ(j:Nat)=>D.int j) body st Q:=by
 refine rwr (cS ..) ?_
 refine⟨by simpa using hm,h0,λj d st1 hd hJ=>?_,λst1 hJ=>hend st1 (by simpa using hJ)⟩
 rw[dO]at hd
 by_cases hj:j<m
 ·rw[BO hj]at hd
  simp only[li,lj]at hd
  subst hd
  exact turn j st1 hj hJ
 ·rw[BR (by simpa using hj)]at hd;cases hd
theorem AL(c:Nat):mK 0 (mJ (c:Int) 127*2^(0:Int).toNat)=((c%128:Nat):Int):=by
 refine rwr (nk ..) ?_
 have:=rS 0 (c%128)
 simpa using this
theorem IK{a c:Nat}(ha:a<128)(hc:c<128):mK (a:Int) (mJ (c:Int) 127*2^(7:Int).toNat)=((a+c*128:Nat):Int):=by
 refine rwr (nk ..) (rwr (BQ hc ..) ?_)
 have:=rS a (c*128)
 have e:((c*128:Nat):Int)=(c:Int)*2^(7:Int).toNat:=by simp
 rw[e]at this
 refine rwr (this ..) ?_
 congr 1
 have:=Nat.shiftLeft_add_eq_or_of_lt (i:=7) (b:=a) ha c
 rw[Nat.shiftLeft_eq]at this
 refine rwr (Nat.or_comm ..) (rwr (aM (this ..)) ?_)
 lia
theorem pq(n:Nat):(mJ (n:Int) 127).natAbs<2^64:=nk n▸gz (bE _ (bL rfl)) rfl
theorem yN{n:Nat}{q r:Prop}(h5:5<=n)(h:n=0/\q):r:=absurd (h.1▸h5) (Nat.not_succ_le_zero 4)
theorem z_{n:Nat}{p q r:Prop}(h5:5<=n)(h:(n=0/\p)\/(n=1/\q)):r:=h.elim (λh=>absurd (h.1▸h5) (by decide)) λh=>absurd (h.1▸h5) (by decide)
theorem cu{n:Nat}(h:n<256):n.toUInt8.toNat=n:=Nat.toUInt8_toNat_small h
inductive wP(Q:V->List af->Prop)(xs:List UInt8)(at':Nat):Prop
 |mk (n:_) (_:br xs at' n) (_:Q (.d (.tup [.int n,.int ((at'+el n:Nat):Int)])) []):wP Q xs at'
inductive lK(args:List V)(own:List af)(Q:V->List af->Prop)(X:Nat->Prop):Prop
 |mk (xs:List UInt8) (at' oc most:Nat) (_:args=[.d (.bytes xs),.d (.int at'),.d (.int oc),.d (.int most)]) (_:own=[]) (_:xs.length<=10000) (_:at'<=10000) (_:5<=oc) (_:oc<=10) (_:16384<=most) (_:wP Q xs at'\/(cC xs at'/\X 68)):lK args own Q X
theorem DG{Γ:Addr->aH->Prop}{O:bf}{OS:bJ}{args own Q X}(h:lK args own Q X):
  aj Γ O OS r7 (λCn U=>X Cn) ⟨args.map some++ay (xQ.length-4) Bx,own⟩ (aC own.length Q):=by
 obtain⟨xs,at',oc,most,rfl,rfl,hl,ha,h5,h10,hm,h⟩:=h
 show aj Γ O OS r7 _ ⟨[some (.d (.bytes xs)),some (.d (.int at')),some (.d (.int oc)),some (.d (.int most)),Bx,Bx,Bx,Bx],[]⟩ _
 walk_at"R"
 rcases h with ⟨n,(⟨h1,h2⟩ | ⟨h1,h2,h3,h4⟩),hQ⟩ | ⟨(h1 | ⟨h1,c,h2,h3⟩),hX⟩
 ·have:=cE h2
  refine⟨λj st=>j=0/\st=⟨[some (.d (.bytes xs)),some (.d (.int at')),some (.d (.int oc)),some (.d (.int most)),some (.d (.int 0)),some (.d (.int 0)),Bx,Bx],[]⟩,iY (bP h10 rfl) ⟨rfl,rfl⟩ ?_ (λst1 hJ=>yN h5 hJ)⟩
  refine λj st1 hj=>ae λz0 z1=>?_;subst z0;subst z1
  walk_at"R"
  refine bg h2 ?_
  have hu:=cu (n:=n) (dJ h1 rfl)
  skip
  refine⟨⟨by decide,by decide,hu.symm▸pq _⟩,?_⟩
  conv=>whnf
  refine rwr (hu ..) (rwr (AL ..) (rwr (BQ h1 ..) ?_))
  walk_at"R"
  have he:el n=1:=if_pos h1
  rw[he]at hQ
  exact .keep 0 (cR _) trivial trivial hQ
 ·have:=cE h3
  have:=cE h4
  have hu:=cu (n:=n%128+128) (uS (bE _ (bL rfl)) 128)
  have h9:n/128<128:=Nat.div_lt_of_lt_mul h2
  have hv:=cu (n:=n/128) (dJ h9 rfl)
  refine⟨λj st=>(j=0/\st=⟨[some (.d (.bytes xs)),some (.d (.int at')),some (.d (.int oc)),some (.d (.int most)),some (.d (.int 0)),some (.d (.int 0)),Bx,Bx],[]⟩) \/
   (j=1/\st=⟨[some (.d (.bytes xs)),some (.d (.int ((at':Int)+1))),some (.d (.int oc)),some (.d (.int most)),some (.d (.int (n%128:Nat))),some (.d (.int 7)),some (.d (.int 0)),some (.d (.int ((n%128+128:Nat):Int)))],[]⟩),iY (bP h10 rfl) (.inl ⟨rfl,rfl⟩) ?_ (λst1 hJ=>z_ h5 hJ)⟩
  rintro j st1 hj (⟨rfl,rfl⟩ | ⟨rfl,rfl⟩)
  ·walk_at"R"
   refine bg h3 ?_
   skip
   refine⟨⟨by decide,by decide,hu.symm▸pq _⟩,?_⟩
   conv=>whnf
   refine rwr (hu ..) (rwr (AL ..) (rwr (Nat.add_mod_right ..) (rwr (Nat.mod_mod ..) ?_)))
   walk_at"R"
   refine .inr ⟨rfl,?_⟩
   rfl
  ·walk_at"R"
   refine bg h4 ?_
   skip
   refine⟨⟨by decide,by decide,hv.symm▸pq _⟩,?_⟩
   conv=>whnf
   refine rwr (hv ..) (rwr (IK (bE _ (bL rfl)) h9 ..) (rwr (pX ..) (rwr (Nat.mod_add_div ..) ?_)))
   walk_at"R"
   have he:el n=2:=if_neg (j9.mpr h1)
   rw[he]at hQ
   refine .keep 0 (cR _) trivial trivial ?_
   have e2:(at':Int)+1+1=((at'+2:Nat):Int):=rfl
   show Q (.d (.tup [.int n,.int ((at':Int)+1+1)])) []
   refine rwr (e2 ..) ?_;exact hQ
 ·refine⟨λj st=>j=0/\st=⟨[some (.d (.bytes xs)),some (.d (.int at')),some (.d (.int oc)),some (.d (.int most)),some (.d (.int 0)),some (.d (.int 0)),Bx,Bx],[]⟩,iY (bP h10 rfl) ⟨rfl,rfl⟩ ?_ (λst1 hJ=>yN h5 hJ)⟩
  refine λj st1 hj=>ae λz0 z1=>?_;subst z0;subst z1
  walk_at"R"
  exact hX
 ·have:=cE h3
  refine⟨λj st=>(j=0/\st=⟨[some (.d (.bytes xs)),some (.d (.int at')),some (.d (.int oc)),some (.d (.int most)),some (.d (.int 0)),some (.d (.int 0)),Bx,Bx],[]⟩) \/
   (j=1/\∃a b,st=⟨[some (.d (.bytes xs)),some (.d (.int ((at':Int)+1))),some (.d (.int oc)),some (.d (.int most)),some (.d (.int a)),some (.d (.int 7)),some (.d (.int 0)),some (.d (.int b))],[]⟩),iY (bP h10 rfl) (.inl ⟨rfl,rfl⟩) ?_ (λst1 hJ=>z_ h5 hJ)⟩
  rintro j st1 hj (⟨rfl,rfl⟩ | ⟨rfl,a,b,rfl⟩)
  ·walk_at"R"
   refine bg h3 ?_
   skip
   have:=c.toNat_lt
   refine⟨⟨by decide,by decide,pq _⟩,?_⟩
   walk_at"R"
   exact .inr ⟨rfl,ex2 _ _ rfl⟩
  ·walk_at"R"
   exact hX
end

section
noncomputable def ic(sel:List Nat):V->Bool
 |.d _=>true
 |.own i=>aG (pick sel (idx sel i)) i&&b_ (idx sel i) sel.length
noncomputable def j8(sel:List Nat):List (Nat×V)->Bool
 |[]=>true
 |(_,v)::r=>ic sel v&&j8 sel r
noncomputable def ou(sel:List Nat):af->Bool
 |.inst _ fs=>j8 sel fs
 |_=>true
noncomputable def jT:List Nat->Bool
 |[]=>true
 |i::r=>!r.elem i&&jT r
noncomputable def lO(own:List af)(Vs:List V):Bool :=
 let sel:=selV own Vs []
 jT sel&&sel.all (λi=>b_ i own.length)&&Vs.all (ic sel)&&sel.all λi=>match getN own i with
  |some o=>ou sel o
  |none=>false
theorem ic.get{sel:List Nat}{V:V}(h:ic sel V=true):ec sel.length (renV (idx sel) V)/\V=renV (pick sel) (renV (idx sel) V):=by
 cases V with
 |d x=>exact⟨trivial,rfl⟩
 |own i =>
  simp only[ic,eO]at h
  exact⟨fN.mp h.2,by show V.own i=V.own _;exact rwr (di h.1 ..) rfl⟩
theorem j8.get{sel:List Nat}:∀{fs:List (Nat×V)},j8 sel fs=true->jV sel.length (renF (idx sel) fs)/\fs=renF (pick sel) (renF (idx sel) fs)
 |[],_=>⟨trivial,rfl⟩
 |(k,v)::r,h=>by
  have h:=dh.mp (show (ic sel v&&j8 sel r)=true from h)
  refine ak (ic.get h.1) λa b=>?_
  refine ak (j8.get h.2) λc d=>?_
  refine⟨⟨a,c⟩,?_⟩
  show (k,v)::r=(k,renV _ (renV _ v))::renF _ (renF _ r)
  exact rwr (aM (b ..)) (rwr (aM (d ..)) rfl)
theorem ou.get{sel:List Nat}{o:af}(h:ou sel o=true):iP sel.length (renO (idx sel) o)/\o=renO (pick sel) (renO (idx sel) o):=by
 cases o with
 |inst C fs =>
  refine ak (j8.get (fs:=fs) h) λa b=>?_
  refine⟨a,?_⟩
  show af.inst C fs=af.inst C _
  exact rwr (aM (b ..)) rfl
 |_=>exact⟨trivial,rfl⟩
theorem jT.get:∀{l:List Nat},jT l=true->l.Nodup
 |[],_=>.nil
 |i::r,h=>by
  have h:=dh.mp (show (!(r.elem i)&&jT r)=true from h)
  have h:=dg ((fe _).mp h.1) h.2
  refine gm.mpr ⟨λq=>?_,jT.get h.2⟩
  have:=List.elem_eq_true_of_mem q
  rw[this]at h;exact Bool.noConfusion h.1
theorem lO.get{own:List af}{Vs:List V}(h:lO own Vs=true):sj own Vs:=by
 unfold lO at h
 simp only[eO]at h
 refine ak h (ae (ae λh1 h2 h3 h4=>?_));clear h
 refine⟨jT.get h1,λi hi=>fN.mp (fR.mp h2 i hi),λV hV=>?_,?_,λi hi=>?_⟩
 ·refine elE1 (aW.mp hV) λUu=>ae λhU z0=>?_;subst z0
  exact(ic.get (fR.mp h3 Uu hU)).1
 ·refine rwr (dP ..) ?_
  conv=>lhs;rw[<-List.map_id Vs]
  exact j_ λUu hU=>(ic.get (fR.mp h3 Uu hU)).2
 ·have:=fR.mp h4 i hi
  cases e:getN own i with
  |none=>rw[e]at this;cases this
  |some o =>
   rw[e]at this
   exact⟨o,rfl,ou.get this⟩
theorem aq{Γ:Addr->aH->Prop}{f:Addr}{Vs:List V}{st:St}{Q:V->St->Prop}{X:Nat->St->Prop}{C:aH}(hΓ:Γ f C)(hx:lO st.own Vs=true)
  (hC:C (Vs.map (renV (idx (selV st.own Vs [])))) ((j4 st.own (selV st.own Vs [])).map (renO (idx (selV st.own Vs []))))
   (λV own'=>Q (renV (sig (selV st.own Vs []) st.own.length) V) ⟨st.loc,merge st.own (selV st.own Vs []) own'⟩) (λCn=>X Cn st)):fJ Γ f Vs st Q X:=⟨C,hΓ,lO.get hx,hC⟩
inductive jX(lid:Nat)(args:List V)(own:List af)(Q:V->List af->Prop)(X:Nat->Prop):Prop
 |mk (n:Nat) (_:args=[.d (.int n)]) (_:own=[]) (_:n<=lid) (_:Q (.d (.bytes (az n))) []):jX lid args own Q X
variable {Γ:Addr->aH->Prop}{O:bf}{OS:bJ}{args:List V}{own:List af}{Q:V->List af->Prop}{X:Nat->Prop}
theorem E6(g1:Γ 89 lq)(h:jX 18446744073709551615 args own Q X):aj Γ O OS qb (λCn U=>X Cn) ⟨args.map some++ay (yA.length-1) Bx,own⟩ (aC own.length Q):=by
 obtain⟨n,rfl,rfl,hn,hQ⟩:=h
 show aj Γ O OS qb _ ⟨[some (.d (.int n))],[]⟩ _
 by_cases h:n<128
 ·walk_at"R"
  have hu:=cu (n:=n) (cg h (by decide))
  refine⟨[n.toUInt8],by show [D.int n]=[D.int n.toUInt8.toNat];exact rwr (hu ..) rfl,bL rfl,?_⟩
  rw[ew h]at hQ
  exact .keep 0 (cR _) trivial trivial hQ
 ·walk_at"R"
  refine aq g1 rfl ⟨n,18446744073709551615,rfl,rfl,hn,cy hn (by decide),?_⟩
  exact .keep 0 (cR _) trivial trivial hQ
theorem GM(g1:Γ 89 lq)(h:jX 4294967295 args own Q X):aj Γ O OS tP (λCn U=>X Cn) ⟨args.map some++ay (zK.length-1) Bx,own⟩ (aC own.length Q):=by
 obtain⟨n,rfl,rfl,hn,hQ⟩:=h
 show aj Γ O OS tP _ ⟨[some (.d (.int n))],[]⟩ _
 by_cases h:n<128
 ·walk_at"R"
  have hu:=cu (n:=n) (cg h (by decide))
  refine⟨[n.toUInt8],by show [D.int n]=[D.int n.toUInt8.toNat];exact rwr (hu ..) rfl,bL rfl,?_⟩
  rw[ew h]at hQ
  exact .keep 0 (cR _) trivial trivial hQ
 ·walk_at"R"
  refine aq g1 rfl ⟨n,4294967295,rfl,rfl,hn,cy hn (by decide),?_⟩
  exact .keep 0 (cR _) trivial trivial hQ
inductive As(Q:V->List af->Prop)(xs:List UInt8)(at':Nat):Prop
 |mk (n:_) (_:br xs at' n) (_:Q (.d (.tup [.int n,.int ((at'+el n:Nat):Int)])) []):As Q xs at'
inductive jK(args:List V)(own:List af)(Q:V->List af->Prop)(X:Nat->Prop):Prop
 |mk (xs:List UInt8) (at':Nat) (_:args=[.d (.bytes xs),.d (.int at')]) (_:own=[]) (_:xs.length<=10000) (_:at'<=10000) (_:As Q xs at'\/(cC xs at'/\X 68)):jK args own Q X
theorem EQ(g1:Γ 96 lK)(h:jK args own Q X):aj Γ O OS rA (λCn U=>X Cn) ⟨args.map some++ay (wM.length-2) Bx,own⟩ (aC own.length Q):=by
 obtain⟨xs,at',rfl,rfl,hl,ha,h⟩:=h
 show aj Γ O OS rA _ ⟨[some (.d (.bytes xs)),some (.d (.int at'))],[]⟩ _
 rcases h with ⟨n,(⟨h1,h2⟩ | ⟨h1,h2,h3,h4⟩),hQ⟩ | ⟨(h1 | ⟨h1,c,h2,h3⟩),hX⟩
 ·have:=cE h2
  have hu:=cu (n:=n) (cg h1 (by decide))
  have c1:((uT n).toNat:Int)<128:=cB.mpr (cy (bH hu) h1)
  have he:el n=1:=if_pos h1
  rw[he]at hQ
  walk_at"R"
  refine bg h2 ?_
  walk_at"R"
  refine bg h2 ?_
  walk_at"R"
  refine rwr (hu ..) ?_
  exact .keep 0 (cR _) trivial trivial hQ
 ·have:=cE h3
  have hu:=cu (n:=n%128+128) (uS (bE _ (by decide)) 128)
  have c1:¬((uT (n%128+128)).toNat:Int)<128:=λe=>j9.mpr (aJ (BS 128 (n%128)) (bH hu.symm)) (cB.mp e)
  walk_at"R"
  refine bg h3 ?_
  walk_at"R"
  refine aq g1 rfl ⟨xs,at',10,18446744073709551615,rfl,rfl,hl,ha,by decide,by decide,by decide,.inl ⟨n,.inr ⟨h1,h2,h3,h4⟩,?_⟩⟩
  exact .keep 0 (cR _) trivial trivial hQ
 ·walk_at"R"
  exact aq g1 rfl ⟨xs,at',10,18446744073709551615,rfl,rfl,hl,ha,by decide,by decide,by decide,.inr ⟨.inl h1,hX⟩⟩
 ·have c2:(at':Int)<xs.length:=cB.mpr (cE h3)
  walk_at"R"
  refine bg h3 ?_
  walk_at"R"
  exact aq g1 rfl ⟨xs,at',10,18446744073709551615,rfl,rfl,hl,ha,by decide,by decide,by decide,.inr ⟨.inr ⟨h1,c,h2,h3⟩,hX⟩⟩
theorem Gi(g1:Γ 96 lK)(h:jK args own Q X):aj Γ O OS rB (λCn U=>X Cn) ⟨args.map some++ay (Bi.length-2) Bx,own⟩ (aC own.length Q):=by
 obtain⟨xs,at',rfl,rfl,hl,ha,h⟩:=h
 show aj Γ O OS rB _ ⟨[some (.d (.bytes xs)),some (.d (.int at'))],[]⟩ _
 rcases h with ⟨n,(⟨h1,h2⟩ | ⟨h1,h2,h3,h4⟩),hQ⟩ | ⟨(h1 | ⟨h1,c,h2,h3⟩),hX⟩
 ·have:=cE h2
  have hu:=cu (n:=n) (cg h1 (by decide))
  have c1:((uT n).toNat:Int)<128:=cB.mpr (cy (bH hu) h1)
  have he:el n=1:=if_pos h1
  rw[he]at hQ
  walk_at"R"
  refine bg h2 ?_
  walk_at"R"
  refine bg h2 ?_
  walk_at"R"
  refine rwr (hu ..) ?_
  exact .keep 0 (cR _) trivial trivial hQ
 ·have:=cE h3
  have hu:=cu (n:=n%128+128) (uS (bE _ (by decide)) 128)
  have c1:¬((uT (n%128+128)).toNat:Int)<128:=λe=>j9.mpr (aJ (BS 128 (n%128)) (bH hu.symm)) (cB.mp e)
  walk_at"R"
  refine bg h3 ?_
  walk_at"R"
  refine aq g1 rfl ⟨xs,at',5,4294967295,rfl,rfl,hl,ha,by decide,by decide,by decide,.inl ⟨n,.inr ⟨h1,h2,h3,h4⟩,?_⟩⟩
  exact .keep 0 (cR _) trivial trivial hQ
 ·walk_at"R"
  exact aq g1 rfl ⟨xs,at',5,4294967295,rfl,rfl,hl,ha,by decide,by decide,by decide,.inr ⟨.inl h1,hX⟩⟩
 ·have c2:(at':Int)<xs.length:=cB.mpr (cE h3)
  walk_at"R"
  refine bg h3 ?_
  walk_at"R"
  exact aq g1 rfl ⟨xs,at',5,4294967295,rfl,rfl,hl,ha,by decide,by decide,by decide,.inr ⟨.inr ⟨h1,c,h2,h3⟩,hX⟩⟩
def gZ(xs:List UInt8)(at':Nat)(b:List UInt8):Prop:=br xs at' b.length/\at'+el b.length+b.length<=xs.length/\(xs.drop (at'+el b.length)).take b.length=b
def ia(xs:List UInt8)(at':Nat):Prop:=cC xs at'\/∃n,br xs at' n/\xs.length<at'+el n+n
inductive Al(Q:V->List af->Prop)(xs:List UInt8)(at':Nat):Prop
 |mk (b:_) (_:gZ xs at' b) (_:Q (.d (.tup [.bytes b,.int ((at'+el b.length+b.length:Nat):Int)])) []):Al Q xs at'
inductive oJ(args:List V)(own:List af)(Q:V->List af->Prop)(X:Nat->Prop):Prop
 |mk (xs:List UInt8) (at':Nat) (_:args=[.d (.bytes xs),.d (.int at')]) (_:own=[]) (_:xs.length<=10000) (_:at'<=xs.length) (_:Al Q xs at'\/(ia xs at'/\X 68)):oJ args own Q X
theorem br.lt{xs:List UInt8}{a n:Nat}(h:br xs a n):n<16384/\a+el n<=xs.length:=by
 unfold el
 refine ao h (ae λh1 h2=>?_) (aY λh1 h2 h3 h4=>?_) <;>clear h
 ·have:=cE h2;refine rwr (if_pos h1 ..) ?_;exact⟨cg h1 (by decide),this⟩
 ·have:=cE h4;refine rwr (if_neg (j9.mpr h1)) ?_;exact⟨by assumption,this⟩
theorem Gl{xs:List UInt8}{a n:Nat}:cut xs (some (a:Int)) (some ((a:Int)+(n:Int)))=(xs.drop a).take n:=by
 unfold cut
 show (xs.take ((a:Int)+(n:Int)).toNat).drop (a:Int).toNat=_
 exact rwr (show ((a:Int)+(n:Int)).toNat=a+n from rfl) (rwr (cS ..) (rwr (pV ..) (rwr (pL ..) rfl)))
theorem JO(g1:Γ 124 jK)(h:oJ args own Q X):aj Γ O OS qW (λCn U=>X Cn) ⟨args.map some++ay (xm.length-2) Bx,own⟩ (aC own.length Q):=by
 obtain⟨xs,at',rfl,rfl,hl,ha,h⟩:=h
 show aj Γ O OS qW _ ⟨[some (.d (.bytes xs)),some (.d (.int at')),Bx],[]⟩ _
 rcases h with ⟨b,⟨h1,h2,h3⟩,hQ⟩ | ⟨(h1 | ⟨n,h1,h2⟩),hX⟩
 ·have hp:=aJ h2 hl
  have c2:¬(xs.length:Int)<((at'+el b.length:Nat):Int)+b.length:=λe=>j9.mpr h2 (cB.mp e)
  have c3:(0:Int)<=((at'+el b.length:Nat):Int):=bW
  have c4:((at'+el b.length:Nat):Int)<2^60:=AA (aJ (jk _ _) hp) rfl
  have c5:(0:Int)<=((at'+el b.length:Nat):Int)+b.length:=(bW:(0:Int)<=((at'+el b.length+b.length:Nat):Int))
  have c6:((at'+el b.length:Nat):Int)+b.length<2^60:=(AA hp rfl:((at'+el b.length+b.length:Nat):Int)<2^60)
  walk_at"R"
  refine aq g1 rfl ⟨xs,at',rfl,rfl,hl,aJ ha hl,.inl ⟨_,h1,?_⟩⟩
  walk_at"R"
  refine .keep 0 (cR _) trivial trivial ?_
  show Q (.d (.tup [.bytes (cut xs (some ((at'+el b.length:Nat):Int)) (some (((at'+el b.length:Nat):Int)+b.length))),_])) _
  refine rwr (Gl ..) (rwr (h3 ..) ?_)
  exact hQ
 ·walk_at"R"
  exact aq g1 rfl ⟨xs,at',rfl,rfl,hl,aJ ha hl,.inr ⟨h1,hX⟩⟩
 ·have:=h1.lt
  have e:(xs.length:Int)-((at'+el n:Nat):Int)=((xs.length-(at'+el n):Nat):Int):=(iC this.2).symm
  have c7:(xs.length:Int)<((at'+el n:Nat):Int)+n:=cB.mpr h2
  have c8:(n:Int)<2^64:=zJ (ci this.1) rfl
  have c9:(0:Int)<=(xs.length:Int)-((at'+el n:Nat):Int):=e▸bW
  have c10:(xs.length:Int)-((at'+el n:Nat):Int)<2^64:=e▸zJ (aJ (fb _ _) hl) rfl
  walk_at"R"
  refine aq g1 rfl ⟨xs,at',rfl,rfl,hl,aJ ha hl,.inl ⟨_,h1,?_⟩⟩
  walk_at"R"
  exact hX
end

section
variable {Γ:Addr->aH->Prop}{O:bf}{OS:bJ}{args:List V}{own:List af}{Q:V->List af->Prop}{X:Nat->Prop}
noncomputable def im(n:Nat):V->Bool
 |.d _=>true
 |.own i=>b_ i n
noncomputable def jN(n:Nat):List (Nat×V)->Bool
 |[]=>true
 |(_,v)::r=>im n v&&jN n r
noncomputable def xZ(n:Nat):af->Bool
 |.inst _ fs=>jN n fs
 |_=>true
noncomputable def fZ(n:Nat):List af->Bool
 |[]=>true
 |o::r=>xZ n o&&fZ n r
theorem im.get{n:Nat}{V:V}(h:im n V=true):ec n V:=by
 cases V with
 |d x=>trivial
 |own i=>exact fN.mp h
theorem jN.get{n:Nat}:∀{fs:List (Nat×V)},jN n fs=true->jV n fs
 |[],_=>trivial
 |(k,v)::r,h=>by
  have h:=dh.mp (show (im n v&&jN n r)=true from h)
  exact⟨im.get h.1,jN.get h.2⟩
theorem fZ.get{n:Nat}:∀{os:List af},fZ n os=true->ib n os
 |[],_=>trivial
 |o::r,h=>by
  have h:=dh.mp (show (xZ n o&&fZ n r)=true from h)
  refine⟨?_,fZ.get h.2⟩
  cases o with
  |inst C fs=>exact jN.get (fs:=fs) h.1
  |_=>trivial
theorem be{np:Nat}{V:V}{st:St}(n:Nat)(hn:dR np n=true)(hb:im n V=true)(ho:fZ n (st.own.take n)=true)(h:Q V (st.own.take n)):aC np Q (.ret V) st :=
 .keep n (bL hn) (im.get hb) (fZ.get ho) h
theorem cU{np:Nat}{st:St}(n:Nat)(hn:dR np n=true)(ho:fZ n (st.own.take n)=true)(h:Q (.d .none) (st.own.take n)):aC np Q .next st :=
 .none n (bL hn) (fZ.get ho) h
theorem zD{np:Nat}{st:St}{items:List D}(n j:Nat)(hn:dR np n=true)(hj:dR n j=true)(e:getN st.own j=some (.lst items))(ho:fZ n (st.own.take n)=true)(h:Q (.d (.list items)) (st.own.take n)):aC np Q (.ret (.own j)) st :=
 .frz n j (bL hn) (bL hj) e (fZ.get ho) h
noncomputable def cur(xs:List UInt8)(at':Nat):af:=.inst 212 [(0,.d (.bytes xs)),(1,.d (.int at'))]
noncomputable def segO(cnt bi bt:Nat)(conf hard:D)(e p:V):af:=.inst 555 [(13,.d (.int cnt)),(14,.d (.int bi)),(15,.d (.int bt)),(16,.d conf),(17,.d hard),(18,e),(19,p)]
noncomputable def sk:af:=.inst 289 [(2,.own 1)]
inductive nI(args:List V)(own:List af)(Q:V->List af->Prop)(X:Nat->Prop):Prop
 |mk (xs:List UInt8) (at':Nat) (_:args=[.own 0,.d (.bytes xs),.d (.int at')]) (_:own=[.inst 212 []]) (_:xs.length<=10000) (_:at'<=xs.length) (_:Q (.d .none) [cur xs at']):nI args own Q X
inductive lm(args:List V)(own:List af)(Q:V->List af->Prop)(X:Nat->Prop):Prop
 |mk (xs:List UInt8) (at':Nat) (_:args=[.own 0]) (_:own=[cur xs at']) (_:xs.length<=10000) (_:at'<=xs.length) (_:Q (.d (.int ((xs.length-at':Nat):Int))) [cur xs at']):lm args own Q X
inductive sN(Q:V->List af->Prop)(xs:List UInt8)(at':Nat):Prop
 |mk (n:_) (_:br xs at' n) (_:Q (.d (.int n)) [cur xs (at'+el n)]):sN Q xs at'
inductive iO(args:List V)(own:List af)(Q:V->List af->Prop)(X:Nat->Prop):Prop
 |mk (xs:List UInt8) (at':Nat) (_:args=[.own 0]) (_:own=[cur xs at']) (_:xs.length<=10000) (_:at'<=xs.length) (_:sN Q xs at'\/(cC xs at'/\X 68)):iO args own Q X
inductive tY(Q:V->List af->Prop)(xs:List UInt8)(at':Nat):Prop
 |mk (b:_) (_:gZ xs at' b) (_:Q (.d (.bytes b)) [cur xs (at'+el b.length+b.length)]):tY Q xs at'
inductive lR(args:List V)(own:List af)(Q:V->List af->Prop)(X:Nat->Prop):Prop
 |mk (xs:List UInt8) (at':Nat) (_:args=[.own 0]) (_:own=[cur xs at']) (_:xs.length<=10000) (_:at'<=xs.length) (_:tY Q xs at'\/(ia xs at'/\X 68)):lR args own Q X
inductive ng(args:List V)(own:List af)(Q:V->List af->Prop)(X:Nat->Prop):Prop
 |mk (xs:List UInt8) (at':Nat) (q:Bool) (_:args=[.own 0]) (_:own=[cur xs at']) (_:xs.length<=10000) (_:xs[at']? = some (if q then 1 else 0)) (_:Q (.d (.bool q)) [cur xs (at'+1)]):ng args own Q X
inductive j7(args:List V)(own:List af)(Q:V->List af->Prop)(X:Nat->Prop):Prop
 |mk (xs:List UInt8) (at':Nat) (_:args=[.own 0]) (_:own=[cur xs at']) (_:xs.length<=10000) (_:at'<=xs.length) (_:((at'=xs.length/\Q (.d .none) [cur xs at'])\/(at'<xs.length/\X 56))):j7 args own Q X
theorem Ae(h:nI args own Q X):aj Γ O OS sh (λCn U=>X Cn) ⟨args.map some++ay (yR.length-3) Bx,own⟩ (aC own.length Q):=by
 obtain⟨xs,at',rfl,rfl,hl,ha,hQ⟩:=h
 show aj Γ O OS sh _ ⟨[some (.own 0),some (.d (.bytes xs)),some (.d (.int at'))],[.inst 212 []]⟩ _
 walk_at"R"
 exact cU 1 rfl rfl hQ
theorem G_(h:lm args own Q X):aj Γ O OS um (λCn U=>X Cn) ⟨args.map some++ay (AH.length-1) Bx,own⟩ (aC own.length Q):=by
 obtain⟨xs,at',rfl,rfl,hl,ha,hQ⟩:=h
 show aj Γ O OS um _ ⟨[some (.own 0)],[cur xs at']⟩ _
 walk_at"R"
 refine be 1 rfl rfl rfl ?_
 show Q (.d (.int ((xs.length:Int)-at'))) _
 refine rwr (show (xs.length:Int)-at'=((xs.length-at':Nat):Int) from (iC (by assumption)).symm) ?_
 exact hQ
theorem Fd(g1:Γ 110 jK)(h:iO args own Q X):aj Γ O OS qx (λCn U=>X Cn) ⟨args.map some++ay (zM.length-1) Bx,own⟩ (aC own.length Q):=by
 obtain⟨xs,at',rfl,rfl,hl,ha,h⟩:=h
 show aj Γ O OS qx _ ⟨[some (.own 0),Bx,Bx],[cur xs at']⟩ _
 refine ao h (λz0=>?_) (ae λh0 hX=>?_) <;>clear h <;>(try rcases z0 with ⟨n,h0,hQ⟩)
 ·refine ao h0 (ae λh1 h2=>?_) (aY λh1 h2 h3 h4=>?_) <;>clear h0
  ·have:=cE h2
   have hu:=cu (n:=n) (by lia)
   have he:el n=1:=if_pos h1
   rw[he]at hQ
   walk_at"S"
   refine bg h2 ?_
   walk_at"S"
   refine bg h2 ?_
   refine rwr (hu ..) ?_
   exact be 1 rfl rfl rfl hQ
  ·have:=cE h3
   have hu:=cu (n:=n%128+128) (by lia)
   walk_at"S"
   refine bg h3 ?_
   walk_at"R"
   refine aq g1 rfl ⟨xs,at',rfl,rfl,hl,by lia,.inl ⟨n,.inr ⟨h1,h2,h3,h4⟩,?_⟩⟩
   walk_at"R"
   exact be 1 rfl rfl rfl hQ
 ·have g:=h0
  refine ao h0 (λh1=>?_) λz0=>?_ <;>clear h0 <;>(try rcases z0 with ⟨h1,c,h2,h3⟩)
  ·walk_at"R"
   exact aq g1 rfl ⟨xs,at',rfl,rfl,hl,by lia,.inr ⟨g,hX⟩⟩
  ·walk_at"S"
   refine bg h3 ?_
   walk_at"R"
   exact aq g1 rfl ⟨xs,at',rfl,rfl,hl,by lia,.inr ⟨g,hX⟩⟩
theorem IX(g1:Γ 131 oJ)(h:lR args own Q X):aj Γ O OS un (λCn U=>X Cn) ⟨args.map some++ay (wa.length-1) Bx,own⟩ (aC own.length Q):=by
 obtain⟨xs,at',rfl,rfl,hl,ha,h⟩:=h
 show aj Γ O OS un _ ⟨[some (.own 0),Bx,Bx],[cur xs at']⟩ _
 refine ao h (λz0=>?_) (ae λh0 hX=>?_) <;>clear h <;>(try rcases z0 with ⟨b,h0,hQ⟩)
 ·walk_at"R"
  refine aq g1 rfl ⟨xs,at',rfl,rfl,hl,by lia,.inl ⟨b,h0,?_⟩⟩
  walk_at"R"
  exact be 1 rfl rfl rfl hQ
 ·walk_at"R"
  exact aq g1 rfl ⟨xs,at',rfl,rfl,hl,by lia,.inr ⟨h0,hX⟩⟩
theorem I_(h:ng args own Q X):aj Γ O OS s6 (λCn U=>X Cn) ⟨args.map some++ay (Ah.length-1) Bx,own⟩ (aC own.length Q):=by
 obtain⟨xs,at',q,rfl,rfl,hl,h1,hQ⟩:=h
 show aj Γ O OS s6 _ ⟨[some (.own 0),Bx],[cur xs at']⟩ _
 have:=cE h1
 cases q
 ·walk_at"S"
  refine bg h1 ?_
  walk_at"R"
  exact be 1 rfl rfl rfl hQ
 ·walk_at"S"
  refine bg h1 ?_
  walk_at"R"
  exact be 1 rfl rfl rfl hQ
theorem Jn(g1:Γ 153 lm)(h:j7 args own Q X):aj Γ O OS qa (λCn U=>X Cn) ⟨args.map some++ay (wf.length-1) Bx,own⟩ (aC own.length Q):=by
 obtain⟨xs,at',rfl,rfl,hl,ha,h⟩:=h
 show aj Γ O OS qa _ ⟨[some (.own 0)],[cur xs at']⟩ _
 refine ao h (ae λh0 hQ=>?_) (ae λh0 hX=>?_) <;>clear h
 ·walk_at"R"
  exact cU 1 rfl rfl hQ
 ·walk_at"R"
  refine aq g1 rfl ⟨xs,at',rfl,rfl,hl,ha,?_⟩
  walk_at"R"
  exact hX
end

local macro_rules | `(tactic| walk_at "N") => do
  `(tactic| dsimp only [$[$(("setN merge setAll pick sig selV fieldsOwn addTo getN renV renO renF idx sk cur segO List.map List.foldl List.elem List.take List.drop List.append List.length List.nil_append List.cons_append cond Nat.blt Nat.ble Nat.beq Option.getD Nat.reduceAdd Nat.reduceSub Nat.reduceBEq".splitOn.toArray).map fun s => Lean.mkIdent s.toName):ident],*])

section
variable {Γ:Addr->aH->Prop}{O:bf}{OS:bJ}{args:List V}{own:List af}{Q:V->List af->Prop}{X:Nat->Prop}
theorem eJ{l:List V}(h:(l.all (im 0))=true):∀V∈l,ec 0 V:=λV hV=>im.get (fR.mp h V hV)
inductive jQ(args:List V)(own:List af)(Q:V->List af->Prop)(X:Nat->Prop):Prop
 |mk (_:args=[.own 0]) (_:own=[.inst 289 []]) (_:Q (.d .none) [sk,.ba []]):jQ args own Q X
inductive kL(args:List V)(own:List af)(Q:V->List af->Prop)(X:Nat->Prop):Prop
 |mk (n:Nat) (b:List UInt8) (_:args=[.own 0,.d (.int n)]) (_:own=[sk,.ba b]) (_:n<16384) (_:b.length<=10000) (_:Q (.d .none) [sk,.ba (b++az n)]):kL args own Q X
inductive mZ(args:List V)(own:List af)(Q:V->List af->Prop)(X:Nat->Prop):Prop
 |mk (x b:List UInt8) (_:args=[.own 0,.d (.bytes x)]) (_:own=[sk,.ba b]) (_:x.length<16384) (_:b.length<=10000) (_:Q (.d .none) [sk,.ba (b++az x.length++x)]):mZ args own Q X
inductive mf(args:List V)(own:List af)(Q:V->List af->Prop)(X:Nat->Prop):Prop
 |mk (n:Nat) (b:List UInt8) (_:args=[.own 0,.d (.int n)]) (_:own=[sk,.ba b]) (_:n<256) (_:b.length<=10000) (_:Q (.d .none) [sk,.ba (b++[n.toUInt8])]):mf args own Q X
inductive oS(args:List V)(own:List af)(Q:V->List af->Prop)(X:Nat->Prop):Prop
 |mk (q:Bool) (b:List UInt8) (_:args=[.own 0,.d (.bool q)]) (_:own=[sk,.ba b]) (_:b.length<=10000) (_:Q (.d .none) [sk,.ba (b++[if q then 1 else 0])]):oS args own Q X
inductive kO(args:List V)(own:List af)(Q:V->List af->Prop)(X:Nat->Prop):Prop
 |mk (b:List UInt8) (_:args=[.own 0]) (_:own=[sk,.ba b]) (_:b.length<=100000) (_:Q (.d (.bytes b)) [sk,.ba b]):kO args own Q X
theorem dy(n:Nat):el n<=2:=by unfold el;split <;>lia
theorem GE(h:jQ args own Q X):aj Γ O OS qF (λCn U=>X Cn) ⟨args.map some++ay (za.length-1) Bx,own⟩ (aC own.length Q):=by
 obtain⟨rfl,rfl,hQ⟩:=h
 show aj Γ O OS qF _ ⟨[some (.own 0)],[.inst 289 []]⟩ _
 walk_at"R"
 exact cU 2 rfl rfl hQ
theorem II(g1:Γ 103 (jX 18446744073709551615))(h:kL args own Q X):aj Γ O OS ue (λCn U=>X Cn) ⟨args.map some++ay (zS.length-2) Bx,own⟩ (aC own.length Q):=by
 obtain⟨n,b,rfl,rfl,hn,hl,hQ⟩:=h
 show aj Γ O OS ue _ ⟨[some (.own 0),some (.d (.int n))],[sk,.ba b]⟩ _
 have he:=cr hn
 have:=dy n
 have c2:=bp (k:=1000000) hl (aJ (bH he) this) rfl
 by_cases h:n<128
 ·have hu:=cu (n:=n) (cg h (by decide))
  rw[ew h]at hQ
  walk_at"R"
  refine⟨n.toUInt8,by exact rwr (hu ..) rfl,by lia,?_⟩
  walk_at"R"
  exact cU 2 rfl rfl hQ
 ·walk_at"R"
  refine aq g1 rfl ⟨n,rfl,rfl,ci (cg hn (by decide)),?_⟩
  walk_at"R"
  exact cU 2 rfl rfl hQ
theorem Kc(g1:Γ 117 (jX 4294967295))(h:mZ args own Q X):aj Γ O OS sO (λCn U=>X Cn) ⟨args.map some++ay (wB.length-2) Bx,own⟩ (aC own.length Q):=by
 obtain⟨x,b,rfl,rfl,hn,hl,hQ⟩:=h
 show aj Γ O OS sO _ ⟨[some (.own 0),some (.d (.bytes x))],[sk,.ba b]⟩ _
 have he:=cr hn
 have c2:=bp (k:=1000000) hl (aJ (bH he) (dy x.length)) rfl
 walk_at"R"
 refine aq g1 rfl ⟨x.length,rfl,rfl,ci (cg hn (by decide)),?_⟩
 walk_at"R"
 refine dg (by refine rwr (bV ..) ?_;exact bp (m:=10002) (bp hl (aJ (bH he) (dy x.length)) rfl) (ci hn) rfl) ?_
 walk_at"R"
 exact cU 2 rfl rfl hQ
theorem G3(h:mf args own Q X):aj Γ O OS tm (λCn U=>X Cn) ⟨args.map some++ay (w6.length-2) Bx,own⟩ (aC own.length Q):=by
 obtain⟨n,b,rfl,rfl,hn,hl,hQ⟩:=h
 show aj Γ O OS tm _ ⟨[some (.own 0),some (.d (.int n))],[sk,.ba b]⟩ _
 have hu:=cu (n:=n) hn
 have c1:¬(255:Int)<n:=λe=>pY.mpr hn (cB.mp e)
 walk_at"R"
 refine⟨n.toUInt8,by exact rwr (hu ..) rfl,by lia,?_⟩
 walk_at"R"
 exact cU 2 rfl rfl hQ
theorem EX(h:oS args own Q X):aj Γ O OS tX (λCn U=>X Cn) ⟨args.map some++ay (v6.length-2) Bx,own⟩ (aC own.length Q):=by
 obtain⟨q,b,rfl,rfl,hl,hQ⟩:=h
 show aj Γ O OS tX _ ⟨[some (.own 0),some (.d (.bool q))],[sk,.ba b]⟩ _
 cases q
 ·walk_at"R"
  refine⟨0,rfl,by lia,?_⟩
  walk_at"R"
  exact cU 2 rfl rfl hQ
 ·walk_at"R"
  refine⟨1,rfl,by lia,?_⟩
  walk_at"R"
  exact cU 2 rfl rfl hQ
theorem EL(h:kO args own Q X):aj Γ O OS ua (λCn U=>X Cn) ⟨args.map some++ay (yd.length-1) Bx,own⟩ (aC own.length Q):=by
 obtain⟨b,rfl,rfl,hl,hQ⟩:=h
 show aj Γ O OS ua _ ⟨[some (.own 0)],[sk,.ba b]⟩ _
 walk_at"R"
 exact be 2 rfl rfl rfl hQ
noncomputable def aw(ns:List Nat):List D:=ns.map λ(n:Nat)=>D.int (n:Int)
def gc(xs:List UInt8):Nat->List Nat->Nat->Prop
 |a,[],e=>a=e
 |a,n::r,e=>br xs a n/\gc xs (a+el n) r e
theorem Jr(n:Nat):1<=el n:=by unfold el;split <;>lia
theorem gc.le{xs:List UInt8}:∀{ns:List Nat} {a e:Nat},gc xs a ns e->a+ns.length<=e
 |[],a,e,h=>bH (show a=e from h)
 |n::r,a,e,h=>by
  have:=gc.le h.2
  show a+(r.length+1)<=e
  exact aJ (by rw[ll r.length 1,<-uU];exact j' (jm (Jr n) _) _) this
theorem gc.lt{xs:List UInt8}:∀{ns:List Nat} {a e:Nat},gc xs a ns e->a<=xs.length->e<=xs.length
 |[],a,e,h,ha=>(show a=e from h)▸ha
 |n::r,a,e,h,ha=>gc.lt h.2 h.1.lt.2
def kn(xs:List UInt8)(a:Nat)(ns:List Nat)(e:Nat):Prop:=br xs a ns.length/\gc xs (a+el ns.length) ns e
inductive on(args:List V)(own:List af)(Q:V->List af->Prop)(X:Nat->Prop):Prop
 |mk (xs:List UInt8) (a n:Nat) (_:args=[.own 0]) (_:own=[cur xs a]) (_:xs.length<=10000) (_:br xs a n) (_:a+el n+n<=xs.length) (_:Q (.d (.int n)) [cur xs (a+el n)]):on args own Q X
theorem DB(g1:Γ 160 iO)(g2:Γ 153 lm)(h:on args own Q X):aj Γ O OS sb (λCn U=>X Cn) ⟨args.map some++ay (zG.length-1) Bx,own⟩ (aC own.length Q):=by
 obtain⟨xs,a,n,rfl,rfl,hl,h1,h2,hQ⟩:=h
 show aj Γ O OS sb _ ⟨[some (.own 0),Bx],[cur xs a]⟩ _
 have:=h1.lt
 walk_at"R"
 refine aq g1 rfl ⟨xs,a,rfl,rfl,hl,aJ (jk _ _) this.2,.inl ⟨n,h1,?_⟩⟩
 walk_at"R"
 refine aq g2 rfl ⟨xs,a+el n,rfl,rfl,hl,this.2,?_⟩
 have:¬ ((xs.length-(a+el n):Nat):Int)<(n:Int):=uD.mpr (sD (Nat.le_sub_of_add_le' h2))
 walk_at"R"
 exact be 1 rfl rfl rfl hQ
inductive oM(args:List V)(own:List af)(Q:V->List af->Prop)(X:Nat->Prop):Prop
 |mk (xs:List UInt8) (a:Nat) (ns:List Nat) (e:Nat) (_:args=[.own 0]) (_:own=[cur xs a]) (_:xs.length<=10000) (_:kn xs a ns e) (_:ns.Pairwise (· < ·)) (_:Q (.d (.list (aw ns))) [cur xs e]):oM args own Q X
theorem pA{ns:List Nat}{j:Nat}{d:D}(h:(aw ns)[j]? = some d):∃n,ns[j]? = some n/\d=.int n:=by
 unfold aw at h
 rw[dO]at h
 cases e:ns[j]? with
 |none=>rw[e]at h;cases h
 |some n=>rw[e]at h;simp only[li,lj]at h;exact⟨n,rfl,h.symm⟩
theorem tj{ns:List Nat}{j n:Nat}(h:ns[j]? = some n):aw (ns.take (j+1))=aw (ns.take j)++[.int n]:=by
 unfold aw;refine rwr (BU ..) (rwr (h ..) ?_);simp
theorem xV{ns:List Nat}{j n:Nat}(h:ns[j]? = some n):(aw (ns.take (j+1))).getLast? = some (.int n):=by
 refine rwr (tj h ..) ?_;simp
theorem Bk{ns:List Nat}{j n:Nat}(h:ns[j]? = some n):ns.drop j=n::ns.drop (j+1):=by
 refine elE1 (dD.mp h) λh1 h2=>?_
 exact rwr (List.drop_eq_getElem_cons h1 ..) (rwr (h2 ..) rfl)
theorem xr{ns:List Nat}(hp:ns.Pairwise (· < ·)){j a b:Nat}(h1:ns[j]? = some a)(h2:ns[j+1]? = some b):a<b:=by
 refine elE1 (dD.mp h1) λl1 e1=>?_
 refine elE1 (dD.mp h2) λl2 e2=>?_
 have:=List.pairwise_iff_getElem.mp hp j (j+1) l1 l2 (iy _)
 rw[e1,e2]at this;exact this
theorem sw{ns:List Nat}{j:Nat}(h:j<=ns.length):(aw (ns.take j)).length=j:=by unfold aw;exact rwr (cV ..) (rwr (fO ..) (gq h))
theorem KA(g1:Γ 307 on)(g2:Γ 160 iO)(h:oM args own Q X):aj Γ O OS qK (λCn U=>X Cn) ⟨args.map some++ay (wb.length-1) Bx,own⟩ (aC own.length Q):=by
 obtain⟨xs,a,ns,e,rfl,rfl,hl,⟨h1,h2⟩,hs,hQ⟩:=h
 show aj Γ O OS qK _ ⟨[some (.own 0),Bx,Bx,Bx],[cur xs a]⟩ _
 have:=h1.lt
 have hx:=h2.lt this.2
 have n6:ns.length<=1000000:=ci (cg this.1 (by decide))
 have c4:(ns.length:Int)<=1000000:=fQ.mpr n6
 walk_at"R"
 refine aq g1 rfl ⟨xs,a,ns.length,rfl,rfl,hl,h1,aJ h2.le hx,?_⟩
 walk_at"R"
 refine⟨λj st=>∃x y p,gc xs p (ns.drop j) e/\p<=xs.length/\st=⟨[some (.own 0),some (.own 1),x,y],[cur xs p,.lst (aw (ns.take j))]⟩,
  iY n6 ⟨_,_,_,h2,this.2,rfl⟩ ?_ ?_⟩
 ·refine λj st1 hj=>uE3 λx y p=>al λhp hpl z0=>?_;subst z0
  refine elE1 (show ∃n,ns[j]? = some n from ⟨_,cM hj⟩) λn hn=>?_
  rw[Bk hn]at hp
  have hlen:=sw (ns:=ns) (j:=j) (ci hj)
  have c7:(aw (ns.take j)).length<=1000000:=aJ (bH hlen) (aJ (ci hj) n6)
  have:=hp.1.lt
  walk_at"R"
  refine aq g2 rfl ⟨xs,p,rfl,rfl,hl,hpl,.inl ⟨n,hp.1,?_⟩⟩
  walk_at"R"
  have fin:∀x y,∃x' y' p',gc xs p' (ns.drop (j+1)) e/\p'<=xs.length/\(⟨[some (.own 0),some (.own 1),x,y],[cur xs (p+el n),.lst (aw (ns.take j)++[.int n])]⟩:St)=⟨[some (.own 0),some (.own 1),x',y'],[cur xs p',.lst (aw (ns.take (j+1)))]⟩:=
   λx y=>⟨x,y,_,hp.2,this.2,by exact rwr (tj hn ..) rfl⟩
  cases j with
  |zero =>
   refine⟨λe=>Bool.noConfusion (show false=true from e),λU=>?_⟩
   walk_at"R"
   exact fin _ _
  |succ j =>
   refine elE1 (show ∃m,ns[j]? = some m from ⟨_,cM (Nat.lt_of_succ_lt hj)⟩) λm hm=>?_
   have hmn:=xr hs hm hn
   have c8:¬(n:Int)<=m:=λe=>pY.mpr hmn (fQ.mp e)
   have hne:(!(aw (ns.take (j+1))).isEmpty)=true:=by
    cases q:aw (ns.take (j+1)) with
    |nil=>rw[q]at hlen;simp at hlen
    |cons=>rfl
   refine⟨λU=>?_,λe=>absurd (hne.symm.trans e) (by decide)⟩
   walk_at"R"
   refine .inr ⟨rfl,bg (xV hm) ?_⟩
   walk_at"R"
   exact fin _ _
 ·refine λst1=>uE3 λx y p=>al λhp hpl z0=>?_;subst z0
  rw[BH]at hp
  refine rwr (jr ..) ?_
  obtain rfl:p=e:=hp
  walk_at"R"
  exact zD 1 1 rfl rfl rfl rfl hQ
end

section
variable {Γ:Addr->aH->Prop}{O:bf}{OS:bJ}{args:List V}{own:List af}{Q:V->List af->Prop}{X:Nat->Prop}
theorem gw{J:Nat->St->Prop}{items:List D}{body:Nat->D->St->(Fl->St->Prop)->Prop}{st:St}{Q:Fl->St->Prop}(hl:items.length<=1000000)(h0:J 0 st)(turn:∀j d st1,items[j]? = some d->J j st1->body j d st1 (ey (J (j+1)) Q))(hend:∀st1,J items.length st1->Q .next st1):
  mh J items body st Q:=⟨hl,h0,turn,hend⟩
theorem db(ns:List Nat):(aw ns).length=ns.length:=by unfold aw;simp
theorem DR{ns:List Nat}{j:Nat}(h:j<ns.length):(!(aw (ns.take (j+1))).isEmpty)=true:=by
 have:=sw (ns:=ns) (j:=j+1) h
 cases q:aw (ns.take (j+1)) with
 |nil=>rw[q]at this;simp at this
 |cons=>rfl
inductive oy(args:List V)(own:List af)(Q:V->List af->Prop)(X:Nat->Prop):Prop
 |mk (ns:List Nat) (_:args=[.d (.list (aw ns))]) (_:own=[]) (_:ns.length<=60) (_:ns.Pairwise (· < ·)) (_:Q (.d (.list (aw ns))) []):oy args own Q X
theorem HK(h:oy args own Q X):aj Γ O OS si (λCn U=>X Cn) ⟨args.map some++ay (AM.length-1) Bx,own⟩ (aC own.length Q):=by
 obtain⟨ns,rfl,rfl,hl,hs,hQ⟩:=h
 show aj Γ O OS si _ ⟨[some (.d (.list (aw ns))),Bx,Bx],[]⟩ _
 walk_at"R"
 refine⟨ns.map λ(n:Nat)=>(n:Int),by unfold aw;simp,by simpa using hl,List.pairwise_map.mpr (hs.imp λh=>by lia),?_⟩
 skip
 refine⟨λj st=>∃x,st=⟨[some (.d (.list (aw ns))),some (.own 0),x],[.lst (aw (ns.take j))]⟩,gw (by refine rwr (db ..) ?_;lia) ⟨_,rfl⟩ ?_ ?_⟩
 ·refine λj d st1 hd=>uE1 λx z0=>?_;subst z0
  refine elE1 (pA hd) λn=>ae λhn z0=>?_;subst z0
  have hj:=cE hn
  have hlen:=sw (ns:=ns) (j:=j) (by lia)
  have fin:∀x,∃x',(⟨[some (.d (.list (aw ns))),some (.own 0),x],[.lst (aw (ns.take j)++[.int n])]⟩:St)=⟨[some (.d (.list (aw ns))),some (.own 0),x'],[.lst (aw (ns.take (j+1)))]⟩:=
   λx=>⟨x,by exact rwr (tj hn ..) rfl⟩
  walk_at"R"
  cases j with
  |zero =>
   refine⟨λe=>Bool.noConfusion (show true=false from e),λU=>?_⟩
   walk_at"R"
   exact fin _
  |succ j =>
   refine elE1 (show ∃m,ns[j]? = some m from ⟨_,cM (by lia)⟩) λm hm=>?_
   have hmn:=xr hs hm hn
   have hne:=DR (ns:=ns) (j:=j) (by lia)
   refine⟨λU=>?_,λe=>absurd ((congrArg (!·) hne).symm.trans e) (by decide)⟩
   walk_at"R"
   refine .inr ⟨rfl,bg (xV hm) ?_⟩
   walk_at"R"
   exact fin _
 ·refine λst1=>uE1 λx z0=>?_;subst z0
  refine rwr (db ..) (rwr (jr ..) ?_)
  walk_at"R"
  exact zD 0 0 rfl rfl rfl rfl hQ
noncomputable def dN(ns:List Nat):List UInt8:=ns.flatMap az
noncomputable def dw(ns:List Nat):List UInt8:=az ns.length++dN ns
theorem fL{n:Nat}(h:n<16384):(az n).length<=2:=by refine rwr (cr h ..) ?_;exact dy n
theorem om:∀{ns:List Nat},(∀n∈ns,n<16384)->(dN ns).length<=2*ns.length
 |[],_=>by simp[dN]
 |n::r,h=>by
  have h1:=om (ns:=r) λm hm=>h m (.tail _ hm)
  have h2:=fL (h n (.head _))
  simp only[dN,List.flatMap_cons,bV,iA]at h1 ⊢
  lia
theorem xY{ns:List Nat}{j n:Nat}(h:ns[j]? = some n):dN (ns.take (j+1))=dN (ns.take j)++az n:=by
 unfold dN;refine rwr (BU ..) (rwr (h ..) ?_);simp
inductive nl(args:List V)(own:List af)(Q:V->List af->Prop)(X:Nat->Prop):Prop
 |mk (ns:List Nat) (b:List UInt8) (_:args=[.own 0,.d (.list (aw ns))]) (_:own=[sk,.ba b]) (_:ns.length<=60) (_:(∀n∈ns,n<16384)) (_:b.length<=1000) (_:Q (.d .none) [sk,.ba (b++dw ns)]):nl args own Q X
theorem Gr(g1:Γ 237 kL)(h:nl args own Q X):aj Γ O OS tQ (λCn U=>X Cn) ⟨args.map some++ay (Aa.length-2) Bx,own⟩ (aC own.length Q):=by
 obtain⟨ns,b,rfl,rfl,hl,h16,hb0,hQ⟩:=h
 show aj Γ O OS tQ _ ⟨[some (.own 0),some (.d (.list (aw ns))),Bx],[sk,.ba b]⟩ _
 have hdl:=db ns
 have he:=fL (n:=ns.length) (by lia)
 walk_at"R"
 refine rwr (hdl ..) ?_
 refine aq g1 rfl ⟨ns.length,b,rfl,rfl,by lia,by lia,?_⟩
 walk_at"R"
 refine⟨λj st=>∃x,st=⟨[some (.own 0),some (.d (.list (aw ns))),x],[sk,.ba (b++(az ns.length++dN (ns.take j)))]⟩,gw (by refine rwr (db ..) ?_;lia) ⟨Bx,by show _=(⟨_,[sk,.ba (b++(az ns.length++[]))]⟩:St);refine rwr (bA ..) ?_;rfl⟩ ?_ ?_⟩
 ·refine λj d st1 hd=>uE1 λx z0=>?_;subst z0
  refine elE1 (pA hd) λn=>ae λhn z0=>?_;subst z0
  have hj:=cE hn
  have hb:=om (ns:=ns.take j) λm hm=>h16 m (mB hm)
  rw[fO,gq (by lia)]at hb
  walk_at"R"
  refine aq g1 rfl ⟨n,_,rfl,rfl,h16 n (cw hn),by simp only[bV];lia,?_⟩
  walk_at"R"
  have fin:(⟨[some (.own 0),some (.d (.list (aw ns))),some (.d (.int n))],[sk,.ba (b++(az ns.length++dN (ns.take j))++az n)]⟩:St)=⟨[some (.own 0),some (.d (.list (aw ns))),some (.d (.int n))],[sk,.ba (b++(az ns.length++dN (ns.take (j+1))))]⟩:=by
   refine rwr (xY hn ..) ?_;simp only[e_]
  exact⟨_,fin⟩
 ·refine λst1=>uE1 λx z0=>?_;subst z0
  refine rwr (db ..) (rwr (jr ..) ?_)
  walk_at"R"
  exact cU 2 rfl rfl hQ
noncomputable def ie(t i k:Nat)(b:List UInt8):List (Nat×D):=[(3,.int t),(4,.int i),(5,.int k),(0,.bytes b)]
noncomputable def gV(t v c:Nat):List (Nat×D):=[(3,.int t),(6,.int v),(7,.int c)]
noncomputable def gh(a b c d:List Nat)(q:Bool):List (Nat×D):=[(8,.list (aw a)),(9,.list (aw b)),(10,.list (aw c)),(11,.list (aw d)),(12,.bool q)]
noncomputable def sC(fs:List (Nat×D)):List (Nat×V):=fs.map λp=>(p.1,.d p.2)
inductive lv(args:List V)(own:List af)(Q:V->List af->Prop)(X:Nat->Prop):Prop
 |mk (t i k:Nat) (b:List UInt8) (_:args=[.own 0,.d (.int t),.d (.int i),.d (.int k),.d (.bytes b)]) (_:own=[.inst 352 []]) (_:Q (.d .none) [.inst 352 (sC (ie t i k b))]):lv args own Q X
inductive kQ(args:List V)(own:List af)(Q:V->List af->Prop)(X:Nat->Prop):Prop
 |mk (t i k:Nat) (b:List UInt8) (_:args=[.d (.obj 352 (ie t i k b))]) (_:own=[]) (_:Q (.d (.tup [.int t,.int i,.int k,.bytes b])) []):kQ args own Q X
inductive gO(args:List V)(own:List af)(Q:V->List af->Prop)(X:Nat->Prop):Prop
 |mk (t v c:Nat) (_:args=[.own 0,.d (.int t),.d (.int v),.d (.int c)]) (_:own=[.inst 408 []]) (_:Q (.d .none) [.inst 408 (sC (gV t v c))]):gO args own Q X
inductive kH(args:List V)(own:List af)(Q:V->List af->Prop)(X:Nat->Prop):Prop
 |mk (t v c:Nat) (_:args=[.d (.obj 408 (gV t v c))]) (_:own=[]) (_:Q (.d (.tup [.int t,.int v,.int c])) []):kH args own Q X
inductive kE(args:List V)(own:List af)(Q:V->List af->Prop)(X:Nat->Prop):Prop
 |mk (a b c d:List Nat) (q:Bool) (_:args=[.own 0,.d (.list (aw a)),.d (.list (aw b)),.d (.list (aw c)),.d (.list (aw d)),.d (.bool q)]) (_:own=[.inst 443 []]) (_:a.length<=60) (_:a.Pairwise (· < ·)) (_:b.length<=60) (_:b.Pairwise (· < ·)) (_:c.length<=60) (_:c.Pairwise (· < ·)) (_:d.length<=60) (_:d.Pairwise (· < ·)) (_:Q (.d .none) [.inst 443 (sC (gh a b c d q))]):kE args own Q X
inductive kx(args:List V)(own:List af)(Q:V->List af->Prop)(X:Nat->Prop):Prop
 |mk (a b c d:List Nat) (q:Bool) (_:args=[.d (.obj 443 (gh a b c d q))]) (_:own=[]) (_:a.length<=60) (_:b.length<=60) (_:c.length<=60) (_:d.length<=60) (_:Q (.d (.tup [.tup (aw a),.tup (aw b),.tup (aw c),.tup (aw d),.bool q])) []):kx args own Q X
theorem J4(h:lv args own Q X):aj Γ O OS sF (λCn U=>X Cn) ⟨args.map some++ay (vz.length-5) Bx,own⟩ (aC own.length Q):=by
 obtain⟨t,i,k,b,rfl,rfl,hQ⟩:=h
 show aj Γ O OS sF _ ⟨[some (.own 0),some (.d (.int t)),some (.d (.int i)),some (.d (.int k)),some (.d (.bytes b))],[.inst 352 []]⟩ _
 walk_at"R"
 exact cU 1 rfl rfl hQ
theorem Dp(h:kQ args own Q X):aj Γ O OS qs (λCn U=>X Cn) ⟨args.map some++ay (AO.length-1) Bx,own⟩ (aC own.length Q):=by
 obtain⟨t,i,k,b,rfl,rfl,hQ⟩:=h
 show aj Γ O OS qs _ ⟨[some (.d (.obj 352 (ie t i k b)))],[]⟩ _
 walk_at"R"
 exact be 0 rfl rfl rfl hQ
theorem G1(h:gO args own Q X):aj Γ O OS t8 (λCn U=>X Cn) ⟨args.map some++ay (zb.length-4) Bx,own⟩ (aC own.length Q):=by
 obtain⟨t,v,c,rfl,rfl,hQ⟩:=h
 show aj Γ O OS t8 _ ⟨[some (.own 0),some (.d (.int t)),some (.d (.int v)),some (.d (.int c))],[.inst 408 []]⟩ _
 walk_at"R"
 exact cU 1 rfl rfl hQ
theorem DU(h:kH args own Q X):aj Γ O OS qV (λCn U=>X Cn) ⟨args.map some++ay (vj.length-1) Bx,own⟩ (aC own.length Q):=by
 obtain⟨t,v,c,rfl,rfl,hQ⟩:=h
 show aj Γ O OS qV _ ⟨[some (.d (.obj 408 (gV t v c)))],[]⟩ _
 walk_at"R"
 exact be 0 rfl rfl rfl hQ
theorem GN(g1:Γ 300 oy)(h:kE args own Q X):aj Γ O OS qn (λCn U=>X Cn) ⟨args.map some++ay (vK.length-6) Bx,own⟩ (aC own.length Q):=by
 obtain⟨a,b,c,d,q,rfl,rfl,h1,h2,h3,h4,h5,h6,h7,h8,hQ⟩:=h
 show aj Γ O OS qn _ ⟨[some (.own 0),some (.d (.list (aw a))),some (.d (.list (aw b))),some (.d (.list (aw c))),some (.d (.list (aw d))),some (.d (.bool q))],[.inst 443 []]⟩ _
 walk_at"R"
 refine aq g1 rfl ⟨a,rfl,rfl,h1,h2,?_⟩
 walk_at"R"
 refine aq g1 rfl ⟨b,rfl,rfl,h3,h4,?_⟩
 walk_at"R"
 refine aq g1 rfl ⟨c,rfl,rfl,h5,h6,?_⟩
 walk_at"R"
 refine aq g1 rfl ⟨d,rfl,rfl,h7,h8,?_⟩
 walk_at"R"
 exact cU 1 rfl rfl hQ
theorem JR(h:kx args own Q X):aj Γ O OS sG (λCn U=>X Cn) ⟨args.map some++ay (wj.length-1) Bx,own⟩ (aC own.length Q):=by
 obtain⟨a,b,c,d,q,rfl,rfl,h1,h2,h3,h4,hQ⟩:=h
 show aj Γ O OS sG _ ⟨[some (.d (.obj 443 (gh a b c d q)))],[]⟩ _
 have e1:=db a
 have e2:=db b
 have e3:=db c
 have e4:=db d
 walk_at"R"
 exact be 0 rfl rfl rfl hQ
end

section
variable {Γ:Addr->aH->Prop}{O:bf}{OS:bJ}{args:List V}{own:List af}{Q:V->List af->Prop}{X:Nat->Prop}
inductive jL(args:List V)(own:List af)(Q:V->List af->Prop)(X:Nat->Prop):Prop
 |mk (xs:List UInt8) (at':Nat) (_:(args=[.own 0,.d (.bytes xs),.d (.int at')]\/(args=[.own 0,.d (.bytes xs)]/\at'=0))) (_:own=[.inst 212 []]) (_:xs.length<=10000) (_:at'<=xs.length) (_:Q (.d .none) [cur xs at']):jL args own Q X
noncomputable def jE(q:Bool):UInt8:=if q then 1 else 0
noncomputable def eG(a b c d:List Nat)(q:Bool):List UInt8:=dw a++dw b++dw c++dw d++[jE q]
def bq(ns:List Nat):Prop:=ns.length<=60/\ns.Pairwise (· < ·)/\∀n∈ns,n<16384
theorem gx{ns:List Nat}(h:bq ns):(dw ns).length<=122:=by
 have h1:=om h.2.2
 have h2:=fL (n:=ns.length) (by have:=h.1;lia)
 have h3:=h.1
 unfold dw
 refine rwr (bV ..) ?_;lia
theorem s9{a b c d:List Nat}{q:Bool}(h1:bq a)(h2:bq b)(h3:bq c)(h4:bq d):(eG a b c d q).length<=489:=by
 have:=gx h1
 have:=gx h2
 have:=gx h3
 have:=gx h4
 unfold eG
 simp only[bV,uV];lia
inductive oV(args:List V)(own:List af)(Q:V->List af->Prop)(X:Nat->Prop):Prop
 |mk (a b c d:List Nat) (q:Bool) (_:args=[.d (.obj 443 (gh a b c d q))]) (_:own=[]) (_:bq a) (_:bq b) (_:bq c) (_:bq d) (_:Q (.d (.bytes (eG a b c d q))) []):oV args own Q X
theorem EI(g1:Γ 289 (cF 289 jQ))(g2:Γ 454 nl)(g3:Γ 272 oS)(g4:Γ 286 kO)(h:oV args own Q X):aj Γ O OS ul (λCn U=>X Cn) ⟨args.map some++ay (yb.length-1) Bx,own⟩ (aC own.length Q):=by
 obtain⟨a,b,c,d,q,rfl,rfl,h1,h2,h3,h4,hQ⟩:=h
 show aj Γ O OS ul _ ⟨[some (.d (.obj 443 (gh a b c d q))),Bx],[]⟩ _
 have l1:=gx h1
 have l2:=gx h2
 have l3:=gx h3
 have l4:=gx h4
 walk_at"N"
 walk_at"R"
 refine aq g1 rfl ⟨rfl,eJ rfl,rfl,rfl,rfl,.inl ?_⟩
 walk_at"N"
 walk_at"R"
 refine aq g2 rfl ⟨a,_,rfl,rfl,h1.1,h1.2.2,(by walk_at"L"),?_⟩
 walk_at"N"
 walk_at"R"
 refine aq g2 rfl ⟨b,_,rfl,rfl,h2.1,h2.2.2,(by walk_at"L"),?_⟩
 walk_at"N"
 walk_at"R"
 refine aq g2 rfl ⟨c,_,rfl,rfl,h3.1,h3.2.2,(by walk_at"L"),?_⟩
 walk_at"N"
 walk_at"R"
 refine aq g2 rfl ⟨d,_,rfl,rfl,h4.1,h4.2.2,(by walk_at"L"),?_⟩
 walk_at"N"
 walk_at"R"
 refine aq g3 rfl ⟨q,_,rfl,rfl,(by walk_at"L"),?_⟩
 walk_at"N"
 walk_at"R"
 refine aq g4 rfl ⟨_,rfl,rfl,(by walk_at"L"),?_⟩
 exact be 0 rfl rfl rfl hQ
inductive kK(args:List V)(own:List af)(Q:V->List af->Prop)(X:Nat->Prop):Prop
 |mk (t v c:Nat) (_:args=[.d (.obj 408 (gV t v c))]) (_:own=[]) (_:t<16384) (_:v<16384) (_:c<16384) (_:Q (.d (.bytes (1::(az t++az v++az c)))) []):kK args own Q X
inductive nQ(args:List V)(own:List af)(Q:V->List af->Prop)(X:Nat->Prop):Prop
 |mk (i t:Nat) (a b c d:List Nat) (q:Bool) (_:args=[.d (.int i),.d (.int t),.d (.obj 443 (gh a b c d q))]) (_:own=[]) (_:i<16384) (_:t<16384) (_:bq a) (_:bq b) (_:bq c) (_:bq d) (_:Q (.d (.bytes (4::(az i++az t++az (eG a b c d q).length++eG a b c d q)))) []):nQ args own Q X
theorem CW(g1:Γ 289 (cF 289 jQ))(g2:Γ 265 mf)(g3:Γ 237 kL)(g4:Γ 286 kO)(h:kK args own Q X):aj Γ O OS ql (λCn U=>X Cn) ⟨args.map some++ay (Bn.length-1) Bx,own⟩ (aC own.length Q):=by
 obtain⟨t,v,c,rfl,rfl,h1,h2,h3,hQ⟩:=h
 show aj Γ O OS ql _ ⟨[some (.d (.obj 408 (gV t v c))),Bx],[]⟩ _
 have l1:=fL h1
 have l2:=fL h2
 have l3:=fL h3
 walk_at"N"
 walk_at"R"
 refine aq g1 rfl ⟨rfl,eJ rfl,rfl,rfl,rfl,.inl ?_⟩
 walk_at"N"
 walk_at"R"
 refine aq g2 rfl ⟨1,_,rfl,rfl,by decide,(by walk_at"L"),?_⟩
 walk_at"N"
 walk_at"R"
 refine aq g3 rfl ⟨t,_,rfl,rfl,h1,(by walk_at"L"),?_⟩
 walk_at"N"
 walk_at"R"
 refine aq g3 rfl ⟨v,_,rfl,rfl,h2,(by walk_at"L"),?_⟩
 walk_at"N"
 walk_at"R"
 refine aq g3 rfl ⟨c,_,rfl,rfl,h3,(by walk_at"L"),?_⟩
 walk_at"N"
 walk_at"R"
 refine aq g4 rfl ⟨_,rfl,rfl,(by walk_at"L"),?_⟩
 exact be 0 rfl rfl rfl hQ
theorem K0(g1:Γ 289 (cF 289 jQ))(g2:Γ 265 mf)(g3:Γ 237 kL)(g4:Γ 286 kO)(g5:Γ 468 oV)(g6:Γ 258 mZ)(h:nQ args own Q X):aj Γ O OS sQ (λCn U=>X Cn) ⟨args.map some++ay (zy.length-3) Bx,own⟩ (aC own.length Q):=by
 obtain⟨i,t,a,b,c,d,q,rfl,rfl,h1,h2,h3,h4,h5,h6,hQ⟩:=h
 show aj Γ O OS sQ _ ⟨[some (.d (.int i)),some (.d (.int t)),some (.d (.obj 443 (gh a b c d q))),Bx],[]⟩ _
 have l1:=fL h1
 have l2:=fL h2
 have l3:=s9 (q:=q) h3 h4 h5 h6
 have l4:=fL (n:=(eG a b c d q).length) (by lia)
 walk_at"N"
 walk_at"R"
 refine aq g1 rfl ⟨rfl,eJ rfl,rfl,rfl,rfl,.inl ?_⟩
 walk_at"N"
 walk_at"R"
 refine aq g2 rfl ⟨4,_,rfl,rfl,by decide,(by walk_at"L"),?_⟩
 walk_at"N"
 walk_at"R"
 refine aq g3 rfl ⟨i,_,rfl,rfl,h1,(by walk_at"L"),?_⟩
 walk_at"N"
 walk_at"R"
 refine aq g3 rfl ⟨t,_,rfl,rfl,h2,(by walk_at"L"),?_⟩
 walk_at"N"
 walk_at"R"
 refine aq g5 rfl ⟨a,b,c,d,q,rfl,rfl,h3,h4,h5,h6,?_⟩
 walk_at"N"
 walk_at"R"
 refine aq g6 rfl ⟨_,_,rfl,rfl,by lia,(by walk_at"L"),?_⟩
 walk_at"N"
 walk_at"R"
 refine aq g4 rfl ⟨_,rfl,rfl,(by walk_at"L"),?_⟩
 exact be 0 rfl rfl rfl hQ
def lT(xs:List UInt8)(a b c d:List Nat)(q:Bool):Prop:=∃a1 a2 a3 a4,kn xs 0 a a1/\kn xs a1 b a2/\kn xs a2 c a3/\kn xs a3 d a4/\xs[a4]? = some (jE q)/\a4+1=xs.length
inductive nD(args:List V)(own:List af)(Q:V->List af->Prop)(X:Nat->Prop):Prop
 |mk (xs:List UInt8) (a b c d:List Nat) (q:Bool) (_:args=[.d (.bytes xs)]) (_:own=[]) (_:xs.length<=10000) (_:bq a) (_:bq b) (_:bq c) (_:bq d) (_:lT xs a b c d q) (_:Q (.d (.obj 443 (gh a b c d q))) []):nD args own Q X
theorem Hf(g1:Γ 212 (cF 212 jL))(g2:Γ 461 oM)(g3:Γ 195 ng)(g4:Γ 209 j7)(g5:Γ 443 (cF 443 kE))(h:nD args own Q X):aj Γ O OS qH (λCn U=>X Cn) ⟨args.map some++ay (vm.length-1) Bx,own⟩ (aC own.length Q):=by
 obtain⟨xs,a,b,c,d,q,rfl,rfl,hl,h1,h2,h3,h4,hc,hQ⟩:=h
 show aj Γ O OS qH _ ⟨[some (.d (.bytes xs)),Bx,Bx,Bx,Bx,Bx,Bx],[]⟩ _
 refine eD hc λa1 a2 a3 a4=>eS λi1 i2 i3 i4 i5 i6=>?_;clear hc
 walk_at"N"
 walk_at"R"
 refine aq g1 rfl ⟨rfl,eJ rfl,xs,0,.inr ⟨rfl,rfl⟩,rfl,hl,cR _,rfl,.inl ?_⟩
 walk_at"N"
 walk_at"R"
 refine aq g2 rfl ⟨xs,0,a,a1,rfl,rfl,hl,i1,h1.2.1,?_⟩
 walk_at"N"
 walk_at"R"
 refine aq g2 rfl ⟨xs,a1,b,a2,rfl,rfl,hl,i2,h2.2.1,?_⟩
 walk_at"N"
 walk_at"R"
 refine aq g2 rfl ⟨xs,a2,c,a3,rfl,rfl,hl,i3,h3.2.1,?_⟩
 walk_at"N"
 walk_at"R"
 refine aq g2 rfl ⟨xs,a3,d,a4,rfl,rfl,hl,i4,h4.2.1,?_⟩
 walk_at"N"
 walk_at"R"
 refine aq g3 rfl ⟨xs,a4,q,rfl,rfl,hl,i5,?_⟩
 walk_at"N"
 walk_at"R"
 refine aq g4 rfl ⟨xs,a4+1,rfl,rfl,hl,by lia,.inl ⟨i6,?_⟩⟩
 walk_at"N"
 walk_at"R"
 refine aq g5 rfl ⟨rfl,eJ rfl,a,b,c,d,q,rfl,rfl,h1.1,h1.2.1,h2.1,h2.2.1,h3.1,h3.2.1,h4.1,h4.2.1,rfl,.inr ⟨gh a b c d q,rfl,?_⟩⟩
 exact be 0 rfl rfl rfl hQ
def gG(xs:List UInt8)(t i k:Nat)(b:List UInt8)(e:Nat):Prop:=br xs 0 t/\br xs (el t) i/\br xs (el t+el i) k/\(k=0\/k=2)/\gZ xs (el t+el i+el k) b/\e=el t+el i+el k+el b.length+b.length
def kT(xs:List UInt8):Prop:=cC xs 0\/∃t,br xs 0 t/\(cC xs (el t)\/∃i,br xs (el t) i/\(cC xs (el t+el i)\/∃k,br xs (el t+el i) k/\(k=0\/k=2)/\ia xs (el t+el i+el k)))
inductive yn(Q:V->List af->Prop)(xs:List UInt8):Prop
 |mk (t i k b:_) (_:gG xs t i k b xs.length) (_:Q (.d (.obj 352 (ie t i k b))) []):yn Q xs
inductive tS(X:Nat->Prop)(xs:List UInt8):Prop
 |mk (t i k b e:_) (_:gG xs t i k b e) (_:e<xs.length) (_:X 56):tS X xs
inductive nK(args:List V)(own:List af)(Q:V->List af->Prop)(X:Nat->Prop):Prop
 |mk (xs:List UInt8) (_:args=[.d (.bytes xs)]) (_:own=[]) (_:xs.length<=10000) (_:yn Q xs\/(kT xs/\X 68)\/tS X xs):nK args own Q X
theorem i9{Q:V->List af->Prop}{xs:List UInt8}{a:Nat}{A:Prop}{K:Nat->Prop}(h:(cC xs a/\A)\/∃n,br xs a n/\K n)(k:∀n,br xs a n->K n->Q (.d (.int n)) [cur xs (a+el n)]):sN Q xs a\/(cC xs a/\A):=
 h.elim .inr λh=>h.elim λn h=>.inl ⟨n,h.1,k n h.1 h.2⟩
theorem yU{Q:V->List af->Prop}{xs:List UInt8}{a:Nat}{A:Prop}{K:List UInt8->Prop}(h:(ia xs a/\A)\/∃b,gZ xs a b/\K b)(k:∀b,gZ xs a b->K b->Q (.d (.bytes b)) [cur xs (a+el b.length+b.length)]):tY Q xs a\/(ia xs a/\A):=
 h.elim .inr λh=>h.elim λb h=>.inl ⟨b,h.1,k b h.1 h.2⟩
theorem qh{P:Prop}{xs:List UInt8}{a:Nat}{A B:Prop}(h:(a=xs.length/\B)\/(a<xs.length/\A))(k:a=xs.length->B->P):(a=xs.length/\P)\/(a<xs.length/\A):=h.imp (λh=>⟨h.1,k h.1 h.2⟩) id
def o3(xs:List UInt8)(A:Prop)(K:Nat->Nat->Nat->List UInt8->Prop):Prop :=
 (cC xs 0/\A)\/∃t,br xs 0 t/\((cC xs (el t)/\A)\/∃i,br xs (el t) i/\((cC xs (el t+el i)/\A)\/∃k,br xs (el t+el i) k/\(k=0\/k=2)/\((ia xs (el t+el i+el k)/\A)\/∃b,gZ xs (el t+el i+el k) b/\K t i k b)))
theorem o3.of{xs:List UInt8}{A:Prop}{K:Nat->Nat->Nat->List UInt8->Prop}(h:(∃t i k b e,gG xs t i k b e/\K t i k b)\/(kT xs/\A)):o3 xs A K:=by
 revert h;refine uO (Am λt i k b e=>ae (eS λi1 i2 i3 i4 i5 U hK=>?_)) (ae λh a=>?_)
 ·exact .inr ⟨t,i1,.inr ⟨i,i2,.inr ⟨k,i3,i4,.inr ⟨b,i5,hK⟩⟩⟩⟩
 ·exact h.imp (⟨·,a⟩) λh=>h.elim λt h=>⟨t,h.1,h.2.imp (⟨·,a⟩) λh=>h.elim λi h=>⟨i,h.1,h.2.imp (⟨·,a⟩) λh=>h.elim λk h=>⟨k,h.1,h.2.1,.inl ⟨h.2.2,a⟩⟩⟩⟩
theorem EY{p q A B:Prop}{dp:Decidable p}{dq:Decidable q}(h:p\/q)(b:B):((!decide p)=true->(((!decide q)=true->A)/\((!decide q)=false->B)))/\((!decide p)=false->B):=⟨λe=>⟨λe2=>(h.elim (mz e) (mz e2)).elim,λU=>b⟩,λU=>b⟩
theorem IN(g1:Γ 212 (cF 212 jL))(g2:Γ 160 iO)(g3:Γ 181 lR)(g4:Γ 209 j7)(g5:Γ 352 (cF 352 lv))(h:nK args own Q X):aj Γ O OS tE (λCn U=>X Cn) ⟨args.map some++ay (xU.length-1) Bx,own⟩ (aC own.length Q):=by
 obtain⟨xs,rfl,rfl,hl,h⟩:=h
 show aj Γ O OS tE _ ⟨[some (.d (.bytes xs)),Bx,Bx,Bx,Bx,Bx],[]⟩ _
 have h:o3 xs (X 68) λt i k b=>(el t+el i+el k+el b.length+b.length=xs.length/\Q (.d (.obj 352 (ie t i k b))) [])\/(el t+el i+el k+el b.length+b.length<xs.length/\X 56):=by
  refine o3.of ?_
  revert h;refine uO (λz0=>?_) (uO (λh=>?_) (λz1=>?_)) <;>(try rcases z0 with ⟨t,i,k,b,h,hQ⟩) <;>(try rcases z1 with ⟨t,i,k,b,e,h,he,hX⟩)
  ·exact .inl (jz t i k b _ ⟨h,.inl ⟨h.2.2.2.2.2.symm,hQ⟩⟩)
  ·exact .inr h
  ·exact .inl (jz t i k b e ⟨h,.inr ⟨h.2.2.2.2.2▸he,hX⟩⟩)
 have z:∀n,0+n=n:=iD
 walk_at"R"
 refine aq g1 rfl ⟨rfl,eJ rfl,xs,0,.inr ⟨rfl,rfl⟩,rfl,hl,cR _,rfl,.inl ?_⟩
 walk_at"N"
 walk_at"R"
 refine aq g2 rfl ⟨xs,0,rfl,rfl,hl,cR _,?_⟩
 refine i9 h λt i1 h=>?_
 refine rwr (z ..) ?_
 walk_at"N"
 walk_at"R"
 refine aq g2 rfl ⟨xs,el t,rfl,rfl,hl,aJ (BS _ _) i1.lt.2,?_⟩
 refine i9 h λi i2 h=>?_
 walk_at"N"
 walk_at"R"
 refine aq g2 rfl ⟨xs,el t+el i,rfl,rfl,hl,i2.lt.2,?_⟩
 refine i9 h λk i3 h=>?_
 walk_at"N"
 walk_at"R"
 refine EY (h.1.imp (congrArg kc) (congrArg kc)) ?_
 walk_at"R"
 refine aq g3 rfl ⟨xs,el t+el i+el k,rfl,rfl,hl,i3.lt.2,?_⟩
 refine yU h.2 λb i5 h=>?_
 walk_at"N"
 walk_at"R"
 refine aq g4 rfl ⟨xs,_,rfl,rfl,hl,i5.2.1,?_⟩
 refine qh h λU hQ=>?_
 walk_at"N"
 walk_at"R"
 refine aq g5 rfl ⟨rfl,eJ rfl,t,i,k,b,rfl,rfl,rfl,.inr ⟨ie t i k b,rfl,?_⟩⟩
 exact be 0 rfl rfl rfl hQ
end

section
variable {Γ:Addr->aH->Prop}{O:bf}{OS:bJ}{args:List V}{own:List af}{Q:V->List af->Prop}{X:Nat->Prop}
noncomputable def oW(cnt bi bt:Nat)(conf hard:D)(es ps:List D):List (Nat×D):=[(13,.int cnt),(14,.int bi),(15,.int bt),(16,conf),(17,hard),(18,.list es),(19,.list ps)]
noncomputable def fB(t v c:Nat):D:=.obj 408 (gV t v c)
noncomputable def eT(a b c d:List Nat)(q:Bool):D:=.obj 443 (gh a b c d q)
noncomputable def eZ(t i k:Nat)(b:List UInt8):D:=.obj 352 (ie t i k b)
inductive lD(args:List V)(own:List af)(Q:V->List af->Prop)(X:Nat->Prop):Prop
 |mk (_:args=[.own 0]) (_:own=[.inst 555 []]) (_:Q (.d .none) [segO 0 0 0 .none (fB 0 0 0) (.own 1) (.own 2),.lst [],.lst []]):lD args own Q X
theorem Dh(g1:Γ 408 (cF 408 gO))(h:lD args own Q X):aj Γ O OS t4 (λCn U=>X Cn) ⟨args.map some++ay (wl.length-1) Bx,own⟩ (aC own.length Q):=by
 obtain⟨rfl,rfl,hQ⟩:=h
 show aj Γ O OS t4 _ ⟨[some (.own 0)],[.inst 555 []]⟩ _
 walk_at"R"
 refine aq g1 rfl ⟨rfl,eJ rfl,0,0,0,rfl,rfl,rfl,.inr ⟨gV 0 0 0,rfl,?_⟩⟩
 walk_at"N"
 walk_at"R"
 exact cU 3 rfl rfl hQ
inductive oO(args:List V)(own:List af)(Q:V->List af->Prop)(X:Nat->Prop):Prop
 |mk (cnt bi bt:Nat) (conf hard:D) (es ps:List D) (_:args=[.d (.obj 555 (oW cnt bi bt conf hard es ps))]) (_:own=[]) (_:((2<=cnt/\Q (.d .none) [])\/(cnt<2/\X 56))):oO args own Q X
theorem CF(h:oO args own Q X):aj Γ O OS qq (λCn U=>X Cn) ⟨args.map some++ay (yI.length-1) Bx,own⟩ (aC own.length Q):=by
 obtain⟨cnt,bi,bt,conf,hard,es,ps,rfl,rfl,h⟩:=h
 show aj Γ O OS qq _ ⟨[some (.d (.obj 555 (oW cnt bi bt conf hard es ps)))],[]⟩ _
 revert h;refine uO (ae λh hQ=>?_) (ae λh hX=>?_)
 ·walk_at"R"
  exact cU 0 rfl rfl hQ
 ·walk_at"R"
  exact hX
inductive oa(args:List V)(own:List af)(Q:V->List af->Prop)(X:Nat->Prop):Prop
 |mk (cnt bi bt:Nat) (conf hard:D) (es:List D) (t k:Nat) (b:List UInt8) (_:args=[.own 0,.d (eZ t (bi+1+es.length) k b)]) (_:own=[segO cnt bi bt conf hard (.own 1) (.own 2),.lst es,.dead]) (_:es.length<=1000) (_:Q (.d .none) [segO cnt bi bt conf hard (.own 1) (.own 2),.lst (es++[eZ t (bi+1+es.length) k b]),.dead]):oa args own Q X
theorem KY(h:oa args own Q X):aj Γ O OS sd (λCn U=>X Cn) ⟨args.map some++ay (xl.length-2) Bx,own⟩ (aC own.length Q):=by
 obtain⟨cnt,bi,bt,conf,hard,es,t,k,b,rfl,rfl,hl,hQ⟩:=h
 show aj Γ O OS sd _ ⟨[some (.own 0),some (.d (eZ t (bi+1+es.length) k b)),Bx],[segO cnt bi bt conf hard (.own 1) (.own 2),.lst es,.dead]⟩ _
 walk_at"R"
 exact cU 3 rfl rfl hQ
def h_(xs:List UInt8)(t v c e:Nat):Prop:=br xs 1 t/\br xs (1+el t) v/\br xs (1+el t+el v) c/\e=1+el t+el v+el c
def kR(xs:List UInt8):Prop:=cC xs 1\/∃t,br xs 1 t/\(cC xs (1+el t)\/∃v,br xs (1+el t) v/\cC xs (1+el t+el v))
def jJ(bi n:Nat)(ps:List D):Prop:=∀(j:Nat) d,ps[j]? = some d->∃t k b,d=eZ t (bi+1+(n+j)) k b
inductive ye(Q:V->List af->Prop)(xs:List UInt8)(cnt:Nat)(bi:Nat)(bt:Nat)(conf:D)(es:List D)(ps:List D):Prop
 |mk (t v c:_) (_:h_ xs t v c xs.length) (_:Q (.d .none) [segO cnt bi bt conf (fB t v c) (.own 1) (.own 4),.lst (es++ps),.dead,cur xs xs.length,.lst []]):ye Q xs cnt bi bt conf es ps
inductive t6(X:Nat->Prop)(xs:List UInt8):Prop
 |mk (t v c e:_) (_:h_ xs t v c e) (_:e<xs.length) (_:X 56):t6 X xs
inductive o7(args:List V)(own:List af)(Q:V->List af->Prop)(X:Nat->Prop):Prop
 |mk (xs:List UInt8) (cnt bi bt:Nat) (conf hard:D) (es ps:List D) (_:args=[.own 0,.d (.bytes xs)]) (_:own=[segO cnt bi bt conf hard (.own 1) (.own 2),.lst es,.lst ps]) (_:1<=xs.length) (_:xs.length<=10000) (_:es.length<=100) (_:ps.length<=100) (_:jJ bi es.length ps) (_:ye Q xs cnt bi bt conf es ps\/(kR xs/\X 68)\/t6 X xs):o7 args own Q X
theorem rx{α:Type}{l:List α}{j:Nat}{d:α}(h:l[j]? = some d):l.take (j+1)=l.take j++[d]:=by refine rwr (BU ..) (rwr (h ..) ?_);rfl
def nv(xs:List UInt8)(A:Prop)(K:Nat->Nat->Nat->Prop):Prop :=
 (cC xs 1/\A)\/∃t,br xs 1 t/\((cC xs (1+el t)/\A)\/∃v,br xs (1+el t) v/\((cC xs (1+el t+el v)/\A)\/∃c,br xs (1+el t+el v) c/\K t v c))
theorem nv.of{xs:List UInt8}{A:Prop}{K:Nat->Nat->Nat->Prop}(h:(∃t v c e,h_ xs t v c e/\K t v c)\/(kR xs/\A)):nv xs A K:=by
 revert h;refine uO (l_ λt v c e=>ae (aY λi1 i2 i3 U hK=>?_)) (ae λh a=>?_)
 ·exact .inr ⟨t,i1,.inr ⟨v,i2,.inr ⟨c,i3,hK⟩⟩⟩
 ·exact h.imp (⟨·,a⟩) λh=>h.elim λt h=>⟨t,h.1,h.2.imp (⟨·,a⟩) λh=>h.elim λv h=>⟨v,h.1,.inl ⟨h.2,a⟩⟩⟩
theorem CR(g1:Γ 212 (cF 212 jL))(g2:Γ 160 iO)(g3:Γ 209 j7)(g4:Γ 545 oa)(g5:Γ 408 (cF 408 gO))(h:o7 args own Q X):aj Γ O OS tK (λCn U=>X Cn) ⟨args.map some++ay (Aj.length-2) Bx,own⟩ (aC own.length Q):=by
 obtain⟨xs,cnt,bi,bt,conf,hard,es,ps,rfl,rfl,h1,hl,hes,hps,hp,h⟩:=h
 show aj Γ O OS tK _ ⟨[some (.own 0),some (.d (.bytes xs)),Bx,Bx,Bx,Bx,Bx],[segO cnt bi bt conf hard (.own 1) (.own 2),.lst es,.lst ps]⟩ _
 have h:nv xs (X 68) λt v c=>(1+el t+el v+el c=xs.length/\Q (.d .none) [segO cnt bi bt conf (fB t v c) (.own 1) (.own 4),.lst (es++ps),.dead,cur xs xs.length,.lst []])\/(1+el t+el v+el c<xs.length/\X 56):=by
  refine nv.of ?_
  revert h;refine uO (λz0=>?_) (uO (λh=>?_) (λz1=>?_)) <;>(try rcases z0 with ⟨t,v,c,h,hQ⟩) <;>(try rcases z1 with ⟨t,v,c,e,h,he,hX⟩)
  ·exact .inl (dZ t v c _ ⟨h,.inl ⟨h.2.2.2.symm,hQ⟩⟩)
  ·exact .inr h
  ·exact .inl (dZ t v c e ⟨h,.inr ⟨h.2.2.2▸he,hX⟩⟩)
 walk_at"R"
 refine aq g1 rfl ⟨rfl,eJ rfl,xs,1,.inl rfl,rfl,hl,h1,rfl,.inl ?_⟩
 walk_at"N"
 walk_at"R"
 refine aq g2 rfl ⟨xs,1,rfl,rfl,hl,h1,?_⟩
 refine i9 h λt i1 h=>?_
 walk_at"N"
 walk_at"R"
 refine aq g2 rfl ⟨xs,1+el t,rfl,rfl,hl,i1.lt.2,?_⟩
 refine i9 h λv i2 h=>?_
 walk_at"N"
 walk_at"R"
 refine aq g2 rfl ⟨xs,1+el t+el v,rfl,rfl,hl,i2.lt.2,?_⟩
 refine i9 h λc i3 h=>?_
 walk_at"N"
 walk_at"R"
 refine aq g3 rfl ⟨xs,1+el t+el v+el c,rfl,rfl,hl,i3.lt.2,?_⟩
 refine qh h λi4 hQ=>?_
 refine rwr (i4 ..) ?_
 walk_at"N"
 walk_at"R"
 refine⟨λj st=>∃x,st=⟨[some (.own 0),some (.d (.bytes xs)),some (.own 3),some (.d (.int t)),some (.d (.int v)),some (.d (.int c)),x],[segO cnt bi bt conf hard (.own 1) (.own 2),.lst (es++ps.take j),.dead,cur xs xs.length]⟩,
  gw (by lia) ⟨Bx,by refine rwr (pZ ..) (rwr (bA ..) ?_);rfl⟩ ?_ ?_⟩
 ·refine λj d st1 hd=>uE1 λx z0=>?_;subst z0
  have hj:=cE hd
  refine elE3 (hp j d hd) λt' k' b' z0=>?_;subst z0
  have hlen:(es++ps.take j).length=es.length+j:=by exact rwr (bV ..) (rwr (fO ..) (rwr (gq (ci hj) ..) rfl))
  have fin:∀x,∃x',(⟨[some (.own 0),some (.d (.bytes xs)),some (.own 3),some (.d (.int t)),some (.d (.int v)),some (.d (.int c)),x],[segO cnt bi bt conf hard (.own 1) (.own 2),.lst (es++ps.take j++[eZ t' (bi+1+(es.length+j)) k' b']),.dead,cur xs xs.length]⟩:St) =
    ⟨[some (.own 0),some (.d (.bytes xs)),some (.own 3),some (.d (.int t)),some (.d (.int v)),some (.d (.int c)),x'],[segO cnt bi bt conf hard (.own 1) (.own 2),.lst (es++ps.take (j+1)),.dead,cur xs xs.length]⟩:=
   λx=>⟨x,by exact rwr (rx hd ..) (rwr (e_ ..) rfl)⟩
  walk_at"R"
  refine rwr (aM (hlen ..)) ?_
  refine aq g4 rfl ⟨cnt,bi,bt,conf,hard,es++ps.take j,t',k',b',rfl,rfl,by lia,?_⟩
  refine rwr (hlen ..) ?_
  walk_at"N"
  walk_at"R"
  exact fin _
 ·refine λst1=>uE1 λx z0=>?_;subst z0
  refine rwr (jr ..) ?_
  walk_at"R"
  refine aq g5 rfl ⟨rfl,eJ rfl,t,v,c,rfl,rfl,rfl,.inr ⟨gV t v c,rfl,?_⟩⟩
  walk_at"N"
  walk_at"R"
  exact cU 5 rfl rfl hQ
end

section
variable {Γ:Addr->aH->Prop}{O:bf}{OS:bJ}{args:List V}{own:List af}{Q:V->List af->Prop}{X:Nat->Prop}
def re(xs:List UInt8)(i t:Nat)(cb:List UInt8)(e:Nat):Prop:=br xs 1 i/\br xs (1+el i) t/\gZ xs (1+el i+el t) cb/\e=1+el i+el t+el cb.length+cb.length
def kv(xs:List UInt8):Prop:=cC xs 1\/∃i,br xs 1 i/\(cC xs (1+el i)\/∃t,br xs (1+el i) t/\ia xs (1+el i+el t))
def iN(xs:List UInt8)(i t:Nat)(a b c d:List Nat)(q:Bool)(e:Nat):Prop:=∃cb,re xs i t cb e/\cb.length<=10000/\bq a/\bq b/\bq c/\bq d/\lT cb a b c d q
inductive AV(Q:V->List af->Prop)(xs:List UInt8)(cnt:Nat)(hard:D)(es:List D)(ps:List D):Prop
 |mk (_:cnt=0) (i t a b c d q:_) (_:iN xs i t a b c d q xs.length) (_:Q (.d .none) [segO cnt i t (eT a b c d q) hard (.own 1) (.own 2),.lst es,.lst ps]):AV Q xs cnt hard es ps
inductive rQ(X:Nat->Prop)(xs:List UInt8)(cnt:Nat):Prop
 |mk (_:cnt=0) (i t a b c d q e:_) (_:iN xs i t a b c d q e) (_:e<xs.length) (_:X 56):rQ X xs cnt
inductive oi(args:List V)(own:List af)(Q:V->List af->Prop)(X:Nat->Prop):Prop
 |mk (xs:List UInt8) (cnt bi bt:Nat) (conf hard:D) (es ps:List D) (_:args=[.own 0,.d (.bytes xs)]) (_:own=[segO cnt bi bt conf hard (.own 1) (.own 2),.lst es,.lst ps]) (_:1<=xs.length) (_:xs.length<=10000) (_:AV Q xs cnt hard es ps\/(cnt=0/\kv xs/\X 68)\/rQ X xs cnt\/(0<cnt/\X 56)):oi args own Q X
def qE(xs:List UInt8)(A:Prop)(K:Nat->Nat->List UInt8->Prop):Prop :=
 (cC xs 1/\A)\/∃i,br xs 1 i/\((cC xs (1+el i)/\A)\/∃t,br xs (1+el i) t/\((ia xs (1+el i+el t)/\A)\/∃cb,gZ xs (1+el i+el t) cb/\K i t cb))
theorem qE.of{xs:List UInt8}{A:Prop}{K:Nat->Nat->List UInt8->Prop}(h:(∃i t cb e,re xs i t cb e/\K i t cb)\/(kv xs/\A)):qE xs A K:=by
 revert h;refine uO (l_ λi t cb e=>ae (aY λi1 i2 i3 U hK=>?_)) (ae λh a=>?_)
 ·exact .inr ⟨i,i1,.inr ⟨t,i2,.inr ⟨cb,i3,hK⟩⟩⟩
 ·exact h.imp (⟨·,a⟩) λh=>h.elim λt h=>⟨t,h.1,h.2.imp (⟨·,a⟩) λh=>h.elim λv h=>⟨v,h.1,.inl ⟨h.2,a⟩⟩⟩
inductive xe(xs:List UInt8)(E R:Prop)(Q:Nat->Nat->D->Prop)(i t:Nat)(cb:List UInt8):Prop
 |mk (a b c d:List Nat) (q:Bool) (_:cb.length<=10000/\bq a/\bq b/\bq c/\bq d/\lT cb a b c d q) (_:(1+el i+el t+el cb.length+cb.length=xs.length/\Q i t (eT a b c d q))\/(1+el i+el t+el cb.length+cb.length<xs.length/\E)):xe xs E R Q i t cb
theorem EK(g1:Γ 212 (cF 212 jL))(g2:Γ 160 iO)(g3:Γ 209 j7)(g4:Γ 181 lR)(g5:Γ 475 nD)(h:oi args own Q X):aj Γ O OS qv (λCn U=>X Cn) ⟨args.map some++ay (Ba.length-2) Bx,own⟩ (aC own.length Q):=by
 obtain⟨xs,cnt,bi,bt,conf,hard,es,ps,rfl,rfl,h1,hl,h⟩:=h
 show aj Γ O OS qv _ ⟨[some (.own 0),some (.d (.bytes xs)),Bx],[segO cnt bi bt conf hard (.own 1) (.own 2),.lst es,.lst ps]⟩ _
 have h:(0<cnt/\X 56)\/(cnt=0/\qE xs (X 68) (xe xs (X 56) True λi t cf=>Q (.d .none) [segO cnt i t cf hard (.own 1) (.own 2),.lst es,.lst ps])):=by
  revert h;refine uO (λz0=>?_) (uO (al λz h hX=>?_) (uO (λz1=>?_) (λh=>?_))) <;>(try rcases z0 with ⟨z,i,t,a,b,c,d,q,hk,hQ⟩) <;>(try rcases z1 with ⟨z,i,t,a,b,c,d,q,e,hk,he,hX⟩)
  ·exact .inr ⟨z,.of (.inl (hk.elim λcb k=>(dZ i t cb _ ⟨k.1,a,b,c,d,q,k.2,.inl ⟨k.1.2.2.2.symm,hQ⟩⟩)))⟩
  ·exact .inr ⟨z,.of (.inr ⟨h,hX⟩)⟩
  ·exact .inr ⟨z,.of (.inl (hk.elim λcb k=>(dZ i t cb e ⟨k.1,a,b,c,d,q,k.2,.inr ⟨k.1.2.2.2▸he,hX⟩⟩)))⟩
  ·exact .inl h
 revert h;refine uO (ae λh hX=>?_) (ae λz0 h=>?_) <;>(try subst z0)
 ·walk_at"R"
  exact hX
 walk_at"R"
 refine aq g1 rfl ⟨rfl,eJ rfl,xs,1,.inl rfl,rfl,hl,h1,rfl,.inl ?_⟩
 walk_at"N"
 walk_at"R"
 refine aq g2 rfl ⟨xs,1,rfl,rfl,hl,h1,?_⟩
 refine i9 h λi i1 h=>?_
 walk_at"N"
 walk_at"R"
 refine aq g2 rfl ⟨xs,1+el i,rfl,rfl,hl,i1.lt.2,?_⟩
 refine i9 h λt i2 h=>?_
 walk_at"N"
 walk_at"R"
 refine aq g4 rfl ⟨xs,1+el i+el t,rfl,rfl,hl,i2.lt.2,?_⟩
 refine yU h λcb i3 h=>?_
 walk_at"N"
 walk_at"R"
 obtain⟨a,b,c,d,q,k,h⟩:=h
 refine aq g5 rfl ⟨cb,a,b,c,d,q,rfl,rfl,k.1,k.2.1,k.2.2.1,k.2.2.2.1,k.2.2.2.2.1,k.2.2.2.2.2,?_⟩
 walk_at"N"
 walk_at"R"
 refine aq g3 rfl ⟨xs,_,rfl,rfl,hl,i3.2.1,?_⟩
 refine qh h λU hQ=>?_
 walk_at"N"
 walk_at"R"
 exact cU 3 rfl rfl hQ
inductive fw(cnt:Nat)(xs:List UInt8):Prop
 |nil (_:xs=[]):fw cnt xs
 |k0 (c:UInt8) (_:xs[0]? = some c) (_:cnt=0) (_:c.toNat≠4):fw cnt xs
 |k1 (c:UInt8) (_:xs[0]? = some c) (_:cnt=1) (_:c.toNat≠1):fw cnt xs
 |k2 (c:UInt8) (_:xs[0]? = some c) (_:2<=cnt) (_:c.toNat≠1) (_:c.toNat≠2):fw cnt xs
 |fold (c:UInt8) (_:xs[0]? = some c) (_:cnt=0) (_:c.toNat=4) (_:kv xs\/∃i t a b c d q e,iN xs i t a b c d q e/\e<xs.length):fw cnt xs
 |hard (c:UInt8) (_:xs[0]? = some c) (_:1<=cnt) (_:c.toNat=1) (_:kR xs\/∃t v c e,h_ xs t v c e/\e<xs.length):fw cnt xs
 |ent (c:UInt8) (_:xs[0]? = some c) (_:2<=cnt) (_:c.toNat=2) (_:kT (xs.drop 1)\/∃t i k b e,gG (xs.drop 1) t i k b e/\e<(xs.drop 1).length):fw cnt xs
inductive tV(Q:V->List af->Prop)(xs:List UInt8)(cnt:Nat)(hard:D)(es:List D)(ps:List D):Prop
 |mk (_:cnt=0) (_:xs[0]? = some 4) (i t a b c d q:_) (_:iN xs i t a b c d q xs.length) (_:Q (.d .none) [segO 1 i t (eT a b c d q) hard (.own 1) (.own 2),.lst es,.lst ps]):tV Q xs cnt hard es ps
inductive qU(Q:V->List af->Prop)(xs:List UInt8)(cnt:Nat)(bi:Nat)(bt:Nat)(conf:D)(es:List D)(ps:List D):Prop
 |mk (_:1<=cnt) (_:xs[0]? = some 1) (t v c:_) (_:h_ xs t v c xs.length) (_:Q (.d .none) [segO (cnt+1) bi bt conf (fB t v c) (.own 1) (.own 4),.lst (es++ps),.dead,cur xs xs.length,.lst []]):qU Q xs cnt bi bt conf es ps
inductive rL(Q:V->List af->Prop)(xs:List UInt8)(cnt:Nat)(bi:Nat)(bt:Nat)(conf:D)(hard:D)(es:List D)(ps:List D):Prop
 |mk (_:2<=cnt) (_:xs[0]? = some 2) (t i k b:_) (_:gG (xs.drop 1) t i k b (xs.drop 1).length) (_:Q (.d .none) [segO (cnt+1) bi bt conf hard (.own 1) (.own 2),.lst es,.lst (ps++[eZ t i k b])]):rL Q xs cnt bi bt conf hard es ps
inductive gS(args:List V)(own:List af)(Q:V->List af->Prop)(X:Nat->Prop):Prop
 |mk (xs:List UInt8) (cnt bi bt:Nat) (conf hard:D) (es ps:List D) (_:args=[.own 0,.d (.bytes xs)]) (_:own=[segO cnt bi bt conf hard (.own 1) (.own 2),.lst es,.lst ps]) (_:xs.length<=10000) (_:es.length<=100) (_:ps.length<=100) (_:jJ bi es.length ps) (_:tV Q xs cnt hard es ps\/qU Q xs cnt bi bt conf es ps\/rL Q xs cnt bi bt conf hard es ps\/(fw cnt xs/\X 56/\X 68)):gS args own Q X
theorem wO{p q A B:Prop}{dp:Decidable p}{dq:Decidable q}(a:p/\¬q->A)(b:¬(p/\¬q)->B):(decide p=true->(((!decide q)=true->A)/\((!decide q)=false->B)))/\(decide p=false->B):=
 ⟨λe=>⟨λe2=>a ⟨of_decide_eq_true e,mz e2⟩,λe2=>b λz=>z.2 (tL e2)⟩,λe=>b λz=>of_decide_eq_false e z.1⟩
inductive AK(cnt:Nat)(E F H N:Prop)(c:Nat):Prop
 |mk (_:(cnt:Int)=0/\¬(c:Int)=4->E) (_:(cnt:Int)=1/\¬(c:Int)=1->E) (_:¬((cnt:Int)=0/\¬(c:Int)=4)->¬((cnt:Int)=1/\¬(c:Int)=1)->((c:Int)=4->F)/\(¬(c:Int)=4->(c:Int)=1->H)/\(¬(c:Int)=4->¬(c:Int)=1->(c:Int)=2->N)/\(¬(c:Int)=4->¬(c:Int)=1->¬(c:Int)=2->E)):AK cnt E F H N c
theorem Gc{xs:List UInt8}{cnt:Nat}{E A B C F H N Y:Prop}(h:A\/B\/C\/(fw cnt xs/\E/\Y))(hA:A->cnt=0/\xs[0]? = some 4/\F)(hB:B->1<=cnt/\xs[0]? = some 1/\H)(hC:C->2<=cnt/\xs[0]? = some 2/\N)
  (hF:cnt=0->(kv xs\/∃i t a b c d q e,iN xs i t a b c d q e/\e<xs.length)->E->Y->F) (hF0:0<cnt->E->F) (hH:(kR xs\/∃t v c e,h_ xs t v c e/\e<xs.length)->E->Y->H) (hN:(kT (xs.drop 1)\/∃t i k b e,gG (xs.drop 1) t i k b e/\e<(xs.drop 1).length)->E->Y->N):
  (xs=[]/\E)\/∃c:UInt8,xs[0]? = some c/\AK cnt E F H N c.toNat:=by
 have n0:1<=cnt->¬(cnt:Int)=0:=λh e=>gF h (iE e)
 have n1:2<=cnt->¬(cnt:Int)=1:=λh e=>gF h (iE e)
 have k:∀{c:UInt8} {n:Nat},c.toNat=n->(c.toNat:Int)=n:=congrArg kc
 have m:∀{c:UInt8} {n:Nat},c.toNat≠n->¬(c.toNat:Int)=n:=λh e=>h (iE e)
 revert h;refine uO (λh=>?_) (uO (λh=>?_) (uO (λh=>?_) (al λh e y=>?_)))
 ·refine bN (hA h) λz h0 f=>?_
  exact .inr ⟨4,h0,λz=>absurd rfl z.2,λq=>absurd q.1 (by refine rwr (z ..) ?_;decide),λU U=>⟨λU=>f,λz=>absurd rfl z,λz=>absurd rfl z,λz=>absurd rfl z⟩⟩
 ·refine bN (hB h) λhc h0 f=>?_
  exact .inr ⟨1,h0,λz=>absurd z.1 (n0 hc),λz=>absurd rfl z.2,λU U=>⟨λz=>absurd z (by decide),λU U=>f,λU z=>absurd rfl z,λU z=>absurd rfl z⟩⟩
 ·refine bN (hC h) λhc h0 f=>?_
  exact .inr ⟨2,h0,λz=>absurd z.1 (n0 (ci hc)),λz=>absurd z.1 (n1 hc),λU U=>⟨λz=>absurd z (by decide),λU z=>absurd z (by decide),λU U U=>f,λU U z=>absurd rfl z⟩⟩
 ·cases h with
  |nil h=>exact .inl ⟨h,e⟩
  |k0 c h a b=>exact .inr ⟨c,h,λU=>e,λU=>e,λz=>absurd ⟨congrArg kc a,m b⟩ z⟩
  |k1 c h a b=>exact .inr ⟨c,h,λU=>e,λU=>e,λU z=>absurd ⟨congrArg kc a,m b⟩ z⟩
  |k2 c h a b d=>exact .inr ⟨c,h,λU=>e,λU=>e,λU U=>⟨λU=>hF0 (dG (by decide) a) e,λU z=>absurd z (m b),λU U z=>absurd z (m d),λU U U=>e⟩⟩
  |fold c h a b d=>exact .inr ⟨c,h,λU=>e,λU=>e,λU U=>⟨λU=>hF a d e y,λz=>absurd (k b) z,λz=>absurd (k b) z,λU U U=>e⟩⟩
  |hard c h a b d=>exact .inr ⟨c,h,λU=>e,λU=>e,λU U=>⟨λz=>absurd ((k b).symm.trans z) (by decide),λU U=>hH d e y,λU z=>absurd (k b) z,λU U U=>e⟩⟩
  |ent c h a b d=>exact .inr ⟨c,h,λU=>e,λU=>e,λU U=>⟨λz=>absurd ((k b).symm.trans z) (by decide),λU z=>absurd ((k b).symm.trans z) (by decide),λU U U=>hN d e y,λU U U=>e⟩⟩
theorem G9(g1:Γ 531 oi)(g2:Γ 538 o7)(g3:Γ 363 nK)(h:gS args own Q X):aj Γ O OS t5 (λCn U=>X Cn) ⟨args.map some++ay (x0.length-2) Bx,own⟩ (aC own.length Q):=by
 obtain⟨xs,cnt,bi,bt,conf,hard,es,ps,rfl,rfl,hl,hes,hps,hp,h⟩:=h
 show aj Γ O OS t5 _ ⟨[some (.own 0),some (.d (.bytes xs)),Bx],[segO cnt bi bt conf hard (.own 1) (.own 2),.lst es,.lst ps]⟩ _
 have h:=Gc (F:=tV Q xs cnt hard es ps\/(cnt=0/\kv xs/\X 68)\/rQ X xs cnt\/(0<cnt/\X 56)) (H:=qU Q xs cnt bi bt conf es ps\/(kR xs/\X 68)\/t6 X xs) (N:=rL Q xs cnt bi bt conf hard es ps\/(kT (xs.drop 1)/\X 68)\/tS X (xs.drop 1)) h
  (λh=>⟨h.casesOn λa U U U U U U U U U U=>a,h.casesOn λU a U U U U U U U U U=>a,.inl h⟩) (λh=>⟨h.casesOn λa U U U U U U=>a,h.casesOn λU a U U U U U=>a,.inl h⟩) (λh=>⟨h.casesOn λa U U U U U U U=>a,h.casesOn λU a U U U U U U=>a,.inl h⟩)
  (λz h e y=>.inr (by
   revert h;refine uO (λh=>?_) (ID λi t a b c d q e' h=>?_)
   ·exact .inl ⟨z,h,y⟩
   ·exact .inr (.inl ⟨z,i,t,a,b,c,d,q,e',h.1,h.2,e⟩))) (λz e=>.inr (.inr (.inr ⟨z,e⟩)))
  (λh e y=>.inr (by
   revert h;refine uO (λh=>?_) (l_ λt v c e' h=>?_)
   ·exact .inl ⟨h,y⟩
   ·exact .inr ⟨t,v,c,e',h.1,h.2,e⟩)) (λh e y=>.inr (by
   revert h;refine uO (λh=>?_) (Am λt i k b e' h=>?_)
   ·exact .inl ⟨h,y⟩
   ·exact .inr ⟨t,i,k,b,e',h.1,h.2,e⟩))
 refine ao h (ae λz0 hX=>?_) (uE1 λc z1=>?_) <;>clear h <;>(try subst z0) <;>(try rcases z1 with ⟨h0,hA,hB,hC⟩)
 ·walk_at"R"
  exact hX
 have hlt:=cE h0
 walk_at"R"
 refine bg h0 ?_
 walk_at"R"
 refine wO (λq=>?_) λq1=>?_
 ·walk_at"R"
  exact hA q
 walk_at"R"
 refine wO (λq=>?_) λq2=>?_
 ·walk_at"R"
  exact hB q
 refine cX (hC q1 q2) λhF hH hN hE=>?_
 walk_at"R"
 refine fu (λq=>?_) λq3=>?_
 ·walk_at"R"
  refine aq g1 rfl ⟨xs,cnt,bi,bt,conf,hard,es,ps,rfl,rfl,hlt,hl,?_⟩
  refine(hF q).imp (λh=>?_) id
  obtain⟨rfl,_,i,t,a,b,c,d,q,hf,hQ⟩:=h
  refine⟨rfl,i,t,a,b,c,d,q,hf,?_⟩
  walk_at"N"
  walk_at"R"
  exact cU 3 rfl rfl hQ
 walk_at"R"
 refine fu (λq=>?_) λq4=>?_
 ·walk_at"R"
  refine aq g2 rfl ⟨xs,cnt,bi,bt,conf,hard,es,ps,rfl,rfl,hlt,hl,hes,hps,hp,?_⟩
  refine(hH q3 q).imp (λh=>?_) id
  obtain⟨_,_,t,v,c,hf,hQ⟩:=h
  refine⟨t,v,c,hf,?_⟩
  walk_at"N"
  walk_at"R"
  exact cU 5 rfl rfl hQ
 walk_at"R"
 refine fu (λq=>?_) λq5=>?_
 ·walk_at"R"
  refine aq g3 rfl ⟨xs.drop 1,rfl,rfl,mo hl,?_⟩
  refine(hN q3 q4 q).imp (λh=>?_) id
  obtain⟨_,_,t,i,k,b,hf,hQ⟩:=h
  refine⟨t,i,k,b,hf,?_⟩
  walk_at"N"
  walk_at"R"
  exact cU 3 rfl rfl hQ
 have hc:=c.toNat_lt
 have hs:(aa (toString (c.toNat:Int))).length<=200:=aJ (toString_length_le (k:=20) (by lia) (by decide) (by lia)) (by decide)
 walk_at"R"
 refine⟨gz c.toNat_lt rfl,?_⟩
 walk_at"R"
 refine⟨by
  have e:(aa "an unknown record in raft's log: ").length=33:=by decide
  refine rwr (e ..) ?_;lia,?_⟩
 walk_at"R"
 exact hE q3 q4 q5
end

section
variable {Γ:Addr->aH->Prop}{O:bf}{OS:bJ}{args:List V}{own:List af}{Q:V->List af->Prop}{X:Nat->Prop}
theorem bz(a b:Nat):(a:Int).fmod (b:Int)=((a%b:Nat):Int):=by
 refine rwr (uW _ bW) ?_;simp
theorem da(a b:Nat):(a:Int).fdiv (b:Int)=((a/b:Nat):Int):=by
 refine rwr (Lz _ bW) ?_;simp
theorem DE{ns:List Nat}{i n:Nat}(h:ns[i]? = some n):(aw ns)[i]? = some (.int n):=by
 unfold aw;refine rwr (dO ..) (rwr (h ..) ?_);rfl
noncomputable def gJ(ns:List Nat)(i:Nat):Nat:=((ns[i%ns.length]?).getD 0)+7919*(i/ns.length)
inductive f_(args:List V)(own:List af)(Q:V->List af->Prop)(X:Nat->Prop):Prop
 |mk (ns:List Nat) (i:Nat) (_:args=[.d (.list (aw ns)),.d (.int i)]) (_:own=[]) (_:ns≠[]) (_:ns.length<=1000) (_:Q (.d (.int (gJ ns i))) []):f_ args own Q X
theorem J7(h:f_ args own Q X):aj Γ O OS qO (λCn U=>X Cn) ⟨args.map some++ay (Au.length-2) Bx,own⟩ (aC own.length Q):=by
 obtain⟨ns,i,rfl,rfl,hne,hl,hQ⟩:=h
 show aj Γ O OS qO _ ⟨[some (.d (.list (aw ns))),some (.d (.int i))],[]⟩ _
 have hlen:0<ns.length:=by cases ns with | nil=>exact absurd rfl hne | cons=>simp
 have hdl:=db ns
 have hlt:=bE i hlen
 refine elE1 (show ∃n,ns[i%ns.length]? = some n from ⟨_,cM hlt⟩) λn hn=>?_
 have hd:gJ ns i=n+7919*(i/ns.length):=by unfold gJ;refine rwr (hn ..) ?_;rfl
 have h9:((aw ns).length:Int).natAbs<1000000000:=fD (aJ (bH hdl) hl) rfl
 walk_at"R"
 refine rwr (hdl ..) ?_
 walk_at"R"
 refine rwr (bz ..) ?_
 refine .inl ⟨bW,eF (m:=1000000) (dG hlt (bP hl rfl)),bg (x:=.int n) (by refine rwr (cS ..) ?_;exact DE hn) ?_⟩
 walk_at"R"
 refine rwr (hdl ..) (rwr (da ..) ?_)
 refine be 0 rfl rfl rfl ?_
 rw[hd]at hQ
 have e:(n:Int)+7919*((i/ns.length:Nat):Int)=((n+7919*(i/ns.length):Nat):Int):=rfl
 show Q (.d (.int ((n:Int)+7919*((i/ns.length:Nat):Int)))) []
 refine rwr (e ..) ?_
 exact hQ
noncomputable def fT:List (List UInt8):=[[58],[47],[95],[32],[43],[45],[46],[10],[13],[0],[120],[101],[255],[217,163],[194,178]]
inductive jC(args:List V)(own:List af)(Q:V->List af->Prop)(X:Nat->Prop):Prop
 |mk (_:args=[]) (_:own=[]) (_:Q (.d (.list (fT.map D.bytes))) []):jC args own Q X
theorem KM(h:jC args own Q X):aj Γ O OS tb (λCn U=>X Cn) ⟨args.map some++ay (Bj.length-0) Bx,own⟩ (aC own.length Q):=by
 obtain⟨rfl,rfl,hQ⟩:=h
 show aj Γ O OS tb _ ⟨[],[]⟩ _
 walk_at"R"
 exact be 0 rfl rfl rfl hQ
noncomputable def gM:Nat->Nat->Nat->List Nat->List Nat
 |0,_,_,out=>out
 |f+1,n,least,out=>if 0<n\/out.length<least then gM f (n/10) least (n%10::out) else out
noncomputable def fg(n least:Nat)(out:List Nat):List Nat:=gM (n+(least-out.length)) n least out
theorem jB{n least:Nat}{out:List Nat}(h:¬(0<n\/out.length<least)):∀f,gM f n least out=out
 |0=>rfl
 |_+1=>if_neg h
theorem f0{n least k f:Nat}(h:0<n\/k<least)(h1:n+(least-k)<=f+1):n/10+(least-(k+1))<=f:=by
 refine rwr (Nat.sub_add_eq ..) ?_
 have h2:0<n\/0<least-k:=h.imp id uX
 exact lk (dG (h2.elim (λa=>LA (Nat.div_lt_self a (by decide)) (fb _ _)) λa=>Nat.add_lt_add_of_le_of_lt (uY _ _) (Nat.sub_lt a Nat.one_pos)) h1)
theorem sH{n least k:Nat}(h:0<n\/k<least):∃m,n+(least-k)=m+1:=⟨_,(Nat.succ_pred_eq_of_pos (h.elim (λh=>Nat.add_pos_left h _) λh=>Nat.add_pos_right _ (uX h))).symm⟩
theorem nr{n l k:Nat}(h:n+(l-k)<=0):¬(0<n\/k<l):=λa=>a.elim (λb=>absurd h (pY.mpr (Nat.add_pos_left b _))) λb=>absurd h (pY.mpr (Nat.add_pos_right _ (uX b)))
theorem Bs:∀{f g n least:Nat} {out:List Nat},n+(least-out.length)<=f->n+(least-out.length)<=g->gM f n least out=gM g n least out
 |0,g,n,least,out,h,_=>by exact rwr (jB (nr h) ..) (rwr (jB (nr h) ..) rfl)
 |f+1,0,n,least,out,_,h=>by exact rwr (jB (nr h) ..) (rwr (jB (nr h) ..) rfl)
 |f+1,g+1,n,least,out,h1,h2=>by
  by_cases h:0<n\/out.length<least
  ·show (if 0<n\/out.length<least then gM f (n/10) least (n%10::out) else out)=(if 0<n\/out.length<least then gM g (n/10) least (n%10::out) else out)
   exact rwr (if_pos h ..) (rwr (if_pos h ..) (rwr (Bs (f:=f) (g:=g) (f0 h h1) (f0 h h2)) rfl))
  ·exact rwr (jB h ..) (rwr (jB h ..) rfl)
theorem f9{n least:Nat}{out:List Nat}(h:0<n\/out.length<least):fg n least out=fg (n/10) least (n%10::out):=by
 refine elE1 (sH h) λm e=>?_
 have e2:fg n least out=gM (m+1) n least out:=by unfold fg;exact rwr (aM (e ..)) rfl
 refine rwr (e2 ..) ?_
 show (if 0<n\/out.length<least then gM m (n/10) least (n%10::out) else out)=_
 refine rwr (if_pos h ..) ?_
 exact Bs (f0 h (bH e)) (bG _)
theorem fX{n least:Nat}{out:List Nat}(h:¬(0<n\/out.length<least)):fg n least out=out:=jB h _
theorem nM{least:Nat}{P:Nat->List Nat->Prop}(he:∀n out,¬(0<n\/out.length<least)->P n out)(hs:∀n out,0<n\/out.length<least->P (n/10) (n%10::out)->P n out)(n:Nat)(out:List Nat):P n out:=by
 have H:∀(k n:Nat) (out:List Nat),n+(least-out.length)<=k->P n out:=by
  intro k
  induction k with
  |zero=>exact λn out h=>he n out λc=>(sH c).elim λm e=>nomatch (e▸h:m+1<=0)
  |succ k ih=>exact λn out h=>(Decidable.em (0<n\/out.length<least)).elim (λc=>hs n out c (ih _ _ (f0 c h))) (he n out)
 exact H _ n out (bG _)
inductive mj(args:List V)(own:List af)(Q:V->List af->Prop)(X:Nat->Prop):Prop
 |mk (n least:Nat) (_:args=[.d (.int n),.d (.int least)]) (_:own=[]) (_:n<10^20) (_:least<=100) (_:Q (.d (.list (aw (fg n least [])))) []):mj args own Q X
theorem G'(h:mj args own Q X):aj Γ O OS ta (λCn U=>X Cn) ⟨args.map some++ay (vi.length-2) Bx,own⟩ (aC own.length Q):=by
 obtain⟨n,least,rfl,rfl,hn,hl,hQ⟩:=h
 show aj Γ O OS ta _ ⟨[some (.d (.int n)),some (.d (.int least)),Bx],[]⟩ _
 walk_at"R"
 refine⟨λm st=>∃(i:Nat) (out:List Nat),m=i+(least-out.length)/\fg i least out=fg n least []/\out.length<=200/\(10^out.length*i<10^20*10)/\(0<i->out.length<21)/\st=⟨[some (.d (.int i)),some (.d (.int least)),some (.d (.list (aw out)))],[]⟩,
  n+least,⟨n,[],by simp,rfl,by simp,by show 10^0*n<_;rw[Nat.pow_zero,Nat.one_mul];exact dG hn (by decide),by simp,rfl⟩,?_⟩
 refine λm st1=>uE2 λi out=>eS λz0 hf hl2 hpow hb z1=>?_;subst z0;subst z1
 have hdl:=db out
 have hd2:(aw out).length<=1000000:=aJ (bH hdl) (bP hl2 rfl)
 have step:0<i\/out.length<least->∃m,m<i+(least-out.length)/\∃(i':Nat) (out':List Nat),m=i'+(least-out'.length)/\fg i' least out'=fg n least []/\out'.length<=200/\(10^out'.length*i'<10^20*10)/\(0<i'->out'.length<21) /\
   (⟨[some (.d (.int (i/10:Nat))),some (.d (.int least)),some (.d (.list (.int (i%10:Nat)::aw out)))],[]⟩:St)=⟨[some (.d (.int i')),some (.d (.int least)),some (.d (.list (aw out')))],[]⟩:=λh=>by
  have p1:10^(out.length+1)*(i/10)<=10^out.length*i:=by
   refine rwr (mQ ..) (rwr (p9 ..) ?_)
   exact lb _ (Nat.mul_div_le i 10)
  refine elE1 (sH h) λm em=>?_
  refine⟨_,?_,ex2 (i/10) (i%10::out) ⟨rfl,by refine rwr (aM (f9 h ..)) ?_;exact hf,?_,cy p1 hpow,λhi=>?_,rfl⟩⟩
  ·exact cy (f0 h (bH em)) (em▸iy m)
  ·exact(mM i).elim (λz=>h.elim (λq=>absurd z (gF q)) λq=>aJ q (aJ hl (bL rfl))) λq=>aJ (hb q) (bL rfl)
  ·have:=hb (lh λz=>by rw[z]at hi;exact absurd hi (by decide))
   refine(Nat.lt_or_eq_of_le (lk this)).elim (λq=>Nat.succ_lt_succ q) λe=>?_
   rw[e]at p1 hpow
   have q:10^21*1<=10^21*(i/10):=lb _ hi
   exact absurd (cy (aJ q p1) hpow) (by decide)
 refine ao ((mM i).symm.imp id λz=>(mR out.length least).imp (dg z) (dg z)) (λc=>?_) (uO (λc=>?_) λc=>?_)
 ·have c1:(0:Int)<i:=cB.mpr c
  walk_at"R"
  refine⟨by refine rwr (hdl ..) ?_;show 0+1+out.length<=100000;exact bp (bG _) hl2 rfl,?_⟩
  walk_at"R"
  have f1:(i:Int).fmod 10=((i%10:Nat):Int):=bz i 10
  have f2:(i:Int).fdiv 10=((i/10:Nat):Int):=da i 10
  have e:=step (.inl c)
  rw[<-f1,<-f2]at e
  exact e
 ·have c1:¬(0:Int)<i:=λe=>gF (cB.mp e) c.1
  have c2:((aw out).length:Int)<least:=cB.mpr (cy (bH hdl) c.2)
  walk_at"R"
  refine⟨by refine rwr (hdl ..) ?_;show 0+1+out.length<=100000;exact bp (bG _) hl2 rfl,?_⟩
  walk_at"R"
  have f1:(i:Int).fmod 10=((i%10:Nat):Int):=bz i 10
  have f2:(i:Int).fdiv 10=((i/10:Nat):Int):=da i 10
  have e:=step (.inr c.2)
  rw[<-f1,<-f2]at e
  exact e
 ·have c1:¬(0:Int)<i:=λe=>gF (cB.mp e) c.1
  have c2:¬((aw out).length:Int)<least:=λe=>j9.mpr c.2 (cy (bH hdl.symm) (cB.mp e))
  walk_at"R"
  rw[fX λq=>q.elim (λq=>absurd c.1 (gF q)) λq=>fM _ (dG q c.2)]at hf
  rw[<-hf]at hQ
  exact be 0 rfl rfl rfl hQ
inductive iV(args:List V)(own:List af)(Q:V->List af->Prop)(X:Nat->Prop):Prop
 |mk (n:Nat) (_:args=[.d (.int n)]) (_:own=[]) (_:n<16384) (_:Q (.d (.bytes (az n))) []):iV args own Q X
noncomputable def gi(l:List UInt8):List D:=l.map λc=>.int c.toNat
theorem v9(l:List UInt8)(c:UInt8):gi (l++[c])=gi l++[.int c.toNat]:=by unfold gi;simp
theorem E0(h:iV args own Q X):aj Γ O OS qI (λCn U=>X Cn) ⟨args.map some++ay (Aq.length-1) Bx,own⟩ (aC own.length Q):=by
 obtain⟨n,rfl,rfl,hn,hQ⟩:=h
 show aj Γ O OS qI _ ⟨[some (.d (.int n)),Bx],[]⟩ _
 walk_at"R"
 refine⟨λm st=>∃(l:List UInt8),l++az m=az n/\m<16384/\st=⟨[some (.d (.int m)),some (.own 0)],[.lst (gi l)]⟩,n,⟨[],rfl,hn,rfl⟩,?_⟩
 refine λm st1=>uE1 λl=>al λhe hm z0=>?_;subst z0
 have h1:=fL hn
 have h2:l.length<=2:=by rw[<-he,bV]at h1;exact aJ (jk _ _) h1
 have h3:(gi l).length=l.length:=by unfold gi;simp
 have h4:(gi l).length<=1000000:=aJ (bH h3) (bP h2 rfl)
 by_cases h:m<128
 ·have hu:=cu (n:=m) (cg h (by decide))
  have c1:¬(127:Int)<m:=λe=>pY.mpr h (cB.mp e)
  walk_at"R"
  rw[ew h]at he
  rw[<-he]at hQ
  refine⟨by refine rwr (h3 ..) ?_;show l.length+(0+1)<=100000;exact bp h2 (bG _) rfl,?_⟩
  walk_at"R"
  refine⟨l++[m.toUInt8],by show gi l++[D.int m]=gi (l++[m.toUInt8]);exact rwr (v9 ..) (rwr (hu ..) rfl),et (n:=1) h2 (bG _) rfl,?_⟩
  exact be 0 rfl rfl rfl hQ
 ·have h':=eN h
  have hu:=cu (n:=m%128+128) (uS (bE _ (by decide)) 128)
  have c1:(127:Int)<m:=cB.mpr h'
  have f1:(m:Int).fmod 128=((m%128:Nat):Int):=bz m 128
  have f2:(m:Int).fdiv 128=((m/128:Nat):Int):=da m 128
  rw[j3 h']at he
  have fin:(⟨[some (.d (.int ((m:Int).fdiv 128))),some (.own 0)],[.lst (gi l++[.int ((m:Int).fmod 128+128)])]⟩:St)=⟨[some (.d (.int (m/128:Nat))),some (.own 0)],[.lst (gi (l++[(m%128+128).toUInt8]))]⟩:=by
   refine rwr (v9 ..) (rwr (hu ..) (rwr (f1 ..) (rwr (f2 ..) ?_)));rfl
  walk_at"R"
  exact⟨m/128,Nat.div_lt_self (dG (by decide) h') (by decide),l++[(m%128+128).toUInt8],by refine rwr (e_ ..) ?_;exact he,cy (uY _ _) hm,fin⟩
inductive o5(args:List V)(own:List af)(Q:V->List af->Prop)(X:Nat->Prop):Prop
 |mk (ns:List Nat) (_:args=[.d (.list (aw ns))]) (_:own=[]) (_:ns.length<=60) (_:(∀n∈ns,n<16384)) (_:Q (.d (.bytes (dw ns))) []):o5 args own Q X
theorem Hv(g1:Γ 665 iV)(h:o5 args own Q X):aj Γ O OS rN (λCn U=>X Cn) ⟨args.map some++ay (yx.length-1) Bx,own⟩ (aC own.length Q):=by
 obtain⟨ns,rfl,rfl,hl,h16,hQ⟩:=h
 show aj Γ O OS rN _ ⟨[some (.d (.list (aw ns))),Bx,Bx],[]⟩ _
 have hdl:=db ns
 have hu:=cu (n:=ns.length) (fD hl rfl)
 walk_at"R"
 refine⟨[ns.length.toUInt8],by show [D.int ((aw ns).length:Nat)]=[D.int (ns.length.toUInt8.toNat:Nat)];exact rwr (hu ..) (rwr (hdl ..) rfl),bL rfl,?_⟩
 walk_at"R"
 refine⟨λj st=>∃x,st=⟨[some (.d (.list (aw ns))),some (.d (.bytes (az ns.length++dN (ns.take j)))),x],[]⟩,gw (aJ (bH hdl) (bP hl rfl)) ⟨Bx,by refine rwr (ew (fD hl rfl)) ?_;rfl⟩ ?_ ?_⟩
 ·refine λj d st1 hd=>uE1 λx z0=>?_;subst z0
  refine elE1 (pA hd) λn=>ae λhn z0=>?_;subst z0
  have hj:=cE hn
  have hb:=om (ns:=ns.take j) λm hm=>h16 m (mB hm)
  have hn16:=h16 n (cw hn)
  have he:=fL hn16
  have hl':=fL (n:=ns.length) (fD hl rfl)
  rw[fO,gq (ci hj)]at hb
  have hb:=aJ hb (lb 2 (aJ (ci hj) hl))
  have fin:(⟨[some (.d (.list (aw ns))),some (.d (.bytes (az ns.length++dN (ns.take j)++az n))),some (.d (.int n))],[]⟩:St)=⟨[some (.d (.list (aw ns))),some (.d (.bytes (az ns.length++dN (ns.take (j+1))))),some (.d (.int n))],[]⟩:=by
   exact rwr (xY hn ..) (rwr (e_ ..) rfl)
  walk_at"R"
  refine aq g1 rfl ⟨n,rfl,rfl,hn16,?_⟩
  walk_at"N"
  walk_at"R"
  refine⟨bp (m:=122) (et hl' hb rfl) he rfl,?_⟩
  exact⟨_,fin⟩
 ·refine λst1=>uE1 λx z0=>?_;subst z0
  refine rwr (hdl ..) (rwr (jr ..) ?_)
  walk_at"R"
  exact be 0 rfl rfl rfl hQ
end

section
variable {Γ:Addr->aH->Prop}{O:bf}{OS:bJ}{args:List V}{own:List af}{Q:V->List af->Prop}{X:Nat->Prop}
noncomputable def gt(c:UInt8):Bool:=decide (48<=c.toNat/\c.toNat<=57)
noncomputable def dW(l:List UInt8):Nat:=l.foldl (λa c=>a*10+(c.toNat-48)) 0
def kS(xs:List UInt8):Prop:=2<=xs.length/\xs[xs.length-1]? = some 10/\∀c∈xs.take (xs.length-1),gt c=true
inductive o6(args:List V)(own:List af)(Q:V->List af->Prop)(X:Nat->Prop):Prop
 |mk (xs:List UInt8) (_:args=[.d (.bytes xs)]) (_:own=[]) (_:xs.length<=19) (_:((kS xs/\Q (.d (.int (dW (xs.take (xs.length-1))))) [])\/(¬kS xs/\X 56))):o6 args own Q X
theorem yM(l:List UInt8)(c:UInt8):dW (l++[c])=dW l*10+(c.toNat-48):=by unfold dW;simp
theorem wu:∀(k:Nat) (l:List UInt8),l.length<=k->(∀c∈l,gt c=true)->dW l<10^k:=by
 intro k l
 have:∀(l:List UInt8) (a:Nat),(∀c∈l,gt c=true)->l.foldl (λa c=>a*10+(c.toNat-48)) a<10^l.length*(a+1):=by
  intro l
  induction l with
  |nil=>intro a U;simp
  |cons c r ih =>
   intro a h
   have hc:=of_decide_eq_true (h c (.head _))
   have:=ih (a*10+(c.toNat-48)) λd hd=>h d (.tail _ hd)
   refine dG this ?_
   refine rwr (iA ..) (rwr (mQ ..) (rwr (p9 ..) ?_))
   have h9:=lg hc.2 48
   generalize c.toNat-48=d at h9
   clear hc this ih h
   exact lb _ (by lia)
 intro hl h
 have h2:=this l 0 h
 refine dG h2 ?_
 simp
 exact uZ (by decide) hl
theorem HJ{l:List UInt8}{j:Nat}{d:D}(h:(l.map λc=>D.int c.toNat)[j]? = some d):∃c,l[j]? = some c/\d=.int c.toNat:=by
 rw[dO]at h
 cases e:l[j]? with
 |none=>rw[e]at h;cases h
 |some c=>rw[e]at h;simp only[li,lj]at h;exact⟨c,rfl,h.symm⟩
theorem jt{α:Type}{xs:List α}{n:Nat}{i:Int}(h:i=(n:Int)):cut xs Bx (some i)=xs.take n:=by subst h;unfold cut;simp
theorem H_(h:o6 args own Q X):aj Γ O OS tF (λCn U=>X Cn) ⟨args.map some++ay (vX.length-1) Bx,own⟩ (aC own.length Q):=by
 obtain⟨xs,rfl,rfl,hl,h⟩:=h
 show aj Γ O OS tF _ ⟨[some (.d (.bytes xs)),Bx,Bx],[]⟩ _
 by_cases h2:xs.length<2
 ·refine ao h (ae (ae λk1 U U=>?_)) (ae λU hX=>?_) <;>clear h
  ·lia
  walk_at"R"
  exact hX
 have h1:1<=xs.length:=ci (eN h2)
 refine elE1 (show ∃c,xs[xs.length-1]? = some c from ⟨_,cM (BV (gF h1))⟩) λc hc=>?_
 have hcl:=c.toNat_lt
 have hi:((xs.length:Int)-1).toNat=xs.length-1:=BF xs.length 1
 walk_at"S"
 refine bg (x:=c) (by refine rwr (hi ..) ?_;exact hc) ?_
 by_cases h10:c.toNat=10
 ·walk_at"R"
  refine rwr (jt (n:=xs.length-1) (show (xs.length:Int)-1=((xs.length-1:Nat):Int) from (iC h1).symm)) ?_
  have hb:∀l:List UInt8,(l.map λc=>D.int c.toNat).length=l.length:=λl=>by simp
  have hlen:(xs.take (xs.length-1)).length=xs.length-1:=by simp
  refine⟨λj st=>(∀c∈(xs.take (xs.length-1)).take j,gt c=true)/\∃x,st=⟨[some (.d (.bytes xs)),some (.d (.int (dW ((xs.take (xs.length-1)).take j)))),x],[]⟩,gw (by refine rwr (hb ..) ?_;exact f8 (bP hl rfl)) ⟨by simp,_,rfl⟩ ?_ ?_⟩
  ·refine λj d st1 hd=>ae λhf=>uE1 λx y5=>?_;subst y5
   refine elE1 (HJ hd) λo=>ae λho z0=>?_;subst z0
   have hj:=cE ho
   have hol:=o.toNat_lt
   have hv:=wu 18 ((xs.take (xs.length-1)).take j) (f8 (aJ (bH hlen) (lg hl 1))) hf
   by_cases hfig:gt o=true
   ·have hfo:=of_decide_eq_true hfig
    walk_at"R"
    refine⟨gz hv rfl,?_⟩
    walk_at"R"
    refine rwr (rx ho ..) ?_
    refine⟨λe he=>?_,?_⟩
    ·refine ao (cQ.mp he) (λhe=>?_) λhe=>?_
     ·exact hf e he
     ·refine rwr (bj.mp he ..) ?_;exact hfig
    ·have e:(⟨[some (.d (.bytes xs)),some (.d (.int ((dW ((xs.take (xs.length-1)).take j):Int)*10+(o.toNat:Int)-48))),some (.d (.int o.toNat))],[]⟩:St)=⟨[some (.d (.bytes xs)),some (.d (.int (dW ((xs.take (xs.length-1)).take j++[o])))),some (.d (.int o.toNat))],[]⟩:=by
      have e2:(dW ((xs.take (xs.length-1)).take j):Int)*10+(o.toNat:Int)-48=((dW ((xs.take (xs.length-1)).take j++[o]):Nat):Int):=by refine rwr (yM ..) ?_;show _=(dW _:Int)*10+((o.toNat-48:Nat):Int);refine rwr (iC hfo.1 ..) (rwr (Int.add_sub_assoc ..) ?_);rfl
      exact rwr (e2 ..) rfl
     exact⟨_,e⟩
   ·have hno:o.toNat<48\/57<o.toNat:=by
     exact(mR o.toNat 48).imp id λa=>uE λb=>hfig (decide_eq_true (dg a b))
    refine ao h (ae (al λU U k3 U=>?_)) (ae λU hX=>?_) <;>clear h
    ·exact absurd (k3 o (cw ho)) hfig
    refine ao hno (λhno=>?_) λhno=>?_
    ·walk_at"R"
     exact hX
    ·walk_at"R"
     exact hX
  ·refine λst1=>ae λhf=>uE1 λx y5=>?_;subst y5
   rw[hb,jr]at hf
   refine rwr (hb ..) (rwr (jr ..) ?_)
   have hp:kS xs:=⟨eN h2,by refine rwr (hc ..) ?_;congr 1;exact LC h10,hf⟩
   refine ao h (ae λU hQ=>?_) (ae λhn U=>?_) <;>clear h
   ·walk_at"R"
    exact be 0 rfl rfl rfl hQ
   ·exact absurd hp hn
 ·refine ao h (ae (al λU k2 U U=>?_)) (ae λU hX=>?_) <;>clear h
  ·rw[hc]at k2
   cases k2
   exact absurd rfl h10
  ·walk_at"R"
   exact hX
end

section
variable {Γ:Addr->aH->Prop}{O:bf}{OS:bJ}{args:List V}{own:List af}{Q:V->List af->Prop}{X:Nat->Prop}
open PySem.Builtin.Str
noncomputable def gQ(x y:ac)(n:Nat)(r:Array Nat×Nat)(i:Nat):Array Nat×Nat:=if ((r.1 = #[]/\r.2<=i)/\i+y.length<=n)/\subAt x y i=true then (r.1.push i,i+y.length) else r
theorem zw(x y:ac)(n:Nat):occurrences x y 0 n 1=((jp 0 (n+1)).foldl (gQ x y n) (#[],0)).1.toList:=by
 unfold occurrences
 simp[Id.run]
 have e:(λ(i:Nat) (s:Array Nat×Nat)=>if ((s.fst = #[]/\s.snd<=i)/\i+y.length<=n)/\subAt x y i=true then (pure (js (s.fst.push i,i+y.length)):Id _) else pure (js (s.fst,s.snd)))=λi s=>pure (js (gQ x y n s i)):=by
  funext i s
  unfold gQ
  split <;>rfl
 have e2:=List.forIn_pure_yield_eq_foldl (m:=Id) (l:=jp 0 (n+1)) (f:=λi s=>gQ x y n s i) (init:=(#[],0))
 rw[<-e]at e2
 exact congrArg (λ(a:Id (Array Nat×Nat))=>(show Array Nat×Nat from a).1.toList) e2
theorem o8{x y:ac}{n:Nat}:∀{l:List Nat} {r:Array Nat×Nat},(∀i∈l,subAt x y i=false\/n<i+y.length)\/r.1 ≠ #[]->l.foldl (gQ x y n) r=r
 |[],r,_=>rfl
 |i::l,r,h=>by
  have e:gQ x y n r i=r:=by
   unfold gQ
   rw[if_neg]
   refine ae (ae (ae λh1 U h3 h2=>?_))
   refine ao h (λh=>?_) λh=>?_
   ·refine ao (h i (.head _)) (λh=>?_) λh=>?_
    ·rw[h]at h2;cases h2
    ·lia
   ·exact h h1
  refine rwr (List.foldl_cons ..) (rwr (e ..) ?_)
  exact o8 (h.imp (λh j hj=>h j (.tail _ hj)) id)
theorem JC{x y:ac}(h:∀i,i+y.length<=x.length->subAt x y i=false):cz x y = -1:=by
 have e:occurrences x y 0 x.length 1=[]:=by
  rw[zw,o8 (.inl λi U=>?_)]
  by_cases q:i+y.length<=x.length
  ·exact .inl (h i q)
  ·exact .inr (by lia)
 unfold cz;exact rwr (e ..) rfl
theorem Ke{x y:ac}{k:Nat}(hk:k+y.length<=x.length)(h:subAt x y k=true)(hn:∀i<k,subAt x y i=false):cz x y=k:=by
 have e:occurrences x y 0 x.length 1=[k]:=by
  have sp:jp 0 (x.length+1)=jp 0 k++k::jp (k+1) (x.length-k):=by
   have e1:x.length+1=k+(1+(x.length-k)):=by lia
   have:=List.range'_append_1 (s:=0) (m:=k) (n:=1+(x.length-k))
   exact rwr (e1 ..) (rwr (aM (this ..)) (rwr (iD ..) (rwr (ll 1 ..) (rwr (List.range'_succ ..) rfl))))
  refine rwr (zw ..) (rwr (sp ..) (rwr (List.foldl_append ..) (rwr (o8 (l:=jp 0 k) (.inl λi hi=>.inl (hn i (by have:=List.mem_range'_1.mp hi;lia)))) (rwr (List.foldl_cons ..) ?_))))
  have e1:gQ x y x.length (#[],0) k=(#[k],k+y.length):=by
   unfold gQ
   refine rwr (if_pos ⟨⟨⟨rfl,cR _⟩,hk⟩,h⟩ ..) ?_;rfl
  exact rwr (e1 ..) (rwr (o8 (.inr (by simp))) rfl)
 unfold cz;exact rwr (e ..) rfl
noncomputable def S(l:List Nat):ac:=⟨l.toArray⟩
theorem gv(a b:List Nat):S a++S b=S (a++b):=by
 show (⟨a.toArray++b.toArray⟩:ac)=⟨(a++b).toArray⟩
 simp
theorem dH(a:List Nat):(S a).length=a.length:=by show a.toArray.size=_;simp
theorem m_(a:List Nat):(S a).cps.toList=a:=rfl
theorem Dv(x:ac):x=S x.cps.toList:=by cases x;simp[S]
theorem Hk{a b:List Nat}(h:S a=S b):a=b:=by
 have:=congrArg (λx=>ac.cps x |>.toList) h
 exact this
theorem qz{l:List Nat}{c i:Nat}:subAt (S l) (S [c]) i=decide (l[i]? = some c):=by
 unfold subAt
 refine rwr (dH ..) ?_
 show (l.toArray.extract i (i+1) == #[c])=_
 refine rwr (propext (Bool.eq_iff_iff ..)) ?_
 simp only[beq_iff_eq,decide_eq_true_eq]
 by_cases h:i<l.length
 ·have e:l.toArray.extract i (i+1) = #[l[i]]:=by
   apply Array.ext
   ·simp only[Array.size_extract,BK,gq (show i+1<=l.length from h)]
    exact pL (n:=i) (m:=1)
   ·intro j h1 h2
    have hj:j=0:=by simp at h2;exact h2
    subst hj
    refine rwr (LD ..) ?_
    simp
  refine rwr (e ..) (rwr (cM h ..) ?_)
  simp
 ·refine rwr (BR (eN h) ..) ?_
  constructor
  ·intro e
   have:=congrArg Array.size e
   simp at this
   rw[lc (eN h)]at this
   cases this
  ·intro e;cases e
theorem sE{l:List Nat}{c:Nat}(h:c∉l):cz (S l) (S [c]) = -1:=JC λi U=>by
 refine rwr (qz ..) ?_;exact decide_eq_false λe=>h (cw e)
theorem qC{a b:List Nat}{c:Nat}(h:c∉a):cz (S (a++c::b)) (S [c])=a.length:=by
 refine Ke (by refine rwr (dH ..) (rwr (dH ..) ?_);simp) ?_ λi hi=>?_
 ·refine rwr (qz ..) ?_;exact decide_eq_true (by simp)
 ·refine rwr (qz ..) ?_
  refine decide_eq_false λe=>h ?_
  rw[ji hi]at e
  exact cw e
end

section
variable {Γ:Addr->aH->Prop}{O:bf}{OS:bJ}{args:List V}{own:List af}{Q:V->List af->Prop}{X:Nat->Prop}
theorem JH{a b:List Nat}:pO (S a) (S b)=decide (a.take b.length=b):=by
 unfold pO PySem.Builtin.Str.subAt
 refine rwr (dH ..) (rwr (dH ..) ?_)
 show (decide (0+b.length<=a.length)&&(a.toArray.extract 0 (0+b.length)==b.toArray))=_
 refine rwr (propext (Bool.eq_iff_iff ..)) ?_
 simp only[iD,eO,decide_eq_true_eq,beq_iff_eq]
 have e:a.toArray.extract 0 b.length=(a.take b.length).toArray:=by
  apply Array.ext
  ·simp
  ·intro j h1 h2
   refine rwr (LD ..) ?_
   simp
 refine rwr (e ..) ?_
 constructor
 ·refine ae λU h=>?_
  have:=congrArg Array.toList h
  simpa using this
 ·intro h
  refine⟨?_,by exact rwr (h ..) rfl⟩
  have:=congrArg ke h
  rw[fO]at this
  lia
theorem pD(k n least:Nat)(out:List Nat)(_:n+(least-out.length)<=k):(∀f∈out,f<10)->∀f∈fg n least out,f<10 :=
 nM (least:=least) (P:=λn out=>(∀f∈out,f<10)->∀f∈fg n least out,f<10) (λn out c h=>by refine rwr (fX c ..) ?_;exact h)
  (λn out c ih h=>by refine rwr (f9 c ..) ?_;exact ih λf hf=>(bZ.mp hf).elim (λe=>e▸bE _ (by decide)) (h f)) n out
theorem qg(k n least:Nat)(out:List Nat):n<10^k->(fg n least out).length<=out.length+k+(least-out.length):=by
 refine nM (least:=least) (P:=λn out=>∀k,n<10^k->(fg n least out).length<=out.length+k+(least-out.length)) (λn out c k U=>?_) (λn out c ih k hn=>?_) n out k
 ·refine rwr (fX c ..) ?_
  exact aJ (jk _ _) (jk _ _)
 ·refine rwr (f9 c ..) ?_
  induction k using Nat.casesOn with
  |zero =>
   have hn0:=Nat.lt_one_iff.mp hn
   have c:=c.resolve_left (hn0▸fM 0)
   refine aJ (ih 0 (by refine rwr (hn0 ..) ?_;decide)) (bH ?_)
   show out.length+1+(least-(out.length+1))=out.length+(least-out.length)
   exact rwr (u4 c ..) (rwr (u4 (ci c) ..) rfl)
  |succ k =>
   refine aJ (ih k (Nat.div_lt_of_lt_mul (by refine rwr (pX ..) ?_;exact hn))) ?_
   refine iz (bH ?_) (Nat.sub_le_sub_left (Nat.le_succ _) _)
   show out.length+1+k=out.length+(k+1)
   exact rwr (uU ..) (rwr (ll 1 ..) rfl)
noncomputable def aZ(n least:Nat):List Nat:=(fg n least []).map (48 + ·)
theorem oE:aa "0123456789" = S [48,49,50,51,52,53,54,55,56,57]:=by decide +kernel
inductive ls(args:List V)(own:List af)(Q:V->List af->Prop)(X:Nat->Prop):Prop
 |mk (h t:List Nat) (n:Nat) (_:args=[.d (.str (S h)),.d (.int n),.d (.str (S t))]) (_:own=[]) (_:n<10^20) (_:h.length<=100) (_:t.length<=100) (_:Q (.d (.str (S (h++aZ n 6++t)))) []):ls args own Q X
theorem IG(g1:Γ 622 mj)(h:ls args own Q X):aj Γ O OS rO (λCn U=>X Cn) ⟨args.map some++ay (yX.length-3) Bx,own⟩ (aC own.length Q):=by
 obtain⟨h,t,n,rfl,rfl,hn,hh,ht,hQ⟩:=h
 show aj Γ O OS rO _ ⟨[some (.d (.str (S h))),some (.d (.int n)),some (.d (.str (S t))),Bx,Bx],[]⟩ _
 have hlt:=pD _ n 6 [] (bG _) (by simp)
 have hfl:=qg 20 n 6 [] hn
 have hdl:=db (fg n 6 [])
 simp at hfl
 walk_at"R"
 refine aq g1 rfl ⟨n,6,rfl,rfl,hn,by decide,?_⟩
 walk_at"N"
 walk_at"R"
 refine⟨λj st=>∃x,st=⟨[some (.d (.str (S h))),some (.d (.int n)),some (.d (.str (S t))),some (.d (.str (S (h++((fg n 6 []).take j).map (48 + ·))))),x],[]⟩,gw (by lia) ⟨Bx,by exact rwr (pZ ..) (rwr (pM ..) (rwr (bA ..) rfl))⟩ ?_ ?_⟩
 ·refine λj d st1 hd=>uE1 λx z0=>?_;subst z0
  refine elE1 (pA hd) λf=>ae λhf z0=>?_;subst z0
  have hj:=cE hf
  have hf10:=hlt f (cw hf)
  have hc:[48,49,50,51,52,53,54,55,56,57][f]? = some (48+f):=by
   have:∀f<10,[48,49,50,51,52,53,54,55,56,57][f]? = some (48+f):=by decide
   exact this f hf10
  have e1:=dH (h++((fg n 6 []).take j).map (48 + ·))
  have e2:(S [48+f]).length=1:=rfl
  have e0:(aa "0123456789").length=10:=by refine rwr (oE ..) ?_;rfl
  simp at e1
  have fin:(⟨[some (.d (.str (S h))),some (.d (.int n)),some (.d (.str (S t))),some (.d (.str (S (h++((fg n 6 []).take j).map (48 + ·))++S [48+f]))),some (.d (.int f))],[]⟩:St)=⟨[some (.d (.str (S h))),some (.d (.int n)),some (.d (.str (S t))),some (.d (.str (S (h++((fg n 6 []).take (j+1)).map (48 + ·))))),some (.d (.int f))],[]⟩:=by
   refine rwr (gv ..) (rwr (rx hf ..) (rwr (eK ..) (rwr (e_ ..) ?_)));rfl
  walk_at"R"
  refine rwr (oE ..) ?_
  refine bg (x:=48+f) (by refine rwr (m_ ..) ?_;exact hc) ?_
  walk_at"R"
  refine⟨by show (S (h++((fg n 6 []).take j).map (48 + ·))).length+1<=1000000;refine rwr (dH ..) ?_;exact bp (et (k:=126) hh (by refine rwr (cV ..) ?_;exact f8 hfl) rfl) (bG _) rfl,?_⟩
  exact⟨_,fin⟩
 ·refine λst1=>uE1 λx z0=>?_;subst z0
  refine rwr (hdl ..) (rwr (jr ..) ?_)
  have:(S (h++(fg n 6 []).map (48 + ·))).length+(S t).length<=1000000:=by refine rwr (dH ..) (rwr (dH ..) ?_);exact bp (et (k:=126) hh (by refine rwr (cV ..) ?_;exact hfl) rfl) ht rfl
  walk_at"R"
  refine rwr (gv ..) ?_
  exact be 0 rfl rfl rfl hQ
noncomputable def gd:Nat->List Nat->Int
 |a,[]=>a
 |a,c::r=>if 48<=c/\c<=57 then (if a*10+(c-48)>1152921504606846975 then -1 else gd (a*10+(c-48)) r) else -1
noncomputable def cP(l:List Nat):Int:=if l=[] then -1 else gd 0 l
theorem KI(c:Nat):cz (aa "0123456789") (S [c])=if 48<=c/\c<=57 then ((c-48:Nat):Int) else -1:=by
 refine rwr (oE ..) ?_
 by_cases h:48<=c/\c<=57
 ·refine rwr (if_pos h ..) ?_
  have:∀d<10,cz (S [48,49,50,51,52,53,54,55,56,57]) (S [48+d])=(d:Int):=by
   intro d hd
   have e:[48,49,50,51,52,53,54,55,56,57]=(bM d).map (48 + ·)++(48+d)::(jp (d+1) (9-d)).map (48 + ·):=by
    have:∀d<10,[48,49,50,51,52,53,54,55,56,57]=(bM d).map (48 + ·)++(48+d)::(jp (d+1) (9-d)).map (48 + ·):=by decide
    exact this d hd
   refine rwr (e ..) (rwr (qC (λq=>by refine elE1 (aW.mp q) λx=>ae λhx e2=>?_;have:=ka.mp hx;lia)) ?_)
   simp
  have:=this (c-48) (cy (lg h.2 48) (by decide))
  rw[u4 h.1]at this
  exact this
 ·refine rwr (if_neg h ..) ?_
  exact sE λq=>by
   have:∀x∈[48,49,50,51,52,53,54,55,56,57],48<=x/\x<=57:=by decide
   exact h (this c q)
inductive oG(args:List V)(own:List af)(Q:V->List af->Prop)(X:Nat->Prop):Prop
 |mk (l:List Nat) (_:args=[.d (.str (S l))]) (_:own=[]) (_:l.length<=100) (_:Q (.d (.int (cP l))) []):oG args own Q X
theorem FW(h:oG args own Q X):aj Γ O OS tB (λCn U=>X Cn) ⟨args.map some++ay (yg.length-1) Bx,own⟩ (aC own.length Q):=by
 obtain⟨l,rfl,rfl,hl,hQ⟩:=h
 show aj Γ O OS tB _ ⟨[some (.d (.str (S l))),Bx,Bx,Bx],[]⟩ _
 skip
 intro r hr
 skip
 refine⟨λe=>?_,λe=>?_⟩
 ·have e2:S l=aa "" := hr.mp e
  have e3:l=[]:=by
   have:=dH l
   rw[e2]at this
   have e4:(aa "").length=0:=by decide
   rw[e4]at this
   exact mC this.symm
  subst e3
  walk_at"R"
  exact be 0 rfl rfl rfl hQ
 have hne:l≠[]:=λq=>by
  subst q
  have:r=true:=hr.mpr (by decide)
  rw[this]at e;cases e
 have hll:(l.map λc=>D.str ⟨#[c]⟩).length=l.length:=by simp
 have hr0:cP l=gd 0 l:=by unfold cP;exact rwr (if_neg hne ..) rfl
 rw[hr0]at hQ
 walk_at"R"
 refine⟨λj st=>∃(a:Nat) (x y:Option V),gd a (l.drop j)=gd 0 l/\a<=1152921504606846975/\st=⟨[some (.d (.str (S l))),some (.d (.int a)),x,y],[]⟩,gw (by refine rwr (m_ ..) ?_;lia) (ex3 0 _ _ ⟨rfl,by decide,rfl⟩) ?_ ?_⟩
 ·refine λj d st1 hd=>uE3 λa x y=>al λha hal z0=>?_;subst z0
  rw[m_,dO]at hd
  cases hc:l[j]? with
  |none=>rw[hc]at hd;cases hd
  |some c =>
  rw[hc]at hd
  simp only[li,lj]at hd
  subst hd
  have hdr:l.drop j=c::l.drop (j+1):=Bk hc
  rw[hdr]at ha
  have hff:=KI c
  have e0:(aa "0123456789").length=10:=by refine rwr (oE ..) ?_;rfl
  have e1:(S [c]).length=1:=rfl
  by_cases hfig:48<=c/\c<=57
  ·rw[if_pos hfig]at hff
   rw[gd,if_pos hfig]at ha
   have hff':cz (aa "0123456789") ⟨#[c]⟩=((c-48:Nat):Int):=hff
   walk_at"R"
   refine rwr (hff' ..) ?_
   by_cases hbig:a*10+(c-48)>1152921504606846975
   ·rw[if_pos hbig]at ha
    walk_at"R"
    refine⟨gz (BW hal) rfl,?_⟩
    walk_at"R"
    rw[<-ha]at hQ
    exact be 0 rfl rfl rfl hQ
   ·rw[if_neg hbig]at ha
    walk_at"R"
    refine⟨gz (BW hal) rfl,?_⟩
    walk_at"R"
    have fin:(⟨[some (.d (.str (S l))),some (.d (.int ((a:Int)*10+((c-48:Nat):Int)))),some (.d (.str ⟨#[c]⟩)),some (.d (.int ((c-48:Nat):Int)))],[]⟩:St)=⟨[some (.d (.str (S l))),some (.d (.int ((a*10+(c-48):Nat):Int))),some (.d (.str ⟨#[c]⟩)),some (.d (.int ((c-48:Nat):Int)))],[]⟩:=by
     have e:(a:Int)*10+((c-48:Nat):Int)=((a*10+(c-48):Nat):Int):=by lia
     exact rwr (e ..) rfl
    exact(ex3 _ _ _ ⟨ha,by lia,fin⟩)
  ·rw[if_neg hfig]at hff
   rw[gd,if_neg hfig]at ha
   have hff':cz (aa "0123456789") ⟨#[c]⟩ = -1:=hff
   walk_at"R"
   refine rwr (hff' ..) ?_
   walk_at"R"
   rw[<-ha]at hQ
   exact be 0 rfl rfl rfl hQ
 ·refine λst1=>uE3 λa x y=>al λha hal z0=>?_;subst z0
  rw[m_,hll,BH]at ha
  rw[<-ha]at hQ
  walk_at"R"
  exact be 0 rfl rfl rfl hQ
end

section
variable {Γ:Addr->aH->Prop}{O:bf}{OS:bJ}{args:List V}{own:List af}{Q:V->List af->Prop}{X:Nat->Prop}
noncomputable def lit(s:String):List Nat:=(aa s).cps.toList
theorem fU(s:String):aa s=S (lit s):=Dv _
noncomputable def pN(l:List Nat):Int×Int :=
 if l=lit "CURRENT" then (1,0)
 else if l.take 9=lit "MANIFEST-" then (if cP (l.drop 9)<0 then (0,0) else (2,cP (l.drop 9)))
 else if cz (S l) (S [46])<0 then (0,0)
 else if cP (l.take (cz (S l) (S [46])).toNat)<0 then (0,0)
 else if l.drop (cz (S l) (S [46])).toNat=lit ".log" then (3,cP (l.take (cz (S l) (S [46])).toNat))
 else if l.drop (cz (S l) (S [46])).toNat=lit ".ldb" then (4,cP (l.take (cz (S l) (S [46])).toNat))
 else if l.drop (cz (S l) (S [46])).toNat=lit ".dbtmp" then (5,cP (l.take (cz (S l) (S [46])).toNat))
 else (0,0)
theorem xR{c:Nat}:∀{l:List Nat},c∈l->∃a b,l=a++c::b/\c∉a
 |[],h=>nomatch h
 |x::r,h=>by
  by_cases e:x=c
  ·exact(ex2 [] r ⟨by refine rwr (e ..) ?_;rfl,by simp⟩)
  ·refine ao (bZ.mp h) (λq=>?_) λq=>?_
   ·exact absurd q.symm e
   ·refine elE2 (xR q) λa b=>ae λz0 ha=>?_;subst z0
    exact(ex2 (x::a) b ⟨rfl,λz=>by refine ao (bZ.mp z) (λz=>?_) λz=>?_;exact e z.symm;exact ha z⟩)
theorem Iy(l:List Nat):cz (S l) (S [46])<=l.length:=by
 by_cases h:46∈l
 ·refine elE2 (xR h) λa b=>ae λz0 ha=>?_;subst z0
  refine rwr (qC ha ..) ?_;simp;lia
 ·refine rwr (sE h ..) ?_;lia
inductive ga(args:List V)(own:List af)(Q:V->List af->Prop)(X:Nat->Prop):Prop
 |mk (l:List Nat) (_:args=[.d (.str (S l))]) (_:own=[]) (_:l.length<=100) (_:Q (.d (.tup [.int (pN l).1,.int (pN l).2])) []):ga args own Q X
theorem oq{a b:List Nat}{s:String}{r:Bool}(h:r=true↔S a=aa s)(e:r=true):a=lit s:=Hk ((h.mp e).trans (fU s))
theorem pe{a b:List Nat}{s:String}{r:Bool}(h:r=true↔S a=aa s)(e:r=false):a≠lit s:=λq=>by
 have:=h.mpr (by rw[q,fU])
 rw[e]at this;cases this
theorem Dy(g1:Γ 594 oG)(h:ga args own Q X):aj Γ O OS tI (λCn U=>X Cn) ⟨args.map some++ay (zc.length-1) Bx,own⟩ (aC own.length Q):=by
 obtain⟨l,rfl,rfl,hl,hQ⟩:=h
 show aj Γ O OS tI _ ⟨[some (.d (.str (S l))),Bx,Bx,Bx],[]⟩ _
 have hSl:=dH l
 have fin:∀(k n:Int) (loc:List (Option V)),pN l=(k,n)->aC 0 Q (.ret (.d (.tup [.int k,.int n]))) ⟨loc,[]⟩:=λk n loc e=>by
  rw[e]at hQ
  exact be 0 rfl rfl rfl hQ
 skip
 intro r hr
 skip
 refine⟨λe=>?_,λe=>?_⟩
 ·have c:=oq (b:=[]) hr e
  walk_at"R"
  exact fin 1 0 _ (by unfold pN;exact rwr (if_pos c ..) rfl)
 have c1:=pe (b:=[]) hr e
 clear hr e
 have h9:(aa "MANIFEST-").length=9:=by decide +kernel
 have hl9:(lit "MANIFEST-").length=9:=by decide +kernel
 have hsw:pO (S l) (aa "MANIFEST-")=decide (l.take 9=lit "MANIFEST-"):=by exact rwr (fU ..) (rwr (JH ..) (rwr (hl9 ..) rfl))
 have h1:(aa ".").length=1:=by decide +kernel
 have hdotS:aa "." = S [46]:=by decide +kernel
 have hfl:=Iy l
 walk_at"S"
 rw[hsw]
 refine⟨λe=>?_,λe=>?_⟩
 ·have c2:=of_decide_eq_true e
  walk_at"R"
  refine rwr (h9 ..) ?_
  refine aq g1 rfl ⟨l.drop 9,rfl,rfl,by simp;lia,?_⟩
  walk_at"N"
  by_cases c3:cP (l.drop 9)<0
  ·walk_at"R"
   exact fin 0 0 _ (by unfold pN;exact rwr (if_neg c1 ..) (rwr (if_pos c2 ..) (rwr (if_pos c3 ..) rfl)))
  ·walk_at"R"
   exact fin 2 _ _ (by unfold pN;rw[if_neg c1,if_pos c2,if_neg c3])
 have c2:=of_decide_eq_false e
 walk_at"R"
 refine rwr (hdotS ..) ?_
 by_cases c3:cz (S l) (S [46])<0
 ·walk_at"R"
  exact fin 0 0 _ (by unfold pN;exact rwr (if_neg c1 ..) (rwr (if_neg c2 ..) (rwr (if_pos c3 ..) rfl)))
 refine elE1 (show ∃k:Nat,cz (S l) (S [46])=(k:Int) from ⟨(cz (S l) (S [46])).toNat,by lia⟩) λk hk=>?_
 have hpn:pN l=if cP (l.take k)<0 then (0,0) else if l.drop k=lit ".log" then (3,cP (l.take k)) else if l.drop k=lit ".ldb" then (4,cP (l.take k)) else if l.drop k=lit ".dbtmp" then (5,cP (l.take k)) else (0,0):=by
  unfold pN;refine rwr (if_neg c1 ..) (rwr (if_neg c2 ..) (rwr (if_neg c3 ..) (rwr (hk ..) ?_)));rfl
 refine rwr (hk ..) ?_
 walk_at"R"
 refine aq g1 rfl ⟨l.take k,rfl,rfl,by simp;lia,?_⟩
 walk_at"N"
 have cutk:S (cut l (some (k:Int)) Bx)=S (l.drop k):=by unfold cut;simp
 by_cases c4:cP (l.take k)<0
 ·walk_at"R"
  exact fin 0 0 _ (by exact rwr (hpn ..) (rwr (if_pos c4 ..) rfl))
 rw[if_neg c4]at hpn
 walk_at"R"
 rename _=>hr;rename Bool=>r
 have hr':r=true↔S (l.drop k)=aa ".log" := by refine rwr (aM (cutk ..)) ?_;exact hr
 clear hr
 refine⟨λe=>?_,λe=>?_⟩
 ·have c:=oq (b:=[]) hr' e
  walk_at"R"
  exact fin 3 _ _ (by exact rwr (hpn ..) (rwr (if_pos c ..) rfl))
 have c5:=pe (b:=[]) hr' e
 rw[if_neg c5]at hpn
 clear hr' e
 walk_at"R"
 rename _=>hr;rename Bool=>r
 have hr':r=true↔S (l.drop k)=aa ".ldb" := by refine rwr (aM (cutk ..)) ?_;exact hr
 clear hr
 refine⟨λe=>?_,λe=>?_⟩
 ·have c:=oq (b:=[]) hr' e
  walk_at"R"
  exact fin 4 _ _ (by exact rwr (hpn ..) (rwr (if_pos c ..) rfl))
 have c6:=pe (b:=[]) hr' e
 rw[if_neg c6]at hpn
 clear hr' e
 walk_at"R"
 rename _=>hr;rename Bool=>r
 have hr':r=true↔S (l.drop k)=aa ".dbtmp" := by refine rwr (aM (cutk ..)) ?_;exact hr
 clear hr
 refine⟨λe=>?_,λe=>?_⟩
 ·have c:=oq (b:=[]) hr' e
  walk_at"R"
  exact fin 5 _ _ (by exact rwr (hpn ..) (rwr (if_pos c ..) rfl))
 have c7:=pe (b:=[]) hr' e
 rw[if_neg c7]at hpn
 walk_at"R"
 exact fin 0 0 _ hpn
end

section
variable {Γ:Addr->aH->Prop}{O:bf}{OS:bJ}{args:List V}{own:List af}{Q:V->List af->Prop}{X:Nat->Prop}
theorem kN(n least:Nat)(out:List Nat):fg n least out=ay (least-(fg n 0 out).length) 0++fg n 0 out:=by
 have e0:∀out:List Nat,fg 0 0 out=out:=λout=>fX λc=>c.elim (fM 0) (mD _)
 refine nM (least:=least) (P:=λn out=>fg n least out=ay (least-(fg n 0 out).length) 0++fg n 0 out) (λn out c=>?_) (λn out c ih=>?_) n out
 ·have hn:n=0:=BX λq=>c (.inl q)
  subst hn
  refine rwr (e0 ..) (rwr (fX c ..) (rwr (lc (eN λq=>c (.inr q))) ?_))
  rfl
 ·refine rwr (f9 c ..) (rwr (ih ..) ?_)
  by_cases q:0<n
  ·exact rwr (f9 (least:=0) (.inl q)) rfl
  ·have hn:n=0:=BX q
   subst hn
   have c:=c.resolve_left q
   show ay (least-(fg 0 0 (0::out)).length) 0++fg 0 0 (0::out)=_
   refine rwr (e0 ..) (rwr (e0 ..) (rwr (aM (pW (uX c:1<=least-out.length) ..)) (rwr (List.replicate_succ' ..) (rwr (Nat.sub_sub ..) ?_))))
   refine rwr (e_ ..) ?_
   rfl
theorem AB{n:Nat}{out:List Nat}(h:0<n):out.length<(fg n 0 out).length:=by
 induction n using Nat.strongRecOn generalizing out with
 |ind n ih =>
  refine rwr (f9 (.inl h) ..) ?_
  by_cases c:0<n/10
  ·have:=ih (n/10) (by lia) (out:=n%10::out) c
   rw[iA]at this
   lia
  ·refine rwr (show n/10=0 by lia) (rwr (fX (by lia)) (rwr (iA ..) ?_));lia
theorem xO(n:Nat):aZ n 6=ay (6-(aZ n 1).length) 48++aZ n 1:=by
 unfold aZ
 refine rwr (kN n 6 ..) (rwr (kN n 1 ..) ?_)
 by_cases c:0<n
 ·have:=AB (out:=[]) c
  refine rwr (show 1-(fg n 0 []).length=0 from lc this) ?_
  simp
 ·have:n=0:=by lia
  subst this
  refine rwr (fX (n:=0) (least:=0) (by lia)) ?_
  rfl
theorem jc{n:Nat}(h:n<10^20)(least:Nat):(aZ n least).length<=20+least:=by
 have:=qg 20 n least [] h
 unfold aZ
 refine rwr (cV ..) ?_
 simp at this
 lia
theorem JL:∀(f0 n:Nat) (ds:List Char) (out:List Nat),n<f0->ds.map pR=out.map (48 + ·) ->
  (Nat.toDigitsCore 10 f0 n ds).map pR=(if n/10=0 then n%10::out else fg (n/10) 0 (n%10::out)).map (48 + ·):=by
 intro f0
 induction f0 with
 |zero=>intro n ds out h;lia
 |succ f0 ih =>
  intro n ds out h e
  have hd:∀d<10,(Nat.digitChar d).toNat=48+d:=by decide
  have e1:(Nat.digitChar (n%10)::ds).map pR=(n%10::out).map (48 + ·):=by
   exact rwr (eM ..) (rwr (eM ..) (rwr (e ..) (rwr (hd _ (bE _ (by decide))) rfl)))
  unfold Nat.toDigitsCore
  by_cases c:n/10=0
  ·simp only[c,if_true]
   exact e1
  ·simp only[c,if_false]
   refine rwr (ih (n/10) _ (n%10::out) (by lia) e1) ?_
   by_cases c2:n/10/10=0
   ·exact rwr (if_pos c2 ..) (rwr (f9 (.inl (by lia))) (rwr (c2 ..) (rwr (fX (by lia)) rfl)))
   ·exact rwr (if_neg c2 ..) (rwr (f9 (n:=n/10) (.inl (by lia))) rfl)
theorem Be(n:Nat):aa (toString (n:Int))=S (aZ n 1):=by
 refine rwr (Lk ..) ?_
 show (⟨((toString (n:Int)).toList.map pR).toArray⟩:ac)=⟨(aZ n 1).toArray⟩
 have e0:toString (n:Int)=Nat.repr n:=rfl
 have e1:(toString (n:Int)).toList=BC 10 n:=by refine rwr (e0 ..) ?_;unfold Nat.repr;simp
 refine rwr (e1 ..) ?_
 have:=JL (n+1) n [] [] (iy _) rfl
 unfold BC
 refine rwr (this ..) ?_
 unfold aZ
 congr 3
 by_cases c:0<n
 ·refine rwr (f9 (least:=1) (.inl c)) (rwr (kN _ 1 ..) ?_)
  by_cases c2:n/10=0
  ·refine rwr (if_pos c2 ..) (rwr (c2 ..) (rwr (fX (least:=0) (by lia)) ?_));rfl
  ·refine rwr (if_neg c2 ..) ?_
   have:=AB (n:=n/10) (out:=[n%10]) (by lia)
   refine rwr (show 1-(fg (n/10) 0 [n%10]).length=0 from lc (ci this)) ?_
   rfl
 ·have:n=0:=by lia
  subst this
  exact rwr (if_pos rfl ..) (rwr (f9 (least:=1) (.inr (by decide))) (rwr (fX (least:=1) (by simp)) rfl))
theorem m9(n:Nat):(⟨(ay (6-(aa (toString (n:Int))).length) 48).toArray⟩:ac)++aa (toString (n:Int))=S (aZ n 6):=by
 refine rwr (Be ..) (rwr (dH ..) (rwr (xO ..) ?_))
 exact gv _ _
theorem J3(n:Nat):fy 0 (n:Int)=S (aZ n 6):=m9 n
theorem Hr(n:Nat):fy 1 (n:Int)=S (aZ n 6++lit ".log"):=by
 show (_:ac)++aa ".log" = _
 exact rwr (m9 ..) (rwr (fU ..) (rwr (gv ..) rfl))
theorem J0(n:Nat):fy 2 (n:Int)=S (aZ n 6++lit ".dbtmp"):=by
 show (_:ac)++aa ".dbtmp" = _
 exact rwr (m9 ..) (rwr (fU ..) (rwr (gv ..) rfl))
theorem Ch(n:Nat):fy 3 (n:Int)=S (lit "MANIFEST-" ++ aZ n 6):=by
 show aa "MANIFEST-" ++ (_:ac)=_
 exact rwr (m9 ..) (rwr (fU ..) (rwr (gv ..) rfl))
inductive d8(pre post:List Nat)(args:List V)(own:List af)(Q:V->List af->Prop)(X:Nat->Prop):Prop
 |mk (n:Nat) (_:args=[.d (.int n)]) (_:own=[]) (_:n<10^16) (_:Q (.d (.str (S (pre++aZ n 6++post)))) []):d8 pre post args own Q X
theorem Gw(h:(d8 ([]) (lit ".log")) args own Q X):aj Γ O OS ss (λCn U=>X Cn) ⟨args.map some++ay (Ap.length-1) Bx,own⟩ (aC own.length Q):=by
 obtain⟨n,rfl,rfl,hn,hQ⟩:=h
 show aj Γ O OS ss _ ⟨[some (.d (.int n))],[]⟩ _
 have hf:=Hr n
 have hdl:=jc (n:=n) (by lia) 6
 walk_at"R"
 refine rwr (hf ..) ?_
 exact be 0 rfl rfl rfl (by simpa using hQ)
theorem E4(h:(d8 ([]) (lit ".dbtmp")) args own Q X):aj Γ O OS rm (λCn U=>X Cn) ⟨args.map some++ay (wg.length-1) Bx,own⟩ (aC own.length Q):=by
 obtain⟨n,rfl,rfl,hn,hQ⟩:=h
 show aj Γ O OS rm _ ⟨[some (.d (.int n))],[]⟩ _
 have hf:=J0 n
 have hdl:=jc (n:=n) (by lia) 6
 walk_at"R"
 refine rwr (hf ..) ?_
 exact be 0 rfl rfl rfl (by simpa using hQ)
theorem HE(h:(d8 (lit "MANIFEST-") ([])) args own Q X):aj Γ O OS uc (λCn U=>X Cn) ⟨args.map some++ay (vN.length-1) Bx,own⟩ (aC own.length Q):=by
 obtain⟨n,rfl,rfl,hn,hQ⟩:=h
 show aj Γ O OS uc _ ⟨[some (.d (.int n))],[]⟩ _
 have hf:=Ch n
 have hdl:=jc (n:=n) (by lia) 6
 walk_at"R"
 refine rwr (hf ..) ?_
 exact be 0 rfl rfl rfl (by simpa using hQ)
theorem IP(h:(d8 (lit "wal-") []) args own Q X):aj Γ O OS r_ (λCn U=>X Cn) ⟨args.map some++ay (A6.length-1) Bx,own⟩ (aC own.length Q):=by
 obtain⟨n,rfl,rfl,hn,hQ⟩:=h
 show aj Γ O OS r_ _ ⟨[some (.d (.int n))],[]⟩ _
 have hf:=J3 n
 have hdl:=jc (n:=n) (by lia) 6
 have hl:=dH (aZ n 6)
 have h4:(aa "wal-").length=4:=by decide +kernel
 walk_at"R"
 refine rwr (hf ..) ?_
 refine⟨by refine rwr (h4 ..) ?_;show 4+(S (aZ n 6)).length<=1000000;lia,?_⟩
 walk_at"R"
 rw[bA,<-gv,<-fU]at hQ
 exact be 0 rfl rfl rfl hQ
theorem HB(h:(d8 [] (lit ".ldb")) args own Q X):aj Γ O OS rZ (λCn U=>X Cn) ⟨args.map some++ay (Af.length-1) Bx,own⟩ (aC own.length Q):=by
 obtain⟨n,rfl,rfl,hn,hQ⟩:=h
 show aj Γ O OS rZ _ ⟨[some (.d (.int n)),Bx],[]⟩ _
 have hs:=Be n
 have hdl:=jc (n:=n) (by lia) 1
 have hl:=dH (aZ n 1)
 have h1:(aa "0").length=1:=by decide +kernel
 have hm:Txt.mul (aa "0") (6-((aZ n 1).length:Int))=S (ay (6-(aZ n 1).length) 48):=by
  by_cases c:(aZ n 1).length<=6
  ·have:∀k≤6,Txt.mul (aa "0") (6-(k:Nat):Int)=S (ay (6-k) 48):=by decide +kernel
   exact this _ c
  ·unfold Txt.mul
   refine rwr (if_pos (by lia)) (rwr (lc (Nat.le_of_not_le c) ..) ?_)
   rfl
 have h4:(aa ".ldb").length=4:=by decide +kernel
 have hr:(S (ay (6-(aZ n 1).length) 48)).length<=6:=by refine rwr (dH ..) (rwr (iF ..) ?_);exact fb _ _
 walk_at"R"
 refine⟨gz hn rfl,?_⟩
 refine rwr (hs ..) ?_
 walk_at"R"
 refine rwr (hl ..) (rwr (hm ..) ?_)
 have e:S (ay (6-(aZ n 1).length) 48)++S (aZ n 1)=S (aZ n 6):=by exact rwr (xO ..) (rwr (gv ..) rfl)
 have hl6:=dH (aZ n 6)
 have hd6:=jc (n:=n) (by lia) 6
 walk_at"R"
 refine rwr (e ..) ?_
 walk_at"R"
 rw[mS,<-gv,<-fU]at hQ
 exact be 0 rfl rfl rfl hQ
end

section
section
variable {M:Model}{A:Around}{E:Value->Shared->Prop}{s:Shared}{env:Env}{prog:Program}{w:World}
theorem vq{α:Type}{m:Sem α}{Q:Except Value α->Shared->Prop}(h:ag M A m (λa=>Q (.ok a)) (λe=>Q (.error e)) s):ag M A m.attempt Q E s:=λΓ p hΓ h1 h2=>by refine rwr (Sem.wp_attempt ..) ?_;exact h Γ p hΓ h1 h2
theorem J'{body:List Stmt}{h₀:ExceptHandler}{pos:Pos}{Q:Flow->Shared->Prop}
  (h:ag M A (execs body env) Q
   (λe s₁=>wpAny M A (noteFrame e env) (λU s₂=>wpAny M A (setFlight e Bx) (λU s₃=>wpAny M A (handleBy e env [h₀]) Q E s₃) E s₂) E s₁) s):
  ag M A (exec (.Try body [h₀] [] [] pos) env) Q E s:=by
 refine rwr (arm_exec_Try ..) ?_
 refine ai (a_ ?_)
 unfold tryStmt
 simp -iota only [List.isEmpty_nil,if_true,List.isEmpty_cons,Bool.false_and,iu,if_false]
 refine ai (vq (aD h (λf s₁ h₁=>?_) λe s₁ h₁=>?_))
 ·cases f with
  |next=>exact jy h₁
  |_=>exact aF h₁
 ·exact wpAny.n (wpAny_bind (wpAny_mono h₁ (λU U h₂=>wpAny_bind h₂) λU U x=>x))
end
section
variable {prog:Program}{w:World}{K:Frag}{k:Nat}{c:FC}{st:St}
theorem aS.killed{P:Params}{Z:Zt}{ad₀:List Addr}:∀{os:List af} {as:List Addr} {fps:List (List (Addr×au))},aS P Z ad₀ os as fps->aS P Z ad₀ (os.map λU=>.dead) as (fps.map λU=>[])
 |_,_,_,.nil=>.nil
 |_,_,_,.cons _ r=>.cons rfl (aS.killed r)
theorem mx{α β:Type}:∀(fps:List β),(fps.map λU=>([]:List α)).flatten=[]
 |[]=>rfl
 |_::r=>mx r
theorem SR.killed{P:Params}{s s':Shared}{fz ad fps}(ok:am K k c)(S:SR P c st fz ad fps s)
  (keep:∀b o,s.heap.get? b=some o->b∉aT fps->b∉c.L::c.frs->s'.heap.get? b=some o)
  (slot:∀b o,s.heap.get? b=some o->b∈c.L::c.frs->∃sl,s'.heap.get? b=some { o with slots:=sl })
  (hmu:c.mu=[]) (g1:s'.gens=s.gens) (g2:s'.drawn=s.drawn) (g3:s'.os=s.os):
  SR P c ⟨st.loc,st.own.map λU=>.dead⟩ fz ad (fps.map λU=>[]) s'/\aA c s fz ad fps s' fz ad (fps.map λU=>[]):=by
 obtain⟨m,I,R,LR,e1,e2,e3⟩:=S
 have mF:∀b,b∈aT fps->b≠c.L/\b∉c.frs/\c.H.get? b=Bx:=λb hb=>by
  refine elE1 (aW.mp hb) λp=>ae λhp z0=>?_;subst z0
  refine cX (I.own p hp) λU a2 a3 a4=>?_
  refine⟨a2,a3,a4.elim (λq=>?_) id⟩
  rw[hmu]at q;cases q
 have liv:∀b o,s.heap.get? b=some o->b∉aT fps->∃o',s'.heap.get? b=some o':=λb o e n=>by
  by_cases q:b∈c.L::c.frs
  ·refine elE1 (slot b o e q) λsl h=>?_;exact⟨_,h⟩
  ·exact⟨o,keep b o e n q⟩
 have hL:∀b o,c.H.get? b=some o->b≠c.L:=λb o e q=>by have:=ok.LH;rw[<-q,e]at this;cases this
 have notF:∀b o,c.H.get? b=some o->b∉aT fps:=λb o e q=>by have:=(mF b q).2.2;rw[e]at this;cases this
 refine⟨⟨m,⟨?_,λb o e n1 n2=>?_,λb o e n=>?_,λb o e=>?_,λp hp=>?_,λp hp=>?_,?_,λp hp=>?_⟩,R.killed,LR,g1.trans e1,g2.trans e2,g3.trans e3⟩,
  ⟨λU h=>h,eB _,λb o e n1 n2 n3=>keep b o e n2 (by simp[n1,n3]),λa ha=>?_,liv,λU h=>.inl h⟩⟩
 ·refine elE3 I.ns λo es ep=>ae λe r=>?_
  refine elE1 (slot _ _ e (.head _)) λsl h=>?_
  exact(ex3 _ es ep ⟨h,r⟩)
 ·exact keep b o (I.keep b o e n1 n2) (notF b o e) (by simp[hL b o e,n2])
 ·refine elE1 (I.slot b o e n) λsl h=>?_
  refine elE1 (slot _ _ h (.tail _ n)) λsl' h'=>?_
  exact⟨sl',h'⟩
 ·refine elE1 (I.live b o e) λo' h=>?_
  exact liv b o' h (notF b o e)
 ·refine cX (I.fzH p hp) λa1 a2 a3 a4=>?_
  refine⟨keep _ _ a1 (λq=>?_) (by simp[a2,a3]),a2,a3,a4⟩
  refine elE1 (aW.mp q) λp'=>ae λhp' e=>?_
  exact I.dis p' hp' p hp e
 ·rw[mx]at hp;cases hp
 ·refine rwr (mx ..) ?_;exact ix
 ·rw[mx]at hp;cases hp
 ·unfold aT at ha;rw[mx]at ha;cases ha
theorem SR.kept{P:Params}{s s':Shared}{fz ad fps}(ok:am K k c)(S:SR P c st fz ad fps s)
  (keep:∀b o,s.heap.get? b=some o->b∉c.L::c.frs->s'.heap.get? b=some o)
  (slot:∀b o,s.heap.get? b=some o->b∈c.L::c.frs->∃sl,s'.heap.get? b=some { o with slots:=sl })
  (g1:s'.gens=s.gens) (g2:s'.drawn=s.drawn) (g3:s'.os=s.os):
  SR P c st fz ad fps s'/\aA c s fz ad fps s' fz ad fps:=by
 obtain⟨m,I,R,LR,e1,e2,e3⟩:=S
 have liv:∀b o,s.heap.get? b=some o->∃o',s'.heap.get? b=some o':=λb o e=>by
  by_cases q:b∈c.L::c.frs
  ·refine elE1 (slot b o e q) λsl h=>?_;exact⟨_,h⟩
  ·exact⟨o,keep b o e q⟩
 have hL:∀b o,c.H.get? b=some o->b≠c.L:=λb o e q=>by have:=ok.LH;rw[<-q,e]at this;cases this
 refine⟨⟨m,⟨?_,λb o e n1 n2=>?_,λb o e n=>?_,λb o e=>?_,λp hp=>?_,λp hp=>?_,I.nd,I.dis⟩,R,LR,g1.trans e1,g2.trans e2,g3.trans e3⟩,
  ⟨λU h=>h,eB _,λb o e n1 n2 n3=>keep b o e (by simp[n1,n3]),λa ha=>.inl ha,λb o e U=>liv b o e,λU h=>.inl h⟩⟩
 ·refine elE3 I.ns λo es ep=>ae λe r=>?_
  refine elE1 (slot _ _ e (.head _)) λsl h=>?_
  exact(ex3 _ es ep ⟨h,r⟩)
 ·exact keep b o (I.keep b o e n1 n2) (by simp[hL b o e,n2])
 ·refine elE1 (I.slot b o e n) λsl h=>?_
  refine elE1 (slot _ _ h (.tail _ n)) λsl' h'=>?_
  exact⟨sl',h'⟩
 ·refine elE1 (I.live b o e) λo' h=>?_
  exact liv b o' h
 ·refine cX (I.fzH p hp) λa1 a2 a3 a4=>?_
  exact⟨keep _ _ a1 (by simp[a2,a3]),a2,a3,a4⟩
 ·refine cX (I.own p hp) λa1 a2 a3 a4=>?_
  exact⟨keep _ _ a1 (by simp[a2,a3]),a2,a3,a4⟩
structure L4(c:FC)(s:Shared)(mu:List Addr)(s':Shared):Prop where
 keep:∀b o,s.heap.get? b=some o->b∉mu->b∉c.L::c.frs->s'.heap.get? b=some o
 slot:∀b o,s.heap.get? b=some o->b∈c.L::c.frs->∃sl,s'.heap.get? b=some { o with slots:=sl }
 g1:s'.gens=s.gens
 g2:s'.drawn=s.drawn
 g3:s'.os=s.os
theorem am.notFields(ok:am K k c){s:Shared}{fz ad fps}(S:SR w.params c st fz ad fps s){b:Addr}{o:au}(e:s.heap.get? b=some o)(hb:b∈c.L::c.frs):∀vs,o.data≠.fields vs:=by
 obtain⟨m,I,_⟩:=S
 have F:=I.frames ok
 have:b∈cZ (c.env::c.outer):=by refine rwr (ok.frsAll ..) ?_;exact hb
 refine ak (F.mem this) λU=>uE1 λo'=>ae λho' hd=>?_
 rw[e]at ho';cases ho';exact hd
theorem rT{body:List Stmt}{i:Nat}{y xc:ac}{tp yp ap hpos pos:Pos}{ce:Expr}{D0:V}{Q:Fl->St->Prop}{X:Nat->St->Prop}{f:Addr}{bad:Nat->Prop}(ok:am K k c)
  (hc:c.env.kindOf xc=some .globalImplicit) (hd:(xc==("__debug__" : ac))=false) (hgc:c.gn xc=some (.ref f))
  (hy:c.nm[i]? = some y) (hbad:∀C,bad C->exmOne K (.ref C) (.ref f)=some true)
  (hsw:swapsWith ce (some (.Name y yp)) ap.line c.env=pure false)
  (hce:∀(A:Around) (s:Shared) (Qc:Value->Shared->Prop) (Ec:Value->Shared->Prop),(∀v tk,(∀Z ad,RV w.params Z ad D0 v)->Qc v { s with toks:=tk })->wpAny (model prog w) A (eval ce c.env) Qc Ec s)
  (hb:∀s fz ad fps,SR w.params c st fz ad fps s->ag (model prog w) c.A (execs body c.env)
   (dK w.params c (e9 w.params) Q s fz ad fps)
   (λe s'=>∃(s1:Shared) (st1:St) (fz1:List (Addr×au)) (ad1:List Addr) (fps1:List (List (Addr×au))) (mu:List Addr),aA c s fz ad fps s1 fz1 ad1 fps1/\SR w.params c st1 fz1 ad1 fps1 s1/\gj (c.env::c.outer) s1 mu bad e s' /\
    ((mu=[]/\Q .next ⟨setN st1.loc i (some D0),st1.own⟩)\/(c.mu=[]/\(∀a∈mu,a∈aT fps1)/\Q .next ⟨setN st1.loc i (some D0),st1.own.map λU=>.dead⟩))) s):
  WS prog w c (exec (.Try body [.ExceptHandler (some (.Name xc tp)) Bx [.Assign [.Name y yp] ce ap] hpos] [] [] pos) c.env) st Q X:=λs fz ad fps S=>by
 refine J' (aD (hb s fz ad fps S) (λU U x=>x) λe s' zz=>?_)
 refine gT zz λs1 st1 fz1 ad1 fps1 mu=>aY λA1 S1 hr hm=>?_;clear zz
 obtain⟨ea,C,B,t,rfl,hbC,g1,g2,g3,hfl,hB,hsl⟩:=hr
 have nf:∀b o,s1.heap.get? b=some o->b∈c.L::c.frs->∀vs,o.data≠.fields vs:=λb o e hb=>ok.notFields S1 e hb
 have fin:∀(s2:Shared),s2.gens=s'.gens->s2.drawn=s'.drawn->s2.os=s'.os->up B (c.env::c.outer) ea (.ref C) (.ref t) s2.heap->s'.heap.UpToSlots s2.heap ->
   ∃st2 fps2,SR w.params c st2 fz1 ad1 fps2 s2/\aA c s1 fz1 ad1 fps1 s2 fz1 ad1 fps2/\Q .next ⟨setN st2.loc i (some D0),st2.own⟩:=λs2 q1 q2 q3 hf hU=>by
  have slot:∀b o,s1.heap.get? b=some o->b∈c.L::c.frs->∃sl,s2.heap.get? b=some { o with slots:=sl }:=λb o e hb=>by
   refine elE1 (hsl b o e (by refine rwr (ok.frsAll ..) ?_;exact hb)) λsl h=>?_
   refine elE1 (hU b _ h (nf b o e hb)) λsl' h'=>?_
   exact⟨sl',h'⟩
  refine ao hm (ae λz0 hQ=>?_) (al λhmu hsub hQ=>?_) <;>clear hm <;>(try subst z0)
  ·refine ak (S1.kept ok (λb o e n=>hf.1 b o (hB b o e (by simp) (by refine rwr (ok.frsAll ..) ?_;exact n))) slot (q1.trans g1) (q2.trans g2) (q3.trans g3)) λS2 A2=>?_
   exact(ex2 _ _ ⟨S2,A2,hQ⟩)
  ·refine ak (S1.killed ok (λb o e n1 n=>hf.1 b o (hB b o e (λq=>n1 (hsub b q)) (by refine rwr (ok.frsAll ..) ?_;exact n))) slot hmu (q1.trans g1) (q2.trans g2) (q3.trans g3)) λS2 A2=>?_
   exact(ex2 _ _ ⟨S2,A2,hQ⟩)
 refine wpAny_looks_onW ok.hA ok.hf hfl λh2 hH hU1=>?_
 refine wpAny_landsW hH λh3 hF hU2=>?_
 refine elE2 (fin { s' with heap:=h3 } rfl rfl rfl hF (hU1.trans hU2)) λst2 fps2=>al λS2 U U=>?_
 refine wpAny_handleBy_cons (codeAny_handlers_test ?_) (by intro q;cases q)
 refine jj ok.hk hc (pJ (by refine rwr (ok.hg ..) ?_;exact ok.gns.keeps (S2.heap ok)) hgc ?_) hd
 refine elE1 hF.there λob=>ae λhob hoc=>?_
 have LT:Looks (model prog w) h3 (typeOf (.ref ea)) (.ref C):=by
  refine rwr (aM (hoc ..)) ?_;exact(Looks.ld hob).andThen .now
 refine(exm_one (S2.kin ok) LT (hbad C hbC)).at ?_
 simp only[if_true]
 refine codeAny_handlers_suite (lands_againW hF λh4 hF4 hU3=>?_)
 refine elE2 (fin { s' with heap:=h4 } rfl rfl rfl hF4 ((hU1.trans hU2).trans hU3)) λst4 fps4=>al λS4 A4 hQ=>?_
 refine wpAny_execs_cons (wpAny_Assign_Name (hce _ _ _ _ λv tk hv=>?_) hsw)
 refine jU ok hy (S4.tok tk) (hv _ _) λs5 S5 A5=>wpAny_execs_nil ?_
 exact⟨.next,_,fz1,ad1,fps4,(A1.trans A4).trans (aA.trans (aA.tok tk) A5),S5,rfl,hQ⟩
end
end

section
section
variable {prog:Program}{w:World}{A:Around}{s:Shared}{R:Result->Shared->Prop}
def gB:Value->Shared->Prop:=λU U=>False
noncomputable def kF(ifs:List Expr)(env:Env):Sem Bool:=forIn ifs true λc r=>if r=true then do let ok <-isTrue c env (eval c env);pure (js ok) else pure (js r)
theorem Bo{env:Env}{M:Model}{E:Value->Shared->Prop}{Q:Bool->Shared->Prop}(h:Q true s):ag M A (kF [] env) Q E s:=aF h
theorem E2{env:Env}{c:Expr}{M:Model}{E:Value->Shared->Prop}{Q:Bool->Shared->Prop}(h:ag M A (isTrue c env (eval c env)) Q E s):ag M A (kF [c] env) Q E s:=by
 unfold kF
 simp only[List.forIn_cons,List.forIn_nil,if_true]
 exact ai (ai (aD h (λb s' hb=>aF (aF hb)) λU U x=>x))
theorem yK{α:Type}{M:Model}{E:Value->Shared->Prop}{m:Sem α}{k:Value->Sem Unit}{Q:α->Shared->Prop}(h:ag M A m Q gB s):ag M A (m.onRaise k) Q E s :=
 me (aD h (λU U x=>x) λU U x=>dQ x)
theorem Hx{elt target iter:Expr}{ifs:List Expr}{scope:Scope}{pos:Pos}{it acc:Value}{env:Env}(I:Nat->Shared->Prop)
  (turn:∀n s,I n s->ag (model prog w) A (pyNext it) (λr s₁=>match r with
   |none=>R (.ok .next) s₁
   |some v=>ag (model prog w) A (assign target env v) (λU s₂=>ag (model prog w) A (kF ifs env) (λok s₃ =>
      if ok=true then ag (model prog w) A (eval elt env) (λx s₄ =>
       ag (model prog w) A (call (.builtin "list.append") [acc,x]) (λU s₅=>∃m,m<n/\I m s₅) gB s₄) gB s₃
      else ∃m,m<n/\I m s₃) gB s₂) gB s₁) gB s)
  (n:Nat) (h:I n s) (ht:∀v,letOwnedTupleGo target it v=pure ()):
  bh (model prog w) A (.compLoop (.ListComp elt [⟨target,iter,ifs,0⟩] scope pos) 0 it acc env) R s:=by
 refine sr rfl rfl I (λn s hI=>?_) n h
 show ag _ A ((compTurn (.ListComp elt [⟨target,iter,ifs,0⟩] scope pos) 0 it acc env).onRaise (λx=>do noteFrame x env;theTreesLotGoes x)) _ _ s
 refine yK ?_
 refine rwr (compTurn_list ..) ?_
 refine ai (a_ (ai (aD (turn n s hI) (λr s₁ h₁=>?_) λU U h'=>h')))
 cases r with
 |none=>exact aF h₁
 |some v =>
  refine ai (fY (ht v) ?_)
  refine ai (aD h₁ (λU s₂ h₂=>ai (aD h₂ (λok s₃ h₃=>?_) λU U h'=>h')) λU U h'=>h')
  cases ok with
  |false=>exact aF (.inl ⟨rfl,h₃⟩)
  |true =>
   exact ai (ai (aD h₃ (λx s₄ h₄=>ai (aD h₄ (λU s₅ h₅=>aF (aF (.inl ⟨rfl,h₅⟩))) λU U h'=>h')) λU U h'=>h'))
theorem Cm{elt target iter:Expr}{ifs:List Expr}{scope:Scope}{pos:Pos}{it acc:Value}{env:Env}
  (h0:bh (model prog w) A (.compLoop (.ListComp elt [⟨target,iter,ifs,0⟩] scope pos) 0 it acc env) R s)
  (h:wpAny (model prog w) A (pyIter it) (λit' s'=>bh (model prog w) A (.compLoop (.ListComp elt [⟨target,iter,ifs,0⟩] scope pos) 0 it' acc env) R s') gB s):
  bh (model prog w) A (.compStart (.ListComp elt [⟨target,iter,ifs,0⟩] scope pos) 0 it acc env) R s:=by
 refine ge rfl ?_
 show ag _ _ ((compStart (.ListComp elt [⟨target,iter,ifs,0⟩] scope pos) 0 it acc env).onRaise (λx=>do noteFrame x env;standAt theWindowsPlace)) _ _ s
 refine yK ?_
 unfold compStart
 show ag _ _ (ask >>= _) _ _ s
 refine ai (wpAny.n (wpAny_askSetting ?_))
 split
 ·first
   |exact ai (aF (aF (dg rfl h0)))
   |exact aF (dg rfl h0)
 ·first
   |exact ai (pk (ai (a_ (ai (wpAny.n (wpAny_mono h (λit' s' h'=>aF (dg rfl h')) λU U x=>x))))))
   |(refine ai (pk ?_);show ag _ _ (standAt iter.pos >>= _) _ _ s;exact ai (a_ (ai (wpAny.n (wpAny_mono h (λit' s' h'=>aF (dg rfl h')) λU U x=>x)))))
theorem Ga{α:Type}{M:Model}{E:Value->Shared->Prop}{c:Prop}[Decidable c]{pos:Pos}{k:PUnit->Sem α}{Q:α->Shared->Prop}(h:ag M A (k ()) Q E s):
  ag M A (if c then (standAt pos >>= k) else k ()) Q E s:=by
 split
 ·exact ai (a_ h)
 ·exact h
def qm(M:Model)(A:Around)(E:Value->Shared->Prop)(use:Option (Value->Sem Unit))(Q:Value->Shared->Prop)(acc:Value)(C:Addr)(r:Result)(s':Shared):Prop :=
 match r,use with
 |.ok _,Bx=>∃m,s'.heap.Ns C m/\∀h',mP C s'.heap h'->Q acc { s' with heap:=h' }
 |.ok _,some u=>wpAny M A (u acc) (λU s''=>∃m,s''.heap.Ns C m/\∀h',mP C s''.heap h'->Q .none { s'' with heap:=h' }) E s'
 |.error _,_=>False
theorem yf{env:Env}{e:Expr}{scope:Scope}{pos:Pos}{newAcc first:Sem Value}{g:Comprehension}{gs:List Comprehension}{cl:List (ac×Addr)}{use:Option (Value->Sem Unit)}{E:Value->Shared->Prop}
  {Q:Value->Shared->Prop}
  (hcl:clausesOf e=g::gs) (hs:∀x,foldedSetIterable g.iter env x=pure x) (hclos:closureFor scope env=pure cl)
  (hkind:scope.kind=.function) (hnames:∀x∈scope.names,x.2=.local->scope.names.lookup x.1=some .local)
  (h:ag (model prog w) A first (λx s₁=>wpAny (model prog w) A (pyIter x) (λit s₂=>wpAny (model prog w) A newAcc (λacc s₃ =>
   wpAny (model prog w) A (newFunctionEnv scope env.globals cl [] env.qual Bx .none (some env)) (λcenv s₄ =>
    bh (model prog w) A (.compStart e 0 it acc { cenv with scope:=relabel scope env }) (qm (model prog w) A E use Q acc cenv.locals) s₄) E s₃) E s₂) E s₁) E s):
  ag (model prog w) A (comprehension e scope env pos newAcc false first use) Q E s:=by
 unfold comprehension
 refine rwr (hclos ..) (rwr (hcl ..) ?_)
 refine ai (aD h (λx s₁ h₁=>ai (a_ (ai (fY (hs x) (ai (bC (wpAny.n (wpAny_mono h₁ (λit s₂ h₂=>?_) λU U h'=>h')))))))) λU U h'=>h')
 refine Ga (ai (wpAny.n (wpAny_mono h₂ (λacc s₃ h₃=>ai (aF (ai (wpAny.n (wpAny_mono h₃ (λcenv s₄ h₄=>?_) λU U h'=>h'))))) λU U h'=>h')))
 dsimp only
 have hv:∀x∈(scope.names.filter λx=>(x.2==.local||x.2==.cell)&&x.1 != (".0" : ac)).reverse,x.2=.local ->
   Env.kindOf { cenv with scope:=relabel scope env } x.1=some .local:=λx hx hl=>lookup_relabel_local (hnames x (uK.mp (List.mem_reverse.mp hx)).1 hl)
 have hv':∀x∈(scope.names.filter λx=>(x.2==.local||x.2==.cell)&&x.1 != (".0" : ac)).reverse.drop 1++(scope.names.filter λx=>(x.2==.local||x.2==.cell)&&x.1 != (".0" : ac)).reverse.take 1,
   x.2=.local->Env.kindOf { cenv with scope:=relabel scope env } x.1=some .local:=λx hx hl=>by
  refine ao (cQ.mp hx) (λh1=>?_) λh1=>?_
  ·exact hv x (List.mem_of_mem_drop h1) hl
  ·exact hv x (mB h1) hl
 refine bC (ai (vq (bC (vE (ee h₄ λr s' hr=>?_) (λx=>nomatch x)))))
 cases r with
 |ok f =>
  cases use with
  |none =>
   refine elE1 hr ?_;clear hr;refine λm=>ae λhn hr=>?_
   exact ai (bC (wpAny.n (wpAny_comp_letGo (cenv:={ cenv with scope:=relabel scope env }) hkind _ s' m hv hn λh' m' U hs'=>aF (hr h' hs'))))
  |some u =>
   refine ai (pk (ai (bC (wpAny.n (wpAny_mono hr (λU s'' hr'=>?_) λU U h'=>h')))))
   refine elE1 hr' ?_;clear hr';refine λm=>ae λhn hr'=>?_
   exact ai (wpAny.n (wpAny_comp_letGo (cenv:={ cenv with scope:=relabel scope env }) hkind _ s'' m hv' hn λh' m' U hs'=>aF (hr' h' hs')))
 |error x=>exact dQ (by cases use <;>exact hr)
end
end

section
section
variable {prog:Program}{w:World}{K:Frag}{k:Nat}{c:FC}{st:St}{X:Nat->St->Prop}
theorem SR.adopt{P:Params}{s:Shared}{fz ad fps}{b:Addr}{o:au}(S:SR P c st fz ad fps s)(u:bS c fz fps b)(e:s.heap.get? b=some o):SR P c st (fz++[(b,o)]) ad fps s:=by
 obtain⟨m,I,R,LR,g1,g2,g3⟩:=S
 have ex:d_ (Zf c.base fz) (Zf c.base (fz++[(b,o)])):=Zf.ext λp hp=>dE _ hp
 refine⟨m,⟨I.ns,I.keep,I.slot,I.live,λp hp=>?_,I.own,I.nd,λp hp q hq=>?_⟩,R.mono ex (eB _),LR.mono ex (eB _),g1,g2,g3⟩
 ·refine ao (cQ.mp hp) (λhp=>?_) λhp=>?_
  ·exact I.fzH p hp
  ·simp only[bj]at hp;subst hp
   exact⟨e,u.1,u.2.1,.inr (.inl u.2.2.2.2)⟩
 ·refine ao (cQ.mp hq) (λhq=>?_) λhq=>?_
  ·exact I.dis p hp q hq
  ·simp only[bj]at hq;subst hq
   exact λz=>u.2.2.1 (by have:p.1=b:=z;refine rwr (aM (this ..)) ?_;exact du hp)
theorem aA.adopt{s₀ s:Shared}{fz ad fps fz' ad' fps'}{b:Addr}{o:au}(A:aA c s₀ fz ad fps s fz' ad' fps')(hb:s₀.heap.get? b=Bx):aA c s₀ fz ad fps s (fz'++[(b,o)]) ad' fps' :=
 ⟨λp hp=>dE _ (A.fz p hp),A.ad,A.keep,A.fresh,A.live,λp hp=>by
  refine ao (cQ.mp hp) (λhp=>?_) λhp=>?_
  ·exact A.fzf p hp
  ·simp only[bj]at hp;subst hp;exact .inr (.inl hb)⟩
theorem SR.keepAll{P:Params}{s s':Shared}{fz ad fps fz' ad'}(S:SR P c st fz ad fps s)(A:aA c s fz ad fps s' fz' ad' fps)(S':SR P c st fz' ad' fps s'){b:Addr}{o:au}(e:s.heap.get? b=some o)(h1:b≠c.L)(h2:b∉c.frs):s'.heap.get? b=some o:=by
 by_cases q:b∈aT fps
 ·refine elE1 (aW.mp q) λp=>ae λhp z0=>?_;subst z0
  obtain⟨_,I,_⟩:=S
  obtain⟨_,I',_⟩:=S'
  rw[(I.own p hp).1]at e;cases e
  exact(I'.own p hp).1
 ·exact A.keep b o e h1 q h2
inductive f6(prog:Program)(w:World)(c:FC)(s:Shared)(fz:List (Addr×au))(items:List D)(it:Value)(s₂:Shared):Prop
 |mk (I:Addr) (fp wr:List Addr) (n:Nat) (Pv:Nat->Value->Prop) (Stt:Nat->Heap->Prop) (_:it=.ref I) (_:Walks prog w c.A I fp wr n Pv Stt) (_:items.length=n)
  (_:∀j v,Pv j v->j<n->∃d,items[j]? = some d/\RD w.params (Zf c.base fz) d v) (_:Stt 0 s₂.heap) (_:∃h' tk,s₂={ s with heap:=h',toks:=tk }/\∀b o,s.heap.get? b=some o->h'.get? b=some o)
  (_:∀b∈wr,s.heap.get? b=Bx/\∃o,s₂.heap.get? b=some o) (_:∀b∈fp,b≠c.L/\b∉c.frs/\∃o,s₂.heap.get? b=some o) (_:∀b∈wr,∀j h,Stt j h->∃o,h.get? b=some o):f6 prog w c s fz items it s₂
structure ki(prog:Program)(w:World)(c:FC)(st:St)(ad:List Addr)(fps:List (List (Addr×au)))(fz:List (Addr×au))(scope:Scope)(cl:List (ac×Addr))(x:ac)(ifs:List Expr)(elt:Expr)(items:List D)(p:D->Bool)(g:D->D):Prop where
 test:∀d∈items,∀(C:Addr) (s':Shared) (fz1:List (Addr×au)) (m:ac->Option Value) (v:Value),(∀p∈fz,p∈fz1)->SR w.params c st fz1 ad fps s'->s'.heap.Ns C m->m x=some v->RD w.params (Zf c.base fz1) d v ->
  ag (model prog w) c.A (kF ifs (compEnvC scope cl C c.env)) (λok s''=>ok=p d/\∃tk,s''={ s' with toks:=tk }) gB s'
 elt:∀d∈items,p d=true->∀(C:Addr) (s':Shared) (fz1:List (Addr×au)) (m:ac->Option Value) (v:Value),(∀p∈fz,p∈fz1)->SR w.params c st fz1 ad fps s'->s'.heap.Ns C m->m x=some v->RD w.params (Zf c.base fz1) d v ->
  ag (model prog w) c.A (eval elt (compEnvC scope cl C c.env)) (λy s''=>∃fz2,aA c s' fz1 ad fps s'' fz2 ad fps/\SR w.params c st fz2 ad fps s''/\RD w.params (Zf c.base fz2) (g d) y) gB s'
inductive lE(w:World)(c:FC)(st:St)(s:Shared)(fz:List (Addr×au))(ad:List Addr)(fps:List (List (Addr×au)))(C dl:Addr)(wr:List Addr)(res:List D)(s':Shared):Prop
 |mk (fz1:List (Addr×au)) (ys:Array Value) (m:ac->Option Value) (_:aA c s fz ad fps s' fz1 ad fps) (_:SR w.params c st fz1 ad fps s') (_:s'.heap.PlainList dl ys) (_:RDs w.params (Zf c.base fz1) res ys.toList) (_:s'.heap.Ns C m) (_:bS c fz1 fps dl) (_:bS c fz1 fps C) (_:∀b∈wr,bS c fz1 fps b):lE w c st s fz ad fps C dl wr res s'
inductive Ax(w:World)(c:FC)(st:St)(s:Shared)(fz:List (Addr×au))(ad:List Addr)(fps:List (List (Addr×au)))(C dl:Addr)(wr:List Addr)(n:Nat)(Stt:Nat->Heap->Prop)(items:List D)(p:D->Bool)(g:D->D)(k:Nat)(s':Shared):Prop
 |mk (j:Nat) (_:j<=n) (_:k=n+1-j) (_:Stt j s'.heap) (_:lE w c st s fz ad fps C dl wr (((items.take j).filter p).map g) s'):Ax w c st s fz ad fps C dl wr n Stt items p g k s'
theorem RDs.snoc{P:Params}{Z:Zt}:∀{a:List D} {xs:List Value} {d:D} {v:Value},RDs P Z a xs->RD P Z d v->RDs P Z (a++[d]) (xs++[v])
 |[],_,_,_,h,r=>by have h:_=_:=h;subst h;exact(ex2 _ _ ⟨rfl,r,rfl⟩)
 |x::l,_,_,_,h,r=>by
  refine elE2 h λy ys=>al λz0 h1 h2=>?_;clear h;subst z0
  exact(ex2 y _ ⟨rfl,h1,RDs.snoc h2 r⟩)
theorem D'{elt iter:Expr}{x:ac}{px:Pos}{ifs:List Expr}{scope:Scope}{cl:List (ac×Addr)}{pos:Pos}{s s₄:Shared}{fz ad fps}{items:List D}{p:D->Bool}{g:D->D}{C dl I:Addr}{fp wr:List Addr}{n:Nat}{Pv:Nat->Value->Prop}{Stt:Nat->Heap->Prop}
  {R:Result->Shared->Prop} (ok:am K k c) (hkind:scope.kind=.function) (hx:scope.names.lookup x=some .local) (hsz:n<=sizeLine)
  (W:Walks prog w c.A I fp wr n Pv Stt) (hl:items.length=n) (hP:∀j v,Pv j v->j<n->∃d,items[j]? = some d/\RD w.params (Zf c.base fz) d v)
  (hE:ki prog w c st ad fps fz scope cl x ifs elt items p g) (hDC:dl≠C) (hDf:dl∉fp) (hCf:C∉fp) (hwr:∀b∈wr,s.heap.get? b=Bx) (hDs:s.heap.get? dl=Bx) (hCs:s.heap.get? C=Bx)
  (hfp:∀b∈fp,b≠c.L/\b∉c.frs) (hlv:∀b∈wr,∀j h,Stt j h->∃o,h.get? b=some o)
  (h0:lE w c st s fz ad fps C dl wr [] s₄) (hst:Stt 0 s₄.heap)
  (hR:∀s',lE w c st s fz ad fps C dl wr ((items.filter p).map g) s'->R (.ok .next) s'):
  bh (model prog w) c.A (.compLoop (.ListComp elt [⟨.Name x px,iter,ifs,0⟩] scope pos) 0 (.ref I) (.ref dl) (compEnvC scope cl C c.env)) R s₄:=by
 refine Hx (Ax w c st s fz ad fps C dl wr n Stt items p g) ?_ (n+1) ⟨0,cR _,rfl,hst,by simpa using h0⟩ (λU=>rfl)
 intro k s' h
 obtain⟨j,hj,rfl,hst',⟨fz1,ys,m,A,S,pl,rd,ns,u1,u2,u3⟩⟩:=h
 have hCw:C∉wr:=λh=>hCf (W.sub _ h)
 have hDw:dl∉wr:=λh=>hDf (W.sub _ h)
 have hxx:(compEnvC scope cl C c.env).kindOf x=some .local:=lookup_relabel_local hx
 by_cases hlt:j<n
 ·refine wpAny.n (W.item j _ _ _ hlt hst' λv h₁ tk₁ hPv hst₁ hk₁=>?_)
  refine elE1 (hP j v hPv hlt) λd=>ae λed rv=>?_
  have dm:d∈items:=cw ed
  have S1:=S.side (tk:=tk₁) ok u3 hk₁
  have A1:=A.side (tk:=tk₁) hwr hk₁
  have ns1:h₁.Ns C m:=ns.at' λo e=>hk₁ _ o hCw e
  have pl1:h₁.PlainList dl ys:=pl.at λo e=>hk₁ _ o hDw e
  refine wpAny.n (wpAny_assign_Name (wpAny_storeName_local hxx ns1 (λh₂ hn₂ hs₂=>?_) (by simp[compEnvC,relabel,hkind])))
  have kC:∀b o,b∉[C]->h₁.get? b=some o->h₂.get? b=some o:=λb o n e=>hs₂.extBut b o (λq=>n (by simp[q,compEnvC])) e
  have S2:=S1.side (tk:=tk₁+1) (h':=h₂) ok (λb hb=>by simp only[bj]at hb;subst hb;exact u2) kC
  have A2:=A1.side (tk:=tk₁+1) (h':=h₂) (λb hb=>by simp only[bj]at hb;subst hb;exact hCs) kC
  have hst₂:Stt (j+1) h₂:=W.frame _ _ _ hst₁ λb hb o e=>kC b o (λq=>hCf (by simp only[bj]at q;subst q;exact hb)) e
  have pl2:h₂.PlainList dl ys:=pl1.at λo e=>kC _ o (by simp[hDC]) e
  have rv':RD w.params (Zf c.base fz1) d v:=RD.mono (Zf.ext A.fz) _ _ rv
  refine aD (hE.test d dm C _ fz1 _ v A.fz S2 hn₂ (by simp) rv') (λok' s₃ hok=>?_) λU U x=>x
  refine ak hok λy5=>uE1 λtk₃ y6=>?_;clear hok;subst y5;subst y6
  have tf:=take_succ_filter p items j d ed
  cases hpd:p d with
  |false =>
   simp only[iu,if_false]
   refine⟨n+1-(j+1),uv (uw hlt) (iy j),j+1,hlt,rfl,hst₂,fz1,ys,_,aA.trans A2 (aA.tok tk₃),S2.tok tk₃,pl2,?_,hn₂,u1,u2,u3⟩
   refine rwr (tf ..) (rwr (hpd ..) ?_);simpa using rd
  |true =>
   simp only[if_true]
   refine aD (hE.elt d dm hpd C _ fz1 _ v A.fz (S2.tok tk₃) hn₂ (by simp) rv') (λy s₄' hy=>?_) λU U x=>x
   refine elE1 hy λfz2=>al λA3 S3 ry=>?_;clear hy
   have kp:∀b o,h₂.get? b=some o->b≠c.L->b∉c.frs->s₄'.heap.get? b=some o:=λb o e n1 n2=>SR.keepAll (S2.tok tk₃) A3 S3 e n1 n2
   have pl3:s₄'.heap.PlainList dl ys:=pl2.at λo e=>kp _ o e u1.1 u1.2.1
   have ns3:=hn₂.at' λo e=>kp _ o e u2.1 u2.2.1
   have hst₃:Stt (j+1) s₄'.heap:=W.frame _ _ _ hst₂ λb hb o e=>kp b o e (hfp b hb).1 (hfp b hb).2
   have v1:bS c fz2 fps dl:=by refine elE1 pl2 λU e=>?_;clear pl2;exact u1.adv e A3
   have v2:bS c fz2 fps C:=by refine elE3 hn₂ λU U U=>ae λe U=>?_;clear hn₂;exact u2.adv e A3
   have v3:∀b∈wr,bS c fz2 fps b:=λb hb=>by refine elE1 (hlv b hb _ _ hst₂) λU e=>?_;exact(u3 b hb).adv e A3
   have hys:ys.size<=sizeLine:=by
    have e1:=RDs.len rd
    have e2:((items.take j).filter p).length<=(items.take j).length:=LF _ _
    have e3:(items.take j).length<=n:=by refine rwr (fO ..) ?_;lia
    simp at e1
    lia
   refine wpAny.n (wpAny_list_append_plain (hsz:=hys) pl3 λh₅ hl₅ hs₅=>?_)
   have kD:∀b o,b∉[dl]->s₄'.heap.get? b=some o->h₅.get? b=some o:=λb o n e=>hs₅.extBut b o (λq=>n (by simp[q])) e
   have A4:aA c s fz ad fps s₄' fz2 ad fps:=(A2.trans (aA.tok tk₃)).trans A3
   refine⟨n+1-(j+1),uv (uw hlt) (iy j),j+1,hlt,rfl,W.frame _ _ _ hst₃ λb hb o e=>kD b o (λq=>hDf (by simp only[bj]at q;subst q;exact hb)) e,fz2,_,_,
    A4.side (tk:=s₄'.toks) (λb hb=>by simp only[bj]at hb;subst hb;exact hDs) kD,
    S3.side (tk:=s₄'.toks) ok (λb hb=>by simp only[bj]at hb;subst hb;exact v1) kD,hl₅,?_,ns3.at' λo e=>kD _ o (by show ¬ C∈[dl];simp[fP hDC]) e,v1,v2,v3⟩
   refine rwr (tf ..) (rwr (hpd ..) ?_)
   simp only[if_true,eK,eM,pM,Array.toList_push]
   exact RDs.snoc (RDs.mono (Zf.ext A3.fz) _ _ rd) ry
 ·have hin:j=n:=mI (by assumption) (eN hlt)
  subst hin
  rw[mG (by lia)]at rd
  refine wpAny.n (W.done _ _ _ hst' λh₁ tk₁ hk₁=>hR _ ⟨fz1,ys,m,A.side hwr hk₁,S.side ok u3 hk₁,pl.at λo e=>hk₁ _ o hDw e,rd,ns.at' λo e=>hk₁ _ o hCw e,u1,u2,u3⟩)
theorem vM{elt iter:Expr}{x:ac}{px:Pos}{ifs:List Expr}{scope:Scope}{cl:List (ac×Addr)}{pos:Pos}{s₁ s₂:Shared}{fz ad fps}{items:List D}{p:D->Bool}{g:D->D}{it:Value}
  {RR:Value->Addr->Result->Shared->Prop} {E:Value->Shared->Prop} (ok:am K k c) (hkind:scope.kind=.function) (hcell:∀y∈scope.names,y.2≠.cell) (hx:scope.names.lookup x=some .local) (hsz:items.length<=sizeLine)
  (S:SR w.params c st fz ad fps s₁) (hI:f6 prog w c s₁ fz items it s₂) (hE:ki prog w c st ad fps fz scope cl x ifs elt items p g)
  (hRR:∀(dl C:Addr) (wr:List Addr) s',s₁.heap.get? dl=Bx->s₁.heap.get? C=Bx->dl≠C->lE w c st s₁ fz ad fps C dl wr ((items.filter p).map g) s'->RR (.ref dl) C (.ok .next) s'):
  wpAny (model prog w) c.A (newList []) (λacc s₃=>wpAny (model prog w) c.A (newFunctionEnv scope c.env.globals cl [] c.env.qual Bx .none (some c.env)) (λcenv s₄ =>
   bh (model prog w) c.A (.compStart (.ListComp elt [⟨.Name x px,iter,ifs,0⟩] scope pos) 0 it acc { cenv with scope:=relabel scope c.env }) (RR acc cenv.locals) s₄) E s₃) E s₂:=by
 obtain⟨I,fp,wr,n,Pv,Stt,rfl,W,hl,hP,hst,⟨H2,tk2,rfl,hk2⟩,hwr,hfp,hlv⟩:=hI
 refine wpAny_newObj_type (wpAny_newFunctionEnv hcell (by intro y hy;simp at hy) (λh₁ hns₁ hsb₁=>?_) hkind)
 dsimp only at hns₁ hsb₁ ⊢
 generalize hH3:H2.push { cls:=.type "list",dict:=Bx,data:=.seq ([]:List Value).toArray }=H3 at hns₁ hsb₁ ⊢
 have hC:H3.objs.size=H2.objs.size+1:=by exact rwr (aM (hH3 ..)) (rwr (pI ..) rfl)
 have hDC:H2.objs.size≠H3.objs.size:=by lia
 have below:∀b,b<H2.objs.size->b≠H3.objs.size/\b≠H2.objs.size:=λb hb=>⟨by lia,by lia⟩
 have old:∀b o,H2.get? b=some o->h₁.get? b=some o:=λb o e=>hsb₁.extBut b o (below b (cL e)).1 (eA _ (hH3▸eA _ e))
 have hacc:h₁.PlainList H2.objs.size #[]:=⟨_,hsb₁.extBut _ _ hDC (eA _ (hH3▸dt _ rfl))⟩
 have fresh:∀a,H2.objs.size<=a->s₁.heap.get? a=Bx:=λa ha=>by
  cases e:s₁.heap.get? a with
  |none=>rfl
  |some o'=>exact absurd (cL (hk2 _ _ e)) (j9.mpr ha)
 have kAll:∀b o,b∉([]:List Addr)->s₁.heap.get? b=some o->h₁.get? b=some o:=λb o U e=>old b o (hk2 b o e)
 have loop:∀s₃:Shared,s₃={ s₁ with heap:=h₁,toks:=tk2+([]:List (ac×Value)).length } ->
   bh (model prog w) c.A (.compLoop (.ListComp elt [⟨.Name x px,iter,ifs,0⟩] scope pos) 0 (.ref I) (.ref H2.objs.size) (compEnvC scope cl H3.objs.size c.env)) (RR (.ref H2.objs.size) H3.objs.size) s₃:=by
  refine λs₃ z0=>?_;subst z0
  refine D' (s:=s₁) (fz:=fz) (ad:=ad) (fps:=fps) ok hkind hx (by lia) W hl hP hE hDC (λh=>by refine elE1 ((hfp _ h).2.2) λo e=>?_;exact fM _ (cL e)) (λh=>by refine elE1 ((hfp _ h).2.2) λo e=>?_;have this:H3.objs.size<H2.objs.size:=cL e;lia)
   (λb hb=>(hwr b hb).1) (fresh _ (bG _)) (fresh _ (by lia)) (λb hb=>⟨(hfp b hb).1,(hfp b hb).2.1⟩) hlv
   ⟨fz,#[],_,aA.refl.side (wr:=[]) (λU h=>nomatch h) kAll,S.side (wr:=[]) ok (λU h=>nomatch h) kAll,hacc,rfl,hns₁,bS.new ok S (fresh _ (bG _)),bS.new ok S (fresh _ (by lia)),λb hb=>bS.new ok S (hwr b hb).1⟩
   (W.frame _ _ _ hst λb U o e=>old b o e) λs' hs'=>hRR _ _ wr s' (fresh _ (bG _)) (fresh _ (by lia)) hDC hs'
 exact Cm (loop _ rfl) (W.self 0 _ _ _ (W.frame _ _ _ hst λb U o e=>old b o e) (loop _ rfl))
def oh(prog:Program)(w:World)(c:FC)(scope:Scope)(cl:List (ac×Addr))(x:ac)(ifs:List Expr)(elt:Expr)(v:Value)(st1:St)(fz1:List (Addr×au))(ad1:List Addr)(fps1:List (List (Addr×au)))(s1:Shared)(res:List D):Prop :=
 ∃(items:List D) (p:D->Bool) (g:D->D),items.length<=sizeLine/\(∀E:Value->Shared->Prop,wpAny (model prog w) c.A (pyIter v) (λit s2=>f6 prog w c s1 fz1 items it s2) E s1)/\ki prog w c st1 ad1 fps1 fz1 scope cl x ifs elt items p g/\res=(items.filter p).map g
theorem zN{elt iter:Expr}{x:ac}{px:Pos}{ifs:List Expr}{scope:Scope}{cl:List (ac×Addr)}{pos:Pos}{Q:V->St->Prop}(ok:am K k c)
  (hclos:closureFor scope c.env=pure cl) (hcell:∀y∈scope.names,y.2≠.cell) (hkind:scope.kind=.function)
  (hnames:∀y∈scope.names,y.2=.local->scope.names.lookup y.1=some .local) (hx:scope.names.lookup x=some .local) (hs:∀x,foldedSetIterable iter c.env x=pure x)
  (h:∀s fz ad fps,SR w.params c st fz ad fps s->ag (model prog w) c.A (eval iter c.env) (λv s1=>∃st1 fz1 ad1 fps1 res,aA c s fz ad fps s1 fz1 ad1 fps1/\SR w.params c st1 fz1 ad1 fps1 s1 /\
   oh prog w c scope cl x ifs elt v st1 fz1 ad1 fps1 s1 res/\Q (.d (.list res)) st1) (bD prog w c X) s):
  WE prog w c (eval (.ListComp elt [⟨.Name x px,iter,ifs,0⟩] scope pos) c.env) st Q X:=λs fz ad fps S=>by
 refine rwr (eval_ListComp ..) ?_
 refine yf (use:=Bx) (g:=⟨.Name x px,iter,ifs,0⟩) (gs:=[]) rfl hs hclos hkind hnames (aD (h s fz ad fps S) (λv s1 hv=>?_) λU U x=>x)
 refine jg hv λst1 fz1 ad1 fps1 res=>aY λA1 S1=>uE3 λitems p g=>aY λhsz hI hE z0 hQ=>?_;clear hv;subst z0
 refine wpAny_mono (hI _) (λit s2 h2=>?_) λU U x=>x
 refine vM (RR:=qm (model prog w) c.A (bD prog w c X) Bx _) ok hkind hcell hx hsz S1 h2 hE ?_
 intro dl C wr s' hd hC hdC zz
 obtain⟨fz2,ys,m,A2,S2,⟨nn,pl⟩,rd,ns,u1,u2,_⟩:=zz
 refine⟨m,ns,λh' hs'=>?_⟩
 have kC:∀b o,b∉[C]->s'.heap.get? b=some o->h'.get? b=some o:=λb o n e=>hs'.extBut b o (λq=>n (by simp[q])) e
 have pl':h'.get? dl=some (listOf ys nn):=kC _ _ (by simp[hdC]) pl
 have S3:=S2.side (tk:=s'.toks) (h':=h') ok (λb hb=>by simp only[bj]at hb;subst hb;exact u2) kC
 have A3:=A2.side (tk:=s'.toks) (h':=h') (λb hb=>by simp only[bj]at hb;subst hb;exact hC) kC
 exact⟨.d (.list ((items.filter p).map g)),st1,_,ad1,fps1,A1.trans (A3.adopt hd),S3.adopt u1 pl',(ex3 dl ys nn ⟨rfl,.inr (gp _ (.head _)),RDs.mono (Zf.ext λp hp=>dE _ hp) _ _ rd⟩),hQ⟩
theorem F1{elt iter:Expr}{i:Nat}{x y:ac}{px py:Pos}{ifs:List Expr}{scope:Scope}{cl:List (ac×Addr)}{pos spos:Pos}{Q:Fl->St->Prop}(ok:am K k c)
  (hsw:swapsWith (.ListComp elt [⟨.Name x px,iter,ifs,0⟩] scope pos) (some (.Name y py)) spos.line c.env=pure true) (hy:c.nm[i]? = some y)
  (hclos:closureFor scope c.env=pure cl) (hcell:∀y∈scope.names,y.2≠.cell) (hkind:scope.kind=.function)
  (hnames:∀y∈scope.names,y.2=.local->scope.names.lookup y.1=some .local) (hx:scope.names.lookup x=some .local) (hs:∀x,foldedSetIterable iter c.env x=pure x)
  (h:∀s fz ad fps,SR w.params c st fz ad fps s->ag (model prog w) c.A (eval iter c.env) (λv s1=>∃st1 fz1 ad1 fps1 res,aA c s fz ad fps s1 fz1 ad1 fps1/\SR w.params c st1 fz1 ad1 fps1 s1 /\
   oh prog w c scope cl x ifs elt v st1 fz1 ad1 fps1 s1 res/\Q .next ⟨setN st1.loc i (some (.d (.list res))),st1.own⟩) (bD prog w c X) s):
  WS prog w c (exec (.Assign [.Name y py] (.ListComp elt [⟨.Name x px,iter,ifs,0⟩] scope pos) spos) c.env) st Q X:=λs fz ad fps S=>by
 refine rwr (exec_Assign_Name_used _ _ _ _ hsw ..) ?_
 refine ai (a_ (ai ?_))
 show ag _ c.A (do let _ <-comprehension (.ListComp elt [⟨.Name x px,iter,ifs,0⟩] scope pos) scope c.env _ (newList []) false (eval iter c.env) (some (assign (.Name y py) c.env))) _ _ s
 refine ai (aD (Q:=λU s'=>dK w.params c (e9 w.params) Q s fz ad fps .next s')
  (yf (use:=some (assign (.Name y py) c.env)) (g:=⟨.Name x px,iter,ifs,0⟩) (gs:=[]) rfl hs hclos hkind hnames (aD (h s fz ad fps S) (λv s1 hv=>?_) λU U x=>x)) (λU s' hq=>aF (aF hq)) λU U e=>e)
 refine jg hv λst1 fz1 ad1 fps1 res=>aY λA1 S1=>uE3 λitems p g=>aY λhsz hI hE z0 hQ=>?_;clear hv;subst z0
 refine wpAny_mono (hI _) (λit s2 h2=>?_) λU U x=>x
 refine vM (RR:=qm (model prog w) c.A (bD prog w c X) (some (assign (.Name y py) c.env)) _) ok hkind hcell hx hsz S1 h2 hE ?_
 intro dl C wr s' hd hC hdC zz
 obtain⟨fz2,ys,m,A2,S2,⟨nn,pl⟩,rd,ns,u1,u2,_⟩:=zz
 have S3:=S2.adopt u1 pl
 have A3:=A2.adopt (o:=listOf ys nn) hd
 have u3:bS c (fz2++[(dl,listOf ys nn)]) fps1 C:=⟨u2.1,u2.2.1,u2.2.2.1,λq hq e=>by
  refine ao (cQ.mp hq) (λhq=>?_) λhq=>?_
  ·exact u2.2.2.2.1 q hq e
  ·simp only[bj]at hq;subst hq;exact hdC e,u2.2.2.2.2⟩
 refine wpAny_assign_Name (jU (V:=.d (.list ((items.filter p).map g))) ok hy S3 (ex3 dl ys nn ⟨rfl,.inr (gp _ (.head _)),RDs.mono (Zf.ext λp hp=>dE _ hp) _ _ rd⟩) λs4 S4 A4=>?_)
 refine⟨m,ns.at' λo e=>A4.keep _ o e u3.1 u3.2.2.1 u3.2.1,λh' hs'=>?_⟩
 have kC:∀b o,b∉[C]->s4.heap.get? b=some o->h'.get? b=some o:=λb o n e=>hs'.extBut b o (λq=>n (by simp[q])) e
 have S5:=S4.side (tk:=s4.toks) (h':=h') ok (λb hb=>by simp only[bj]at hb;subst hb;exact u3) kC
 have A5:=(A3.trans A4).side (tk:=s4.toks) (h':=h') (λb hb=>by simp only[bj]at hb;subst hb;exact hC) kC
 exact⟨.next,_,_,ad1,fps1,A1.trans A5,S5,rfl,hQ⟩
end
end

section
open PySem PySem.W PyProof.Rows PySem.SeqAt PySem.MeetsSeq
section
variable {prog:Program}{w:World}{K:Frag}{k:Nat}{c:FC}{st:St}{X:Nat->St->Prop}
theorem f6.of{s:Shared}{fz}{items:List D}{o:au}{fp:List Addr}{n:Nat}{Pv:Nat->Value->Prop}{Stt:Nat->Heap->Prop}{ad fps}(ok:am K k c)(S:SR w.params c st fz ad fps s)(W:Walks prog w c.A s.heap.objs.size (s.heap.objs.size::fp) [s.heap.objs.size] n Pv Stt)
  (hl:items.length=n) (hP:∀j v,Pv j v->j<n->∃d,items[j]? = some d/\RD w.params (Zf c.base fz) d v) (h0:o.isFreed=false) (hS:Stt 0 (s.heap.push o)) (hlv:∀j h,Stt j h->∃o,h.get? s.heap.objs.size=some o) (tk:Nat)
  (hfp:∀b∈fp,b≠c.L/\b∉c.frs/\∃o,s.heap.get? b=some o):
  f6 prog w c s fz items (.ref s.heap.objs.size) { s with heap:=s.heap.push o,toks:=tk }:=by
 have u:=bS.new ok S (fk s.heap)
 have e:({ s with heap:=s.heap.push o,toks:=tk }:Shared).heap.get? s.heap.objs.size=some o:=dt _ h0
 refine⟨_,_,_,n,Pv,Stt,rfl,W,hl,hP,hS,(ex2 _ _ ⟨rfl,λb o e=>eA _ e⟩),λb hb=>by simp only[bj]at hb;subst hb;exact⟨fk _,o,e⟩,λb hb=>?_,λb hb=>by simp only[bj]at hb;subst hb;exact hlv⟩
 refine ao (bZ.mp hb) (λz0=>?_) λhb=>?_ <;>(try subst z0)
 ·exact⟨u.1,u.2.1,o,e⟩
 ·refine bN (hfp b hb) λh1 h2=>uE1 λo' e'=>?_
  exact⟨h1,h2,o',eA _ e'⟩
noncomputable def nC(V:V)(own:List af):Option (List D):=match V with
 |.d (.list vs)=>some vs
 |.d (.bytes b)=>some (b.map λc=>.int c.toNat)
 |.own i=>f7 (getN own i)
 |_=>Bx
theorem Az{V:V}{v:Value}{s:Shared}{fz ad fps}{items:List D}(ok:am K k c)(S:SR w.params c st fz ad fps s)(rv:RV w.params (Zf c.base fz) ad V v)(h:nC V st.own=some items){E:Value->Shared->Prop}:
  wpAny (model prog w) c.A (pyIter v) (λit s'=>f6 prog w c s fz items it s') E s:=by
 have lens:∀{vs:List D} {xs:Array Value},RDs w.params (Zf c.base fz) vs xs.toList->vs.length=xs.size:=λr=>by have:=RDs.len r;simpa using this.symm
 have itm:∀{vs:List D} {xs:Array Value},RDs w.params (Zf c.base fz) vs xs.toList->∀j v,xs[j]? = some v->∃d,vs[j]? = some d/\RD w.params (Zf c.base fz) d v:=λ{vs xs} r j v e=>by
  have hj:j<vs.length:=by refine rwr (lens r ..) ?_;exact(Lw.mp e).1
  refine elE1 (RDs.get r (cM hj)) λv'=>ae λe' rd=>?_
  rw[jq,e]at e';cases e'
  exact⟨_,cM hj,rd⟩
 have ne:∀{a:Addr} {o:au},s.heap.get? a=some o->a≠s.heap.objs.size:=λe=>k8 (cL e)
 have lst:∀{a:Addr} {xs:Array Value} {n:Nat} {vs:List D},s.heap.get? a=some (listOf xs n)->RDs w.params (Zf c.base fz) vs xs.toList->a≠c.L->a∉c.frs->wpAny (model prog w) c.A (pyIter (.ref a)) (λit s'=>f6 prog w c s fz vs it s') E s:=λ{a xs n vs} e r h1 h2=>by
  refine wpAny_pyIter_list (bR e) (f6.of (tk:=s.toks) (fp:=[a]) ok S (uP ok.hh _ a (ne e) xs) (lens r) (λj v e U=>itm r j v e) rfl ⟨⟨_,dt _ rfl,rfl,rfl⟩,(bR e).push _⟩ (λj h st=>?_) λb hb=>by simp only[bj]at hb;subst hb;exact⟨h1,h2,_,e⟩)
  refine ak st (uE1 λo=>ae λho U U=>?_);clear st;exact⟨o,ho⟩
 induction V using Mine.V.casesOn with
 |d x=>induction x using D.casesOn with
  |list vs =>
  cases h
  refine elE3 rv λa xs n=>al λz0 z r=>?_;clear rv;subst z0
  have z':=S.zf ok z
  exact lst (S.at ok z) r z'.1 z'.2.1
  |bytes b =>
  cases h
  refine elE1 rv λt z0=>?_;clear rv;subst z0
  refine KBw.pyIter_bytes (f6.of (tk:=s.toks) (fp:=[]) ok S (KBw.walks ok.hh _ b.toArray t) (by simp) (λj v hP U=>?_) rfl ⟨_,dt _ rfl,rfl,rfl⟩ (λj h st=>?_) (λU hb=>nomatch hb))
  ·refine elE2 hP λcc u=>ae λe z0=>?_;clear hP;subst z0
   refine⟨.int cc.toNat,?_,u,rfl⟩
   refine rwr (dO ..) ?_
   rw[Lx]at e
   refine rwr (e ..) ?_;rfl
  ·refine elE1 st λo=>ae λho U=>?_;clear st;exact⟨o,ho⟩
  |_=>exact nomatch h
 |own i =>
  have h:f7 (getN st.own i)=some items:=h
  refine elE1 rv λa=>ae λea z0=>?_;clear rv;subst z0
  cases q:getN st.own i with
  |none=>rw[q]at h;cases h
  |some oo =>
  rw[q]at h
  cases oo with
  |lst vs =>
   cases h
   obtain⟨m,I,R,_⟩:=id S
   rw[bk]at q
   refine elE2 (R.get q) λa' fp=>al λea' ef=>uE2 λxs n=>ae λy5 r=>?_;subst y5
   rw[ea]at ea';cases ea'
   have hin:=I.own _ (dC ef (.head _))
   exact lst hin.1 r hin.2.1 hin.2.2.1
  |_=>exact nomatch h
theorem Da{rp cp:Pos}{e:Expr}(ok:am K k c)(hk:c.env.kindOf (bI 9)=some .globalImplicit)(hd:(bI 9==("__debug__" : ac))=false)(hg:c.gn (bI 9)=Bx)(hb:c.bn (bI 9)=some (eE 9))(hp:cj [e] c.env){Qr:Nat->St->Prop}
  (h:WA prog w c (spliced (backTo cp (starEach [e] c.env))) st (λVs st1=>∃n:Nat,Vs=[.d (.int n)]/\n<=1000000/\Qr n st1) X) {s:Shared} {fz ad fps} (S:SR w.params c st fz ad fps s):
  ag (model prog w) c.A (eval (.Call (.Name (bI 9) rp) [e] [] cp) c.env) (λv s1=>∃st1 fz1 ad1 fps1 n,aA c s fz ad fps s1 fz1 ad1 fps1/\SR w.params c st1 fz1 ad1 fps1 s1 /\
   (∀E:Value->Shared->Prop,wpAny (model prog w) c.A (pyIter v) (λit s2=>f6 prog w c s1 fz1 ((bM n).map λ(j:Nat)=>D.int j) it s2) E s1)/\Qr n st1) (bD prog w c X) s:=by
 refine jv (wpAny.n (jj ok.hk hk (uM (by refine rwr (ok.hg ..) ?_;exact ok.gns.keeps (S.heap ok)) hg (by refine rwr (ok.hb ..) ?_;exact ok.bns.keeps (S.heap ok)) hb ?_) hd))
 refine m8 (f:=eE 9) (λa e=>by cases e) S hp h (λU U e=>e) λvs s1 Vs st1 fz1 ad1 fps1 x1 S1 rv hC=>?_
 refine elE1 hC λn=>al λz0 hn hQ=>?_;clear hC;subst z0
 refine elE2 rv λv U=>al λz0=>uE1 λt z1 r2=>?_;clear rv;subst z0;subst z1
 have:_=[]:=r2
 subst this
 refine wpAny.n <| call_range_1 ?_
 refine elE1 S1.one λm S2=>?_
 have P1:=bF.push (tk:=s1.toks+1+1) (o:={ cls:=.type "range",data:=.fields #[.int 0 s1.toks,.int n t,.int 1 (s1.toks+1)] }) ok S2
 refine(jz st1 fz1 ad1 fps1 n ⟨x1.trans P1.2,P1.1,λE=>?_,hQ⟩)
 have sz:uQ 0 n 1=(n:Int):=by
  unfold uQ
  simp only[show (1:Int)>0 by decide,if_true]
  by_cases h:0<(n:Int)
  ·refine rwr (if_pos h ..) ?_;lia
  ·refine rwr (if_neg h ..) ?_;lia
 have sm:uR 0 n 1=true:=by
  unfold uR
  rw[sz,gW (i:=0) (by lia) (by lia),gW (i:=n) (by lia) (by lia),gW (i:=1) (by lia) (by lia),gW (i:=n+(1-1)) (by lia) (by lia)]
  simp
 refine wpAny_pyIter_range (IsRange.new ..) sm ?_
 have W:=Walks.range (prog:=prog) (w:=w) (A:=c.A) ok.hh (s1.heap.push { cls:=.type "range",data:=.fields #[.int 0 s1.toks,.int n t,.int 1 (s1.toks+1)] }).objs.size 0 1 n
 refine rwr (sz ..) ?_
 exact f6.of (fp:=[]) (o:={ cls:=.type "range_iterator",data:=.fields #[rawInt 0,rawInt (n:Int),rawInt 1] }) (tk:=s1.toks+1+1) ok P1.1 W (by simp) (λj v hv hj=>by
  refine elE1 hv λu z0=>?_;clear hv;subst z0
  refine⟨.int j,?_,u,by simp⟩
  refine rwr (dO ..) (rwr (BO hj ..) ?_);rfl) rfl (by
  show Heap.get? _ _=_
  refine rwr (dt _ rfl ..) ?_
  simp) (λj h st=>⟨_,st⟩) (λU hb=>nomatch hb)
end
end

section
open PySem PySem.W PyProof.Rows PySem.SeqAt PySem.MeetsSeq
inductive Me where
 |x | k (i:Int) | bin (op:Operator) (a b:Me) | bidx (bs:List UInt8) (e:Me) | cidx (e:Me) | clen | cv
noncomputable def lU(i:Int):Const->Bool
 |.int j=>j==i
 |_=>false
noncomputable def vh(i:List UInt8):Const->Bool
 |.bytes j=>j==i
 |_=>false
theorem nY{i:Int}{c:Const}(h:lU i c=true):c=.int i:=by
 cases c <;>first | exact aE h | exact congrArg _ (eq_of_beq h)
theorem CJ{i:List UInt8}{c:Const}(h:vh i c=true):c=.bytes i:=by
 cases c <;>first | exact aE h | exact congrArg _ (eq_of_beq h)
noncomputable def j6(xn cn:ac):Me->Expr->Bool
 |.x=>λe=>bu e λy U=>y==xn
 |.k i=>λe=>fS e λc U U=>lU i c
 |.bin op a b=>λe=>mq e λl op' r U=>(op'==op)&&(j6 xn cn a l&&j6 xn cn b r)
 |.bidx bs e=>λt=>lM t λv i U=>fS v λc U U=>vh bs c&&j6 xn cn e i
 |.cidx e=>λt=>lM t λv i U=>bu v λy U=>(y==cn)&&j6 xn cn e i
 |.clen=>λt=>eP t λf as ks U=>bu f λf U=>bY as λa=>bu a λy U=>ck ks ((f==bI 0)&&(y==cn))
 |.cv=>λt=>bu t λy U=>y==cn
def gX(cell:D)(x:Int):Me->(Int->Prop)->Prop
 |.x,k=>k x
 |.k i,k=>k i
 |.bin op a b,k=>gX cell x a λu=>gX cell x b λv=>iI op u v k
 |.bidx bs e,k=>bs.length<=1000000/\gX cell x e λi=>0<=i/\i<=1000000/\∃b,bs[i.toNat]? = some b/\k b.toNat
 |.cidx e,k=>match cell with
  |.bytes bs=>bs.length<=1000000/\gX cell x e λi=>0<=i/\i<=1000000/\∃b,bs[i.toNat]? = some b/\k b.toNat
  |_=>False
 |.clen,k=>match cell with
  |.bytes bs=>bs.length<=1000000/\k bs.length
  |_=>False
 |.cv,k=>match cell with
  |.int i=>k i
  |_=>False
section
variable {prog:Program}{w:World}{K:Frag}{k:Nat}{c:FC}{st:St}{X:Nat->St->Prop}
structure pG(w:World)(c:FC)(cenv:Env)(h:Heap)(xn cn:ac)(cell:D)(x:Int):Prop where
 hk:cenv.scope.kind=.function
 xk:cenv.kindOf xn=some .local
 xd:(xn==("__debug__" : ac))=false
 xv:∃m t,h.Ns cenv.locals m/\m xn=some (.int x t)
 ce:cell=.none\/(cenv.kindOf cn=some .cell/\(cn==("__debug__" : ac))=false/\∃ca v,cenv.cells.lookup cn=some ca/\h.IsCell ca (some v)/\RD w.params (λU U=>False) cell v)
 le:(∃bs,cell=.bytes bs)->(cenv.kindOf (bI 0)=some .globalImplicit/\(bI 0==("__debug__" : ac))=false/\cenv.globals=mainGlobals/\cenv.builtins=builtinsNs/\h.Ns mainGlobals c.gn/\h.Ns builtinsNs c.bn/\c.gn (bI 0)=Bx/\c.bn (bI 0)=some (eE 0))
theorem rz{cenv:Env}{s:Shared}{xn cn:ac}{cell:D}{x:Int}{pos:Pos}{A:Around}{E:Value->Shared->Prop}{Q:Value->Shared->Prop}(H:pG w c cenv s.heap xn cn cell x)(hc:cell≠.none)
  (hq:∀v,RD w.params (λU U=>False) cell v->Q v s):ag (model prog w) A (eval (.Name cn pos) cenv) Q E s:=by
 refine ao H.ce (λh=>?_) λz0=>?_ <;>(try rcases z0 with ⟨h1,h2,ca,v,h3,h4,h5⟩)
 ·exact absurd h hc
 ·exact nS (wpAny.n (wpAny_loadName_cell H.hk h1 h3 h4 (hq v h5))) h2
set_option tactic.hygienic true in
theorem rY{xn cn:ac}{cenv:Env}{cell:D}{x:Int}{A:Around}:∀(e:Me) (ex:Expr),j6 xn cn e ex=true->∀(s:Shared) (kk:Int->Prop),pG w c cenv s.heap xn cn cell x->gX cell x e kk ->
  ∀{E:Value->Shared->Prop} {Q:Value->Shared->Prop},(∀r u tk,kk r->Q (.int r u) { s with toks:=tk })->ag (model prog w) A (eval ex cenv) Q E s:=by
 intro e
 induction e with
 |x =>
  intro ex ok s kk H hk E Q hq
  refine bx ok λy pos ok=>?_
  have:=eq_of_beq ok
  subst this
  refine elE2 H.xv λm t=>ae λns hm=>?_
  exact nS (wpAny.n (wpAny_loadName_local H.hk H.xk ns hm (hq x t s.toks hk))) H.xd
 |k i =>
  intro ex ok s kk H hk E Q hq
  refine gf ok λU kd pos ok=>?_
  have:=nY ok
  subst this
  exact wpAny.n (wpAny_Constant_int (hq _ _ _ hk))
 |bin op a b iha ihb =>
  intro ex ok s kk H hk E Q hq
  refine kM ok λl op' r pos ok=>?_
  refine ak (aB ok) λo0 ok=>?_
  refine ak (aB ok) λo1 o2=>?_
  refine bo o0 ?_
  refine ot (iha l o1 s _ H hk λu tu tk hu=>?_)
  refine ihb r o2 { s with toks:=tk } _ H hu λv tv tk2 hv=>?_
  exact wpAny.n (qL hv λr t t' hr=>hq r t t' hr)
 |bidx bs e ih =>
  intro ex ok s kk H hk E Q hq
  refine kB ok λU sl pos ok=>?_
  refine gf ok λU kd p2 ok=>?_
  refine ak (aB ok) λo0 o2=>?_
  have o0:=CJ o0
  subst o0
  refine nN (wpAny.n (Constant_bytes ?_))
  refine ak hk ?_;clear hk;refine λhl hk=>?_
  refine ih sl o2 { s with toks:=s.toks+1 } _ H hk λi u tk hi=>?_
  refine bN hi λh0 h1=>uE1 λcc=>ae λhe hQ=>?_;clear hi
  have hlt:=(dD.mp he).1
  refine wpAny.n (gP (typeIs_bytes _ _ _) pU.lookup (PySem.W.getItem_bytes (by lia) h0 (by lia) ?_))
  refine rwr (uB ..) (rwr (he ..) ?_)
  exact hq cc.toNat _ (tk+1) hQ
 |cidx e ih =>
  intro ex ok s kk H hk E Q hq
  refine kB ok λU sl pos ok=>?_
  refine bx ok λy p2 ok=>?_
  refine ak (aB ok) λo0 o2=>?_
  refine bo o0 ?_
  cases cell <;>first | exact hk.elim | skip
  rename_i bs
  refine nN (rz H (by intro q;cases q) λv hv=>?_)
  refine elE1 hv λt z0=>?_;clear hv;subst z0
  refine ak hk ?_;clear hk;refine λhl hk=>?_
  refine ih sl o2 s _ H hk λi u tk hi=>?_
  refine bN hi λh0 h1=>uE1 λcc=>ae λhe hQ=>?_;clear hi
  have hlt:=(dD.mp he).1
  refine wpAny.n (gP (typeIs_bytes _ _ _) pU.lookup (PySem.W.getItem_bytes (by lia) h0 (by lia) ?_))
  refine rwr (uB ..) (rwr (he ..) ?_)
  exact hq cc.toNat _ (tk+1) hQ
 |clen =>
  intro ex ok s kk H hk E Q hq
  refine dA ok λU U U pos ok=>?_
  refine bx ok λf fp ok=>?_
  refine cq ok λU ok=>?_
  refine bx ok λy yp ok=>?_
  refine cK ok λok=>?_
  refine ak (aB ok) λo0 o1=>?_
  refine bo o0 ?_
  refine bo o1 ?_
  cases cell <;>first | exact hk.elim | skip
  rename_i bs
  refine ak hk ?_;clear hk;refine λhl hk=>?_
  refine sR (H.le ⟨bs,rfl⟩) λl1 l2 l3 l4 l5 l6 l7 l8=>?_
  ·refine jv (wpAny.n (jj H.hk l1 (uM (by refine rwr (l3 ..) ?_;exact l5) l7 (by refine rwr (l4 ..) ?_;exact l6) l8 ?_) l2))
   refine iH (P:=λU=>True) rfl (λh U=>⟨.machine,.inr (.inl rfl),Looks.now⟩) (kX (nR (rz H (by intro q;cases q) λv hv=>o9 ⟨trivial,?_⟩)))
   refine elE1 hv λt z0=>?_;clear hv;subst z0
   refine wpAny.n (len_bytes (by simp;lia) ?_)
   have e:((bs.toArray.size:Nat):Int)=(bs.length:Int):=by simp
   refine rwr (e ..) ?_
   exact hq _ _ _ hk
 |cv =>
  intro ex ok s kk H hk E Q hq
  refine bx ok λy pos ok=>?_
  have:=eq_of_beq ok
  subst this
  cases cell <;>first | exact hk.elim | skip
  refine rz H (by intro q;cases q) λv hv=>?_
  refine elE1 hv λt z0=>?_;clear hv;subst z0
  exact hq _ _ s.toks hk
end
end

section
noncomputable def frees(ns:List (ac×NameKind)):List ac:=(ns.filter λy=>y.2==.free).map (·.1)
theorem AC{env:Env}{cn:ac}{ca:Addr}(hl:env.cells.lookup cn=some ca):∀(ns:List (ac×NameKind)) (acc:List (ac×Addr)),(frees ns=[]->(forIn ns acc λ(x:ac×NameKind) (cs:List (ac×Addr))=>(if (x.2==.free)=true then do let a <-cellOf env x.1;pure (js ((x.1,a)::cs)) else pure (js cs):Sem _))=pure acc) /\
  (frees ns=[cn]->(forIn ns acc λ(x:ac×NameKind) (cs:List (ac×Addr))=>(if (x.2==.free)=true then do let a <-cellOf env x.1;pure (js ((x.1,a)::cs)) else pure (js cs):Sem _))=pure ((cn,ca)::acc))
 |[],acc=>⟨λU=>rfl,λh=>by cases h⟩
 |(n,kd)::r,acc=>by
  have ih:=λa=>AC hl r a
  refine rwr (List.forIn_cons ..) ?_
  cases q:kd==mT with
  |false =>
   have e:frees ((n,kd)::r)=frees r:=by unfold frees;refine rwr (mU ..) ?_;simp[q]
   refine rwr (e ..) ?_
   simp only[q,iu,if_false]
   exact ih acc
  |true =>
   have e:frees ((n,kd)::r)=n::frees r:=by unfold frees;refine rwr (mU ..) ?_;simp[q]
   refine rwr (e ..) ?_
   refine⟨λh=>(by cases h),λh=>?_⟩
   injection h with h1 h2
   subst h1
   simp only[q,if_true]
   have:cellOf env n=pure ca:=by unfold cellOf;exact rwr (hl ..) rfl
   refine rwr (this ..) ?_
   exact(ih _).1 h2
theorem KT{scope:Scope}{env:Env}{cn:ac}{ca:Addr}(hl:env.cells.lookup cn=some ca)(h:frees scope.names=[cn]):closureFor scope env=pure [(cn,ca)]:=by
 have:=(AC hl scope.names []).2 h
 simp only[closureFor]
 refine rwr (show (forIn scope.names [] _:Sem (List (ac×Addr)))=_ from this) ?_
 rfl
theorem vv{scope:Scope}{env:Env}(h:frees scope.names=[]):closureFor scope env=pure []:=
 closureFor_none λx hx e=>by
  have:x.1∈frees scope.names:=du (uK.mpr ⟨hx,by simp[e]⟩)
  rw[h]at this;cases this
structure bw where
 rng:Bool
 it:Ex
 x:ac
 cn:ac
 useC:Bool
 len:Bool
 tst:Bool
 el:Me
noncomputable def EJ:ScopeKind->Bool
 |.function=>true
 |_=>false
noncomputable def qi(m:bw)(sc:Scope):Bool :=
 EJ sc.kind&&(sc.names.all λy=>!(y.2==.cell))&&(sc.names.all λy=>!(y.2==.local)||sc.names.lookup y.1==some .local)&&sc.names.lookup m.x==some .local && !(m.x==("__debug__" : ac)) &&
  (bif m.useC then frees sc.names==[m.cn]&&sc.names.lookup m.cn==some .free && !(m.cn==("__debug__" : ac)) else frees sc.names==[]) &&
  (bif m.len then sc.names.lookup (bI 0)==some .globalImplicit else true)
noncomputable def qj{α:Type}(l:List α)(f:α->α->Bool):Bool:=bY (l.drop 1) λb=>lP l.head? λa=>f a b
theorem C'{α:Type}{l:List α}{f:α->α->Bool}(h:qj l f=true):∃a b,l=[a,b]/\f a b=true:=by
 rcases l with _ | ⟨a,_ | ⟨b,_ | ⟨_,_⟩⟩⟩
 ·exact aE h
 ·exact aE h
 ·exact(ex2 a b ⟨rfl,h⟩)
 ·exact aE h
noncomputable def qt(x:ac)(e:Expr):Bool:=nP e λa os bs U=>(os==[.Lt])&&bY bs λk=>bu a λa U=>fS k λc U U=>lU 48 c&&(a==x)
noncomputable def rC(x:ac)(e:Expr):Bool:=nP e λa os bs U=>(os==[.Lt])&&bY bs λd=>fS a λc U U=>bu d λd U=>lU 57 c&&(d==x)
noncomputable def mi(x:ac)(b:Bool)(ifs:List Expr):Bool:=bif b then bY ifs λe=>lJ e λop vs U=>(op==.Or)&&qj vs λu v=>qt x u&&rC x v else ifs.isEmpty
noncomputable def tc(S:aU)(T:Nat->Expr->Bool)(m:bw)(e:Expr):Bool:=eP e λg as ks U=>ck ks (bu g λz U=>bY as λv=>(z==bI 9)&&((S.glob (bI 9) λg=>g==.bi 9)&&(jF v&&(aN S T m.it).e v)))
noncomputable def lS(S:aU)(T:Nat->Expr->Bool)(m:bw)(e:Expr):Bool:=bif m.rng then tc S T m e else lC e&&(aN S T m.it).e e
noncomputable def jW(S:aU)(T:Nat->Expr->Bool)(m:bw)(e:Expr):Bool:=pF e λe gs sc U=>bY gs λg=>so g λtg iter ifs asy=>bu tg λy U =>
 (asy==0)&&((y==m.x)&&(qi m sc&&(mi m.x m.tst ifs&&(j6 m.x m.cn m.el e&&(lS S T m iter&&(bif m.len then (match S.G.lookup (bI 0) with | some v=>v==.bi 0 | Bx=>false) else true))))))
noncomputable def bU(m:bw)(x:Int):Bool:=bif m.tst then decide (x<48)||decide (57<x) else true
def i_(Γ:Addr->aH->Prop)(O:bf)(cell:D)(m:bw)(st:St)(Q:V->St->Prop)(X:Nat->St->Prop):Prop :=
 (wp Γ O X m.it).e st λV st1=>∃xs:List Int,(bif m.rng then ∃n:Nat,V=.d (.int n)/\n<=1000000/\xs=(bM n).map (λ(j:Nat)=>(j:Int)) else nC V st1.own=some (xs.map D.int)/\xs.length<=1000000) /\
  ∃g:Int->Int,(∀x∈xs,bU m x=true->gX cell x m.el λr=>r=g x)/\Q (.d (.list (((xs.filter (bU m)).map g).map D.int))) st1
def gC(w:World)(c:FC)(cn:ac)(cell:D):Prop :=
 c.env.kindOf cn=some .cell/\∃ca o v,c.env.cells.lookup cn=some ca/\c.H.get? ca=some o/\o.data=.cell (some v)/\ca∉c.mu/\ca∉c.frs/\RD w.params (λU U=>False) cell v
section
variable {prog:Program}{w:World}{K:Frag}{k:Nat}{c:FC}{st:St}{X:Nat->St->Prop}{Γ:Addr->aH->Prop}{O:bf}{S:aU}{T:Nat->Expr->Bool}
theorem rt{env:Env}:∀{names:List (ac×NameKind)} {x:ac} {kd:NameKind},names.lookup x=some kd ->
  (names.map λ(n,k)=>if (k==mT&&env.scope.kind==.function&&env.kindOf n==some .cell) then (n,mV) else (n,k)).lookup x=some (if (kd==mT&&env.scope.kind==.function&&env.kindOf x==some .cell) then mV else kd)
 |[],_,_,h=>by simp at h
 |(n,k)::r,x,kd,h=>by
  have ih:=@rt env r x kd
  show List.lookup x ((if (k==mT&&env.scope.kind==.function&&env.kindOf n==some .cell)=true then (n,mV) else (n,k))::_)=_
  cases hx:x==n with
  |true =>
   have e:x=n:=by simpa using hx
   subst e
   simp only[kg,hx]at h
   cases h
   by_cases hc:(k==mT&&env.scope.kind==.function&&env.kindOf x==some .cell)=true
   ·refine rwr (if_pos hc ..) (rwr (if_pos hc ..) ?_);simp[kg]
   ·refine rwr (if_neg hc ..) (rwr (if_neg hc ..) ?_);simp[kg]
  |false =>
   simp only[kg,hx]at h
   by_cases hc:(k==mT&&env.scope.kind==.function&&env.kindOf n==some .cell)=true
   ·refine rwr (if_pos hc ..) ?_;simp only[kg,hx];exact ih h
   ·refine rwr (if_neg hc ..) ?_;simp only[kg,hx];exact ih h
theorem Is{cn:ac}{cell:D}(ok:am K k c)(h:gC w c cn cell){s:Shared}{fz ad fps}(S:SR w.params c st fz ad fps s):∃ca v,c.env.cells.lookup cn=some ca/\s.heap.IsCell ca (some v)/\RD w.params (λU U=>False) cell v:=by
 refine ak h λU=>uE3 λca o v=>eS λh1 h2 h3 h4 h5 h6=>?_;clear h
 obtain⟨m,I,_⟩:=S
 exact(ex2 ca v ⟨h1,⟨o,I.keep ca o h2 h4 h5,h3⟩,h6⟩)
theorem wv{cn:ac}{cell:D}{pos:Pos}{Q:V->St->Prop}(ok:am K k c)(hd:(cn==("__debug__" : ac))=false)(h:gC w c cn cell)(hQ:Q (.d cell) st):WE prog w c (eval (.Name cn pos) c.env) st Q X:=λs fz ad fps S=>by
 refine elE2 (Is ok h S) λca v=>al λh1 h2 h3=>?_
 exact nS (wpAny.n (wpAny_loadName_cell ok.hk h.1 h1 h2 ⟨.d cell,st,fz,ad,fps,aA.refl,S,RD.mono (λU U z=>z.elim) _ _ h3,hQ⟩)) hd
theorem xa{xs:List Int}{d:D}(h:d∈xs.map D.int):∃x∈xs,d=.int x:=by
 refine elE1 (aW.mp h) λx=>ae λhx e=>?_
 exact⟨x,hx,e.symm⟩
noncomputable def dI(f:Int->Int):D->D
 |.int i=>.int (f i)
 |d=>d
noncomputable def dB(p:Int->Bool):D->Bool
 |.int i=>p i
 |_=>false
theorem pi{p:Int->Bool}{g:Int->Int}:∀xs:List Int,((xs.map D.int).filter (dB p)).map (dI g)=((xs.filter p).map g).map D.int
 |[]=>rfl
 |x::r=>by
  simp only[eM,mU]
  by_cases h:p x=true
  ·simp[dB,h,dI,pi r]
  ·simp[dB,h,pi r]
theorem K6{x:ac}{ifs:List Expr}(h:mi x false ifs=true):ifs=[]:=by
 exact gk.mp h
theorem Hi{x:ac}{e:Expr}(h:qt x e=true):∃p1 p2 p3 k1,e=.Compare (.Name x p1) [.Lt] [.Constant (.int 48) k1 p2] p3:=by
 refine pg h λU U U p3 h=>?_
 refine ak (aB h) λh1 h=>?_
 refine cq h λU h=>?_
 refine bx h λU p1 h=>?_
 refine gf h λU k1 p2 h=>?_
 refine ak (aB h) λh2 h3=>?_
 refine rwr (eq_of_beq h1 ..) (rwr (nY h2 ..) (rwr (eq_of_beq h3 ..) ?_))
 exact(dZ p1 p2 p3 k1 rfl)
theorem Hw{x:ac}{e:Expr}(h:rC x e=true):∃p1 p2 p3 k1,e=.Compare (.Constant (.int 57) k1 p1) [.Lt] [.Name x p2] p3:=by
 refine pg h λU U U p3 h=>?_
 refine ak (aB h) λh1 h=>?_
 refine cq h λU h=>?_
 refine gf h λU k1 p1 h=>?_
 refine bx h λU p2 h=>?_
 refine ak (aB h) λh2 h3=>?_
 refine rwr (eq_of_beq h1 ..) (rwr (nY h2 ..) (rwr (eq_of_beq h3 ..) ?_))
 exact(dZ p1 p2 p3 k1 rfl)
theorem Iw{x:ac}{ifs:List Expr}(h:mi x true ifs=true):∃p1 p2 p3 p4 p5 p6 p7 k1 k2,ifs=[.BoolOp .Or [.Compare (.Name x p1) [.Lt] [.Constant (.int 48) k1 p2] p3,.Compare (.Constant (.int 57) k2 p4) [.Lt] [.Name x p5] p6] p7]:=by
 have h:(bY ifs λe=>lJ e λop vs U=>(op==.Or)&&qj vs λu v=>qt x u&&rC x v)=true:=h
 refine cq h λU h=>?_
 refine lI h λU U p7 h=>?_
 refine ak (aB h) λh1 h=>?_
 refine elE2 (C' h) λu v=>ae λe0 h=>?_
 refine rwr (e0 ..) ?_
 refine ak (aB h) λh2 h3=>?_
 refine eD (Hi h2) λp1 p2 p3 k1 e1=>?_
 refine eD (Hw h3) λp4 p5 p6 k2 e2=>?_
 refine rwr (eq_of_beq h1 ..) (rwr (e1 ..) (rwr (e2 ..) ?_))
 exact(rX p1 p2 p3 p4 p5 p6 p7 k1 k2 rfl)
inductive io(m:bw)(sc:Scope):Prop
 |mk (_:sc.kind=.function) (_:∀y∈sc.names,y.2≠.cell) (_:∀y∈sc.names,y.2=.local->sc.names.lookup y.1=some .local) (_:sc.names.lookup m.x=some .local) (_:(m.x==("__debug__" : ac))=false)
  (_:(bif m.useC then frees sc.names==[m.cn]&&sc.names.lookup m.cn==some .free && !(m.cn==("__debug__" : ac)) else frees sc.names==[])=true) (_:(bif m.len then sc.names.lookup (bI 0)==some .globalImplicit else true)=true):io m sc
theorem io.of{m:bw}{sc:Scope}(h:qi m sc=true):io m sc:=by
 have ⟨h,k7⟩:=dh.mp h
 have ⟨h,k6⟩:=dh.mp h
 have ⟨h,k5⟩:=dh.mp h
 have ⟨h,k4⟩:=dh.mp h
 have ⟨h,k3⟩:=dh.mp h
 have ⟨k1,k2⟩:=dh.mp h
 refine⟨?_,λy hy e=>?_,λy hy e=>?_,eq_of_beq k4,(fe _).mp k5,k6,k7⟩
 ·revert k1;cases sc.kind <;>intro k1 <;>first | rfl | cases k1
 ·have:=fR.mp k2 y hy;simp[e]at this
 ·have:=fR.mp k3 y hy;simpa[e] using this
def lQ(w:World)(c:FC)(cell:D)(m:bw)(sc:Scope)(cl:List (ac×Addr)):Prop :=
 cell=.none\/(sc.names.lookup m.cn=some .free/\(m.cn==("__debug__" : ac))=false/\c.env.kindOf m.cn=some .cell/\∀s fz ad fps st',SR w.params c st' fz ad fps s->∃ca v,cl.lookup m.cn=some ca/\s.heap.IsCell ca (some v)/\RD w.params (λU U=>False) cell v)
theorem lQ.of{m:bw}{cell:D}{sc:Scope}(hc:cell=.none\/gC w c m.cn cell)(hcu:m.useC=true->cell≠.none)(hcl:m.useC=false->cell=.none)
  (k6:(bif m.useC then frees sc.names==[m.cn]&&sc.names.lookup m.cn==some .free && !(m.cn==("__debug__" : ac)) else frees sc.names==[])=true):∃cl,closureFor sc c.env=pure cl/\lQ w c cell m sc cl:=by
 cases hu:m.useC with
 |false =>
  rw[hu]at k6
  exact⟨[],vv (by simpa using k6),.inl (hcl hu)⟩
 |true =>
  rw[hu]at k6
  simp only[cond_true,eO,beq_iff_eq,fe]at k6
  refine ak k6 (ae λf1 f2 f3=>?_);clear k6
  refine ao hc (λhc=>?_) λhc=>?_
  ·exact absurd hc (hcu hu)
  ·refine ak hc λhk'=>uE3 λca o v=>eS λg1 g2 g3 g4 g5 g6=>?_;clear hc
   refine⟨[(m.cn,ca)],KT g1 f1,.inr ⟨f2,f3,hk',λs fz ad fps st' S'=>(ex2 ca v ⟨by simp,?_,g6⟩)⟩⟩
   obtain⟨m',I,_⟩:=S'
   exact⟨o,I.keep ca o g2 g4 g5,g3⟩
noncomputable def tz(S:aU)(m:bw):Bool:=bif m.len then (match S.G.lookup (bI 0) with | some v=>v==.bi 0 | Bx=>false) else true
theorem wE{m:bw}{cell:D}{sc:Scope}{cl:List (ac×Addr)}(ok:am K k c)(hN:bX K S c)(hln:m.len=true\/(∀bs,cell≠.bytes bs))(h1:io m sc)(h5:tz S m=true)(hcc:lQ w c cell m sc cl)
  {C:Addr} {s':Shared} {fz1 ad fps} {st':St} {m':ac->Option Value} {x:Int} {v:Value} (S':SR w.params c st' fz1 ad fps s') (ns:s'.heap.Ns C m') (hm:m' m.x=some v) (rv:RD w.params (Zf c.base fz1) (.int x) v):
  pG w c (compEnvC sc cl C c.env) s'.heap m.x m.cn cell x:=by
 obtain⟨hkind,hcell,hnames,k4,k5,k6,k7⟩:=h1
 refine elE1 rv λt z0=>?_;clear rv;subst z0
 refine⟨hkind,lookup_relabel_local k4,k5,(ex2 m' t ⟨ns,hm⟩),?_,λ⟨bs,hb⟩=>?_⟩
 ·refine ao hcc (λh=>?_) (aY λf2 f3 f4 f5=>?_) <;>clear hcc
  ·exact .inl h
  ·refine elE2 (f5 s' fz1 ad fps st' S') λca v=>al λe1 e2 e3=>?_
   refine .inr ⟨?_,f3,ex2 ca v ⟨e1,e2,e3⟩⟩
   have:=rt (env:=c.env) f2
   rw[if_pos (by refine rwr (ok.hk ..) (rwr (f4 ..) ?_);rfl)]at this
   exact this
 ·(refine ao hln (λhl=>?_) λhl=>?_ <;>clear hln)
  ·unfold tz at h5
   rw[hl]at k7 h5
   simp only[cond_true,beq_iff_eq]at k7 h5
   have hG:S.G.lookup (bI 0)=some (.bi 0):=by
    cases q:S.G.lookup (bI 0) with
    |none=>rw[q]at h5;cases h5
    |some g =>
     rw[q]at h5
     have:g=.bi 0:=by simpa using h5
     exact rwr (this ..) rfl
   refine ak (hN.bi _ _ hG) λb1 b2=>?_
   exact⟨rt (env:=c.env) k7,rfl,ok.hg,ok.hb,ok.gns.keeps (S'.heap ok),ok.bns.keeps (S'.heap ok),b1,b2⟩
  ·exact absurd hb (hl bs)
theorem Iz{m:bw}{cell:D}{ifs:List Expr}{cenv:Env}{s':Shared}{x:Int}{A:Around}(h2:mi m.x m.tst ifs=true)(H:pG w c cenv s'.heap m.x m.cn cell x):
  ag (model prog w) A (kF ifs cenv) (λok s''=>ok=dB (bU m) (.int x)/\∃tk,s''={ s' with toks:=tk }) gB s':=by
 cases hts:m.tst with
 |false =>
  rw[hts]at h2
  refine rwr (K6 h2 ..) ?_
  exact Bo ⟨by simp[dB,bU,hts],s'.toks,rfl⟩
 |true =>
  rw[hts]at h2
  refine AW (Iw h2) λp1 p2 p3 p4 p5 p6 p7 k1' k2' z0=>?_;subst z0
  have tv:dB (bU m) (.int x)=(decide (x<48)||decide (57<x)):=by simp[dB,bU,hts]
  refine rwr (tv ..) ?_
  refine E2 (qe (qJ ?_ rfl))
  refine rY .x _ (beq_self_eq_true _) s' (λr=>r=x) H rfl λr u tk hr=>?_
  subst hr
  refine wpAny.n (wpAny_Constant_int (wpAny.n (LG ?_)))
  refine wpAny.n (wpAny_truthy_bool ?_)
  by_cases hlt:r<48
  ·simp only[hlt,decide_true,if_true,Bool.true_or]
   exact⟨trivial,_,rfl⟩
  ·simp only[hlt,decide_false,iu,if_false,Bool.false_or]
   refine qe (qJ (wpAny.n (wpAny_Constant_int ?_)) rfl)
   refine rY (w:=w) (c:=c) .x (x:=r) (xn:=m.x) (cn:=m.cn) (cell:=cell) (.Name m.x p5) (beq_self_eq_true _) { s' with toks:=tk+1+1 } (λq=>q=r) H rfl λq u2 tk2 hq=>?_
   subst hq
   refine wpAny.n (LG (wpAny.n (wpAny_truthy_bool ?_)))
   by_cases h57:57<q
   ·simp only[h57,decide_true,if_true]
    exact⟨trivial,_,rfl⟩
   ·simp only[h57,decide_false,iu,if_false]
    exact wpAny.n (isTrue_or_nil ⟨rfl,_,rfl⟩)
theorem El{m:bw}{cell:D}{sc:Scope}{cl:List (ac×Addr)}{ifs:List Expr}{elt:Expr}{st1:St}{ad1 fps1 fz1}{xs:List Int}{g:Int->Int}(ok:am K k c)(hN:bX K S c)(hln:m.len=true\/(∀bs,cell≠.bytes bs))(h1:io m sc)(h5:tz S m=true)(hcc:lQ w c cell m sc cl)
  (h2:mi m.x m.tst ifs=true) (h3:j6 m.x m.cn m.el elt=true) (hg:∀x∈xs,bU m x=true->gX cell x m.el λr=>r=g x):ki prog w c st1 ad1 fps1 fz1 sc cl m.x ifs elt (xs.map D.int) (dB (bU m)) (dI g) where
 test d hd C s' fz2 m' v _ S' ns hm rv:=by
  refine elE1 (xa hd) λx=>ae λhx z0=>?_;subst z0
  exact Iz h2 (wE ok hN hln h1 h5 hcc S' ns hm rv)
 elt d hd hp C s' fz2 m' v _ S' ns hm rv:=by
  refine elE1 (xa hd) λx=>ae λhx z0=>?_;subst z0
  refine rY m.el elt h3 s' _ (wE ok hN hln h1 h5 hcc S' ns hm rv) (hg x hx hp) λr u tk hr=>?_
  subst hr
  exact⟨fz2,aA.tok tk,S'.tok tk,⟨u,rfl⟩⟩
inductive rF(prog:Program)(w:World)(c:FC)(x:ac)(st:St)(Q:V->St->Prop)(X:Nat->St->Prop):Expr->Prop
 |mk (elt:Expr) (px:Pos) (iter:Expr) (ifs:List Expr) (sc:Scope) (ps:Pos) (cl:List (ac×Addr)) (_:closureFor sc c.env=pure cl) (_:∀y∈sc.names,y.2≠.cell) (_:sc.kind=.function) (_:∀y∈sc.names,y.2=.local->sc.names.lookup y.1=some .local)
  (_:sc.names.lookup x=some .local) (_:∀x,foldedSetIterable iter c.env x=pure x)
  (_:∀s fz ad fps,SR w.params c st fz ad fps s->ag (model prog w) c.A (eval iter c.env) (λv s1=>∃st1 fz1 ad1 fps1 res,aA c s fz ad fps s1 fz1 ad1 fps1/\SR w.params c st1 fz1 ad1 fps1 s1 /\
    oh prog w c sc cl x ifs elt v st1 fz1 ad1 fps1 s1 res/\Q (.d (.list res)) st1) (bD prog w c X) s):rF prog w c x st Q X (.ListComp elt [⟨.Name x px,iter,ifs,0⟩] sc ps)
def Hm(cell:D)(m:bw)(Q:V->St->Prop)(st1:St)(xs:List Int):Prop:=∃g:Int->Int,(∀x∈xs,bU m x=true->gX cell x m.el λr=>r=g x)/\Q (.d (.list (((xs.filter (bU m)).map g).map D.int))) st1
theorem HY{m:bw}{iter:Expr}(h4:lS S T m iter=true)(x:Value):foldedSetIterable iter c.env x=pure x:=by
 unfold lS at h4
 revert h4
 cases m.rng with
 |true=>exact λh4=>dA (show tc S T m iter=true from h4) λU U U U U=>rfl
 |false =>
  exact λh4=>qS (dh.mp h4).1 x
theorem Gz{m:bw}{iter elt:Expr}{cell:D}{sc:Scope}{cl:List (ac×Addr)}{ifs:List Expr}{Q:V->St->Prop}(ok:am K k c)(hN:bX K S c)(hX:bb prog w c X (wp Γ O X m.it) (aN S T m.it))(h4:lS S T m iter=true)(h:i_ Γ O cell m st Q X)
  (elts:∀(st1:St) fz1 ad1 fps1 (xs:List Int) (g:Int->Int),(∀x∈xs,bU m x=true->gX cell x m.el λr=>r=g x)->ki prog w c st1 ad1 fps1 fz1 sc cl m.x ifs elt (xs.map D.int) (dB (bU m)) (dI g))
  {s:Shared} {fz ad fps} (S0:SR w.params c st fz ad fps s):ag (model prog w) c.A (eval iter c.env) (λv s1=>∃st1 fz1 ad1 fps1 res,aA c s fz ad fps s1 fz1 ad1 fps1/\SR w.params c st1 fz1 ad1 fps1 s1 /\
    oh prog w c sc cl m.x ifs elt v st1 fz1 ad1 fps1 s1 res/\Q (.d (.list res)) st1) (bD prog w c X) s:=by
 have szl:(1000000:Nat)<=sizeLine:=by refine rwr (sizeLine_eq ..) ?_;decide
 unfold lS at h4
 unfold i_ at h
 cases hr:m.rng with
 |false =>
  rw[hr]at h4 h
  simp only[cond_false,eO]at h4
  refine(hX.e iter h4.2 st _ h).use S0 (λv s1 V st1 fz1 ad1 fps1 x1 S1 rv hQ=>?_) λU U e=>e
  refine elE1 hQ λxs=>ae λhi=>uE1 λg=>ae λhg hQ=>?_
  simp only[cond_false]at hi
  exact(jz st1 fz1 ad1 fps1 _ ⟨x1,S1,(ex3 _ _ _ ⟨by refine rwr (cV ..) ?_;lia,λE=>Az ok S1 rv hi.1,elts st1 fz1 ad1 fps1 xs g hg,rfl⟩),by refine rwr (pi ..) ?_;exact hQ⟩)
 |true =>
  rw[hr]at h4 h
  have h4:tc S T m iter=true:=h4
  refine dA h4 λU U U cp h4=>cK h4 λh4=>bx h4 λz np h4=>cq h4 λv h4=>?_
  refine ak (aB h4) λg7 h4=>?_
  refine ak (aB h4) λg1 h4=>?_
  refine ak (aB h4) λg2 g3=>?_
  refine bo g7 ?_
  refine bN (aU.glob_of hN g1) λg4 g5=>uE1 λgg=>ae λhG g6=>?_
  rw[eq_of_beq g6]at hG
  refine ak (hN.bi _ _ hG) λb1 b2=>?_
  have hw:WA prog w c (spliced (backTo cp (starEach [v] c.env))) st (λVs st1=>∃n:Nat,Vs=[.d (.int n)]/\n<=1000000/\(n<=1000000/\Hm cell m Q st1 ((bM n).map (λ(j:Nat)=>(j:Int))))) X :=
   rI g2 (WG.mono (hX.e v g3 st _ h) (λV st1 ⟨xs,⟨n,e1,e2,e3⟩,g,hg,hQ⟩=>⟨n,by exact rwr (e1 ..) rfl,e2,e2,e3▸⟨g,hg,hQ⟩⟩) λU U x=>x)
  refine aD (Da ok g4 g5 b1 b2 ⟨lr g2 _ _,trivial⟩ hw S0) (λv' s1 zz=>?_) λU U e=>e
  refine jg zz λst1 fz1 ad1 fps1 n=>kI λA1 S1 hi hn=>uE1 λg=>ae λhg hQ=>?_;clear zz
  have em:(bM n).map (λ(j:Nat)=>D.int j)=((bM n).map (λ(j:Nat)=>(j:Int))).map D.int:=by refine rwr (dP ..) ?_;rfl
  rw[em]at hi
  exact⟨st1,fz1,ad1,fps1,_,A1,S1,⟨_,_,_,by simp only[cV,uG];lia,hi,elts st1 fz1 ad1 fps1 _ g hg,rfl⟩,by refine rwr (pi ..) ?_;exact hQ⟩
theorem xg{m:bw}{e:Expr}{cell:D}{Q:V->St->Prop}(ok:am K k c)(hN:bX K S c)(hX:bb prog w c X (wp Γ O X m.it) (aN S T m.it))(hc:cell=.none\/gC w c m.cn cell)(hcu:m.useC=true->cell≠.none)(hcl:m.useC=false->cell=.none)(hln:m.len=true\/(∀bs,cell≠.bytes bs))
  (he:jW S T m e=true) (h:i_ Γ O cell m st Q X):rF prog w c m.x st Q X e:=by
 refine lH he λelt U sc ps he=>cq he λU he=>xz he λU iter ifs U he=>bx he λy px he=>?_
 have ⟨h0,he⟩:=aB he
 have ⟨h6,he⟩:=aB he
 have ⟨h1,he⟩:=aB he
 have ⟨h2,he⟩:=aB he
 have ⟨h3,he⟩:=aB he
 have ⟨h4,h5⟩:=aB he
 refine bo h0 (bo h6 ?_)
 have h1:=io.of h1
 have ⟨hkind,hcell,hnames,k4,_,k6,_⟩:=h1
 have ⟨cl,hclos,hcc⟩:=lQ.of hc hcu hcl k6
 exact⟨elt,px,iter,ifs,sc,ps,cl,hclos,hcell,hkind,hnames,k4,HY h4,λs fz ad fps S0=>Gz ok hN hX h4 h (λst1 fz1 ad1 fps1 xs g hg=>El ok hN hln h1 h5 hcc h2 h3 hg) S0⟩
theorem we{m:bw}{e:Expr}{cell:D}{Q:V->St->Prop}(ok:am K k c)(hN:bX K S c)(hX:bb prog w c X (wp Γ O X m.it) (aN S T m.it))(hc:cell=.none\/gC w c m.cn cell)(hcu:m.useC=true->cell≠.none)(hcl:m.useC=false->cell=.none)(hln:m.len=true\/(∀bs,cell≠.bytes bs))
  (he:jW S T m e=true) (h:i_ Γ O cell m st Q X):WE prog w c (eval e c.env) st Q X:=by
 induction xg ok hN hX hc hcu hcl hln he h using rF.casesOn with
 |mk elt px iter ifs sc ps cl h1 h2 h3 h4 h5 h6 h7=>exact zN ok h1 h2 h3 h4 h5 h6 h7
noncomputable def zX(S:aU)(T:Nat->Expr->Bool)(m:bw)(i:Nat)(t:Stmt):Bool:=je t λts v U=>bY ts λy=>bu y λy py=>pF v λe gs sc ps =>
 (getN S.nm i==some y)&&(jW S T m (.ListComp e gs sc ps)&&((py.line==ps.line) && !(sc.names.any λ(n,k)=>n==y&&(k==.local||k==.cell))))
theorem Iu{m:bw}{i:Nat}{t:Stmt}{cell:D}{Q:Fl->St->Prop}(ok:am K k c)(hN:bX K S c)(hX:bb prog w c X (wp Γ O X m.it) (aN S T m.it))(hc:cell=.none\/gC w c m.cn cell)(hcu:m.useC=true->cell≠.none)(hcl:m.useC=false->cell=.none)(hln:m.len=true\/(∀bs,cell≠.bytes bs))
  (he:zX S T m i t=true) (h:i_ Γ O cell m st (λV st1=>Q .next ⟨setN st1.loc i (some V),st1.own⟩) X):WS prog w c (exec t c.env) st Q X:=by
 refine jw he λU U sp he=>?_
 refine cq he λU he=>?_
 refine bx he λy py he=>?_
 refine lH he λe gs sc ps he=>?_
 refine ak (aB he) λe1 he=>?_
 refine ak (aB he) λe2 he=>?_
 refine ak (aB he) λe3 e4=>?_
 have e1:=eq_of_beq e1
 have e4:=(fe _).mp e4
 have hy:c.nm[i]? = some y:=by refine rwr (hN.nm ..) (rwr (aM (bk ..)) ?_);exact e1
 cases xg ok hN hX hc hcu hcl hln e2 h with
 |mk elt px iter ifs sc ps cl h1 h2 h3 h4 h5 h6 h7 =>
 refine F1 ok ?_ hy h1 h2 h3 h4 h5 h6 h7
 have z:=(ok.nmL y (cw hy)).1
 have hb:c.env.blockKind=.function:=by unfold Env.blockKind;refine rwr (ok.hk ..) ?_;rfl
 unfold swapsWith
 simp only[hb,z,beq_self_eq_true,Bool.true_and,bind_pure_comp]
 show (pure (py.line==ps.line&&_):Sem Bool)=_
 refine rwr (e3 ..) (rwr (e4 ..) ?_)
 simp
end
end

section
section
variable {prog:Program}{w:World}{K:Frag}{k:Nat}{c:FC}{st:St}{X:Nat->St->Prop}
theorem Ip{f:Value}{C:aH}(ok:am K k c)(hs:ah prog w K c.gn c.bn k f C){s:Shared}{fz ad fps}(S:SR w.params c st fz ad fps s){zx:List (Addr×au)}(hzx:∀p∈zx,p∈fps.flatten){vals:List Value}{args:List V}
  {Q:V->List af->Prop} {X:Nat->Prop} (hargs:aV w.params (Zf c.base (fz++zx)) [] args vals) (hC:C args [] Q X):
  bh (model prog w) c.A (.call f ⟨vals,[]⟩) (λr s'=>match r with
   |.ok (.ret v)=>∃V own' fzn,Q V own'/\aA c s fz ad fps s' (fz++fzn) ad fps/\SR w.params c st (fz++fzn) ad fps s'/\(∀d,V=.d d->RD w.params (Zf c.base (fz++zx++fzn)) d v)
   |.ok _=>False
   |.error e=>gj (c.env::c.outer) s [] X e s') s:=by
 obtain⟨m,I,R,LR,g1,g2,g3⟩:=S
 have cx:Cx K k c.A (c.env::c.outer) c.base s.heap c.gn c.bn:=⟨ok.hA,ok.hh,ok.hgd,ok.depth,ok.units,ok.kin,ok.lim,I.base ok,I.frames ok,ok.gns,ok.bns,ci (cy ok.sz (by refine elE3 I.ns λo U U=>ae λe U=>?_;exact cL e))⟩
 have notfr:∀a,a≠c.L->a∉c.frs->a∉cZ (c.env::c.outer):=λa h1 h2 q=>by
  rw[ok.frsAll]at q
  refine ao (bZ.mp q) (λq=>?_) λq=>?_
  ·exact h1 q
  ·exact h2 q
 have hz:∀p∈fz++zx,s.heap.get? p.1=some p.2/\p.1∉cZ (c.env::c.outer):=λp hp=>by
  refine ao (cQ.mp hp) (λhp=>?_) λhp=>?_
  ·exact⟨(I.fzH p hp).1,notfr _ (I.fzH p hp).2.1 (I.fzH p hp).2.2.1⟩
  ·exact⟨(I.own p (hzx p hp)).1,notfr _ (I.own p (hzx p hp)).2.1 (I.own p (hzx p hp)).2.2.1⟩
 refine ee (hs c.A (c.env::c.outer) c.base s vals args [] [] [] (fz++zx) Q X cx hz (λU hp=>nomatch hp) ix (λU hp=>nomatch hp) .nil hargs hC) λr s' hr=>?_
 cases r with
 |error e=>exact hr
 |ok fl =>
  cases fl with
  |next=>exact hr
  |brk=>exact hr
  |cont=>exact hr
  |ret v =>
   obtain⟨V,own',fz',ad1,fps',hQ,e1,e2,b1,b2,b3,hk,hsl,hlv,hfz,hF,hnd,hdis,R',rv⟩:=hr
   let fzn:=fz'.filter λp=>(s.heap.get? p.1).isNone
   have mn:∀p,p∈fzn↔p∈fz'/\s.heap.get? p.1=Bx:=λp=>by
    show p∈fz'.filter _↔_
    rw[uK,uN]
   have ex:d_ (Zf c.base fz) (Zf c.base (fz++fzn)):=Zf.ext λp hp=>dE _ hp
   have kp:∀b o,s.heap.get? b=some o->b≠c.L->b∉c.frs->s'.heap.get? b=some o:=λb o e n1 n2=>hk b o e (λq=>nomatch q) (notfr b n1 n2)
   have hfz2:∀p∈fz++fzn,s'.heap.get? p.1=some p.2/\(p∈fz\/s.heap.get? p.1=Bx\/p.1∈([]:List Addr)):=λp hp=>by
    refine ao (cQ.mp hp) (λhp=>?_) λhp=>?_
    ·refine cX (I.fzH p hp) λa1 a2 a3 U=>?_
     exact⟨kp _ _ a1 a2 a3,.inl hp⟩
    ·exact⟨(hfz p ((mn p).mp hp).1).1,.inr (.inl ((mn p).mp hp).2)⟩
   refine⟨V,own',fzn,hQ,⟨λp hp=>dE _ hp,eB _,λb o e n1 U n3=>kp b o e n1 n3,λa ha=>.inl ha,λb o e U=>hlv b o e,λp hp=>(hfz2 p hp).2.imp id λz=>z.imp id λz=>nomatch z⟩,
    ⟨m,I.call (mu:=[]) ok (λU h=>nomatch h) (λb o e U n=>by rw[bZ,not_or]at n;exact kp b o e n.1 n.2) (λb o e q=>hsl b o e (by rw[ok.frsAll];exact q)) hlv hfz2 (λp hp=>?_) I.nd (λp hp q hq=>?_),R.mono ex (eB _),LR.mono ex (eB _),b1.trans g1,b2.trans g2,b3.trans g3⟩,λd hd=>?_⟩
   ·refine cX (I.own p hp) λa1 a2 a3 U=>?_
    exact⟨kp _ _ a1 a2 a3,.inl (du hp)⟩
   ·refine ao (cQ.mp hq) (λhq=>?_) λhq=>?_
    ·exact I.dis p hp q hq
    ·intro e
     have h1:=(I.own p hp).1
     have h2:=((mn q).mp hq).2
     rw[e,h2]at h1;cases h1
   ·subst hd
    refine RD.mono (λa o z=>?_) _ _ rv
    refine ao z (λz=>?_) λz=>?_
    ·exact .inl z
    ·right
     refine ao ((hfz _ z).2) (λy=>?_) (uO (λy=>?_) λy=>?_)
     ·exact dE _ y
     ·exact gp _ ((mn _).mpr ⟨z,y⟩)
     ·cases y
end
noncomputable def uj(x:ac)(it:Ex):bw:=⟨false,it,x,aa "",false,false,false,.x⟩
noncomputable def pB(S:aU)(T:Nat->Expr->Bool)(x:ac)(it:Ex)(e:Expr):Bool:=pF e λe gs sc U=>eP e λf as ks ps=>ck as (ck ks (iK f λo a ap=>bu o λy U=>bY gs λg=>so g λtg iter ifs asy=>bu tg λz U=>ck ifs (
 (asy==0)&&((y==x)&&((z==x)&&((a==cN 7)&&((ap.endLine==ps.line)&&(qi (uj x it) sc&&(lC iter&&(aN S T it).e iter)))))))))
def ww(Γ:Addr->aH->Prop)(O:bf)(Cr:aH)(it:Ex)(st:St)(Q:V->St->Prop)(X:Nat->St->Prop):Prop :=
 (wp Γ O X it).e st λV st1=>∃items:List D,nC V st1.own=some items/\items.length<=1000000 /\
  ∃g:D->D,(∀d∈items,∃fs,d=.obj 352 fs/\(∀p∈fs,p.1<20)/\Cr [.d d] [] (λV own'=>V=.d (g d)) (λU=>False))/\Q (.d (.list (items.map g))) st1
section
variable {prog:Program}{w:World}{K:Frag}{k:Nat}{c:FC}{st:St}{X:Nat->St->Prop}{Γ:Addr->aH->Prop}{O:bf}{S:aU}{T:Nat->Expr->Bool}
theorem zR{mm:Nat}(hm:mm<12):∀fs:List Nat,(∀p∈fs,p<20)->kG (cN mm) fs
 |[],_=>trivial
 |p::r,h=>⟨yw _ (h p (.head _)) _ hm,zR hm r λq hq=>h q (.tail _ hq)⟩
theorem kU{α:Type}:∀l:List α,l.filter (λU=>true)=l
 |[]=>rfl
 |a::r=>by refine rwr (mU ..) ?_;simp[kU r]
inductive nj(S:aU)(T:Nat->Expr->Bool)(x:ac)(it:Ex):Expr->Prop
 |mk (sc:Scope) (pos ps ap py pz:Pos) (iter:Expr) (_:ap.endLine=ps.line) (_:io (uj x it) sc) (_:lC iter=true) (_:(aN S T it).e iter=true):
  nj S T x it (.ListComp (.Call (.Attribute (.Name x py) (cN 7) ap) [] [] ps) [⟨.Name x pz,iter,[],0⟩] sc pos)
theorem nj.of{x:ac}{it:Ex}{e:Expr}(he:pB S T x it e=true):nj S T x it e:=by
 refine lH he λU U sc pos he=>dA he λU U U ps he=>cK he λhe=>cK he λhe=>jb he λU a ap he=>bx he λy py he=>cq he λU he=>xz he λU iter U U he=>bx he λz pz he=>cK he λhe=>?_
 have ⟨e1,he⟩:=aB he
 have ⟨e2,he⟩:=aB he
 have ⟨e3,he⟩:=aB he
 have ⟨e4,he⟩:=aB he
 have ⟨h1,he⟩:=aB he
 have ⟨h2,he⟩:=aB he
 have ⟨h3,h4⟩:=aB he
 exact bo e1 (bo e2 (bo e3 (bo e4 ⟨sc,pos,ps,ap,py,pz,iter,eq_of_beq h1,io.of h2,h3,h4⟩)))
theorem qk{f:Value}{C:aH}(ok:am K k c)(hs:ah prog w K c.gn c.bn k f C){s:Shared}{fz ad fps}(S:SR w.params c st fz ad fps s){zx:List (Addr×au)}(hzx:∀p∈zx,p∈fps.flatten){vals:List Value}{args:List V}
  {Q:V->List af->Prop} {X:Nat->Prop} (hargs:aV w.params (Zf c.base (fz++zx)) [] args vals) (hC:C args [] Q X) {Qc Ec:Value->Shared->Prop}
  (hret:∀V own' fzn v s',Q V own'->aA c s fz ad fps s' (fz++fzn) ad fps->SR w.params c st (fz++fzn) ad fps s'->(∀d,V=.d d->RD w.params (Zf c.base (fz++zx++fzn)) d v)->Qc v s') (herr:∀e s',gj (c.env::c.outer) s [] X e s'->Ec e s'):
  ag (model prog w) c.A (call f vals) Qc Ec s:=by
 refine jP (ee (Ip (zx:=zx) ok hs S hzx hargs hC) λr s' hr=>?_)
 cases r with
 |error e=>exact herr e s' hr
 |ok fl =>
  cases fl with
  |ret v =>
   refine elE3 hr λV own' fzn=>aY λa b c d=>?_;clear hr
   exact hret V own' fzn v s' a b c d
  |next=>exact hr.elim
  |brk=>exact hr.elim
  |cont=>exact hr.elim
theorem Hy{x:ac}{it:Ex}{Cr:aH}{f:Addr}{sc:Scope}{ps ap py:Pos}{items:List D}{g:D->D}{st1:St}{ad1 fps1 fz1}(ok:am K k c)(hK:cJ K)(hf:kY 352 7=some f)(hs:ah prog w K c.gn c.bn k (.ref f) Cr)(h1:ap.endLine=ps.line)(h2:io (uj x it) sc)
  (hg:∀d∈items,∃fs,d=.obj 352 fs/\(∀p∈fs,p.1<20)/\Cr [.d d] [] (λV own'=>V=.d (g d)) (λU=>False)):ki prog w c st1 ad1 fps1 fz1 sc [] x [] (.Call (.Attribute (.Name x py) (cN 7) ap) [] [] ps) items (λU=>true) g where
 test d hd C s' fz2 m' v _ S' ns hm rv:=Bo ⟨rfl,s'.toks,rfl⟩
 elt d hd hp C s' fz2 m' v hfz S' ns hm rd:=by
  obtain⟨hkind,_,_,k4,k5,_,_⟩:=h2
  refine elE1 (hg d hd) λfs=>al λz0 hfs hC=>?_;subst z0
  refine rwr (arm_eval_Call ..) (rwr (ky rfl ..) ?_)
  refine ai (nS (wpAny.n (wpAny_loadName_local hkind (lookup_relabel_local k4) ns hm ?_)) k5)
  refine ai (a_ (my (c:={ c with env:=compEnvC sc [] C c.env }) (es:=[]) trivial (by decide) h1 λpl=>oH (V:=.d (.obj 352 fs)) ok S' rd ⟨(hK.meth 352 7 f hf).1,(hK.meth 352 7 f hf).2,zR (by decide) _ λp hp=>by refine elE1 (aW.mp hp) λq=>ae λhq z0=>?_;subst z0;exact hfs q hq⟩ ?_))
  refine iH rfl (keeps_K (fj.keep (hK.meth 352 7 f hf).2)) (nx ⟨S'.kin ok,?_⟩)
  refine qk (zx:=[]) ok hs S' (λU h=>nomatch h) (args:=[.d (.obj 352 fs)]) (ex2 v [] ⟨rfl,by refine rwr (bA ..) ?_;exact rd,rfl⟩) hC (λV own' fzn v' s2 e A' S'' hr=>?_) λe s2 hr=>?_
  ·have:=hr _ e
   rw[bA]at this
   exact⟨_,A',S'',this⟩
  ·obtain⟨_,_,_,_,_,hX,_⟩:=hr;exact hX.elim
theorem CT{x:ac}{it:Ex}{e:Expr}{Cr:aH}{f:Addr}{Q:V->St->Prop}(ok:am K k c)(hK:cJ K)(hX:bb prog w c X (wp Γ O X it) (aN S T it))(hf:kY 352 7=some f)(hs:ah prog w K c.gn c.bn k (.ref f) Cr)
  (he:pB S T x it e=true) (h:ww Γ O Cr it st Q X):WE prog w c (eval e c.env) st Q X:=by
 have szl:(1000000:Nat)<=sizeLine:=by refine rwr (sizeLine_eq ..) ?_;decide
 cases nj.of he with
 |mk sc pos ps ap py pz iter h1 h2 h3 h4 =>
  have ⟨hkind,hcell,hnames,k4,k5,k6,_⟩:=h2
  refine zN ok (vv (eq_of_beq k6)) hcell hkind hnames k4 (qS h3) λs fz ad fps S0=>?_
  refine(hX.e iter h4 st _ h).use S0 (λv s1 V st1 fz1 ad1 fps1 x1 S1 rv hQ=>?_) λU U e=>e
  refine elE1 hQ λitems=>al λhi hl=>uE1 λg=>ae λhg hQ=>?_
  exact(jz st1 fz1 ad1 fps1 _ ⟨x1,S1,(ex3 items (λU=>true) g ⟨by lia,λE=>Az ok S1 rv hi,Hy ok hK hf hs h1 h2 hg,rfl⟩),by refine rwr (kU ..) ?_;exact hQ⟩)
end
end

section
section
variable {prog:Program}{w:World}{K:Frag}{k:Nat}{c:FC}{st:St}{X:Nat->St->Prop}
theorem gj.map{envs:List Env}{s:Shared}{mu:List Addr}{X Y:Nat->Prop}{e:Value}{s':Shared}(h:gj envs s mu X e s')(hx:∀C,X C->Y C):gj envs s mu Y e s':=by
 obtain⟨ea,C,B,t,h1,h2,r1,r2,r3,r4,r5,r6⟩:=h
 exact⟨ea,C,B,t,h1,hx C h2,r1,r2,r3,r4,r5,r6⟩
theorem gj.have{envs:List Env}{s:Shared}{mu:List Addr}{X:Nat->Prop}{e:Value}{s':Shared}(h:gj envs s mu X e s'):∃C,X C:=by
 obtain⟨_,C,_,_,_,h2,_⟩:=h
 exact⟨C,h2⟩
theorem ol(ok:am K k c){i:Nat}{x:ac}{pos:Pos}{V:V}(hx:c.nm[i]? = some x)(hv:getN st.loc i=some (some V)){s:Shared}{fz ad fps}(S:SR w.params c st fz ad fps s){Q:Value->Shared->Prop}{E:Value->Shared->Prop}
  (hq:∀v,RV w.params (Zf c.base fz) ad V v->Q v s):ag (model prog w) c.A (eval (.Name x pos) c.env) Q E s:=by
 obtain⟨m,I,_,hl,_⟩:=S
 refine elE1 (hl i x V hx hv) λv=>ae λe r=>?_
 have z:=ok.nmL x (cw hx)
 exact wpAny.n (wpAny_Name (wpAny_loadName_local ok.hk z.1 I.ns e (hq v r)) z.2)
theorem KJ{f fc:Addr}{C:aH}{i j:Nat}{x a fn xc:ac}{np xp tp ap' yp cp p1 ap hpos pos:Pos}{ce:Expr}{D0:V}{d:D}{Q:Fl->St->Prop}(ok:am K k c)
  (hc:c.env.kindOf xc=some .globalImplicit) (hd:(xc==("__debug__" : ac))=false) (hgc:c.gn xc=some (.ref fc)) (hbad:∀C,(C=56\/C=68)->exmOne K (.ref C) (.ref fc)=some true)
  (hfc:c.env.kindOf fn=some .globalImplicit) (hfd:(fn==("__debug__" : ac))=false) (hgf:c.gn fn=some (.ref f)) (hkf:keepIn K (.ref f)=true)
  (hx:c.nm[i]? = some x) (ha:c.nm[j]? = some a) (hv:getN st.loc j=some (some (.d d)))
  (hsw:swapsWith ce (some (.Name x yp)) ap.line c.env=pure false)
  (hce:∀(A:Around) (s:Shared) (Qc:Value->Shared->Prop) (Ec:Value->Shared->Prop),(∀v tk,(∀Z ad,RV w.params Z ad D0 v)->Qc v { s with toks:=tk })->wpAny (model prog w) A (eval ce c.env) Qc Ec s)
  (hs:ah prog w K c.gn c.bn k (.ref f) C)
  (hC:C [.d d] [] (λV own'=>∃d',V=.d d'/\Q .next ⟨setN st.loc i (some (.d d')),st.own⟩) (λCn=>(Cn=56\/Cn=68)/\Q .next ⟨setN st.loc i (some D0),st.own⟩)):
  WS prog w c (exec (.Try [.Assign [.Name x xp] (.Call (.Name fn np) [.Name a ap'] [] cp) p1] [.ExceptHandler (some (.Name xc tp)) Bx [.Assign [.Name x yp] ce ap] hpos] [] [] pos) c.env) st Q X:=by
 refine rT (bad:=λC=>C=56\/C=68) ok hc hd hgc hx hbad hsw hce λs fz ad fps S=>?_
 refine lW (qR ?_ rfl)
 refine jv (wpAny.n (jj ok.hk hfc (pJ (by refine rwr (ok.hg ..) ?_;exact ok.gns.keeps (S.heap ok)) hgf ?_) hfd))
 refine iH rfl (keeps_K hkf) (kX (nR (ol ok ha hv S λv rv=>o9 ⟨S.kin ok,?_⟩)))
 refine qk (zx:=[]) ok hs S (λU h=>nomatch h) (args:=[.d d]) (ex2 v [] ⟨rfl,by refine rwr (bA ..) ?_;exact rv,rfl⟩) hC (λV' own' fzn v' s' hd A' S' hr=>?_) λe s' hr=>?_
 ·refine elE1 hd λd'=>ae λe hQ=>?_;clear hd
  have hr:=hr _ e
  rw[bA]at hr
  exact jU ok hx S' (show RV _ _ _ (.d d') v' from hr) λs2 S2 A2=>jy ⟨.next,_,_,ad,fps,A'.trans A2,S2,rfl,hQ⟩
 ·refine elE1 hr.have λCn=>ae λU hQ=>?_
  exact(ly s st fz ad fps [] ⟨aA.refl,S,hr.map λU h=>h.1,.inl ⟨rfl,hQ⟩⟩)
theorem JN{fc f:Addr}{C:aH}{i jo ja mm:Nat}{y o a xc:ac}{op' tp ap' yp mp ps p1 ap hpos pos:Pos}{ce:Expr}{D0 Vo Va:V}{Q:Fl->St->Prop}(ok:am K k c)(hK:cJ K)(hmu:c.mu=[])
  (hc:c.env.kindOf xc=some .globalImplicit) (hd:(xc==("__debug__" : ac))=false) (hgc:c.gn xc=some (.ref fc)) (hbad:∀C,(C=56\/C=68)->exmOne K (.ref C) (.ref fc)=some true)
  (hi:interactive c.env=false) (hy:c.nm[i]? = some y) (ho:c.nm[jo]? = some o) (ha:c.nm[ja]? = some a) (hvo:getN st.loc jo=some (some Vo)) (hva:getN st.loc ja=some (some Va))
  (hsw:swapsWith ce (some (.Name y yp)) ap.line c.env=pure false) (hml:mp.endLine=ps.line) (hme:jZ K st.own Vo (cN mm) f)
  (hce:∀(A:Around) (s:Shared) (Qc:Value->Shared->Prop) (Ec:Value->Shared->Prop),(∀v tk,(∀Z ad,RV w.params Z ad D0 v)->Qc v { s with toks:=tk })->wpAny (model prog w) A (eval ce c.env) Qc Ec s)
  (hs:ah prog w K c.gn c.bn k (.ref f) C)
  (hC:ti C st [Vo,Va] (λU st1=>Q .next st1) (λCn st1=>(Cn=56\/Cn=68)/\Q .next ⟨setN st1.loc i (some D0),st1.own.map λU=>.dead⟩)):
  WS prog w c (exec (.Try [.Expr (.Call (.Attribute (.Name o op') (cN mm) mp) [.Name a ap'] [] ps) p1] [.ExceptHandler (some (.Name xc tp)) Bx [.Assign [.Name y yp] ce ap] hpos] [] [] pos) c.env) st Q X:=by
 refine rT (bad:=λC=>C=56\/C=68) ok hc hd hgc hy hbad hsw hce λs fz ad fps S=>?_
 refine lW (tJ ?_ hi rfl)
 refine rwr (arm_eval_Call ..) (rwr (ky rfl ..) ?_)
 refine ai (ol ok ho hvo S λov rvo=>?_)
 refine ai (a_ (my (c:=c) (es:=[.Name a ap']) ⟨rfl,trivial⟩ (by simp) hml λpl=>oH ok S rvo hme ?_))
 refine iH rfl (keeps_K hme.keep) (kX (nR (ol ok ha hva S λva rva=>o9 ⟨S.kin ok,?_⟩)))
 refine elE3 hC λsel args own_c=>yO λh1 h2 h3 h4 h5 h6 h7=>?_;clear hC
 have hr:aV w.params (Zf c.base fz) ad (args.map (renV (pick sel))) [ov,va]:=by refine rwr (aM (h5 ..)) ?_;exact(ex2 ov _ ⟨rfl,rvo,ex2 va _ ⟨rfl,rva,rfl⟩⟩)
 refine jP (ee (vk ok hs S h1 h2 h3 h4 hr h6 h7) λr s' hr=>?_)
 cases r with
 |error e =>
  refine elE1 hr.1.have λCn=>ae λU hQ=>?_
  refine(ly s st fz ad fps _ ⟨aA.refl,S,hr.1.map λU h=>h.1,.inr ⟨hmu,λb hb=>?_,hQ⟩⟩)
  unfold aT at hb ⊢
  refine elE1 (aW.mp hb) λp=>ae λhp z0=>?_;subst z0
  refine du ?_
  refine elE1 (iw.mp hp) λl=>ae λhl hp=>?_
  refine elE1 (aW.mp hl) λt=>ae λht z0=>?_;subst z0
  cases q:fps[t]? with
  |none=>rw[q]at hp;cases hp
  |some fp=>rw[q]at hp;exact iw.mpr ⟨fp,cw q,hp⟩
 |ok fl =>
  cases fl with
  |ret v' =>
   obtain⟨V',own',fz',ad',fps',hQ,A',S',rv⟩:=hr
   exact jy ⟨.next,_,_,ad',fps',A',S',rfl,hQ⟩
  |next=>exact hr
  |brk=>exact hr
  |cont=>exact hr
theorem Kt{fc f:Addr}{C:aH}{i jo mm:Nat}{y o xc:ac}{op' tp yp mp ps p1 ap hpos pos:Pos}{ce:Expr}{D0 Vo:V}{d:D}{Q:Fl->St->Prop}(ok:am K k c)(hK:cJ K)
  (hc:c.env.kindOf xc=some .globalImplicit) (hd:(xc==("__debug__" : ac))=false) (hgc:c.gn xc=some (.ref fc)) (hbad:∀C,(C=56\/C=68)->exmOne K (.ref C) (.ref fc)=some true)
  (hi:interactive c.env=false) (hy:c.nm[i]? = some y) (ho:c.nm[jo]? = some o) (hvo:getN st.loc jo=some (some Vo))
  (hsw:swapsWith ce (some (.Name y yp)) ap.line c.env=pure false) (hml:mp.endLine=ps.line) (hme:jZ K st.own Vo (cN mm) f)
  (hce:∀(A:Around) (s:Shared) (Qc:Value->Shared->Prop) (Ec:Value->Shared->Prop),(∀v tk,(∀Z ad,RV w.params Z ad D0 v)->Qc v { s with toks:=tk })->wpAny (model prog w) A (eval ce c.env) Qc Ec s)
  (hs:ah prog w K c.gn c.bn k (.ref f) C)
  (hlook:∀s fz ad fps v,SR w.params c st fz ad fps s->RV w.params (Zf c.base fz) ad Vo v->RD w.params (Zf c.base (fz++fps.flatten)) d v)
  (hC:C [.d d] [] (λV own'=>Q .next st) (λCn=>(Cn=56\/Cn=68)/\Q .next ⟨setN st.loc i (some D0),st.own⟩)):
  WS prog w c (exec (.Try [.Expr (.Call (.Attribute (.Name o op') (cN mm) mp) [] [] ps) p1] [.ExceptHandler (some (.Name xc tp)) Bx [.Assign [.Name y yp] ce ap] hpos] [] [] pos) c.env) st Q X:=by
 refine rT (bad:=λC=>C=56\/C=68) ok hc hd hgc hy hbad hsw hce λs fz ad fps S=>?_
 refine lW (tJ ?_ hi rfl)
 refine rwr (arm_eval_Call ..) (rwr (ky rfl ..) ?_)
 refine ai (ol ok ho hvo S λov rvo=>?_)
 refine ai (a_ (my (c:=c) (es:=[]) trivial (by decide) hml λpl=>oH ok S rvo hme ?_))
 refine iH rfl (keeps_K hme.keep) (nx ⟨S.kin ok,?_⟩)
 refine qk (zx:=fps.flatten) ok hs S (λU h=>h) (args:=[.d d]) (ex2 ov [] ⟨rfl,hlook s fz ad fps ov S rvo,rfl⟩) hC (λV' own' fzn v' s' hQ A' S' U=>jy ⟨.next,_,_,ad,fps,A',S',rfl,hQ⟩) λe s' hr=>?_
 refine elE1 hr.have λCn=>ae λU hQ=>?_
 exact(ly s st fz ad fps [] ⟨aA.refl,S,hr.map λU h=>h.1,.inl ⟨rfl,hQ⟩⟩)
def n9(P:Params)(Z Z':Zt)(ad:List Addr):List (Nat×V)->List (Nat×D)->Prop
 |[],[]=>True
 |(k,v)::r,(k',d)::r'=>k=k'/\(∀x,RV P Z ad v x->RD P Z' d x)/\n9 P Z Z' ad r r'
 |_,_=>False
theorem n9.look{P:Params}{Z Z':Zt}{ad:List Addr}:∀{fs:List (Nat×V)} {ds:List (Nat×D)} {es:List DictEntry},n9 P Z Z' ad fs ds->aX P Z ad fs es->RDf P Z' ds es
 |[],[],_,_,h=>h
 |(k,v)::r,(k',d)::r',es,⟨e,h1,h2⟩,⟨x,tk,es',a,b,c,f⟩=>⟨x,tk,es',e▸a,e▸b,h1 x c,h2.look f⟩
 |[],_::_,_,h,_=>h.elim
 |_::_,[],_,h,_=>h.elim
theorem xb{i:Nat}{vs:List D}{s:Shared}{fz ad fps}{v:Value}(S:SR w.params c st fz ad fps s)(h:getN st.own i=some (.lst vs))(rv:RV w.params (Zf c.base fz) ad (.own i) v):RD w.params (Zf c.base (fz++fps.flatten)) (.list vs) v:=by
 obtain⟨m,I,R,_⟩:=S
 rw[bk]at h
 refine elE2 (R.get h) λx2 f2=>al λe2 g2=>uE2 λxs2 n2=>ae λy5 r2=>?_;subst y5
 refine elE1 rv λx=>ae λex z0=>?_;clear rv;subst z0
 rw[e2]at ex;cases ex
 exact(ex3 _ xs2 n2 ⟨rfl,.inr (gp _ (iw.mpr ⟨_,cw g2,.head _⟩)),RDs.mono (Zf.ext λp hp=>dE _ hp) _ _ r2⟩)
theorem F6{i C:Nat}{fs:List (Nat×V)}{ds:List (Nat×D)}{s:Shared}{fz ad fps}{v:Value}(S:SR w.params c st fz ad fps s)(h:getN st.own i=some (.inst C fs))(rv:RV w.params (Zf c.base fz) ad (.own i) v)(L:n9 w.params (Zf c.base fz) (Zf c.base (fz++fps.flatten)) ad fs ds):RD w.params (Zf c.base (fz++fps.flatten)) (.obj C ds) v:=by
 obtain⟨m,I,R,_⟩:=S
 rw[bk]at h
 refine elE2 (R.get h) λx1 f1=>al λe1 g1=>uE3 λdx n1 en=>ae λy5 r1=>?_;subst y5
 refine elE1 rv λx=>ae λex z0=>?_;clear rv;subst z0
 rw[e1]at ex;cases ex
 have mem:∀p∈_,p∈fz++fps.flatten:=λp hp=>gp _ (iw.mpr ⟨_,cw g1,hp⟩)
 exact(dZ _ dx n1 en ⟨rfl,.inr (mem _ (.head _)),.inr (mem _ (.tail _ (.head _))),L.look r1⟩)
theorem HV{cnt bi bt:Nat}{conf hard:D}{es ps:List D}{i a b:Nat}{s:Shared}{fz ad fps}{v:Value}(S:SR w.params c st fz ad fps s)(h1:getN st.own i=some (segO cnt bi bt conf hard (.own a) (.own b)))(h2:getN st.own a=some (.lst es))(h3:getN st.own b=some (.lst ps))
  (rv:RV w.params (Zf c.base fz) ad (.own i) v):RD w.params (Zf c.base (fz++fps.flatten)) (.obj 555 (oW cnt bi bt conf hard es ps)) v :=
 have m:∀{d:D} (x:Value),RV w.params (Zf c.base fz) ad (.d d) x->RD w.params (Zf c.base (fz++fps.flatten)) d x:=λU h=>RD.mono (Zf.ext λp hp=>dE _ hp) _ _ h
 F6 S h1 rv ⟨rfl,m,rfl,m,rfl,m,rfl,m,rfl,m,rfl,λU h=>xb S h2 h,rfl,λU h=>xb S h3 h,trivial⟩
end
end

section
section
variable {prog:Program}{w:World}{K:Frag}{k:Nat}{c:FC}{st:St}{X:Nat->St->Prop}
theorem DM{is:List Nat}{ts:List Expr}{kd:Nat}{np:Pos}{body:List Stmt}{I ax:Addr}{fp wr:List Addr}{n:Nat}{P:Nat->Value->Prop}{Stt:Nat->Heap->Prop}{s₀ s:Shared}{fz ad fps fps'}{Q:Fl->St->Prop}{items:List D}
  (ok:am K k c) (hn:gb c.nm is ts) (hit:∀j h,Stt j h->h.IsListIter I ax j) (Wk:Walks prog w c.A I fp wr n P Stt) (hP:∀j v,j<n->P j v->∃d,items[j]? = some d/\RD w.params (Zf c.base fz) d v)
  (A0:aA c s₀ fz ad fps s fz ad fps') (S:SR w.params c st fz ad fps' s) (hst:Stt 0 s.heap) (hwr:∀b∈wr,s₀.heap.get? b=Bx/\bS c fz fps' b/\∃o,s.heap.get? b=some o) (hfp:∀b∈fp,b≠c.L/\b∉c.frs/\b∉aT fps'/\∃o,s.heap.get? b=some o)
  (hlv:∀b∈wr,∀j h,Stt j h->∃o,h.get? b=some o)
  (J:Nat->St->Prop) (h0:J 0 st) (turn:∀j d st1,items[j]? = some d->J j st1->∃ds,d=.tup ds/\ds.length=is.length/\WS prog w c (execs body c.env) ⟨iW st1.loc is ds,st1.own⟩ (ey (J (j+1)) Q) X) (hend:∀st1,J n st1->Q .next st1):
  bh (model prog w) c.A (.forLoop (.Tuple ts kd np) (.ref I) body [] c.env) (eH prog w c.A c.env (dK w.params c (e9 w.params) Q s₀ fz ad fps) (bD prog w c X)) s:=by
 refine v5 ok Wk hP A0 S hst hwr hfp hlv h0 hend λj d v st1 s1 fz1 ad1 fps1 B E hd hJ S1 hst' rd hB=>?_
 refine elE1 (turn j d st1 hd hJ) λds=>al λe hdl turnW=>?_
 rw[e]at rd
 refine elE3 rd λa xs nn=>al λz0 z r=>?_;clear rd;subst z0
 refine ak (AE (c:=c) hn) λe1 e2=>?_
 refine wpAny.n (wpAny_letOwnedTupleGo_listiter (hit _ _ hst') ?_)
 refine wpAny.n ((assign_Tuple_tuple ok.hh ⟨_,S1.at ok z,rfl,_,rfl⟩ (by refine rwr (e1 ..) (rwr (aM (hdl ..)) ?_);have:=RDs.len r;simpa using this.symm) e2 λh2 he=>?_))
 refine elE1 S1.one λmm S2=>?_
 have kp2:∀b o,s1.heap.get? b=some o->h2.get? b=some o:=λb o e=>he b o (k8 (cL e)) e
 have g:=bF.grow (tk:=s1.toks) (h':=h2) (fzn:=[]) ok S2 (λb o e U=>kp2 b o e) ((S2.fr ok).keeps kp2).ns λp hp=>nomatch hp
 rw[bA]at g
 exact vV ok hn r hdl g.1 λs3 S3 A3'=>hB _ _ S3 (g.2.trans A3') turnW
theorem Jm{is:List Nat}{ts:List Expr}{kd:Nat}{np pos:Pos}{iter:Expr}{body:List Stmt}{Q:Fl->St->Prop}(ok:am K k c)(hn:gb c.nm is ts)(hs:∀x,foldedSetIterable iter c.env x=pure x)
  (h:WE prog w c (eval iter c.env) st (λV st1=>∃items,V=.d (.list items)/\∃J:Nat->St->Prop,J 0 st1/\(∀j d st2,items[j]? = some d->J j st2->∃ds,d=.tup ds/\ds.length=is.length/\WS prog w c (execs body c.env) ⟨iW st2.loc is ds,st2.own⟩ (ey (J (j+1)) Q) X)/\∀st2,J items.length st2->Q .next st2) X):
  WS prog w c (exec (.For (.Tuple ts kd np) iter body [] pos) c.env) st Q X:=λs fz ad fps S0 =>
 th (h.use S0 (λv s1 V st1 fz1 ad1 fps1 x1 S1 rv hQ=>by
  refine elE1 hQ λitems=>ae λy5=>uE1 λJ=>al λh0 turn hend=>?_;clear hQ;subst y5
  refine elE3 rv λa xs n=>al λz0 z r=>?_;clear rv;subst z0
  have e:=S1.at ok z
  have lens:items.length=xs.size:=by have:=RDs.len r;simpa using this.symm
  have ne:a≠s1.heap.objs.size:=k8 (cL e)
  have u:=bS.new ok S1 (fk s1.heap)
  refine elE1 S1.one λm S1'=>?_
  refine wpAny.n (wpAny_pyIter_list (bR e) ?_)
  have P1:=bF.push (tk:=s1.toks) (o:={ cls:=.type "list_iterator",data:=.fields #[.ref a,.int 0 0] }) ok S1'
  have ei:({ s1 with heap:=s1.heap.push { cls:=.type "list_iterator",data:=.fields #[.ref a,.int 0 0] } }:Shared).heap.get? s1.heap.objs.size=some { cls:=.type "list_iterator",data:=.fields #[.ref a,.int 0 0] }:=dt _ rfl
  have zz:=S1.zf ok z
  have itm:∀j v,j<xs.size->xs[j]? = some v->∃d,items[j]? = some d/\RD w.params (Zf c.base fz1) d v:=λj v hj e=>by
   have hj':j<items.length:=by refine rwr (lens ..) ?_;exact hj
   refine elE1 (RDs.get r (cM hj')) λv'=>ae λe' rd=>?_
   rw[jq,e]at e';cases e'
   exact⟨_,cM hj',rd⟩
  refine ee (DM (ax:=a) (s₀:=s1) (fz:=fz1) (ad:=ad1) (fps:=fps1) (I:=s1.heap.objs.size) (fp:=[s1.heap.objs.size,a]) (wr:=[s1.heap.objs.size]) (n:=xs.size) (items:=items) (Q:=Q) (X:=X) (st:=st1) ok hn (λj h st=>st.1) (uP ok.hh _ a ne xs) itm P1.2 P1.1 ⟨⟨_,ei,rfl,rfl⟩,(bR e).push _⟩
   (λb hb=>by simp only[bj]at hb;subst hb;exact⟨fk _,u,_,ei⟩) (λb hb=>?_) (λb hb j h st=>by simp only[bj]at hb;subst hb;refine ak st (uE1 λo=>ae λho U U=>?_);clear st;exact⟨o,ho⟩) J h0 turn (λst2 h=>hend st2 (by refine rwr (lens ..) ?_;exact h))) λr s' hr=>?_
  ·refine ao (bZ.mp hb) (λz0=>?_) λhb=>?_ <;>(try subst z0)
   ·exact⟨u.1,u.2.1,u.2.2.1,_,ei⟩
   ·simp only[bj]at hb;subst hb
    exact⟨zz.1,zz.2.1,zz.2.2,_,eA _ e⟩
  ·exact eH.adv x1 hr) λU U e=>e) hs
end
end

section
noncomputable def vH:List ac:=[]
noncomputable def s8:Sx :=
 (.cons (.ite (.or (.cons (.cmp .Lt (.bi 0 (.cons (.orc 9) .nil)) (.k (.int (2)))) (.cons (.cmp .NotEq (.sub (.orc 9) (.bin .Sub (.bi 0 (.cons (.orc 9) .nil)) (.k (.int (1))))) (.k (.int (10)))) .nil))) (.cons (.ret (.k (.int (-1))))
  .nil) .nil)
  (.cons (.ite (.cmp .Gt (.bi 0 (.cons (.orc 1) .nil)) (.k (.int (0)))) (.cons (.ret (.k (.int (-1))))
  .nil) .nil)
  (.cons (.ret (.bi 4 (.cons (.orc 0) .nil)))
  .nil)))
noncomputable def LL:List ac:=[aa "n",aa "way",aa "figures",aa "place",aa "piece"]
noncomputable def v_:Sx :=
 (.cons (.asg 2 (.call (aa "_law_octets") 627 (.cons (.bin .Add (.bin .Mult (.lst (.cons (.k (.int (0))) .nil)) (.bin .Mod (.orc 9) (.k (.int (3))))) (.call (aa "_law_figures") 622 (.cons (.bin .Mod (.bin .FloorDiv (.orc 9) (.k (.int (3)))) (.bin .Pow (.k (.int (10))) (.bin .Add (.k (.int (1))) (.bin .Mod (.orc 9) (.k (.int (12))))))) (.cons (.k (.int (1))) .nil)))) .nil)))
  (.cons (.asg 3 (.bin .Mod (.bin .FloorDiv (.orc 9) (.k (.int (5)))) (.bin .Add (.bi 0 (.cons (.v 2) .nil)) (.k (.int (1))))))
  (.cons (.asg 4 (.bi 1 (.cons (.lst (.cons (.bin .Mod (.bin .FloorDiv (.orc 9) (.k (.int (7)))) (.k (.int (256)))) .nil)) .nil)))
  (.cons (.ite (.cmp .Eq (.bin .Mod (.orc 9) (.k (.int (2)))) (.k (.int (0)))) (.cons (.asg 4 (.sub (.call (aa "_law_pieces") 615 .nil) (.bin .Mod (.bin .FloorDiv (.orc 9) (.k (.int (14)))) (.k (.int (15))))))
  .nil) .nil)
  (.cons (.ite (.cmp .Eq (.v 1) (.k (.int (2)))) (.cons (.ret (.bin .Add (.v 2) (.slc (.k (.bytes [10,10])) .nil (.bin .Mult (.bin .Mod (.orc 9) (.k (.int (2)))) (.k (.int (2)))))))
  .nil) .nil)
  (.cons (.ite (.cmp .Eq (.v 1) (.k (.int (3)))) (.cons (.ret (.bin .Add (.bin .Add (.bin .Add (.slc (.v 2) .nil (.v 3)) (.v 4)) (.slc (.v 2) (.v 3) .nil)) (.k (.bytes [10]))))
  .nil) .nil)
  (.cons (.ite (.cmp .Eq (.v 1) (.k (.int (4)))) (.cons (.ret (.bin .Add (.bin .Add (.bin .Add (.slc (.v 2) .nil (.v 3)) (.v 4)) (.slc (.v 2) (.bin .Add (.v 3) (.k (.int (1)))) .nil)) (.k (.bytes [10]))))
  .nil) .nil)
  (.cons (.ite (.cmp .Eq (.v 1) (.k (.int (5)))) (.cons (.ret (.slc (.bin .Add (.v 2) (.k (.bytes [10]))) .nil (.v 3)))
  .nil) .nil)
  (.cons (.ite (.cmp .Eq (.v 1) (.k (.int (6)))) (.cons (.ret (.bin .Add (.bin .Mult (.k (.bytes [48])) (.bin .Mod (.orc 9) (.k (.int (14))))) (.k (.bytes [10]))))
  .nil) .nil)
  (.cons (.ite (.cmp .Eq (.v 1) (.k (.int (7)))) (.cons (.ret (.bi 1 (.cons (.orc 0) .nil)))
  .nil) .nil)
  (.cons (.ret (.bin .Add (.v 2) (.k (.bytes [10]))))
  .nil)))))))))))
noncomputable def Ea:Sx :=
 (.cons (.ret (.k (.bool true)))
  .nil)
noncomputable def n7:Sx :=
 (.cons (.ite (.or (.cons (.cmp .NotEq (.v 3) (.call (aa "_law_name") 634 (.cons (.v 4) (.cons (.v 0) (.cons (.v 5) .nil))))) (.cons (.cmp .NotEq (.call (aa "parse_name") 601 (.cons (.v 3) .nil)) (.tup (.cons (.v 6) (.cons (.v 0) .nil)))) .nil))) (.cons (.ret (.k (.bool false)))
  .nil) .nil)
  .nil)
noncomputable def yE:List ac:=[aa "n",aa "segment",aa "said",aa "name",aa "head",aa "tail",aa "kind"]
noncomputable def rg:Sx :=
 (.cons (.asg 1 (.call (aa "segment_name") 482 (.cons (.v 0) .nil)))
  (.cons (.ite (.cmp .NotEq (.v 1) (.call (aa "_law_name") 634 (.cons (.k (.str (aa "wal-"))) (.cons (.v 0) (.cons (.k (.str (aa ""))) .nil))))) (.cons (.ret (.k (.bool false)))
  .nil) .nil)
  (.cons (.ite (.or (.cons (.cmp .NotEq (.call (aa "parse_name") 601 (.cons (.v 1) .nil)) (.tup (.cons (.g (aa "NAME_OTHER") (.int (0))) (.cons (.k (.int (0))) .nil)))) (.cons (.cmp .NotEq (.call (aa "parse_name") 601 (.cons (.bin .Add (.v 1) (.k (.str (aa ".log")))) .nil)) (.tup (.cons (.g (aa "NAME_OTHER") (.int (0))) (.cons (.k (.int (0))) .nil)))) .nil))) (.cons (.ret (.k (.bool false)))
  .nil) .nil)
  (.cons (.asg 2 (.lst (.cons (.tup (.cons (.call (aa "manifest_name") 587 (.cons (.v 0) .nil)) (.cons (.k (.str (aa "MANIFEST-"))) (.cons (.k (.str (aa ""))) (.cons (.g (aa "NAME_MANIFEST") (.int (2))) .nil))))) (.cons (.tup (.cons (.call (aa "log_name") 566 (.cons (.v 0) .nil)) (.cons (.k (.str (aa ""))) (.cons (.k (.str (aa ".log"))) (.cons (.g (aa "NAME_LOG") (.int (3))) .nil))))) (.cons (.tup (.cons (.call (aa "table_name") 573 (.cons (.v 0) .nil)) (.cons (.k (.str (aa ""))) (.cons (.k (.str (aa ".ldb"))) (.cons (.g (aa "NAME_TABLE") (.int (4))) .nil))))) (.cons (.tup (.cons (.call (aa "temp_name") 580 (.cons (.v 0) .nil)) (.cons (.k (.str (aa ""))) (.cons (.k (.str (aa ".dbtmp"))) (.cons (.g (aa "NAME_TEMP") (.int (5))) .nil))))) .nil))))))
  (.cons (.orc 0)
  Ea)))))
noncomputable def wK:Sx :=
 (.cons (.ret (.call (aa "_law_segment") 677 (.cons (.v 1) .nil)))
  .nil)
noncomputable def xi:Sx :=
 (.cons (.ite (.cmp .NotEq (.call (aa "parse_name") 601 (.cons (.v 9) .nil)) (.tup (.cons (.g (aa "NAME_OTHER") (.int (0))) (.cons (.k (.int (0))) .nil)))) (.cons (.ret (.k (.bool false)))
  .nil) .nil)
  .nil)
noncomputable def zP:Sx :=
 (.cons (.forL 9 (.tup (.cons (.k (.str (aa "RAFT"))) (.cons (.k (.str (aa "RAFT.new"))) .nil))) xi)
  wK)
noncomputable def vg:Sx :=
 (.cons (.ite (.not (.call (aa "_law_names") 658 (.cons (.v 8) .nil))) (.cons (.ret (.k (.bool false)))
  .nil) .nil)
  .nil)
noncomputable def zB:Sx :=
 (.cons (.forL 8 (.tup (.cons (.v 6) (.cons (.bin .Add (.k (.int (999998))) (.bin .Mod (.v 2) (.k (.int (4))))) (.cons (.bin .Mod (.bin .FloorDiv (.call (aa "_law_draw") 608 (.cons (.v 1) (.cons (.k (.int (1))) .nil))) (.k (.int (4)))) (.bin .Add (.bin .Pow (.k (.int (10))) (.k (.int (12)))) (.k (.int (1))))) .nil)))) vg)
  zP)
noncomputable def I8:Sx :=
 (.cons (.asg 3 (.call (aa "_law_pointer") 651 (.cons (.call (aa "_law_draw") 608 (.cons (.v 1) (.cons (.v 7) .nil))) .nil)))
  (.cons (.asg 10 (.call (aa "_law_reading") 639 (.cons (.v 3) .nil)))
  (.cons (.ite (.cmp .NotEq (.call (aa "_law_read") 646 (.cons (.v 3) .nil)) (.v 10)) (.cons (.ret (.k (.bool false)))
  .nil) .nil)
  (.cons (.ite (.cmp .GtE (.v 10) (.k (.int (0)))) (.cons (.asg 6 (.v 10))
  .nil) .nil)
  .nil))))
noncomputable def xE:Sx :=
 (.cons (.asg 6 (.k (.int (0))))
  (.cons (.forR 7 (.bin .Add (.k (.int (2))) (.bi 5 (.cons (.k (.int (6))) (.cons (.bi 0 (.cons (.v 1) .nil)) .nil)))) I8)
  zB))
noncomputable def KG:Sx :=
 (.cons (.asg 3 (.sub (.lst (.cons (.bin .Add (.bin .Add (.k (.bytes [49])) (.sub (.v 4) (.v 5))) (.k (.bytes [50,10]))) (.cons (.bin .Add (.sub (.v 4) (.v 5)) (.k (.bytes [49,50,10]))) (.cons (.bin .Add (.bin .Add (.k (.bytes [49,50])) (.sub (.v 4) (.v 5))) (.k (.bytes [10]))) .nil)))) (.bin .Mod (.bin .Add (.v 5) (.v 2)) (.k (.int (3))))))
  (.cons (.ite (.cmp .Lt (.v 5) (.k (.int (3)))) (.cons (.asg 3 (.bin .Add (.bin .Add (.k (.bytes [49])) (.sub (.v 4) (.v 5))) (.k (.bytes [50,10]))))
  .nil) .nil)
  (.cons (.ite (.cmp .NotEq (.call (aa "_law_read") 646 (.cons (.v 3) .nil)) (.k (.int (-1)))) (.cons (.ret (.k (.bool false)))
  .nil) .nil)
  .nil)))
noncomputable def tR:Sx :=
 (.cons (.asg 4 (.call (aa "_law_pieces") 615 .nil))
  (.cons (.forR 5 (.k (.int (15))) KG)
  xE))
noncomputable def v8:Sx :=
 (.cons (.ite (.cmp .NotEq (.call (aa "_law_read") 646 (.cons (.v 3) .nil)) (.call (aa "_law_reading") 639 (.cons (.v 3) .nil))) (.cons (.ret (.k (.bool false)))
  .nil) .nil)
  .nil)
noncomputable def zY:List ac:=[aa "script",aa "nums",aa "head",aa "data",aa "pieces",aa "k",aa "number",aa "i",aa "n",aa "name",aa "want"]
noncomputable def sU:Sx :=
 (.cons (.orc 0)
  (.cons (.ite (.cmp .Eq (.bi 0 (.cons (.v 1) .nil)) (.k (.int (0)))) (.cons (.asg 1 (.lst (.cons (.k (.int (0))) .nil)))
  .nil) .nil)
  (.cons (.asg 2 (.call (aa "_law_draw") 608 (.cons (.v 1) (.cons (.k (.int (0))) .nil))))
  (.cons (.forL 3 (.lst (.cons (.k (.bytes [])) (.cons (.k (.bytes [10])) (.cons (.k (.bytes [55])) (.cons (.k (.bytes [48])) (.cons (.k (.bytes [48,10])) (.cons (.k (.bytes [48,57,10])) (.cons (.k (.bytes [48,48,55,10])) (.cons (.k (.bytes [49,48,10,10])) (.cons (.k (.bytes [49,10,50,10])) .nil)))))))))) v8)
  tR))))
end

section
theorem KZ{ns:List ac}:∀{vals:List Value},vals.length=ns.length->∀n∈ns,((ns.zip vals).lookup n).isSome=true:=by
 induction ns with
 |nil=>intro vals U n hn;cases hn
 |cons a r ih =>
  intro vals hl n hn
  cases vals with
  |nil=>simp at hl
  |cons v vs =>
   simp only[pK,kg]
   cases q:n==a with
   |true=>rfl
   |false =>
    refine ao (bZ.mp hn) (λz0=>?_) λhn=>?_ <;>(try subst z0)
    ·simp at q
    ·exact ih (by simpa using hl) n hn
theorem Je{ns:List ac}:∀{vals:List Value},vals.length=ns.length->ns.Nodup->ns.filterMap (λn=>((ns.zip vals).lookup n).map (n,·))=ns.zip vals:=by
 induction ns with
 |nil=>intro vals U U;cases vals <;>rfl
 |cons a r ih =>
  intro vals hl hn
  cases vals with
  |nil=>simp at hl
  |cons v vs =>
   rw[gm]at hn
   refine rwr (iv ..) ?_
   simp only[pK,kg,beq_self_eq_true,li]
   congr 1
   have fm:∀(l:List ac) (f g:ac->Option (ac×Value)),(∀n∈l,f n=g n)->l.filterMap f=l.filterMap g:=by
    intro l f g
    induction l with
    |nil=>intro U;rfl
    |cons x l il=>intro h;exact rwr (iv ..) (rwr (iv ..) (rwr (h x (.head _) ..) (rwr (il λn hn=>h n (.tail _ hn)) rfl)))
   refine p_ (fm r _ _ λn hm=>?_) (ih (vals:=vs) (by simpa using hl) hn.2)
   have:(n==a)=false:=by
    cases q:n==a with
    |false=>rfl
    |true=>rw[beq_iff_eq.mp q]at hm;exact absurd hm hn.1
   exact rwr (this ..) rfl
section
variable {n1 n2:ac}{ar:List Arg}{kd:List (Option Expr)}{df:List Expr}{bd:FuncBody}{sc:Scope}{gl:Addr}{cl:List (ac×Addr)}{de kd2 doc pm co ct:Value}{an:Option Addr}{bi:Addr}
theorem EU{ns:List ac}{vals:List Value}(h2:ar.map eC=ns)(hn:ns.Nodup)(hl:vals.length=ns.length):
  bindArgs ⟨n1,n2,⟨[],ar,Bx,[],kd,Bx,df⟩,bd,sc,gl,cl,.none,kd2,doc,pm,an,co,ct,bi⟩ ⟨vals,[]⟩=pure (ns.zip vals):=by
 have hm:∀l:List ac,(∀x∈l,x∈ns)->(l.filter λn=>((ns.zip vals).lookup n).isNone)=[]:=λl h=>by
  refine rwr (propext (BY ..)) ?_
  intro x hx
  have:=KZ hl x (h x hx)
  cases q:(ns.zip vals).lookup x with
  |none=>rw[q]at this;cases this
  |some v=>simp
 have c1:¬ (decide (vals.length>([]++ar.map eC).length)&&Option.isNone (Bx:Option Arg))=true:=by refine rwr (mS ..) (rwr (h2 ..) (rwr (hl ..) ?_));simp
 have c2:¬ (!((([]++ar.map eC).take (([]++ar.map eC).length-(List.drop (([]:List Value).length-([]++ar.map eC).length) ([]:List Value)).length)).filter λn=>((([]++ar.map eC).zip vals).lookup n).isNone).isEmpty)=true:=by
  refine rwr (mS ..) (rwr (h2 ..) (rwr (hm _ λx hx=>mB hx) ?_));simp
 refine p_ (if_neg c1) ?_
 refine p_ (if_neg c2) ?_
 have c3:(([]++ar.map eC).drop (([]++ar.map eC).length-(List.drop (([]:List Value).length-([]++ar.map eC).length) ([]:List Value)).length)).zip (List.drop (([]:List Value).length-([]++ar.map eC).length) ([]:List Value))=[]:=by exact rwr (BE ..) (rwr (BZ ..) rfl)
 refine p_ (congrArg (λl=>(forIn l _ _:Sem _) >>= _) c3) ?_
 show (pure ((([]++ar.map eC)++[]).filterMap λn=>((([]++ar.map eC).zip vals).lookup n).map (n,·)):Sem (List (ac×Value)))=_
 exact rwr (mS ..) (rwr (bA ..) (rwr (h2 ..) (rwr (Je hl hn ..) rfl)))
noncomputable def bK(n1 n2:ac)(ar:List Arg)(kd:List (Option Expr))(df:List Expr)(bd:FuncBody)(sc:Scope)(gl:Addr)(cl:List (ac×Addr))(de kd2 doc pm co ct:Value)(an:Option Addr)(bi:Addr)(pos:List Value):
  { K:Option (Array Value)->Sem (List (ac×Value)) // bindArgs ⟨n1,n2,⟨[],ar,Bx,[],kd,Bx,df⟩,bd,sc,gl,cl,de,kd2,doc,pm,an,co,ct,bi⟩ ⟨pos,[]⟩=seqItems? de >>= K }:=by
 refine⟨?K,?h⟩
 case h=>exact rfl
theorem G7{s:Shared}{x2 y2 z2:Option Expr}{x3 y3 z3:Pos}{v1 v2 d:Value}{r:List Value}{T:Addr}{o:au}{n:Nat}{bs:List (ac×Value)}(ho:s.heap.get? T=some o)(hs:o.data=.seq #[d] n)
  (hr:(r=[]/\bs=[(aa "self",v1),(aa "data",v2),(aa "at",d)])\/∃v3,r=[v3]/\bs=[(aa "self",v1),(aa "data",v2),(aa "at",v3)]):
  BindsTo s ⟨n1,n2,⟨[],[⟨aa "self",x2,x3⟩,⟨aa "data",y2,y3⟩,⟨aa "at",z2,z3⟩],Bx,[],kd,Bx,df⟩,bd,sc,gl,cl,.ref T,kd2,doc,pm,an,co,ct,bi⟩ ⟨v1::v2::r,[]⟩ bs:=λM A E Q hq=>by
 refine rwr ((bK n1 n2 _ kd df bd sc gl cl (.ref T) kd2 doc pm co ct an bi (v1::v2::r)).2 ..) ?_
 refine wpAny_bind (wpAny_seqItems ho hs (wpAny_of_eq ?_ hq))
 clear hq ho hs
 refine ao hr (λh=>?_) (uE1 λv3 h=>?_)
 ·refine rwr (h.1 ..) (rwr (h.2 ..) ?_);kernel_rfl
 ·refine rwr (h.1 ..) (rwr (h.2 ..) ?_);kernel_rfl
end
theorem sW{l:List Arg}{a:ac}{r:List ac}(h:l.map eC=a::r):∃x2 x3 l',l=⟨a,x2,x3⟩::l'/\l'.map eC=r :=
 elE2 (List.map_eq_cons_iff.mp h) λx l'=>al λe1 e2 e3=>⟨x.annotation,x.pos,l',by refine rwr (e1 ..) (rwr (aM (e2 ..)) ?_);cases x;rfl,e3⟩
theorem IY{l:List Arg}{a b c:ac}(h:l.map eC=[a,b,c]):∃(x2 y2 z2:Option Expr) (x3 y3 z3:Pos),l=[⟨a,x2,x3⟩,⟨b,y2,y3⟩,⟨c,z2,z3⟩]:=
 elE3 (sW h) λx2 x3 l1=>ae λe1 h1=>elE3 (sW h1) λy2 y3 l2=>ae λe2 h2=>elE3 (sW h2) λz2 z3 l3=>ae λe3 h3 =>
  ⟨x2,y2,z2,x3,y3,z3,by exact rwr (e1 ..) (rwr (e2 ..) (rwr (e3 ..) (rwr (List.map_eq_nil_iff.mp h3 ..) rfl)))⟩
theorem rE{α:Type}{l:List α}{n:Nat}(h:l.length=n+1):∃a r,l=a::r/\r.length=n:=match l,h with
 |a::r,h=>⟨a,r,rfl,BP h⟩
theorem zu{α:Type}{l:List α}(h:l.length=2):∃a b,l=[a,b]:=
 elE2 (rE h) λa r=>ae λe h=>elE2 (rE h) λb r'=>ae λe' h'=>⟨a,b,by exact rwr (e ..) (rwr (e' ..) (rwr (List.length_eq_zero_iff.mp h' ..) rfl))⟩
theorem Em{α:Type}{l:List α}(h:l.length=3):∃a b c,l=[a,b,c]:=
 elE2 (rE h) λa r=>ae λe h=>elE2 (zu h) λb c e'=>⟨a,b,c,by exact rwr (e ..) (rwr (e' ..) rfl)⟩
theorem Fz(p:Arguments):p=⟨p.posonlyargs,p.args,p.vararg,p.kwonlyargs,p.kw_defaults,p.kwarg,p.defaults⟩:=by cases p;rfl
theorem Hj(p:Arguments){b:List Arg}(h1:p.posonlyargs=[])(h2:p.args=b)(h3:p.vararg=Bx)(h4:p.kwonlyargs=[])(h5:p.kwarg=Bx):p=⟨[],b,Bx,[],p.kw_defaults,Bx,p.defaults⟩:=by
 refine(Fz p).trans ?_;exact rwr (h1 ..) (rwr (h2 ..) (rwr (h3 ..) (rwr (h4 ..) (rwr (h5 ..) rfl))))
theorem Fx{fd:FuncData}{p:Arguments}{d:Value}(h:fd.params=p)(h':fd.defaults=d):fd=⟨fd.name,fd.qualname,p,fd.body,fd.scope,fd.globals,fd.closure,d,fd.kwdefaults,fd.doc,fd.pyModule,fd.annotations,fd.code,fd.closureTuple,fd.builtins⟩:=by
 exact rwr (aM (h ..)) (rwr (aM (h' ..)) rfl)
theorem zo{fd:FuncData}{ar:List Arg}{de:Value}(h1:fd.params.posonlyargs=[])(h2:fd.params.args=ar)(h3:fd.params.kwonlyargs=[])(h4:fd.params.vararg=Bx)(h5:fd.params.kwarg=Bx)(h6:fd.defaults=de):
  fd=⟨fd.name,fd.qualname,⟨[],ar,Bx,[],fd.params.kw_defaults,Bx,fd.params.defaults⟩,fd.body,fd.scope,fd.globals,fd.closure,de,fd.kwdefaults,fd.doc,fd.pyModule,fd.annotations,fd.code,fd.closureTuple,fd.builtins⟩:=
 Fx (Hj _ h1 h2 h4 h3 h5) h6
theorem tM{fd:FuncData}{ns:List ac}{vals:List Value}(h1:fd.params.posonlyargs=[])(h2:fd.params.args.map (·.arg)=ns)(h3:fd.params.kwonlyargs=[])(h4:fd.params.vararg=Bx)(h5:fd.params.kwarg=Bx)
  (h6:fd.defaults=.none) (hn:ns.Nodup) (hl:vals.length=ns.length):bindArgs fd ⟨vals,[]⟩=pure (ns.zip vals):=
 p_ (congrArg (λf=>bindArgs f ⟨vals,[]⟩) (zo h1 rfl h3 h4 h5 h6)) (EU h2 hn hl)
noncomputable def fh:List ac:=[aa "self",aa "data",aa "at"]
theorem yr{fd:FuncData}{s:Shared}{v1 v2 d:Value}{r:List Value}{T:Addr}{o:au}{n:Nat}{bs:List (ac×Value)}(h1:fd.params.posonlyargs=[])(h2:fd.params.args.map (·.arg)=fh)(h3:fd.params.kwonlyargs=[])(h4:fd.params.vararg=Bx)(h5:fd.params.kwarg=Bx)
  (hd:fd.defaults=.ref T) (ho:s.heap.get? T=some o) (hs:o.data=.seq #[d] n) (hr:(r=[]/\bs=fh.zip [v1,v2,d])\/∃v3,r=[v3]/\bs=fh.zip [v1,v2,v3]):BindsTo s fd ⟨v1::v2::r,[]⟩ bs:=by
 refine gT (IY (show fd.params.args.map eC=[aa "self",aa "data",aa "at"] from h2)) λx2 y2 z2 x3 y3 z3 e=>?_
 refine rwr (zo h1 e h3 h4 h5 hd ..) ?_
 exact G7 ho hs hr
noncomputable def n8:List ac->Bool
 |[]=>true
 |a::r=>!(r.any λx=>x==a)&&n8 r
theorem xF:∀{l:List ac},n8 l=true->l.Nodup
 |[],_=>.nil
 |a::r,h=>by
  have h:=dh.mp (show (!(r.any λx=>x==a)&&n8 r)=true from h)
  refine gm.mpr ⟨λq=>?_,xF h.2⟩
  have h1:=h.1
  rw[show (r.any λx=>x==a)=true from List.any_eq_true.mpr ⟨a,q,beq_self_eq_true a⟩]at h1
  exact nomatch h1
noncomputable def An(b:FuncBody)(p:List Stmt->Bool):Bool:=b.casesOn p λU=>false
noncomputable def yu(o:Option au)(p:FuncData->List Stmt->Bool):Bool:=match o with
 |some ⟨_,_,.func fd,_⟩=>An fd.body (p fd)
 |_=>false
noncomputable def kZ(K:Frag)(fa:Addr)(p:FuncData->List Stmt->Bool):Bool:=yu (K.lookup fa) p
theorem t7{K:Frag}{fa:Addr}{p:FuncData->List Stmt->Bool}(h:kZ K fa p=true):∃oc od osl fd body,K.lookup fa=some ⟨oc,od,.func fd,osl⟩/\fd.body=.stmts body/\p fd body=true:=by
 have h:yu (K.lookup fa) p=true:=h
 cases q:K.lookup fa with
 |none=>rw[q]at h;exact aE h
 |some o =>
  rw[q]at h
  obtain⟨oc,od,dd,osl⟩:=o
  induction dd using PySem.Data.casesOn with
  |func fd =>
   have h:An fd.body (p fd)=true:=h
   cases q:fd.body with
   |stmts body=>rw[q]at h;exact(jz _ _ _ fd body ⟨rfl,q,h⟩)
   |expr _=>rw[q]at h;exact aE h
  |_=>exact aE h
noncomputable def isNone:Value->Bool
 |.none=>true
 |_=>false
theorem x_{v:Value}(h:isNone v=true):v=.none:=by
 induction v using Value.casesOn with
 |none=>rfl
 |_=>exact aE h
noncomputable def yt:ScopeKind->Bool
 |.function=>true
 |_=>false
noncomputable def km(K:Frag)(np:Nat)(nm:List ac)(fd:FuncData):Bool :=
 codeIn K fd.code fd.qualname&&fd.params.posonlyargs.isEmpty&&fd.params.kwonlyargs.isEmpty&&fd.params.vararg.isNone&&fd.params.kwarg.isNone &&
 (nm.all λx=>(fd.scope.names.lookup x==some .local) && !(x==("__debug__" : ac)))&&n8 nm&&dR np nm.length &&
 aG fd.globals mainGlobals&&aG fd.builtins builtinsNs && !fd.scope.isCoroutine && !fd.scope.isGenerator&&yt fd.scope.kind
structure rK(K:Frag)(np:Nat)(nm:List ac)(fd:FuncData):Prop where
 code:codeIn K fd.code fd.qualname=true
 pos:fd.params.posonlyargs=[]
 kwo:fd.params.kwonlyargs=[]
 va:fd.params.vararg=Bx
 kw:fd.params.kwarg=Bx
 loc:(nm.all λx=>(fd.scope.names.lookup x==some .local) && !(x==("__debug__" : ac)))=true
 nd:nm.Nodup
 np:np<=nm.length
 gl:fd.globals=mainGlobals
 bl:fd.builtins=builtinsNs
 co:fd.scope.isCoroutine=false
 gen:fd.scope.isGenerator=false
 kind:fd.scope.kind=.function
theorem CZ{k:ScopeKind}(h:yt k=true):k=.function:=by
 cases k <;>first | rfl | exact aE h
theorem aL{a b:Bool}(h:(a&&b)=true):a=true:=(aB h).1
theorem aR{a b:Bool}(h:(a&&b)=true):b=true:=(aB h).2
theorem sS{K:Frag}{np:Nat}{nm:List ac}{fd:FuncData}(h:km K np nm fd=true):rK K np nm fd:=by
 exact⟨aL (aL (aL (aL (aL (aL (aL (aL (aL (aL (aL (aL (h)))))))))))),gk.mp (aR (aL (aL (aL (aL (aL (aL (aL (aL (aL (aL (aL (h))))))))))))),gk.mp (aR (aL (aL (aL (aL (aL (aL (aL (aL (aL (aL (h)))))))))))),uN.mp (aR (aL (aL (aL (aL (aL (aL (aL (aL (aL (h))))))))))),uN.mp (aR (aL (aL (aL (aL (aL (aL (aL (aL (h)))))))))),aR (aL (aL (aL (aL (aL (aL (aL (h)))))))),xF (aR (aL (aL (aL (aL (aL (aL (h)))))))),bL (aR (aL (aL (aL (aL (aL (h))))))),di (aR (aL (aL (aL (aL (h)))))),di (aR (aL (aL (aL (h))))),(fe _).mp (aR (aL (aL (h)))),(fe _).mp (aR (aL (h))),CZ (aR (h))⟩
noncomputable def aQ(K:Frag)(G:List (ac×GV))(T:aU->Nat->Expr->Bool)(TS:aU->Nat->Stmt->Bool)(fa np:Nat)(nm:List ac)(ir:Sx):Bool:=kZ K fa λfd body =>
 km K np nm fd&&(fd.params.args.map (·.arg)==nm.take np)&&isNone fd.defaults&&(fd.scope.names.all λx=>!(x.2==.cell))&&(ej ⟨nm,fd.scope.names,G⟩ (T ⟨nm,fd.scope.names,G⟩) (TS ⟨nm,fd.scope.names,G⟩) ir).l body
theorem tD{K:Frag}{fa:Addr}{oc od osl}{fd:FuncData}(h:K.lookup fa=some ⟨oc,od,.func fd,osl⟩):dM K fa=fd.scope.names:=by unfold dM;exact rwr (h ..) rfl
theorem DW{K:Frag}{G:List (ac×GV)}{T:aU->Nat->Expr->Bool}{TS:aU->Nat->Stmt->Bool}{fa np:Nat}{nm:List ac}{ir:Sx}(h:aQ K G T TS fa np nm ir=true):ln K G (T ⟨nm,dM K fa,G⟩) (TS ⟨nm,dM K fa,G⟩) fa np nm ir:=by
 refine jg (t7 h) λoc od osl fd body=>al λh1 h2 h3=>?_
 refine ak (aB h3) λh3 g5=>ak (aB h3) λh3 g4=>ak (aB h3) λh3 g3=>ak (aB h3) λg1 g2=>?_
 replace g2:=eq_of_beq g2
 have F:=sS g1
 have hd:=x_ g3
 refine⟨oc,od,osl,fd,body,h1,h2,F.code,λvals s U hl=>?_,F.loc,g4,F.nd,F.np,F.gl,F.bl,F.co,F.gen,F.kind,?_⟩
 ·refine rwr (bA ..) ?_
  refine B0 (tM F.pos g2 F.kwo F.va F.kw hd (F.nd.sublist (List.take_sublist _ _)) ?_)
  refine rwr (fO ..) (rwr (gq F.np ..) ?_);simpa using hl
 ·refine rwr (tD h1 ..) ?_;exact g5
noncomputable def aI:aU->Nat->Expr->Bool:=λU U U=>false
noncomputable def aO:aU->Nat->Stmt->Bool:=λU U U=>false
noncomputable def rk:PySem.Data->Bool
 |.seq xs _=>(match xs.toList with
  |[.int i _]=>i==0
  |_=>false)
 |_=>false
noncomputable def ya(K:Frag):Value->Bool
 |.ref T=>(match K.lookup T with
  |some o=>rk o.data
  |none=>false)
 |_=>false
theorem HD{d:PySem.Data}(h:rk d=true):∃tk n,d=.seq #[.int 0 tk] n:=by
 induction d using PySem.Data.casesOn with
 |seq xs n =>
  obtain⟨l⟩:=xs
  rcases l with _ | ⟨v,_ | ⟨_,_⟩⟩
  ·exact aE h
  ·induction v using Value.casesOn with
   |int i tk=>exact(ex2 tk n (by exact rwr (eq_of_beq (show (i==0)=true from h)) rfl))
   |_=>exact aE h
  ·induction v using Value.casesOn with | _=>exact aE h
 |_=>exact aE h
theorem Jh{K:Frag}{v:Value}(h:ya K v=true):∃T o tk n,v=.ref T/\K.lookup T=some o/\o.data=.seq #[.int 0 tk] n:=by
 induction v using Value.casesOn with
 |ref T =>
  have h:(match K.lookup T with | some o=>rk o.data | Bx=>false)=true:=h
  cases e:K.lookup T with
  |none=>rw[e]at h;exact aE h
  |some o=>rw[e]at h;have ⟨tk,n,e2⟩:=HD h;exact(dZ T o tk n ⟨rfl,e,e2⟩)
 |_=>exact aE h
noncomputable def Ab(K:Frag)(G:List (ac×GV))(nm:List ac)(ir:Sx):Bool:=kZ K 146 λfd body =>
 km K 3 nm fd&&(fd.params.args.map (·.arg)==nm.take 3)&&aG nm.length 3&&ya K fd.defaults&&(fd.scope.names.all λx=>!(x.2==.cell))&&(ej ⟨nm,fd.scope.names,G⟩ (aI ⟨nm,fd.scope.names,G⟩) (aO ⟨nm,fd.scope.names,G⟩) ir).l body
theorem GL{K:Frag}{G:List (ac×GV)}{ir:Sx}(h:Ab K G fh ir=true):
  ln K G (aI ⟨fh,dM K 146,G⟩) (aO ⟨fh,dM K 146,G⟩) 146 3 fh ir/\∃tk,ln K G (aI ⟨fh,dM K 146,G⟩) (aO ⟨fh,dM K 146,G⟩) 146 3 fh ir [.int 0 tk]:=by
 refine jg (t7 h) λoc od osl fd body=>al λh1 h2 h3=>?_
 refine ak (aB h3) λh3 g5=>ak (aB h3) λh3 g4=>ak (aB h3) λh3 g3=>ak (aB h3) λh3 U=>ak (aB h3) λg1 g2=>?_
 replace g2:=eq_of_beq g2
 have F:=sS g1
 refine eD (Jh g3) λT o tk n=>al λhd hT ho=>?_
 have B3:∀(vals:List Value) (s:Shared),K.In s.heap->vals.length+([]:List Value).length=3->BindsTo s fd ⟨vals,[]⟩ ((fh.take 3).zip (vals++[])):=λvals s hX hl=>by
  refine elE3 (Em (l:=vals) hl) λv1 v2 v3 z0=>?_;subst z0
  exact yr F.pos g2 F.kwo F.va F.kw hd (hX _ _ hT) ho (.inr ⟨v3,rfl,rfl⟩)
 have B2:∀(vals:List Value) (s:Shared),K.In s.heap->vals.length+[Value.int 0 tk].length=3->BindsTo s fd ⟨vals,[]⟩ ((fh.take 3).zip (vals++[.int 0 tk])):=λvals s hX hl=>by
  refine elE2 (zu (l:=vals) (BP hl)) λv1 v2 z0=>?_;subst z0
  exact yr F.pos g2 F.kwo F.va F.kw hd (hX _ _ hT) ho (.inl ⟨rfl,rfl⟩)
 exact⟨⟨oc,od,osl,fd,body,h1,h2,F.code,B3,F.loc,g4,F.nd,F.np,F.gl,F.bl,F.co,F.gen,F.kind,tD h1▸g5⟩,tk,⟨oc,od,osl,fd,body,h1,h2,F.code,B2,F.loc,g4,F.nd,F.np,F.gl,F.bl,F.co,F.gen,F.kind,tD h1▸g5⟩⟩
end

section
noncomputable def eg(ns:List (ac×NameKind)):List ac:=(ns.filter λy=>y.2==.cell).map (·.1)
theorem qo:∀(ns:List (ac×NameKind)) (n:Nat) (acc:List (ac×Addr)),(eg ns=[]->cellsFrom n ns acc=acc)/\(∀cn,eg ns=[cn]->cellsFrom n ns acc=(cn,n)::acc)
 |[],_,_=>⟨λU=>rfl,λU h=>by cases h⟩
 |(x,kd)::r,n,acc=>by
  cases q:kd==mV with
  |false =>
   have e:eg ((x,kd)::r)=eg r:=by unfold eg;refine rwr (mU ..) ?_;simp[q]
   have e2:cellsFrom n ((x,kd)::r) acc=cellsFrom n r acc:=by show (if kd==mV then _ else _)=_;refine rwr (q ..) ?_;rfl
   refine rwr (e ..) (rwr (e2 ..) ?_)
   exact qo r n acc
  |true =>
   have e:eg ((x,kd)::r)=x::eg r:=by unfold eg;refine rwr (mU ..) ?_;simp[q]
   have e2:cellsFrom n ((x,kd)::r) acc=cellsFrom (n+1) r ((x,n)::acc):=by show (if kd==mV then _ else _)=_;refine rwr (q ..) ?_;rfl
   refine rwr (e ..) (rwr (e2 ..) ?_)
   refine⟨λh=>(by cases h),λcn h=>?_⟩
   injection h with h1 h2
   subst h1
   exact(qo r (n+1) _).1 h2
theorem w8{ns:List (ac×NameKind)}{cn:ac}(h:eg ns=[cn])(n:Nat):cellsFrom n ns []=[(cn,n)]:=(qo ns n []).2 cn h
section
variable {prog:Program}{w:World}{A:Around}{s:Shared}
theorem wQ{R:Result->Shared->Prop}{a:Addr}{o:au}{fd:FuncData}{body:List Stmt}{vals:List Value}{binds:List (ac×Value)}{cn:ac}
  (hroom:A.depth<recursionLimit) (ho:s.heap.get? a=some o) (hdata:o.data=.func fd) (hlim:s.heap.NoLimit) (hcd:s.heap.CodeRec fd.code fd.qualname)
  (hbody:fd.body=.stmts body) (hbind:BindsTo s fd ⟨vals,[]⟩ binds) (hclo:fd.closure=[]) (hcn:eg fd.scope.names=[cn])
  (hkind:∀x∈binds,fd.scope.names.lookup x.1=some .local\/(fd.scope.names.lookup x.1=some .cell/\x.1=cn))
  (h:∀s₁,InCallC s (callEnvC fd s.heap.objs.size a).locals (bindL (callEnvC fd s.heap.objs.size a).kindOf binds λU=>Bx) (callEnvC fd s.heap.objs.size a).cells
    (bindC (callEnvC fd s.heap.objs.size a).kindOf binds λU=>Bx) s₁ ->
   ag (model prog w) (A.deeper (callEnvC fd s.heap.objs.size a)) (execs body (callEnvC fd s.heap.objs.size a)) (λf s'=>R (.ok (.ret (match f with | .ret v=>v | _=>.none))) s')
    (λe s'=>wpAny (model prog w) (A.deeper (callEnvC fd s.heap.objs.size a)) (leaving (callEnvC fd s.heap.objs.size a) e) (λU s''=>R (.error e) s'') (λe' s''=>R (.error e') s'') s') s₁)
  (hco:fd.scope.isCoroutine=false) (hgen:fd.scope.isGenerator=false) (hk:fd.scope.kind=.function):
  bh (model prog w) A (.call (.ref a) ⟨vals,[]⟩) R s:=by
 refine ge rfl ?_
 show ag _ A.in1 (callAny (.ref a) ⟨vals,[]⟩) _ _ s
 show ag _ A.in1 (load a >>= _) _ _ s
 refine ai (wpAny.n (wpAny_load ho ?_))
 refine eD hcd λc oc vs tq=>aY λhc hoc hdc hq=>?_;clear hcd
 refine rwr (hdata ..) ?_
 show ag _ A.in1 (callFunction a fd ⟨vals,[]⟩) _ _ s
 delta callFunction
 simp -iota only [hco,hgen,hbody,hc,hclo]
 refine ai (m:=field (.ref c) 1) (wpAny.n (wpAny_field hoc hdc hq ?_))
 refine ai (aF ?_)
 refine ai (wpAny.n (hbind _ _ _ _ ?_))
 refine ai (wpAny.n (wpAny_newFunctionEnv_cells hk (λx hx=>(hkind x hx).imp id λz=>⟨z.1,by refine rwr (w8 hcn ..) (rwr (z.2 ..) ?_);simp⟩) λenv he s' x=>?_))
 subst he
 refine ai (wpAny.n (wpAny_enterFrame (hlim.keeps x.toInCall.keep) hroom ?_))
 have hh:=h s' (by unfold callEnvC;refine rwr (hc ..) ?_;exact x)
 refine aF ⟨rfl,w4 ?_⟩
 unfold callEnvC at hh
 rw[hc]at hh
 exact hh
end
section
variable {prog:Program}{w:World}{K:Frag}{k:Nat}{gn bn:ac->Option Value}{nm:List ac}{fa:Addr}{fd:FuncData}{body:List Stmt}
theorem zT{A:Around}{envs:List Env}{base:Heap}{s s₂:Shared}{fz:List (Addr×au)}{Q:V->List af->Prop}{X:Nat->Prop}{cn:ac}{ca:Addr}{v:Value}{cell:D}{m:ac->Option Value}{loc:List (Option V)}
  (cx:Cx K (k+1) A envs base s.heap gn bn) (hfz:∀p∈fz,s.heap.get? p.1=some p.2/\p.1∉cZ envs)
  (hgl:fd.globals=mainGlobals) (hbl:fd.builtins=builtinsNs) (hk:fd.scope.kind=.function) (hnN:nm.Nodup) (hnL:∀x∈nm,fd.scope.names.lookup x=some .local/\(x==("__debug__" : ac))=false)
  (hns:s₂.heap.Ns s.heap.objs.size m) (hkeep:∀b o,s.heap.get? b=some o->s₂.heap.get? b=some o) (g1:s₂.gens=s.gens) (g2:s₂.drawn=s.drawn) (g3:s₂.os=s.os)
  (hcl:(callEnvC fd s.heap.objs.size fa).cells.lookup cn=some ca) (hck:fd.scope.names.lookup cn=some .cell) (hcell:s₂.heap.IsCell ca (some v)) (hcaL:s.heap.objs.size<ca) (rv:RD w.params (λU U=>False) cell v)
  (hloc:fq w.params (Zf base fz) [] nm loc m)
  (hB:∀c,am K k c->c.nm=nm->c.gn=gn->c.bn=bn->c.env=callEnvC fd s.heap.objs.size fa->c.mu=[]->gC w c cn cell ->
   WS prog w c (execs body c.env) ⟨loc,[]⟩ (λfl st'=>∃V,(fl=.ret V\/(fl=.next/\V=.d .none))/\∃V' own',Fin 0 V st'.own V' own'/\Q V' own') (λCn U=>X Cn)):
  ag (model prog w) (A.deeper (callEnvC fd s.heap.objs.size fa)) (execs body (callEnvC fd s.heap.objs.size fa)) (λf s'=>jf w.params envs base s fz [] [] Q X (.ok (.ret (match f with | .ret v=>v | _=>.none))) s')
   (λe s'=>wpAny (model prog w) (A.deeper (callEnvC fd s.heap.objs.size fa)) (leaving (callEnvC fd s.heap.objs.size fa) e) (λU s''=>jf w.params envs base s fz [] [] Q X (.error e) s'') (λe' s''=>jf w.params envs base s fz [] [] Q X (.error e') s'') s') s₂:=by
 let c:FC:={ env:=callEnvC fd s.heap.objs.size fa,A:=A.deeper (callEnvC fd s.heap.objs.size fa),outer:=envs,base:=base,H:=hideAll s₂.heap [s.heap.objs.size],mu:=[],fz0:=fz,nm:=nm,gn:=gn,bn:=bn,G:=s.gens,D:=s.drawn,O:=s.os }
 have hL:c.L=s.heap.objs.size:=rfl
 have new:∀b o,s.heap.get? b=some o->b≠s.heap.objs.size:=λb o e q=>by
  have:=cL e;rw[q]at this;exact fM _ this
 have toH:∀b o,s.heap.get? b=some o->c.H.get? b=some o:=λb o e=>hideAll_get _ (hkeep b o e) (by simpa using new b o e)
 have ofH:∀b o,c.H.get? b=some o->s₂.heap.get? b=some o:=λb o e=>of_hideAll _ e
 have frs:∀b∈cZ envs,∃o,s.heap.get? b=some o:=λb hb=>by
  refine ak (cx.frB.mem hb) λU=>uE1 λo=>ae λho U=>?_
  exact⟨o,ho⟩
 have ok:am K k c:=by
  refine⟨Le cx.hA,rfl,hk,hgl,hbl,cx.hh,cx.hgd,?_,?_,cx.kin,cx.lim,λb o e=>toH b o (cx.baseH b o e),cx.frB.of_keeps λb o e U=>⟨o,toH b o e,rfl⟩,?_,λa ha=>(nomatch ha),λa ha=>(nomatch ha),hnN,hnL,cx.gns,cx.bns,cx.sz⟩
  ·exact cx.deep
  ·exact cx.wide
  ·show (hideAll s₂.heap [s.heap.objs.size]).get? s.heap.objs.size=Bx
   exact hideAll_none _ (.head _)
 have S0:SR w.params c ⟨loc,[]⟩ fz [] [] s₂:=by
  refine⟨m,⟨hns,λb o e U U=>ofH b o e,λb o e U=>⟨o.slots,ofH b o e⟩,λb o e=>⟨o,ofH b o e⟩,λp hp=>?_,λp hp=>(nomatch hp),ix,λp hp=>(nomatch hp)⟩,.nil,hloc,g1,g2,g3⟩
  refine ak (hfz p hp) λa1 a2=>?_
  exact⟨hkeep _ _ a1,new _ _ a1,a2,.inl hp⟩
 have hCell:gC w c cn cell:=by
  refine elE1 hcell λo=>ae λho hd=>?_;clear hcell
  refine⟨hck,ex3 ca o v ⟨hcl,hideAll_get _ ho (λq=>gF hcaL (bj.mp q)),hd,jn,λq=>?_,rv⟩⟩
  refine elE1 (frs ca q) λo' e=>?_
  exact fM _ (cg hcaL (cL e))
 exact wC (c:=c) (own:=[]) (ad:=[]) (fps:=[]) (st:=⟨loc,[]⟩) rfl rfl toH rfl rfl rfl rfl rfl rfl S0 (hB c ok rfl rfl rfl rfl rfl hCell)
end
end

section
noncomputable def bT:bf:=λU U U U=>False
noncomputable def gr:bJ:=λU U U U=>False
noncomputable def mX(cn:ac)(e:Expr):Bool:=bu e λy U=>y==cn
theorem vy{cn:ac}{e:Expr}(h:mX cn e=true):∃p,e=.Name cn p:=by
 have h:bu e (λy U=>y==cn)=true:=h
 refine bx h λy p q=>⟨p,?_⟩
 exact rwr (beq_iff_eq.mp q ..) rfl
noncomputable def Bl(cell:D):bf:=λn st Q X=>n=9/\Q (.d cell) st
noncomputable def iM(Γ:Addr->aH->Prop)(cell:D)(ms:Nat->bw):bf:=λn st Q X=>(n=9/\Q (.d cell) st)\/(n≠9/\i_ Γ (Bl cell) (bif (ms n).useC then cell else .none) (ms n) st Q X)
noncomputable def nh(cn:ac):Nat->Expr->Bool:=λn e=>aG n 9&&mX cn e
noncomputable def iQ(cn:ac)(ms:Nat->bw)(S:aU):Nat->Expr->Bool:=λn e=>bif aG n 9 then mX cn e else jW S (nh cn) (ms n) e
structure oY(m:bw)(cell:D)(cn:ac):Prop where
 cn:m.cn=cn
 use:m.useC=true->cell≠.none
 len:m.useC=true->m.len=true\/∀bs,cell≠.bytes bs
theorem vW{S:aU}{T:Nat->Expr->Bool}{m:bw}{e:Expr}(h:jW S T m e=true):fi e=true:=by
 refine lH h λU U U U U=>?_
 rfl
noncomputable def pj(Γ:Addr->aH->Prop)(ms:Nat->bw):bf:=λn st Q X=>i_ Γ bT .none (ms n) st Q X
noncomputable def tw(ms:Nat->bw)(S:aU):Nat->Expr->Bool:=λn e=>!(ms n).useC&&jW S (aI S) (ms n) e
section
variable {prog:Program}{w:World}{K:Frag}{k:Nat}{gn bn:ac->Option Value}{G:List (ac×GV)}{C:aH}{c:FC}{S:aU}{Γ:Addr->aH->Prop}
theorem FR{cn:ac}{cell:D}{ms:Nat->bw}(ok:am K k c)(hN:bX K S c)(hK:cJ K)(hΓ:∀f C,Γ f C->ah prog w K c.gn c.bn k (.ref f) C)(hd:(cn==("__debug__" : ac))=false)(hc:gC w c cn cell)
  (hm:∀n,n≠9->oY (ms n) cell cn) (X:Nat->St->Prop) (n:Nat) (e:Expr) (he:iQ cn ms S n e=true):fi e=true/\∀st Q,iM Γ cell ms n st Q X->WE prog w c (eval e c.env) st Q X:=by
 unfold iQ at he
 by_cases h9:n=9
 ·subst h9
  refine elE1 (vy (show mX cn e=true from he)) λp z0=>?_;subst z0
  refine⟨rfl,λst Q h=>?_⟩
  revert h;refine uO (ae λU h=>?_) (ae λh U=>?_)
  ·exact wv ok hd hc h
  ·exact absurd rfl h
 ·have:aG n 9=false:=by cases q:aG n 9 with | false=>rfl | true=>exact absurd (di q) h9
  rw[this]at he
  have he:jW S (nh cn) (ms n) e=true:=he
  refine⟨vW he,λst Q h=>?_⟩
  revert h;refine uO (ae λh U=>?_) (ae λU h=>?_)
  ·exact absurd h h9
  have M:=hm n h9
  have hX:bb prog w c X (wp Γ (Bl cell) X (ms n).it) (aN S (nh cn) (ms n).it):=lN ok hN hK hΓ (λn' e' h'=>by
   simp only[nh,eO]at h'
   refine elE1 (vy h'.2) λp z0=>?_;subst z0
   exact⟨rfl,λst Q h=>wv ok hd hc h.2⟩) _
  refine we (cell:=bif (ms n).useC then cell else .none) ok hN hX ?_ (λq=>by refine rwr (q ..) ?_;exact M.use q) (λq=>by refine rwr (q ..) ?_;rfl) ?_ he h
  ·cases (ms n).useC with
   |true=>exact .inr (M.cn▸hc)
   |false=>exact .inl rfl
  ·cases q:(ms n).useC with
   |true=>exact M.len q
   |false=>exact .inr λbs=>by intro e;cases e
theorem La{ms:Nat->bw}(ok:am K k c)(hN:bX K S c)(hK:cJ K)(hΓ:∀f C,Γ f C->ah prog w K c.gn c.bn k (.ref f) C)(X:Nat->St->Prop)(n:Nat)(e:Expr)(he:tw ms S n e=true):
  fi e=true/\∀st Q,pj Γ ms n st Q X->WE prog w c (eval e c.env) st Q X:=by
 simp only[tw,eO,fe]at he
 refine⟨vW he.2,λst Q h=>?_⟩
 have hX:bb prog w c X (wp Γ bT X (ms n).it) (aN S (aI S) (ms n).it):=lN (T:=aI S) ok hN hK hΓ (λn' e' h'=>nomatch h') _
 exact we ok hN hX (.inl rfl) (λq=>by rw[he.1]at q;cases q) (λU=>rfl) (.inr λbs=>by intro e;cases e) he.2 h
theorem E5{nm:List ac}{sc:List (ac×NameKind)}(e1:c.nm=nm)(hsc:∀x k',sc.lookup x=some k'->c.env.kindOf x=some k')(g:iT K G c.gn c.bn c.base):bX K ⟨nm,sc,G⟩ c :=
 ⟨e1,hsc,g.int,g.str,g.fn,g.bi,g.ex⟩
noncomputable def zk(K:Frag)(G:List (ac×GV))(T:aU->Nat->Expr->Bool)(fa:Addr)(nm:List ac)(pn:ac)(ir:Sx):Bool:=kZ K fa λfd body =>
 km K 0 nm fd&&(fd.params.args.map (·.arg)==[pn])&&isNone fd.defaults&&(eg fd.scope.names==[pn])&&(fd.scope.names.lookup pn==some .cell)&&fd.closure.isEmpty && !(pn==("__debug__" : ac)) &&
  (ej ⟨nm,fd.scope.names,G⟩ (T ⟨nm,fd.scope.names,G⟩) (aO ⟨nm,fd.scope.names,G⟩) ir).l body
inductive wH(K:Frag)(fa:Addr)(np:Nat)(ps nm:List ac)(cn:ac)(p:FuncData->List Stmt->Bool):Prop
 |mk (oc:Value) (od:Option Addr) (osl:Array (Option Value)) (fd:FuncData) (body:List Stmt):K.lookup fa=some ⟨oc,od,.func fd,osl⟩->fd.body=.stmts body->rK K np nm fd->fd.params.args.map (·.arg)=ps ->
  fd.defaults=.none->eg fd.scope.names=[cn]->fd.scope.names.lookup cn=some .cell->fd.closure=[]->(cn==("__debug__" : ac))=false->p fd body=true->wH K fa np ps nm cn p
theorem Ad{fa:Addr}{np:Nat}{ps nm:List ac}{cn:ac}{p:FuncData->List Stmt->Bool}(h:kZ K fa (λfd body =>
  km K np nm fd&&(fd.params.args.map (·.arg)==ps)&&isNone fd.defaults&&(eg fd.scope.names==[cn])&&(fd.scope.names.lookup cn==some .cell)&&fd.closure.isEmpty && !(cn==("__debug__" : ac))&&p fd body)=true):wH K fa np ps nm cn p :=
 jg (t7 h) λoc od osl fd body=>al λh1 h2 h=>⟨oc,od,osl,fd,body,h1,h2,sS (aL (aL (aL (aL (aL (aL (aL h))))))),eq_of_beq (aR (aL (aL (aL (aL (aL (aL h))))))),x_ (aR (aL (aL (aL (aL (aL h)))))),
  eq_of_beq (aR (aL (aL (aL (aL h))))),eq_of_beq (aR (aL (aL (aL h)))),gk.mp (aR (aL (aL h))),(fe _).mp (aR (aL h)),aR h⟩
theorem ah.one{ι:Type}{e:ι->D}{P:ι->(V->List af->Prop)->(Nat->Prop)->Prop}{f:Value}(hC:∀args own Q X,C args own Q X->own=[]/\∃i,args=[.d (e i)]/\P i Q X)
  (h:∀A envs base s v fz i Q X,Cx K k A envs base s.heap gn bn->(∀p∈fz,s.heap.get? p.1=some p.2/\p.1∉cZ envs)->RD w.params (Zf base fz) (e i) v->P i Q X->bh (model prog w) A (.call f ⟨[v],[]⟩) (jf w.params envs base s fz [] [] Q X) s):
  ah prog w K gn bn k f C:=by
 intro A envs base s vals args own ad fps fz Q X cx hfz hfp hnd hdis hR hA hCC
 refine ak (hC _ _ _ _ hCC) λz0 z1=>?_
 clear hCC hfp hnd hdis hC
 subst z0
 cases hR
 refine elE1 z1 λi=>ae λz2 hp=>?_;clear z1;subst z2
 refine elE2 hA λv ys=>al λz3 rv z4=>?_;clear hA;subst z3;subst z4
 exact h _ _ _ _ _ _ _ _ _ cx hfz rv hp
theorem oK{np:Nat}{nm:List ac}{fd:FuncData}(F:rK K np nm fd)(x:ac)(hx:x∈nm):fd.scope.names.lookup x=some .local/\(x==("__debug__" : ac))=false :=
 have h:=fR.mp F.loc x hx
 ⟨eq_of_beq (aL h),(fe _).mp (aR h)⟩
theorem yS{P:Params}{Z:Zt}{ad:List Addr}{nm:List ac}{n:Nat}{m:ac->Option Value}:fq P Z ad nm (ay n Bx) m:=λi x V U h =>
 nomatch (List.eq_of_mem_replicate (cw ((bk (ay n Bx) i).symm.trans h)):some V=Bx)
theorem fq.cons{P:Params}{Z:Zt}{ad:List Addr}{nm:List ac}{loc:List (Option V)}{m:ac->Option Value}{x:ac}{V:V}{v:Value}(hv:m x=some v)(rv:RV P Z ad V v)(h:fq P Z ad nm loc m):fq P Z ad (x::nm) (some V::loc) m:=λi y Uu h1 h2=>by
 cases i with
 |zero=>exact⟨v,pP h1▸hv,pP (pP h2)▸rv⟩
 |succ i=>exact h i y Uu h1 h2
theorem Bb{cn:ac}{cell:D}{ms:Nat->bw}{nm:List ac}{fd:FuncData}{L fa:Addr}{body:List Stmt}{ir:Sx}{loc:List (Option V)}{Q:V->List af->Prop}{X:Nat->Prop}(hK:cJ K)
  (hG:∀base,K.In base->base.Ns mainGlobals gn->base.Ns builtinsNs bn->base.NoLimit->iT K G gn bn base) (hd:(cn==("__debug__" : ac))=false) (hk:fd.scope.kind=.function) (hms:∀n,n≠9->oY (ms n) cell cn)
  (hb:(ej ⟨nm,fd.scope.names,G⟩ (iQ cn ms ⟨nm,fd.scope.names,G⟩) (aO ⟨nm,fd.scope.names,G⟩) ir).l body=true)
  (hw:aj (λf C=>ah prog w K gn bn k (.ref f) C) (iM (λf C=>ah prog w K gn bn k (.ref f) C) cell ms) gr ir (λCn U=>X Cn) ⟨loc,[]⟩ (aC 0 Q))
  (c:FC) (ok:am K k c) (e1:c.nm=nm) (e2:c.gn=gn) (e3:c.bn=bn) (e4:c.env=callEnvC fd L fa) (_:c.mu=[]) (hce:gC w c cn cell):
  WS prog w c (execs body c.env) ⟨loc,[]⟩ (λfl st'=>∃V,(fl=.ret V\/(fl=.next/\V=.d .none))/\∃V' own',Fin 0 V st'.own V' own'/\Q V' own') (λCn U=>X Cn):=by
 subst e2;subst e3
 have hN:bX K ⟨nm,fd.scope.names,G⟩ c:=E5 e1 (λx k' hx=>by refine rwr (e4 ..) ?_;exact hx) (hG c.base ok.kin ok.gns ok.bns ok.lim)
 have hi:interactive c.env=false:=by
  refine rwr (e4 ..) ?_
  unfold interactive
  refine rwr (show (callEnvC fd L fa).scope.kind=.function from hk) ?_;rfl
 exact WG.mono ((qM (Γ:=λf C=>ah prog w K c.gn c.bn k (.ref f) C) (T:=iQ cn ms ⟨nm,fd.scope.names,G⟩) (TS:=aO ⟨nm,fd.scope.names,G⟩) ok hN hK hi (λf C hs=>hs) (λX n e he=>FR ok hN hK (λf C hs=>hs) hd hce hms X n e he) (λX n t he=>aE he) ir).l body hb _ _ _ hw) (λU U h=>h.h) λU U x=>x
theorem oN{fd:FuncData}{L fa:Addr}{cn:ac}(g4:eg fd.scope.names=[cn]):(callEnvC fd L fa).cells.lookup cn=some (L+1):=by
 show (cellsFrom _ _ _).lookup cn=_
 refine rwr (w8 g4 ..) ?_;simp
theorem EE{kf:ac->Option NameKind}{pn:ac}{v:Value}(h:kf pn=some .cell):bindC kf ([pn].zip [v]) (λU=>Bx) pn=some v:=by
 simp only[pK,BZ,bindC,h]
 simp
theorem Jo{kf:ac->Option NameKind}{pn:ac}{v:Value}(h:kf pn=some .local):bindL kf ([pn].zip [v]) (λU=>Bx)=λy=>if y=pn then some v else Bx:=by
 simp only[pK,BZ,bindL,h]
 simp
theorem ah.of_cell1{fa:Addr}{nm:List ac}{pn:ac}{ir:Sx}{ms:Nat->bw}(hF:zk K G (iQ pn ms) fa nm pn ir=true)(hG:∀base,K.In base->base.Ns mainGlobals gn->base.Ns builtinsNs bn->base.NoLimit->iT K G gn bn base)(hK:cJ K)
  (hC:∀args own Q X,C args own Q X->own=[]/\∃xs,args=[.d (.bytes xs)]/\(∀n,n≠9->oY (ms n) (.bytes xs) pn) /\
   aj (λf C=>ah prog w K gn bn k (.ref f) C) (iM (λf C=>ah prog w K gn bn k (.ref f) C) (.bytes xs) ms) gr ir (λCn U=>X Cn) ⟨ay nm.length Bx,[]⟩ (aC 0 Q)):
  ah prog w K gn bn (k+1) (.ref fa) C:=by
 obtain⟨oc,od,osl,fd,body,h1,h2,F,g2,g3,g4,g5,g6,g7,g8⟩:=Ad hF
 refine ah.one (e:=D.bytes) hC λA envs base s v fz xs Q X cx hfz rv hw=>?_
 refine elE1 rv λt z0=>?_;clear rv;subst z0
 have X0:K.In s.heap:=cx.kin.keeps cx.baseH
 refine wQ (fd:=fd) (body:=body) (binds:=[pn].zip [.bytes xs.toArray t]) cx.room (X0 _ _ h1) rfl (cx.lim.keeps cx.baseH) (codeRec_of X0 F.code) h2
  (B0 (tM F.pos g2 F.kwo F.va F.kw g3 (gm.mpr ⟨jn,ix⟩) rfl)) g6 g4 (λx hx=>bj.mp hx▸.inr ⟨g5,rfl⟩) (λs₁ x=>?_) F.co F.gen F.kind
 have hcl:(callEnvC fd s.heap.objs.size fa).cells.lookup pn=some (s.heap.objs.size+1):=oN g4
 have hcell:=x.cell pn _ hcl
 rw[EE (show (callEnvC fd s.heap.objs.size fa).kindOf pn=some .cell from g5)]at hcell
 refine elE2 x.toInCall.same λh' tk z0=>?_;subst z0
 exact zT (loc:=ay nm.length Bx) (nm:=nm) (cn:=pn) (cell:=.bytes xs) cx hfz F.gl F.bl F.kind F.nd (oK F) x.toInCall.ns x.toInCall.keep rfl rfl rfl hcl g5 hcell (iy _) ⟨t,rfl⟩ yS (Bb hK hG g7 F.kind hw.1 g8 hw.2)
noncomputable def qN(op:Operator)(y a:ac)(t:Stmt):Bool:=je t λts v U=>bY ts λy'=>bu y' λy' U=>mq v λa' op' c U=>bu a' λa' U=>fS c λc U U=>(y'==y)&&((a'==a)&&((op'==op)&&lU 8 c))
theorem zr{op:Operator}{y a:ac}{t:Stmt}(h:qN op y a t=true):∃p1 p2 kd p3 p4 p5,t=.Assign [.Name y p1] (.BinOp (.Name a p2) op (.Constant (.int 8) kd p3) p4) p5:=by
 refine jw h λU U p5 h=>?_
 refine cq h λU h=>?_
 refine bx h λU p1 h=>?_
 refine kM h λU U U p4 h=>?_
 refine bx h λU p2 h=>?_
 refine gf h λU kd p3 h=>?_
 refine ak (aB h) λh1 h=>?_
 refine ak (aB h) λh2 h=>?_
 refine ak (aB h) λh3 h4=>?_
 refine rwr (eq_of_beq h1 ..) (rwr (eq_of_beq h2 ..) (rwr (eq_of_beq h3 ..) (rwr (nY h4 ..) ?_)))
 exact(ly p1 p2 kd p3 p4 p5 rfl)
noncomputable def Ak(l:List Stmt)(f:Stmt->Stmt->List Stmt->Bool):Bool:=l.casesOn false λa r=>r.casesOn false λb r=>f a b r
theorem DN{l:List Stmt}{f:Stmt->Stmt->List Stmt->Bool}(h:Ak l f=true):∃a b r,l=a::b::r/\f a b r=true:=by
 cases l with
 |nil=>exact aE h
 |cons a r=>cases r with
  |nil=>exact aE h
  |cons b r=>exact(ex3 a b r ⟨rfl,h⟩)
noncomputable def xh(K:Frag)(G:List (ac×GV))(T:aU->Nat->Expr->Bool)(fa:Addr)(an wn:ac)(nm:List ac)(cn:ac)(ir:Sx):Bool:=kZ K fa λfd body =>
 km K 1 (an::wn::nm) fd&&(fd.params.args.map (·.arg)==[an])&&isNone fd.defaults&&(eg fd.scope.names==[cn])&&(fd.scope.names.lookup cn==some .cell)&&fd.closure.isEmpty && !(cn==("__debug__" : ac)) &&
  Ak body λs1 s2 rest=>qN .Mod wn an s1&&(qN .FloorDiv cn an s2&&(ej ⟨an::wn::nm,fd.scope.names,G⟩ (T ⟨an::wn::nm,fd.scope.names,G⟩) (aO ⟨an::wn::nm,fd.scope.names,G⟩) ir).l rest)
theorem yC{A:Around}{env:Env}{Q:Flow->Shared->Prop}{E:Value->Shared->Prop}{s₀ s:Shared}{m cm:ac->Option Value}{n:Int}{t:Tok}{op:Operator}{kk:Int->Prop}{y a:ac}{p1 p2 p3 p4 p5:Pos}{kd:Tok}{rest:List Stmt}
  (x:InCallC s₀ env.locals m env.cells cm s) (hk:env.scope.kind=.function) (ha:env.kindOf a=some .local) (hv:m a=some (.int n t)) (hd:(a==("__debug__" : ac))=false) (hb:iI op n 8 kk)
  (h:∀r tk tk',kk r->wpAny (model prog w) A (storeName env y (.int r tk)) (λU s'=>ag (model prog w) A (execs rest env) Q E s') E { s with toks:=tk' }):
  ag (model prog w) A (execs (.Assign [.Name y p1] (.BinOp (.Name a p2) op (.Constant (.int 8) kd p3) p4) p5::rest) env) Q E s :=
 lW (qR (ot (wpAny.n (NameLC (v:=.int n t) x hk ha hv (wpAny.n (wpAny_Constant_int (wpAny.n (qL (kk:=kk) hb λr tk tk' hr=>h r tk tk' hr)))) hd))) rfl)
theorem IL{A:Around}{env:Env}{Q:Flow->Shared->Prop}{E:Value->Shared->Prop}{s₀ s:Shared}{cm:ac->Option Value}{n:Int}{t:Tok}{an wn cn:ac}{ca:Addr}{p1 p2 p3 p4 p5 q1 q2 q3 q4 q5:Pos}{kd kd':Tok}{rest:List Stmt}
  (x:InCallC s₀ env.locals (λy=>if y=an then some (.int n t) else Bx) env.cells cm s) (hk:env.scope.kind=.function) (ha:env.kindOf an=some .local) (hw:env.kindOf wn=some .local) (hc:env.kindOf cn=some .cell) (hcl:env.cells.lookup cn=some ca)
  (hd:(an==("__debug__" : ac))=false) (hne:an≠wn)
  (h:∀s' m cm' tk tk2,InCallC s₀ env.locals m env.cells cm' s'->m an=some (.int n t)->m wn=some (.int (n.fmod 8) tk)->cm' cn=some (.int (n.fdiv 8) tk2)->ag (model prog w) A (execs rest env) Q E s'):
  ag (model prog w) A (execs (.Assign [.Name wn p1] (.BinOp (.Name an p2) .Mod (.Constant (.int 8) kd p3) p4) p5::.Assign [.Name cn q1] (.BinOp (.Name an q2) .FloorDiv (.Constant (.int 8) kd' q3) q4) q5::rest) env) Q E s :=
 yC (kk:=λr=>r=n.fmod 8) x hk ha (if_pos rfl) hd ⟨by decide,rfl⟩ λr tk tk' hr=>stLC (x.tok tk') hk hw λs₂ x2 =>
  have hv:=(if_neg hne).trans (if_pos rfl)
  yC (kk:=λr=>r=n.fdiv 8) x2 hk ha hv hd ⟨⟨by decide,by decide⟩,rfl⟩ λr2 tk2 tk2' hr2=>stCC (x2.tok tk2') hk hc hcl λs₃ x3 =>
   h s₃ _ _ tk tk2 x3 hv (hr▸if_pos rfl) (hr2▸if_pos rfl)
set_option tactic.hygienic true in
theorem ah.of_cell2{fa:Addr}{an wn:ac}{nm:List ac}{cn:ac}{ir:Sx}{ms:Nat->bw}(hF:xh K G (iQ cn ms) fa an wn nm cn ir=true)(hG:∀base,K.In base->base.Ns mainGlobals gn->base.Ns builtinsNs bn->base.NoLimit->iT K G gn bn base)(hK:cJ K)
  (hC:∀args own Q X,C args own Q X->own=[]/\∃n:Int,args=[.d (.int n)]/\(∀j,j≠9->oY (ms j) (.int (n.fdiv 8)) cn) /\
   aj (λf C=>ah prog w K gn bn k (.ref f) C) (iM (λf C=>ah prog w K gn bn k (.ref f) C) (.int (n.fdiv 8)) ms) gr ir (λCn U=>X Cn) ⟨some (.d (.int n))::some (.d (.int (n.fmod 8)))::ay nm.length Bx,[]⟩ (aC 0 Q)):
  ah prog w K gn bn (k+1) (.ref fa) C:=by
 obtain⟨oc,od,osl,fd,body,h1,h2,F,g2,g3,g4,g5,g6,g7,g8⟩:=Ad hF
 refine elE3 (DN g8) λs1 s2 rest=>ae λz0 q=>?_
 refine gT (zr (aL q)) λp1 p2 kd p3 p4 p5 e1=>?_
 refine gT (zr (aL (aR q))) λp1' p2' kd' p3' p4' p5' e2=>?_
 rw[z0,e1,e2]at h2
 refine ah.one (e:=D.int) hC λA envs base s v fz n Q X cx hfz rv hw=>?_
 refine elE1 rv λt z0=>?_;clear rv;subst z0
 have X0:K.In s.heap:=cx.kin.keeps cx.baseH
 have han:=oK F an (.head _)
 have hwn:=oK F wn (.tail _ (.head _))
 have hne:an≠wn:=λe=>(gm.mp F.nd).1 (e▸.head _)
 refine wQ (fd:=fd) (binds:=[an].zip [.int n t]) cx.room (X0 _ _ h1) rfl (cx.lim.keeps cx.baseH) (codeRec_of X0 F.code) h2
  (B0 (tM F.pos g2 F.kwo F.va F.kw g3 (gm.mpr ⟨jn,ix⟩) rfl)) g6 g4 (λx hx=>bj.mp hx▸.inl han.1) (λs₁ x=>?_) F.co F.gen F.kind
 rw[Jo (show (callEnvC fd s.heap.objs.size fa).kindOf an=some .local from han.1)]at x
 refine IL x F.kind han.1 hwn.1 g5 (oN g4) han.2 hne λs' m cm' tk tk2 x ma mw mc=>?_
 have hcell:=x.cell cn _ (oN g4)
 rw[mc]at hcell
 refine elE2 x.toInCall.same λh' tk3 z0=>?_;subst z0
 exact zT (nm:=an::wn::nm) (cn:=cn) (cell:=.int (n.fdiv 8)) cx hfz F.gl F.bl F.kind F.nd (oK F) x.toInCall.ns x.toInCall.keep rfl rfl rfl (oN g4) g5 hcell (iy _) ⟨tk2,rfl⟩ (.cons (V:=.d (.int n)) ma ⟨t,rfl⟩ (.cons (V:=.d (.int (n.fmod 8))) mw ⟨tk,rfl⟩ yS)) (Bb hK hG g7 F.kind hw.1 (aR (aR q)) hw.2)
end
end

section
set_option hygiene false in
local macro_rules | `(tactic| walk_at "X") => `(tactic| refine Or.inl (And.intro rfl ?_))
variable {Γ:Addr->aH->Prop}{O:bf}{OS:bJ}{args:List V}{own:List af}{Q:V->List af->Prop}{X:Nat->Prop}
noncomputable def kA:Nat->bw:=λU=>⟨false,.v 0,aa "f",aa "",false,false,false,.bin .Add (.k 48) .x⟩
noncomputable def iJ(ns:List Nat):List UInt8:=ns.map λf=>(48+f).toUInt8
inductive oL(args:List V)(own:List af)(Q:V->List af->Prop)(X:Nat->Prop):Prop
 |mk (ns:List Nat) (_:args=[.d (.list (aw ns))]) (_:own=[]) (_:ns.length<=1000) (_:(∀f∈ns,f<10)) (_:Q (.d (.bytes (iJ ns))) []):oL args own Q X
theorem Hs(h:oL args own Q X):aj Γ (pj Γ kA) OS rV (λCn U=>X Cn) ⟨args.map some++ay (AR.length-1) Bx,own⟩ (aC own.length Q):=by
 obtain⟨ns,rfl,rfl,hl,hf,hQ⟩:=h
 show aj Γ (pj Γ kA) OS rV _ ⟨[some (.d (.list (aw ns)))],[]⟩ _
 skip
 refine⟨ns.map λ(n:Nat)=>(n:Int),⟨by show some (aw ns)=_;unfold aw;refine rwr (dP ..) ?_;rfl,by simp;lia⟩,λx=>48+x,λx hx U=>?_,?_⟩
 ·conv=>whnf
 skip
 have e:(((ns.map λ(n:Nat)=>(n:Int)).filter (bU (kA 0))).map λx=>48+x).map D.int=(iJ ns).map λc=>D.int c.toNat:=by
  have:(ns.map λ(n:Nat)=>(n:Int)).filter (bU (kA 0))=ns.map λ(n:Nat)=>(n:Int):=kU _
  refine rwr (this ..) ?_
  unfold iJ
  refine rwr (dP ..) (rwr (dP ..) (rwr (dP ..) ?_))
  refine j_ λf hm=>?_
  have:=hf f hm
  show D.int (48+(f:Int))=D.int ((48+f).toUInt8.toNat:Nat)
  refine rwr (cu (by lia)) ?_
  rfl
 refine⟨iJ ns,e,by unfold iJ;simp;lia,?_⟩
 walk_at"R"
 exact be 0 rfl rfl rfl hQ
noncomputable def m6(xs:List UInt8):Bool:=decide (2<=xs.length)&&(xs[xs.length-1]?==some 10)&&(xs.take (xs.length-1)).all gt
theorem jH{xs:List UInt8}:m6 xs=true↔kS xs:=by
 unfold m6 kS
 simp only[eO,decide_eq_true_eq,beq_iff_eq,fR,and_assoc]
noncomputable def bQ(xs:List UInt8):Int:=if m6 xs=true then (dW (xs.take (xs.length-1)):Int) else -1
noncomputable def eY:Nat->bw:=λn=>match n with
 |0=>⟨true,.bin .Sub (.bi 0 (.cons (.orc 9) .nil)) (.k (.int 1)),aa "k",aa "data",true,true,false,.bin .Mult (.bin .Sub (.cidx (.bin .Sub (.bin .Sub .clen (.k 2)) .x)) (.k 48)) (.bin .Pow (.k 10) .x)⟩
 |_=>⟨false,.slc (.orc 9) .nil (.bin .Sub (.bi 0 (.cons (.orc 9) .nil)) (.k (.int 1))),aa "o",aa "data",false,false,true,.x⟩
theorem DZ{α:Type}{P:List α->Prop}(h0:P [])(h1:∀l a,P l->P (l++[a]))(l:List α):P l:=by
 have:∀r:List α,P r.reverse:=by
  intro r
  induction r with
  |nil=>exact h0
  |cons a r ih=>rw[List.reverse_cons];exact h1 _ _ ih
 have:=this l.reverse
 rwa [List.reverse_reverse]at this
theorem Ix:∀(l:List UInt8),(∀c∈l,gt c=true)->((bM l.length).map λk=>(((l[l.length-1-k]?).getD 0).toNat-48)*10^k).sum=dW l:=by
 intro l
 refine DZ (P:=λl=>(∀c∈l,gt c=true)->((bM l.length).map λk=>(((l[l.length-1-k]?).getD 0).toNat-48)*10^k).sum=dW l) (λU=>rfl) (λl c ih=>?_) l
 ·intro h
  refine rwr (bV ..) (rwr (uV ..) (rwr (Ll ..) (rwr (eM ..) (rwr (dP ..) (rwr (B1 ..) (rwr (yM ..) (rwr (aM (ih λd hd=>h d (dE _ hd))) ?_)))))))
  have e1:((l++[c])[l.length+1-1-0]?).getD 0=c:=by simp
  refine rwr (e1 ..) ?_
  have e2:∀k∈bM l.length,((λk=>((((l++[c])[l.length+1-1-k]?).getD 0).toNat-48)*10^k) ∘ Nat.succ) k=(((l[l.length-1-k]?).getD 0).toNat-48)*10^k*10:=by
   intro k hk
   have hk:=ka.mp hk
   show ((((l++[c])[l.length+1-1-(k+1)]?).getD 0).toNat-48)*10^(k+1)=_
   rw[show l.length+1-1-(k+1)=l.length-1-k by rw[Nat.add_sub_cancel,Nat.sub_sub,ll],ji (cy (fb _ _) (BV (gF (cy (cR _) hk)))),mQ,p9]
  refine rwr (j_ e2 ..) ?_
  have e3:∀(f:Nat->Nat) (r:List Nat),(r.map λk=>f k*10).sum=(r.map f).sum*10:=by
   intro f r
   induction r with
   |nil=>rfl
   |cons a r ir=>simp only[eM,B1,ir];lia
  rw[e3 (λk=>(((l[l.length-1-k]?).getD 0).toNat-48)*10^k)]
  simp only[Nat.pow_zero,Nat.mul_one]
  lia
theorem vR:∀l:List Nat,(l.map λ(n:Nat)=>(n:Int)).sum=(l.sum:Int)
 |[]=>rfl
 |a::r=>by simp only[eM,B1,vR r];lia
inductive fC(args:List V)(own:List af)(Q:V->List af->Prop)(X:Nat->Prop):Prop
 |mk (xs:List UInt8) (_:args=[.d (.bytes xs)]) (_:own=[]) (_:xs.length<=18) (_:Q (.d (.int (bQ xs))) []):fC args own Q X
theorem CM(n:Nat):(decide ((n:Int)<48)||decide (57<(n:Int)))=!decide (48<=n/\n<=57):=by
 by_cases a:n<48
 ·refine rwr (decide_eq_true (p:=(n:Int)<48) (eF (m:=48) a)) (rwr (decide_eq_false (p:=48<=n/\n<=57) λh=>absurd a (Nat.not_lt_of_le h.1)) ?_)
  rfl
 ·by_cases b:57<n
  ·refine rwr (decide_eq_true (p:=57<(n:Int)) (eF (n:=57) b)) (rwr (decide_eq_false (p:=48<=n/\n<=57) (λh=>absurd b (Nat.not_lt_of_le h.2))) (rwr (Bool.or_true ..) ?_))
   rfl
  ·refine rwr (decide_eq_false (p:=(n:Int)<48) λh=>a (cB.mp h)) (rwr (decide_eq_false (p:=57<(n:Int)) λh=>b (cB.mp h)) (rwr (decide_eq_true (p:=48<=n/\n<=57) ⟨eN a,eN b⟩) ?_))
   rfl
theorem DS{n:Nat}(h:48<=n/\n<=57):((n:Int)-48).natAbs<2^64:=by
 rw[show (n:Int)-48=((n-48:Nat):Int) from (iC h.1).symm]
 exact gz (cy (lg h.2 48) (by decide:57-48<10)) rfl
theorem J2{xs:List UInt8}{Q:V->List af->Prop}(hl:xs.length<=18)(hQ:Q (.d (.int (bQ xs))) []):aj Γ (iM Γ (.bytes xs) eY) OS s8 (λCn U=>X Cn) ⟨ay vH.length Bx,[]⟩ (aC 0 Q):=by
 show aj Γ (iM Γ (.bytes xs) eY) OS s8 _ ⟨[],[]⟩ _
 by_cases h2:xs.length<2
 ·have hv:bQ xs = -1:=by unfold bQ;rw[if_neg];intro q;have:=(jH.mp q).1;lia
  rw[hv]at hQ
  walk_at"R"
  exact be 0 rfl rfl rfl hQ
 have h1:1<=xs.length:=ci (eN h2)
 have hl1:=lg hl 1
 have a2:xs.length-2<xs.length-1:=uv (eN h2) (by decide)
 have a3:∀j,xs.length-2-j<xs.length-1:=λj=>cy (fb _ _) a2
 refine elE1 (show ∃c,xs[xs.length-1]? = some c from ⟨_,cM (BV (gF h1))⟩) λc hc=>?_
 have hcl:=c.toNat_lt
 have hi:((xs.length:Int)-1).toNat=xs.length-1:=BF xs.length 1
 walk_at"R"
 refine bg (x:=c) (by rw[hi];exact hc) ?_
 by_cases h10:c.toNat=10
 ·walk_at"R"
  refine .inr ⟨by decide,?_⟩
  walk_at"R"
  refine rwr (jt (n:=xs.length-1) (show (xs.length:Int)-1=((xs.length-1:Nat):Int) from (iC h1).symm)) ?_
  let ys:=(xs.take (xs.length-1)).map λ(c:UInt8)=>((c.toNat:Nat):Int)
  have hys:ys.length=xs.length-1:=by show (List.map _ _).length=_;refine rwr (cV ..) (rwr (fO ..) ?_);exact gq (fb _ _)
  refine⟨ys,⟨by show some ((xs.take (xs.length-1)).map λc=>D.int c.toNat)=some (ys.map D.int);refine rwr (dP ..) ?_;rfl,bP (aJ (bH hys) hl1) rfl⟩,λx=>x,λx hx U=>rfl,?_⟩
  have hfl:((ys.filter (bU (eY 1))).map λx=>x).map D.int=(ys.filter (bU (eY 1))).map D.int:=by exact rwr (List.map_id' ..) rfl
  refine rwr (hfl ..) ?_
  have htv:∀c:UInt8,bU (eY 1) ((c.toNat:Nat):Int)=!gt c:=by
   intro c
   show (decide (((c.toNat:Nat):Int)<48)||decide (57<((c.toNat:Nat):Int)))=!decide (48<=c.toNat/\c.toNat<=57)
   exact CM _
  by_cases hall:∀c∈xs.take (xs.length-1),gt c=true
  ·have hp:kS xs:=⟨eN h2,by rw[hc];congr 1;exact LC h10,hall⟩
   have hv:bQ xs=dW (xs.take (xs.length-1)):=by unfold bQ;exact rwr (if_pos (jH.mpr hp) ..) rfl
   rw[hv]at hQ
   have hf:ys.filter (bU (eY 1))=[]:=by
    refine rwr (propext (BY ..)) ?_
    intro x hx
    refine elE1 (aW.mp hx) λc=>ae λhc z0=>?_;subst z0
    refine rwr (htv ..) (rwr (hall c hc ..) ?_);simp
   refine rwr (hf ..) ?_
   walk_at"R"
   refine .inr ⟨by decide,?_⟩
   walk_at"R"
   have hn:((xs.length:Int)-1)=((xs.length-1:Nat):Int):=(iC h1).symm
   refine⟨(bM (xs.length-1)).map λ(j:Nat)=>(j:Int),⟨xs.length-1,by rw[hn],bP hl1 rfl,rfl⟩,
    λk=>(((((xs[xs.length-2-k.toNat]?).getD 0).toNat-48)*10^k.toNat:Nat):Int),λk hk U=>?_,?_⟩
   ·refine elE1 (aW.mp hk) λj=>ae λhj z0=>?_;subst z0
    have hj:=ka.mp hj
    refine elE1 (show ∃o,xs[xs.length-2-j]? = some o from ⟨_,cM (dG (a3 j) (fb _ _))⟩) λo ho=>?_
    have hmem:o∈xs.take (xs.length-1):=cw (i:=xs.length-2-j) (by refine rwr (List.getElem?_take ..) (rwr (if_pos (a3 j) ..) ?_);exact ho)
    have hfo:=of_decide_eq_true (hall o hmem)
    have e2j:(xs.length:Int)-2-(j:Int)=((xs.length-2-j:Nat):Int):=by rw[iC (Nat.le_sub_of_add_le (aJ (j' hj 1) (by rw[pW h1];exact bG _)):j<=xs.length-2),iC (eN h2)];rfl
    have p2j:(0:Int)<=(xs.length:Int)-2-(j:Int):=e2j▸bW
    have n2j:(xs.length:Int)-2-(j:Int)<=1000000:=e2j▸fQ.mpr (aJ (fb _ _) (aJ (fb _ _) (bP hl rfl)))
    have i0:(0:Int)<=j:=bW
    have i1:(j:Int)<=1000000:=fQ.mpr (aJ (ci hj) (bP hl1 rfl))
    refine⟨(by walk_at"L"),?_⟩
    refine⟨(by walk_at"L"),?_⟩
    refine⟨(by walk_at"L"),(by walk_at"L"),o,by refine rwr (e2j ..) ?_;exact ho,?_⟩
    refine⟨⟨(by walk_at"L"),(by walk_at"L"),by decide⟩,?_⟩
    refine⟨DS hfo,?_⟩
    show ((o.toNat:Int)-48)*10^(j:Int).toNat=(((((xs[xs.length-2-(j:Int).toNat]?).getD 0).toNat-48)*10^(j:Int).toNat:Nat):Int)
    refine rwr (cS ..) (rwr (ho ..) ?_)
    simp only[BN]
    refine rwr (Int.natCast_mul ..) (rwr (B4 ..) ?_)
    refine rwr (show (o.toNat:Int)-48=((o.toNat-48:Nat):Int) from (iC hfo.1).symm) ?_
    rfl
   walk_at"R"
   have hsum:=Ix _ hall
   have hlt:(xs.take (xs.length-1)).length=xs.length-1:=by refine rwr (fO ..) ?_;exact gq (fb _ _)
   rw[hlt]at hsum
   have hst:((bM (xs.length-1)).map λ(j:Nat)=>(j:Int)).filter (bU (eY 0))=(bM (xs.length-1)).map λ(j:Nat)=>(j:Int):=kU _
   have hgg:(((bM (xs.length-1)).map λ(j:Nat)=>(j:Int)).map λk=>(((((xs[xs.length-2-k.toNat]?).getD 0).toNat-48)*10^k.toNat:Nat):Int)) =
     ((bM (xs.length-1)).map λk=>((((xs.take (xs.length-1))[xs.length-1-1-k]?).getD 0).toNat-48)*10^k).map λ(n:Nat)=>(n:Int):=by
    refine rwr (dP ..) (rwr (dP ..) ?_)
    refine j_ λk hk=>?_
    have hk:=ka.mp hk
    show (((((xs[xs.length-2-(k:Int).toNat]?).getD 0).toNat-48)*10^(k:Int).toNat:Nat):Int)=(((((xs.take (xs.length-1))[xs.length-1-1-k]?).getD 0).toNat-48)*10^k:Nat)
    exact rwr (cS ..) (rwr (show xs.length-1-1-k=xs.length-2-k from rfl) (rwr (List.getElem?_take ..) (rwr (if_pos (a3 k) ..) rfl)))
   refine rwr (hst ..) (rwr (hgg ..) ?_)
   refine⟨by simp;lia,λn hn=>?_,?_⟩
   ·refine elE1 (aW.mp hn) λm=>ae λhm z0=>?_;subst z0
    refine elE1 (aW.mp hm) λk=>ae λhk z0=>?_;subst z0
    have hk:=ka.mp hk
    have h1:((((xs.take (xs.length-1))[xs.length-1-1-k]?).getD 0).toNat-48)<=255:=aJ (fb _ _) (lk (UInt8.toNat_lt _))
    have h2:10^k<=10^16:=uZ (by decide) (lk (dG hk hl1))
    have h3:=Nat.mul_le_mul h1 h2
    show Int.natAbs _<2^64
    refine rwr (Int.natAbs_natCast ..) ?_
    exact cy h3 (by decide)
   refine rwr (vR ..) (rwr (hsum ..) ?_)
   walk_at"R"
   exact be 0 rfl rfl rfl hQ
  ·have hv:bQ xs = -1:=by unfold bQ;rw[if_neg];intro q;exact hall (jH.mp q).2.2
   rw[hv]at hQ
   have hf:0<(ys.filter (bU (eY 1))).length:=by
    refine ao (mM (ys.filter (bU (eY 1))).length) (λz=>?_) λz=>?_
    ·exfalso
     refine hall λc hc=>?_
     have e:=BY.mp (mC z) _ (du hc)
     rw[htv]at e
     simpa using e
    ·exact z
   have hfl2:=LF (bU (eY 1)) ys
   have hfl3:((ys.filter (bU (eY 1))).map D.int).length=(ys.filter (bU (eY 1))).length:=by exact rwr (cV ..) rfl
   conv=>whnf
   refine⟨aJ (bH hfl3) (aJ hfl2 (aJ (bH hys) (bP hl1 rfl))),?_⟩
   refine rwr (hfl3 ..) ?_
   walk_at"R"
   exact be 0 rfl rfl rfl hQ
 ·have hv:bQ xs = -1:=by
   unfold bQ;rw[if_neg];intro q
   have:=(jH.mp q).2.1
   rw[hc]at this
   cases this
   exact h10 rfl
  rw[hv]at hQ
  walk_at"R"
  exact be 0 rfl rfl rfl hQ
noncomputable def ni:bJ:=λU st Q X=>∃xs:List UInt8,getN st.loc 0=some (some (.d (.bytes xs)))/\xs.length<=18/\Q .next ⟨setN st.loc 1 (some (.d (.int (bQ xs)))),st.own⟩
theorem IE(h:fC args own Q X):aj Γ O ni qw (λCn U=>X Cn) ⟨args.map some++ay (u_.length-1) Bx,own⟩ (aC own.length Q):=by
 obtain⟨xs,rfl,rfl,hl,hQ⟩:=h
 show aj Γ O ni qw _ ⟨[some (.d (.bytes xs)),Bx],[]⟩ _
 conv=>whnf
 refine⟨xs,rfl,hl,?_⟩
 walk_at"R"
 exact be 0 rfl rfl rfl hQ
noncomputable def pC:Nat->bw:=λU=>⟨true,.bin .Mod (.orc 9) (.k (.int 7)),aa "k",aa "y",true,false,false,.bidx [48,49,56,57,58,47,10,10] (.bin .Mod (.bin .FloorDiv .cv (.bin .Pow (.k 8) .x)) (.k 8))⟩
noncomputable def Ek:Sx:=(.cons (.ite (.cmp .Eq (.v 1) (.k (.int (2)))) (.cons (.ret (.bin .Add (.v 2) (.slc (.k (.bytes [10,10])) .nil (.bin .Mult (.bin .Mod (.orc 9) (.k (.int (2)))) (.k (.int (2)))))))
  .nil) .nil)
  (.cons (.ite (.cmp .Eq (.v 1) (.k (.int (3)))) (.cons (.ret (.bin .Add (.bin .Add (.bin .Add (.slc (.v 2) .nil (.v 3)) (.v 4)) (.slc (.v 2) (.v 3) .nil)) (.k (.bytes [10]))))
  .nil) .nil)
  (.cons (.ite (.cmp .Eq (.v 1) (.k (.int (4)))) (.cons (.ret (.bin .Add (.bin .Add (.bin .Add (.slc (.v 2) .nil (.v 3)) (.v 4)) (.slc (.v 2) (.bin .Add (.v 3) (.k (.int (1)))) .nil)) (.k (.bytes [10]))))
  .nil) .nil)
  (.cons (.ite (.cmp .Eq (.v 1) (.k (.int (5)))) (.cons (.ret (.slc (.bin .Add (.v 2) (.k (.bytes [10]))) .nil (.v 3)))
  .nil) .nil)
  (.cons (.ite (.cmp .Eq (.v 1) (.k (.int (6)))) (.cons (.ret (.bin .Add (.bin .Mult (.k (.bytes [48])) (.bin .Mod (.orc 9) (.k (.int (14))))) (.k (.bytes [10]))))
  .nil) .nil)
  (.cons (.ite (.cmp .Eq (.v 1) (.k (.int (7)))) (.cons (.ret (.bi 1 (.cons (.orc 0) .nil)))
  .nil) .nil)
  (.cons (.ret (.bin .Add (.v 2) (.k (.bytes [10]))))
  .nil)))))))
theorem xj{a b p:List UInt8}{c:UInt8}(h:a.length+b.length<=14)(hp:p.length<=2):(a++p++b++[c]).length<=17:=by
 refine rwr (bV ..) (rwr (bV ..) (rwr (bV ..) (rwr (Nat.add_right_comm a.length ..) ?_)))
 exact bp (bp (k:=16) h hp rfl) (bG _) rfl
theorem Ao{v0:V}{y w P:Nat}{fs pc:List UInt8}{Q:V->List af->Prop}(hw:w<8)(hfs:fs.length<=14)(hpc:pc.length<=2)(hP:P<=fs.length)(hQ:∀b:List UInt8,b.length<=17->Q (.d (.bytes b)) []):
  aj Γ (iM Γ (.int (y:Int)) pC) OS Ek (λCn U=>X Cn) ⟨[some v0,some (.d (.int (w:Int))),some (.d (.bytes fs)),some (.d (.int (P:Int))),some (.d (.bytes pc))],[]⟩ (aC 0 Q):=by
 have m2:(y:Int).fmod 2=((y%2:Nat):Int):=bz y 2
 have m14:(y:Int).fmod 14=((y%14:Nat):Int):=bz y 14
 have m7:(y:Int).fmod 7=((y%7:Nat):Int):=bz y 7
 have fin:∀(b:List UInt8) (loc:List (Option V)),b.length<=17->aC 0 Q (.ret (.d (.bytes b))) ⟨loc,[]⟩:=λb loc hb=>be 0 rfl rfl rfl (hQ b hb)
 have cT:cut fs Bx (some (P:Int))=fs.take P:=jt rfl
 have cD:cut fs (some (P:Int)) Bx=fs.drop P:=by unfold cut;simp
 have cD1:cut fs (some ((P:Int)+1)) Bx=fs.drop (P+1):=by unfold cut;rfl
 have ab3:(fs.take P).length+(fs.drop P).length<=14:=by refine rwr (aM (bV ..)) (rwr (ur ..) ?_);exact hfs
 have ab4:(fs.take P).length+(fs.drop (P+1)).length<=14:=aJ (jm (by refine rwr (gE ..) (rwr (gE ..) ?_);exact Nat.sub_le_sub_left (Nat.le_succ P) _) _) ab3
 have l14:fs.length<=1000000:=bP hfs rfl
 walk_at"R"
 refine fu (λU=>?_) λU=>?_
 ·walk_at"R"
  refine rwr (m2 ..) ?_
  refine⟨gz (bE y (by decide)) rfl,?_⟩
  walk_at"R"
  refine rwr (jt (i:=((y%2:Nat):Int)*2) (n:=y%2*2) rfl) ?_
  refine⟨bp hfs (uF _ _) rfl,?_⟩
  exact fin _ _ (et hfs (uF _ _) rfl)
 walk_at"R"
 refine fu (λU=>?_) λU=>?_
 ·walk_at"R"
  refine rwr (cT ..) ?_
  refine⟨bp (f8 hfs) hpc rfl,?_⟩
  walk_at"R"
  refine rwr (cD ..) ?_
  refine⟨bp (et (k:=16) (f8 hfs) hpc rfl) (mo hfs) rfl,?_⟩
  walk_at"R"
  refine⟨bp (et (k:=30) (et (k:=16) (f8 hfs) hpc rfl) (mo hfs) rfl) (bG _) rfl,?_⟩
  exact fin _ _ (xj ab3 hpc)
 walk_at"R"
 refine fu (λU=>?_) λU=>?_
 ·walk_at"R"
  refine rwr (cT ..) ?_
  refine⟨bp (f8 hfs) hpc rfl,?_⟩
  walk_at"R"
  refine rwr (cD1 ..) ?_
  refine⟨bp (et (k:=16) (f8 hfs) hpc rfl) (mo hfs) rfl,?_⟩
  walk_at"R"
  refine⟨bp (et (k:=30) (et (k:=16) (f8 hfs) hpc rfl) (mo hfs) rfl) (bG _) rfl,?_⟩
  exact fin _ _ (xj ab4 hpc)
 walk_at"R"
 refine fu (λU=>?_) λU=>?_
 ·walk_at"R"
  refine⟨bp hfs (bG _) rfl,?_⟩
  walk_at"S"
  rw[jt (n:=P) rfl]
  refine⟨et hfs (bG _) rfl,?_⟩
  exact fin _ _ (f8 (et hfs (bG _) rfl))
 walk_at"R"
 refine fu (λU=>?_) λU=>?_
 ·walk_at"R"
  refine rwr (m14 ..) ?_
  refine⟨by simp,by decide,sD (m:=1000) (fG rfl rfl),uC (by decide) bW,?_⟩
  walk_at"S"
  have e:(ay ((y%14:Nat):Int).toNat [(48:UInt8)]).flatten.length<=13:=by refine rwr (cS ..) (rwr (B5 ..) (rwr (iF ..) ?_));exact fG rfl rfl
  refine⟨bp e (bG _) rfl,?_⟩
  exact fin _ _ (et e (bG _) rfl)
 walk_at"R"
 refine fu (λU=>?_) λU=>?_
 ·walk_at"R"
  refine .inr ⟨by decide,?_⟩
  walk_at"R"
  refine rwr (m7 ..) ?_
  refine⟨_,⟨y%7,rfl,bP (fG (k:=6) rfl rfl) rfl,rfl⟩,λk=>(((([48,49,56,57,58,47,10,10]:List UInt8)[((y:Int).fdiv (8^k.toNat)).fmod 8 |>.toNat]?).getD 0).toNat:Int),λk hk U=>?_,?_⟩
  ·refine elE1 (aW.mp hk) λj=>ae λhj z0=>?_;subst z0
   have hj:=ka.mp hj
   have h8:(8:Int)^(j:Int).toNat=((8^j:Nat):Int):=by refine rwr (cS ..) (rwr (B4 ..) ?_);rfl
   have e8:8^j<=8^6:=uZ (by decide) (lk (cg hj (bE _ (by decide))))
   have p8:0<8^j:=u5 (by decide)
   have e2:((y:Int).fdiv (8^(j:Int).toNat)).fmod 8=((y/8^j%8:Nat):Int):=by refine rwr (h8 ..) (rwr (da ..) ?_);exact bz _ 8
   have hlt:y/8^j%8<8:=bE _ (by decide)
   refine⟨by decide,⟨bW,fQ.mpr (aJ (ci (cg hj (bE _ (by decide)))) (by decide)),by decide⟩,?_⟩
   refine⟨⟨by refine rwr (h8 ..) ?_;exact λe=>gF p8 (iE e),by refine rwr (h8 ..) ?_;exact cy e8 (by decide)⟩,?_⟩
   refine⟨by decide,?_⟩
   show 0<=((y:Int).fdiv (8^(j:Int).toNat)).fmod 8/\_<=_/\_
   refine rwr (e2 ..) ?_
   refine elE1 (show ∃o,([48,49,56,57,58,47,10,10]:List UInt8)[y/8^j%8]? = some o from ⟨_,cM (by simpa using hlt)⟩) λo ho=>?_
   refine⟨bW,fQ.mpr (aJ (ci hlt) (by decide)),o,by refine rwr (cS ..) ?_;exact ho,?_⟩
   show (o.toNat:Int)=(((([48,49,56,57,58,47,10,10]:List UInt8)[((y:Int).fdiv (8^(j:Int).toNat)).fmod 8 |>.toNat]?).getD 0).toNat:Int)
   refine rwr (e2 ..) (rwr (cS ..) (rwr (ho ..) ?_))
   rfl
  conv=>whnf
  refine⟨((bM (y%7)).map λ(j:Nat)=>(([48,49,56,57,58,47,10,10]:List UInt8)[((y:Int).fdiv (8^j)).fmod 8 |>.toNat]?).getD 0),?_,by refine rwr (cV ..) (rwr (uG ..) ?_);exact bP (fG (k:=6) rfl rfl) rfl,?_⟩
  ·have:((bM (y%7)).map λ(j:Nat)=>(j:Int)).filter (bU (pC 0))=(bM (y%7)).map λ(j:Nat)=>(j:Int):=kU _
   refine rwr (this ..) (rwr (dP ..) (rwr (dP ..) (rwr (dP ..) ?_)))
   refine j_ λj U=>?_
   show D.int (((([48,49,56,57,58,47,10,10]:List UInt8)[((y:Int).fdiv (8^(j:Int).toNat)).fmod 8 |>.toNat]?).getD 0).toNat:Int)=_
   refine rwr (cS ..) ?_
   rfl
  exact fin _ _ (by refine rwr (cV ..) (rwr (uG ..) ?_);exact bP (fG (k:=6) rfl rfl) rfl)
 walk_at"R"
 refine⟨bp hfs (bG _) rfl,?_⟩
 exact fin _ _ (et hfs (bG _) rfl)
theorem GQ{v0:V}{y w:Nat}{Q:V->List af->Prop}(g1:Γ 627 oL)(g2:Γ 622 mj)(g3:Γ 615 jC)(hy:y<10^18)(hw:w<8)(hQ:∀b:List UInt8,b.length<=17->Q (.d (.bytes b)) []):
  aj Γ (iM Γ (.int (y:Int)) pC) OS v_ (λCn U=>X Cn) ⟨[some v0,some (.d (.int (w:Int))),Bx,Bx,Bx],[]⟩ (aC 0 Q):=by
 have m3:(y:Int).fmod 3=((y%3:Nat):Int):=bz y 3
 have d3:(y:Int).fdiv 3=((y/3:Nat):Int):=da y 3
 have m12:(y:Int).fmod 12=((y%12:Nat):Int):=bz y 12
 have m2:(y:Int).fmod 2=((y%2:Nat):Int):=bz y 2
 have d5:(y:Int).fdiv 5=((y/5:Nat):Int):=da y 5
 have d7:(y:Int).fdiv 7=((y/7:Nat):Int):=da y 7
 have d14:(y:Int).fdiv 14=((y/14:Nat):Int):=da y 14
 have e1:((y:Int).fdiv 3).fmod (10^(1+(y:Int).fmod 12).toNat)=((y/3%10^(1+y%12):Nat):Int):=by
  refine rwr (d3 ..) (rwr (m12 ..) (rwr (show (1+((y%12:Nat):Int)).toNat=1+y%12 from rfl) ?_))
  have:=bz (y/3) (10^(1+y%12))
  rw[B4]at this
  exact this
 have hF:y/3%10^(1+y%12)<10^12:=dG (bE _ (u5 (by decide))) (uZ (by decide) (aJ (bH (ll 1 _)) (bE y (by decide))))
 have n12:(0:Int)<=1+(y:Int).fmod 12:=by rw[m12];exact Int.add_nonneg (by decide) bW
 walk_at"R"
 refine rwr (m3 ..) ?_
 refine⟨by refine rwr (cS ..) ?_;show 1*_<=256;exact aJ (bH (Nat.one_mul _)) (bP (fG (k:=2) rfl rfl) rfl),?_⟩
 walk_at"R"
 refine⟨Int.ne_of_gt (Int.pow_pos (by decide)),?_⟩
 refine rwr (e1 ..) ?_
 generalize y/3%10^(1+y%12)=F at hF
 walk_at"R"
 refine aq g2 rfl ⟨F,1,rfl,rfl,cg hF (by decide),by decide,?_⟩
 walk_at"N"
 have hfl:(fg F 1 []).length<=12:=by
  refine rwr (kN ..) (rwr (bV ..) (rwr (iF ..) ?_))
  have:(fg F 0 []).length<=12:=aJ (qg 12 F 0 [] hF) (bL rfl)
  generalize (fg F 0 []).length=a at this
  induction a using Nat.casesOn with
  |zero=>decide
  |succ a=>refine rwr (lc (Nat.succ_le_succ (cR _)) ..) (rwr (iD ..) ?_);exact this
 have hf10:=pD _ F 1 [] (bG _) (by simp)
 have hdl:=db (fg F 1 [])
 have hz:(ay ((y%3:Nat):Int).toNat (dz [V.d (D.int 0)])).flatten++aw (fg F 1 [])=aw (ay (y%3) 0++fg F 1 []):=by
  refine rwr (cS ..) ?_
  show (ay (y%3) [D.int 0]).flatten++_=_
  refine rwr (B5 ..) ?_
  unfold aw
  refine rwr (eK ..) (rwr (List.map_replicate ..) ?_)
  rfl
 have hzl:=congrArg ke hz
 rw[bV,db,db,bV,iF]at hzl
 have hs:=aJ (bH hzl) (bp (k:=100000) (fG (k:=2) rfl rfl) hfl rfl)
 rw[<-hdl]at hs
 walk_at"R"
 refine rwr (hz ..) ?_
 refine aq g1 rfl ⟨_,rfl,rfl,by refine rwr (bV ..) (rwr (iF ..) ?_);exact bp (fG (k:=2) rfl rfl) hfl rfl,λf hm=>?_,?_⟩
 ·refine ao (cQ.mp hm) (λhm=>?_) λhm=>?_
  ·refine rwr ((List.mem_replicate.mp hm).2 ..) ?_;decide
  ·exact hf10 f hm
 walk_at"N"
 have hol:(iJ (ay (y%3) 0++fg F 1 [])).length<=14:=by unfold iJ;refine rwr (cV ..) (rwr (bV ..) (rwr (iF ..) ?_));exact bp (fG (k:=2) rfl rfl) hfl rfl
 generalize iJ (ay (y%3) 0++fg F 1 [])=fs at hol
 have e5:((y:Int).fdiv 5).fmod ((fs.length:Int)+1)=((y/5%(fs.length+1):Nat):Int):=by
  refine rwr (d5 ..) ?_
  have:=bz (y/5) (fs.length+1)
  rw[B6]at this
  exact this
 have hP:y/5%(fs.length+1)<=fs.length:=lk (bE _ (Nat.succ_pos _))
 have e7:((y:Int).fdiv 7).fmod 256=((y/7%256:Nat):Int):=by refine rwr (d7 ..) ?_;exact bz (y/7) 256
 have e14:((y:Int).fdiv 14).fmod 15=((y/14%15:Nat):Int):=by refine rwr (d14 ..) ?_;exact bz (y/14) 15
 walk_at"R"
 refine rwr (e5 ..) (rwr (e7 ..) ?_)
 generalize y/5%(fs.length+1)=P at hP
 refine⟨[(y/7%256).toUInt8],by show [D.int ((y/7%256:Nat):Int)]=[D.int (((y/7%256).toUInt8.toNat:Nat):Int)];exact rwr (cu (bE _ (by decide))) rfl,bL rfl,?_⟩
 by_cases hev:y%2=0
 ·have hev':(y:Int).fmod 2=0:=m2.trans (congrArg (λn:Nat=>(n:Int)) hev)
  walk_at"R"
  refine aq g3 rfl ⟨rfl,rfl,?_⟩
  walk_at"N"
  walk_at"R"
  refine rwr (e14 ..) ?_
  have hp:∀k<15,(fT[k]?).isSome=true/\((fT[k]?).getD []).length<=2:=by decide
  refine ak (hp (y/14%15) (bE _ (by decide))) λq1 q2=>?_
  refine elE1 (Lc.mp q1) λpc hpc=>?_
  rw[hpc]at q2
  refine .inl ⟨bW,cB.mpr (dG (bE _ (by decide)) (by decide)),bg (x:=.bytes pc) (by refine rwr (cS ..) (rwr (dO ..) (rwr (hpc ..) ?_));rfl) ?_⟩
  conv=>whnf
  exact Ao hw hol q2 hP hQ
 ·have hev':¬(y:Int).fmod 2=0:=λe=>hev (iE (m2.symm.trans e))
  walk_at"R"
  exact Ao hw hol (bL rfl) hP hQ
end

section
noncomputable def cY(a:Nat)(ds:List Nat):Nat:=ds.foldl (λa d=>a*10+d) a
theorem vF:∀(ds:List Nat) (a:Nat),a<=cY a ds
 |[],a=>bG _
 |d::r,a=>by
  have:=vF r (a*10+d)
  exact aJ (aJ (Nat.le_mul_of_pos_right a (by decide)) (jk _ d)) this
theorem wY:∀(ds:List Nat) (a:Nat),(∀d∈ds,d<10)->cY a ds<=1152921504606846975->gd a (ds.map (48 + ·))=cY a ds
 |[],a,_,_=>rfl
 |d::r,a,h,hv=>by
  have hd:=h d (.head _)
  have hv':cY (a*10+d) r<=1152921504606846975:=hv
  have hg:=vF r (a*10+d)
  refine rwr (eM ..) ?_;rewrite[gd];refine rwr (if_pos (by lia)) (rwr (show 48+d-48=d by lia) (rwr (if_neg (by lia)) ?_))
  exact wY r (a*10+d) (λx hx=>h x (.tail _ hx)) hv'
theorem se:∀(ds:List Nat) (a:Nat),cY a ds=a*10^ds.length+cY 0 ds
 |[],a=>by simp[cY]
 |d::r,a=>by
  show cY (a*10+d) r=_
  have h2:cY 0 (d::r)=cY d r:=by show cY (0*10+d) r=_;exact rwr (B7 ..) (rwr (iD ..) rfl)
  refine rwr (h2 ..) (rwr (se r (a*10+d) ..) (rwr (se r d ..) (rwr (iA ..) (rwr (mQ ..) ?_))))
  exact rwr (Nat.add_mul ..) (rwr (p9 a 10 ..) (rwr (pX 10 (10^r.length) ..) (rwr (uU ..) rfl)))
theorem K'(n least:Nat)(out:List Nat):cY 0 (fg n least out)=n*10^out.length+cY 0 out:=by
 have z:∀{n:Nat} {out:List Nat},¬(0<n\/out.length<least)->n=0:=λc=>BX λq=>c (.inl q)
 refine nM (least:=least) (P:=λn out=>cY 0 (fg n least out)=n*10^out.length+cY 0 out) (λn out c=>?_) (λn out c ih=>?_) n out
 ·exact rwr (fX c ..) (rwr (z c ..) (rwr (B7 ..) (rwr (iD ..) rfl)))
 ·refine rwr (f9 c ..) (rwr (ih ..) (rwr (iA ..) (rwr (mQ ..) ?_)))
  have h2:cY 0 (n%10::out)=cY (n%10) out:=by show cY (0*10+n%10) out=_;exact rwr (B7 ..) (rwr (iD ..) rfl)
  refine rwr (h2 ..) (rwr (se out (n%10) ..) ?_)
  have h3:=Nat.div_add_mod n 10
  have h4:n*10^out.length=(10*(n/10)+n%10)*10^out.length:=by exact rwr (h3 ..) rfl
  exact rwr (h4 ..) (rwr (Nat.add_mul ..) (rwr (pX (10^out.length) 10 ..) (rwr (aM (p9 ..)) (rwr (pX (n/10) 10 ..) (rwr (uU ..) rfl)))))
theorem v4{k:Nat}(h:6-k+k=0):False:=by lia
theorem wW{n:Nat}(hn:n<10^16):cP (aZ n 6)=n:=by
 have hv:cY 0 (fg n 6 [])=n:=by refine rwr (K' n 6 [] ..) ?_;simp[cY]
 have hne:aZ n 6≠[]:=by
  unfold aZ
  refine rwr (kN ..) ?_
  intro q
  have:=congrArg ke q
  rw[cV,bV,iF,B8]at this
  exact v4 this
 unfold cP
 refine rwr (if_neg hne ..) ?_
 unfold aZ
 rw[wY _ 0 (pD _ n 6 [] (bG _) (by simp)) (by rw[hv];lia),hv]
theorem zO{n c:Nat}(h:c∈aZ n 6):48<=c/\c<=57:=by
 unfold aZ at h
 refine elE1 (aW.mp h) λf=>ae λhf z0=>?_;subst z0
 have:=pD _ n 6 [] (bG _) (by simp) f hf
 lia
theorem H0(n:Nat):∃c r,aZ n 6=c::r/\48<=c/\c<=57:=by
 cases q:aZ n 6 with
 |nil =>
  exfalso
  unfold aZ at q
  rw[kN]at q
  have:=congrArg ke q
  rw[cV,bV,iF,B8]at this
  exact v4 this
 |cons c r=>exact(ex2 c r ⟨rfl,zO (by rw[q];exact .head _)⟩)
theorem qf:lit "CURRENT" = [67,85,82,82,69,78,84]:=by decide +kernel
theorem rs:lit "MANIFEST-" = [77,65,78,73,70,69,83,84,45]:=by decide +kernel
theorem zL:lit "wal-" = [119,97,108,45]:=by decide +kernel
theorem lB:lit ".log" = [46,108,111,103]:=by decide +kernel
theorem rG:lit ".ldb" = [46,108,100,98]:=by decide +kernel
theorem Bf:lit ".dbtmp" = [46,100,98,116,109,112]:=by decide +kernel
theorem rc{c:Nat}{a r b:List Nat}(hc:c≠67)(hm:c≠77)(ha:46∉c::a)(e:r=c::a):pN (r++46::b) =
  if cP r<0 then (0,0) else if 46::b=lit ".log" then (3,cP r) else if 46::b=lit ".ldb" then (4,cP r) else if 46::b=lit ".dbtmp" then (5,cP r) else (0,0):=by
 have hf:cz (S (r++46::b)) (S [46])=r.length:=qC (by refine rwr (e ..) ?_;exact ha)
 unfold pN
 rw[if_neg,if_neg,if_neg (by rw[hf];lia),hf,cS,List.take_left,u6]
 ·refine rwr (rs ..) (rwr (e ..) ?_);intro q;simp at q;exact hm q.1
 ·rw[qf,e];intro q;simp at q;exact hc q.1
theorem A9{c:Nat}{a:List Nat}(hc:c≠67)(hm:c≠77)(ha:46∉c::a):pN (c::a)=(0,0):=by
 unfold pN
 rw[if_neg,if_neg,if_pos (by rw[sE ha];decide)]
 ·refine rwr (rs ..) ?_;intro q;simp at q;exact hm q.1
 ·refine rwr (qf ..) ?_;intro q;simp at q;exact hc q.1
theorem sx(n:Nat):46∉aZ n 6:=λq=>by have:=zO q;lia
theorem IB(n:Nat):pN (lit "wal-" ++ aZ n 6)=(0,0):=by
 have:=sx n
 refine rwr (zL ..) ?_
 exact A9 (by decide) (by decide) (by simp;exact this)
theorem Jv(n:Nat):pN (lit "wal-" ++ aZ n 6++lit ".log")=(0,0):=by
 have:=sx n
 refine rwr (lB ..) (rwr (zL ..) (rwr (rc (r:=[119,97,108,45]++aZ n 6) (c:=119) (a:=[97,108,45]++aZ n 6) (by decide) (by decide) (by simp;exact this) rfl) ?_));rw[if_pos]
 unfold cP
 refine rwr (if_neg (by simp)) ?_
 show gd 0 (119::_)<0
 rw[gd,if_neg (by decide)]
 decide
theorem Hz{n:Nat}(hn:n<10^16):pN (lit "MANIFEST-" ++ aZ n 6)=(2,(n:Int)):=by
 unfold pN
 have hl:(lit "MANIFEST-").length=9:=by decide +kernel
 rw[if_neg,if_pos (by rw[<-hl,List.take_left]),<-hl,u6,wW hn,if_neg (by lia)]
 refine rwr (qf ..) (rwr (rs ..) ?_);intro q;simp at q
theorem t_{n:Nat}(hn:n<10^16)(b:List Nat):pN (aZ n 6++46::b)=if 46::b=lit ".log" then (3,(n:Int)) else if 46::b=lit ".ldb" then (4,(n:Int)) else if 46::b=lit ".dbtmp" then (5,(n:Int)) else (0,0):=by
 refine elE2 (H0 n) λc r=>al λe h1 h2=>?_
 have:=sx n
 rw[rc (c:=c) (a:=r) (by lia) (by lia) (by rw[<-e];exact this) e,wW hn,if_neg (by lia)]
theorem Jf{n:Nat}(hn:n<10^16):pN (aZ n 6++lit ".log")=(3,(n:Int)):=by
 exact rwr (lB ..) (rwr (t_ hn ..) (rwr (if_pos lB.symm ..) rfl))
theorem Jy{n:Nat}(hn:n<10^16):pN (aZ n 6++lit ".ldb")=(4,(n:Int)):=by
 rw[rG,t_ hn,if_neg (by rw[lB];decide),if_pos rG.symm]
theorem E9{n:Nat}(hn:n<10^16):pN (aZ n 6++lit ".dbtmp")=(5,(n:Int)):=by
 rw[Bf,t_ hn,if_neg (by rw[lB];decide),if_neg (by rw[rG];decide),if_pos Bf.symm]
theorem HZ:pN (lit "RAFT")=(0,0):=by
 have e:lit "RAFT" = [82,65,70,84]:=by decide +kernel
 refine rwr (e ..) ?_;exact A9 (by decide) (by decide) (by decide)
theorem Fg:pN (lit "RAFT.new")=(0,0):=by
 have e:lit "RAFT.new" = [82,65,70,84]++46::[110,101,119]:=by decide +kernel
 refine rwr (e ..) (rwr (rc (r:=[82,65,70,84]) (c:=82) (a:=[65,70,84]) (by decide) (by decide) (by decide) rfl) ?_);rw[if_pos]
 decide
end

section
variable {Γ:Addr->aH->Prop}{O:bf}{OS:bJ}{args:List V}{own:List af}{Q:V->List af->Prop}{X:Nat->Prop}
theorem iX{x y:D}{k:Bool->Prop}(he:x=y)(hl:ip x x)(h1:gI 4 x)(hk:k false):ip x y/\gI 4 x/\gI 4 y/\dU .NotEq (x=y) k:=by
 subst he
 exact⟨hl,h1,h1,λr hr=>by refine rwr (hr.mpr rfl ..) ?_;exact hk⟩
noncomputable def oP(Γ:Addr->aH->Prop):bJ:=λU st Q X=>∃items,getN st.loc 2=some (some (.d (.list items)))/\∃J:Nat->St->Prop,J 0 st /\
 (∀j d st2,items[j]? = some d->J j st2->∃ds,d=.tup ds/\ds.length=4/\aj Γ bT gr n7 X ⟨iW st2.loc [3,4,5,6] ds,st2.own⟩ (ey (J (j+1)) Q))/\∀st2,J items.length st2->Q .next st2
inductive jd(args:List V)(own:List af)(Q:V->List af->Prop)(X:Nat->Prop):Prop
 |mk (n:Nat) (_:args=[.d (.int n)]) (_:own=[]) (_:n<10^16) (_:Q (.d (.bool true)) []):jd args own Q X
theorem nb{n kd:Nat}{nm h t:List Nat}{v1 v2:Option V}{X:Nat->St->Prop}{Q:Fl->St->Prop}(g1:Γ 634 ls)(g2:Γ 601 ga)(hn:n<10^16)(hnm:nm=h++aZ n 6++t)(hp:pN nm=((kd:Int),(n:Int)))(hh:h.length<=20)(ht:t.length<=20)
  (hQ:Q .next ⟨[some (.d (.int n)),v1,v2,some (.d (.str (S nm))),some (.d (.str (S h))),some (.d (.str (S t))),some (.d (.int kd))],[]⟩):
  aj Γ bT gr n7 X ⟨[some (.d (.int n)),v1,v2,some (.d (.str (S nm))),some (.d (.str (S h))),some (.d (.str (S t))),some (.d (.int kd))],[]⟩ Q:=by
 have hdl:=jc (n:=n) (by lia) 6
 walk_at"R"
 refine aq g1 rfl ⟨h,t,n,rfl,rfl,by lia,by lia,by lia,?_⟩
 walk_at"N"
 walk_at"R"
 rename _=>hr;rename Bool=>r
 have hr1:r=true:=hr.mpr (by exact rwr (hnm ..) rfl)
 subst hr1
 walk_at"R"
 refine aq g2 rfl ⟨nm,rfl,rfl,by refine rwr (hnm ..) ?_;simp;lia,?_⟩
 refine rwr (hp ..) ?_
 walk_at"N"
 walk_at"R"
 refine iX rfl (by repeat' first | exact trivial | apply dg) (by repeat' first | exact trivial | apply dg) ?_
 walk_at"R"
 exact hQ
inductive xM(n:Nat)(st:St):Prop
 |mk (v1 v2 x3 x4 x5 x6:Option V) (_:st=⟨[some (.d (.int n)),v1,v2,x3,x4,x5,x6],[]⟩):xM n st
theorem DF(g1:Γ 634 ls)(g2:Γ 601 ga)(g3:Γ 482 (d8 (lit "wal-") []))(g4:Γ 587 (d8 (lit "MANIFEST-") []))(g5:Γ 566 (d8 [] (lit ".log")))(g6:Γ 573 (d8 [] (lit ".ldb")))(g7:Γ 580 (d8 [] (lit ".dbtmp")))
  (h:jd args own Q X):aj Γ bT (oP Γ) rg (λCn U=>X Cn) ⟨args.map some++ay (yE.length-1) Bx,own⟩ (aC own.length Q):=by
 obtain⟨n,rfl,rfl,hn,hQ⟩:=h
 show aj Γ bT (oP Γ) rg _ ⟨[some (.d (.int n)),Bx,Bx,Bx,Bx,Bx,Bx],[]⟩ _
 have hdl:=jc (n:=n) (by lia) 6
 have l4:(lit "wal-").length=4:=by decide +kernel
 have l9:(lit "MANIFEST-").length=9:=by decide +kernel
 walk_at"R"
 refine aq g3 rfl ⟨n,rfl,rfl,hn,?_⟩
 refine rwr (bA ..) ?_
 walk_at"N"
 walk_at"R"
 refine aq g1 rfl ⟨lit "wal-",lit "",n,rfl,rfl,by lia,by lia,by decide +kernel,?_⟩
 walk_at"N"
 walk_at"R"
 rename _=>hr;rename Bool=>r
 have hr1:r=true:=hr.mpr (by exact rwr (show lit "" = [] by decide +kernel) (rwr (bA ..) rfl))
 subst hr1
 walk_at"R"
 refine aq g2 rfl ⟨_,rfl,rfl,by simp;lia,?_⟩
 refine rwr (IB ..) ?_
 walk_at"N"
 walk_at"R"
 refine iX rfl (by repeat' first | exact trivial | apply dg) (by repeat' first | exact trivial | apply dg) ?_
 walk_at"R"
 have q4:(aa ".log").length=4:=by decide +kernel
 have m4:(lit ".log").length=4:=by decide +kernel
 refine⟨by refine rwr (dH ..) (rwr (bV ..) ?_);lia,?_⟩
 refine rwr (fU ".log" ..) (rwr (gv ..) ?_)
 walk_at"R"
 refine aq g2 rfl ⟨_,rfl,rfl,by simp;lia,?_⟩
 refine rwr (Jv ..) ?_
 walk_at"N"
 walk_at"R"
 refine iX rfl (by repeat' first | exact trivial | apply dg) (by repeat' first | exact trivial | apply dg) ?_
 walk_at"R"
 refine aq g4 rfl ⟨n,rfl,rfl,hn,?_⟩
 walk_at"N"
 walk_at"R"
 refine aq g5 rfl ⟨n,rfl,rfl,hn,?_⟩
 walk_at"N"
 walk_at"R"
 refine aq g6 rfl ⟨n,rfl,rfl,hn,?_⟩
 walk_at"N"
 walk_at"R"
 refine aq g7 rfl ⟨n,rfl,rfl,hn,?_⟩
 walk_at"N"
 walk_at"R"
 refine⟨λU st=>xM n st,⟨_,_,_,_,_,_,rfl⟩,?_,?_⟩
 ·refine λj d st2 hd z0=>?_;rcases z0 with ⟨v1,v2,x3,x4,x5,x6,rfl⟩
  have e0:lit "" = []:=by decide +kernel
  have lt:∀x∈["", ".log", ".ldb", ".dbtmp", "MANIFEST-"],(lit x).length<=20:=by decide +kernel
  match j,hd with
  |0,hd =>
   injection hd with hd
   subst hd
   refine⟨_,rfl,rfl,?_⟩
   exact nb (kd:=2) (h:=lit "MANIFEST-") (t:=lit "") g1 g2 hn (by exact rwr (e0 ..) rfl) (by refine rwr (bA ..) ?_;exact Hz hn) (lt _ (by simp)) (lt _ (by simp)) ⟨_,_,_,_,_,_,rfl⟩
  |1,hd =>
   injection hd with hd
   subst hd
   refine⟨_,rfl,rfl,?_⟩
   exact nb (kd:=3) (h:=lit "") (t:=lit ".log") g1 g2 hn (by refine rwr (e0 ..) ?_;rfl) (Jf hn) (lt _ (by simp)) (lt _ (by simp)) ⟨_,_,_,_,_,_,rfl⟩
  |2,hd =>
   injection hd with hd
   subst hd
   refine⟨_,rfl,rfl,?_⟩
   exact nb (kd:=4) (h:=lit "") (t:=lit ".ldb") g1 g2 hn (by refine rwr (e0 ..) ?_;rfl) (Jy hn) (lt _ (by simp)) (lt _ (by simp)) ⟨_,_,_,_,_,_,rfl⟩
  |3,hd =>
   injection hd with hd
   subst hd
   refine⟨_,rfl,rfl,?_⟩
   exact nb (kd:=5) (h:=lit "") (t:=lit ".dbtmp") g1 g2 hn (by refine rwr (e0 ..) ?_;rfl) (E9 hn) (lt _ (by simp)) (lt _ (by simp)) ⟨_,_,_,_,_,_,rfl⟩
  |j+4,hd=>cases hd
 ·refine λst2 z0=>?_;rcases z0 with ⟨v1,v2,x3,x4,x5,x6,rfl⟩
  walk_at"R"
  exact be 0 rfl rfl rfl hQ
end

section
theorem oj{xs r:List UInt8}{a:Nat}{c:UInt8}(h:xs.drop a=c::r):xs[a]? = some c:=by
 have:=congrArg (·[0]?) h
 simpa[us] using this
theorem fK{xs r:List UInt8}{a n:Nat}(hn:n<16384)(h:xs.drop a=az n++r):br xs a n/\xs.drop (a+el n)=r:=by
 constructor
 ·by_cases c:n<128
  ·rw[ew c]at h
   exact .inl ⟨c,oj h⟩
  ·rw[j3 (by lia),ew (by lia)]at h
   refine .inr ⟨by lia,hn,oj h,?_⟩
   have:=congrArg (·[1]?) h
   simpa[us] using this
 ·rw[<-List.drop_drop,h,<-cr hn,u6]
theorem gR{xs r:List UInt8}{a n j:Nat}(hn:n<16384)(h:xs.drop a=(az n++r).take j):(j<el n/\cC xs a)\/(∃m,j=el n+m/\br xs a n/\xs.drop (a+el n)=r.take m):=by
 by_cases c:el n<=j
 ·refine elE1 (Nat.exists_eq_add_of_le c) λm z0=>?_;subst z0
  have e:(az n++r).take (el n+m)=az n++r.take m:=by rw[List.take_append,cr hn,mG (by rw[cr hn];exact c),pL]
  rw[e]at h
  refine ak (fK hn h) λh1 h2=>?_
  exact .inr ⟨m,rfl,h1,h2⟩
 ·left
  have c2:j<el n:=uE c
  refine⟨c2,?_⟩
  unfold el at c2
  split at c2
  ·have:j=0:=by lia
   subst this
   rw[pZ]at h
   exact .inl (LI.mp h)
  ·refine ao (show j=0\/j=1 by lia) (λz0=>?_) λz1=>?_ <;>(try subst z0) <;>(try subst z1)
   ·rw[pZ]at h
    exact .inl (LI.mp h)
   ·rw[j3 (by lia),List.cons_append,List.take_succ_cons,pZ]at h
    have hl:=congrArg ke h
    rw[gE,uV]at hl
    refine .inr ⟨AS hl,_,?_,oj h⟩
    refine rwr (cu (by lia)) ?_;lia
theorem xo{xs b r:List UInt8}{a:Nat}(hb:b.length<16384)(h:xs.drop a=az b.length++(b++r)):gZ xs a b/\xs.drop (a+el b.length+b.length)=r:=by
 refine ak (fK hb h) λh1 h2=>?_
 have hl:=congrArg ke h2
 rw[gE,bV]at hl
 have h3:=h1.lt
 refine⟨⟨h1,by refine rwr (aM (u4 h3.2 ..)) (rwr (hl ..) ?_);exact jm (jk _ _) _,by refine rwr (h2 ..) ?_;simp⟩,by exact rwr (aM (List.drop_drop ..)) (rwr (h2 ..) (rwr (u6 ..) rfl))⟩
theorem AU{xs b:List UInt8}{a j:Nat}(hb:b.length<16384)(h:xs.drop a=(az b.length++b).take j)(hj:j<el b.length+b.length):ia xs a:=by
 refine ao (gR hb h) (ae λU h1=>?_) (uE1 λm=>al λz0 h1 h2=>?_) <;>(try subst z0)
 ·exact .inl h1
 ·refine .inr ⟨_,h1,?_⟩
  have hl:=congrArg ke h2
  have hm:m<b.length:=Nat.lt_of_add_lt_add_left hj
  rw[gE,fO,gq (ci hm)]at hl
  refine rwr (aM (pW h1.lt.2 ..)) (rwr (hl ..) (rwr (ll m ..) ?_))
  exact Nat.add_lt_add_left hm _
theorem Av{xs r:List UInt8}:∀{ns:List Nat} {a:Nat},(∀n∈ns,n<16384)->xs.drop a=dN ns++r->∃e,gc xs a ns e/\xs.drop e=r
 |[],a,_,h=>⟨a,rfl,h⟩
 |n::t,a,hn,h=>by
  have e:dN (n::t)=az n++dN t:=by unfold dN;exact rwr (List.flatMap_cons ..) rfl
  rw[e,e_]at h
  refine ak (fK (hn n (.head _)) h) λh1 h2=>?_
  refine elE1 (Av (λm hm=>hn m (.tail _ hm)) h2) λe'=>ae λh3 h4=>?_
  exact⟨e',⟨h1,h3⟩,h4⟩
theorem nW{xs r:List UInt8}{ns:List Nat}{a:Nat}(ho:bq ns)(h:xs.drop a=dw ns++r):∃e,kn xs a ns e/\xs.drop e=r:=by
 unfold dw at h
 rw[e_]at h
 refine ak (fK (by have:=ho.1;lia) h) λh1 h2=>?_
 refine elE1 (Av ho.2.2 h2) λe=>ae λh3 h4=>?_
 exact⟨e,⟨h1,h3⟩,h4⟩
theorem H1{a b c d:List Nat}{q:Bool}(ha:bq a)(hb:bq b)(hc:bq c)(hd:bq d):lT (eG a b c d q) a b c d q:=by
 have h0:(eG a b c d q).drop 0=dw a++(dw b++(dw c++(dw d++[jE q]))):=by unfold eG;simp
 refine elE1 (nW ha h0) λa1=>ae λi1 h1=>?_
 refine elE1 (nW hb h1) λa2=>ae λi2 h2=>?_
 refine elE1 (nW hc h2) λa3=>ae λi3 h3=>?_
 refine elE1 (nW hd h3) λa4=>ae λi4 h4=>?_
 have hl:=congrArg ke h4
 rw[gE,uV]at hl
 exact(dZ a1 a2 a3 a4 ⟨i1,i2,i3,i4,oj h4,(AS hl).symm⟩)
noncomputable def c_(i t:Nat)(cb:List UInt8):List UInt8:=4::(az i++(az t++(az cb.length++cb)))
noncomputable def eW(t v c:Nat):List UInt8:=1::(az t++(az v++az c))
noncomputable def fE(t i k:Nat)(b:List UInt8):List UInt8:=2::(az t++(az i++(az k++(az b.length++b))))
theorem t9{i t:Nat}{cb:List UInt8}(hi:i<16384)(ht:t<16384)(hc:cb.length<16384):(c_ i t cb).length=1+el i+el t+el cb.length+cb.length:=by
 unfold c_;simp only[iA,bV,cr hi,cr ht,cr hc];lia
theorem qy{t v c:Nat}(ht:t<16384)(hv:v<16384)(hc:c<16384):(eW t v c).length=1+el t+el v+el c:=by
 unfold eW;simp only[iA,bV,cr ht,cr hv,cr hc];lia
theorem KL{i t:Nat}{cb r:List UInt8}(hi:i<16384)(ht:t<16384)(hc:cb.length<16384):re (c_ i t cb++r) i t cb (c_ i t cb).length:=by
 have h0:(c_ i t cb++r).drop 1=az i++(az t++(az cb.length++(cb++r))):=by unfold c_;simp
 refine ak (fK hi h0) λi1 h1=>?_
 refine ak (fK ht h1) λi2 h2=>?_
 refine ak (xo hc h2) λi3 h3=>?_
 exact⟨i1,i2,i3,by exact rwr (t9 hi ht hc ..) rfl⟩
theorem Ck{i t k:Nat}{cb:List UInt8}(hi:i<16384)(ht:t<16384)(hc:cb.length<16384)(hk:k<(c_ i t cb).length)(h1:1<=k):kv ((c_ i t cb).take k):=by
 rw[t9 hi ht hc]at hk
 refine elE1 (B9 h1) λk z0=>?_;subst z0
 have h0:((c_ i t cb).take (k+1)).drop 1=(az i++(az t++(az cb.length++cb))).take k:=by
  refine rwr (pV ..) ?_;unfold c_;simp
 refine ao (gR hi h0) (ae λU h=>?_) (uE1 λm1=>al λz0 i1 h=>?_) <;>(try subst z0)
 ·exact .inl h
 refine .inr ⟨i,i1,?_⟩
 refine ao (gR ht h) (ae λU h=>?_) (uE1 λm2=>al λz0 i2 h=>?_) <;>(try subst z0)
 ·exact .inl h
 exact .inr ⟨t,i2,AU hc h (by lia)⟩
theorem A_{t v c:Nat}{r:List UInt8}(ht:t<16384)(hv:v<16384)(hc:c<16384):h_ (eW t v c++r) t v c (eW t v c).length:=by
 have h0:(eW t v c++r).drop 1=az t++(az v++(az c++r)):=by unfold eW;simp
 refine ak (fK ht h0) λi1 h1=>?_
 refine ak (fK hv h1) λi2 h2=>?_
 refine ak (fK hc h2) λi3 h3=>?_
 exact⟨i1,i2,i3,by exact rwr (qy ht hv hc ..) rfl⟩
theorem Cz{t v c k:Nat}(ht:t<16384)(hv:v<16384)(hc:c<16384)(hk:k<(eW t v c).length)(h1:1<=k):kR ((eW t v c).take k):=by
 rw[qy ht hv hc]at hk
 refine elE1 (B9 h1) λk z0=>?_;subst z0
 have h0:((eW t v c).take (k+1)).drop 1=(az t++(az v++(az c++[]))).take k:=by
  refine rwr (pV ..) ?_;unfold eW;simp
 refine ao (gR ht h0) (ae λU h=>?_) (uE1 λm1=>al λz0 i1 h=>?_) <;>(try subst z0)
 ·exact .inl h
 refine .inr ⟨t,i1,?_⟩
 refine ao (gR hv h) (ae λU h=>?_) (uE1 λm2=>al λz0 i2 h=>?_) <;>(try subst z0)
 ·exact .inl h
 refine .inr ⟨v,i2,?_⟩
 refine ao (gR hc h) (ae λU h=>?_) (uE1 λm3=>al λz0 i3 h=>?_) <;>(try subst z0)
 ·exact h
 ·lia
theorem sZ{t i k:Nat}{b:List UInt8}(ht:t<16384)(hi:i<16384)(hk:k<16384)(hb:b.length<16384):(fE t i k b).length=1+(el t+el i+el k+el b.length+b.length):=by
 unfold fE;simp only[iA,bV,cr ht,cr hi,cr hk,cr hb];lia
theorem AG{t i k:Nat}{b r:List UInt8}(ht:t<16384)(hi:i<16384)(hk:k=0\/k=2)(hb:b.length<16384):gG ((fE t i k b++r).drop 1) t i k b ((fE t i k b).length-1):=by
 have hk':k<16384:=by lia
 have h0:((fE t i k b++r).drop 1).drop 0=az t++(az i++(az k++(az b.length++(b++r)))):=by unfold fE;simp
 refine ak (fK ht h0) λi1 h1=>?_
 refine ak (fK hi h1) λi2 h2=>?_
 refine ak (fK hk' h2) λi3 h3=>?_
 refine ak (xo hb h3) λi4 h4=>?_
 simp only[iD]at i1 i2 i3 i4
 exact⟨i1,i2,i3,hk,i4,by refine rwr (sZ ht hi hk' hb ..) ?_;lia⟩
theorem CX{t i k j:Nat}{b:List UInt8}(ht:t<16384)(hi:i<16384)(hk:k=0\/k=2)(hb:b.length<16384)(hj:j<(fE t i k b).length)(h1:1<=j):kT (((fE t i k b).take j).drop 1):=by
 have hk':k<16384:=by lia
 rw[sZ ht hi hk' hb]at hj
 refine elE1 (B9 h1) λj z0=>?_;subst z0
 have h0:(((fE t i k b).take (j+1)).drop 1).drop 0=(az t++(az i++(az k++(az b.length++b)))).take j:=by
  refine rwr (List.drop_zero ..) (rwr (pV ..) ?_);unfold fE;simp
 refine ao (gR ht h0) (ae λU h=>?_) (uE1 λm1=>al λz0 i1 h=>?_) <;>(try subst z0)
 ·exact .inl h
 simp only[iD]at i1 h
 refine .inr ⟨t,i1,?_⟩
 refine ao (gR hi h) (ae λU h=>?_) (uE1 λm2=>al λz0 i2 h=>?_) <;>(try subst z0)
 ·exact .inl h
 refine .inr ⟨i,i2,?_⟩
 refine ao (gR hk' h) (ae λU h=>?_) (uE1 λm3=>al λz0 i3 h=>?_) <;>(try subst z0)
 ·exact .inl h
 exact .inr ⟨k,i3,hk,AU hb h (by lia)⟩
end

section
set_option hygiene false in
local macro_rules | `(tactic| walk_at "X") => `(tactic| refine Or.inl (And.intro (by decide) (And.intro (by decide) (?_))))

section
variable {Γ:Addr->aH->Prop}{O:bf}{OS:bJ}{args:List V}{own:List af}{Q:V->List af->Prop}{X:Nat->Prop}
noncomputable def yj:Sx:=(.asg 14 (.call (aa "_law_draw") 608 (.cons (.v 0) (.cons (.bin .Add (.k (.int (3))) (.v 13)) .nil))))
noncomputable def wc:Sx:=(.asg 15 (.bin .FloorDiv (.v 14) (.k (.int (200)))))
noncomputable def yB:Sx:=(.asg 16 (.sub (.tup (.cons (.k (.int (4))) (.cons (.k (.int (1))) (.cons (.k (.int (2))) (.cons (.k (.int (1))) .nil))))) (.v 13)))
noncomputable def A7:Sx:=(.ite (.cmp .Eq (.bin .Mod (.v 14) (.k (.int (5)))) (.k (.int (4)))) (.cons (.asg 16 (.sub (.tup (.cons (.k (.int (1))) (.cons (.k (.int (2))) (.cons (.k (.int (4))) (.cons (.k (.int (0))) (.cons (.k (.int (7))) .nil)))))) (.bin .Mod (.bin .FloorDiv (.v 14) (.k (.int (5)))) (.k (.int (5)))))) .nil) .nil)
noncomputable def zH:Sx:=(.asg 17 (.tup (.cons (.bin .Add (.v 4) (.bin .Mod (.v 15) (.k (.int (200))))) (.cons (.bin .Mod (.bin .FloorDiv (.v 15) (.k (.int (3)))) (.k (.int (5)))) (.cons (.bin .Add (.v 3) (.bin .Mod (.bin .FloorDiv (.v 15) (.k (.int (7)))) (.k (.int (3))))) .nil)))))
noncomputable def yo:Sx:=(.asg 18 (.v 9))
noncomputable def xy:Sx:=(.ite (.cmp .Eq (.v 16) (.k (.int (1)))) (.cons (.asg 18 (.bin .Add (.bin .Add (.bin .Add (.k (.bytes [1])) (.call (aa "_law_put") 665 (.cons (.sub (.v 17) (.k (.int (0)))) .nil))) (.call (aa "_law_put") 665 (.cons (.sub (.v 17) (.k (.int (1)))) .nil))) (.call (aa "_law_put") 665 (.cons (.sub (.v 17) (.k (.int (2)))) .nil)))) (.cons (.ite (.cmp .NotEq (.call (aa "hard_record") 489 (.cons (.call (aa "HardState") 408 (.cons (.sub (.v 17) (.k (.int (0)))) (.cons (.sub (.v 17) (.k (.int (1)))) (.cons (.sub (.v 17) (.k (.int (2)))) .nil)))) .nil)) (.v 18)) (.cons (.ret (.k (.bool false))) .nil) .nil) .nil)) .nil)
noncomputable def wI:Sx:=(.asg 19 (.tup (.cons (.sub (.v 17) (.k (.int (0)))) (.cons (.bin .Add (.bin .Add (.v 3) (.k (.int (1)))) (.bi 0 (.cons (.v 11) .nil))) (.cons (.bin .Mult (.bin .Mod (.v 15) (.k (.int (2)))) (.k (.int (2)))) (.cons (.bi 1 (.cons (.bin .Mult (.lst (.cons (.bin .Mod (.v 15) (.k (.int (251)))) .nil)) (.bin .Mod (.v 15) (.k (.int (3))))) .nil)) .nil))))))
noncomputable def A8:Sx:=(.ite (.cmp .Eq (.v 16) (.k (.int (2)))) (.cons (.asg 18 (.bin .Add (.bin .Add (.bin .Add (.bin .Add (.k (.bytes [2])) (.call (aa "_law_put") 665 (.cons (.sub (.v 19) (.k (.int (0)))) .nil))) (.call (aa "_law_put") 665 (.cons (.sub (.v 19) (.k (.int (1)))) .nil))) (.bi 1 (.cons (.lst (.cons (.sub (.v 19) (.k (.int (2)))) (.cons (.bi 0 (.cons (.sub (.v 19) (.k (.int (3)))) .nil)) .nil))) .nil))) (.sub (.v 19) (.k (.int (3)))))) .nil) (.cons (.ite (.cmp .Eq (.v 16) (.k (.int (0)))) (.cons (.asg 18 (.k (.bytes []))) .nil) (.cons (.ite (.cmp .Eq (.v 16) (.k (.int (7)))) (.cons (.asg 18 (.bi 1 (.cons (.lst (.cons (.sub (.tup (.cons (.k (.int (0))) (.cons (.k (.int (3))) (.cons (.k (.int (5))) (.cons (.k (.int (7))) (.cons (.k (.int (64))) (.cons (.k (.int (129))) (.cons (.k (.int (255))) .nil)))))))) (.bin .Mod (.v 15) (.k (.int (7))))) (.cons (.k (.int (1))) (.cons (.k (.int (1))) (.cons (.k (.int (1))) .nil))))) .nil))) .nil) .nil) .nil)) .nil))
noncomputable def ve:Sx:=(.asg 20 (.or (.cons (.cmp .Eq (.v 16) (.k (.int (1)))) (.cons (.cmp .Eq (.v 16) (.k (.int (2)))) (.cons (.cmp .Eq (.v 16) (.k (.int (4)))) .nil)))))
noncomputable def Br:Sx:=(.asg 21 (.bin .Mod (.bin .FloorDiv (.v 14) (.k (.int (25)))) (.k (.int (8)))))
noncomputable def yL:Sx:=(.ite (.cmp .Eq (.v 21) (.k (.int (1)))) (.cons (.asg 18 (.slc (.v 18) .nil (.bin .Mod (.v 15) (.bi 6 (.cons (.k (.int (1))) (.cons (.bi 0 (.cons (.v 18) .nil)) .nil)))))) (.cons (.asg 20 (.k (.bool false))) .nil)) (.cons (.ite (.and (.cons (.cmp .Eq (.v 21) (.k (.int (2)))) (.cons (.cmp .NotEq (.v 16) (.k (.int (0)))) .nil))) (.cons (.asg 18 (.bin .Add (.v 18) (.bi 1 (.cons (.lst (.cons (.bin .Mod (.v 15) (.k (.int (256)))) .nil)) .nil)))) (.cons (.asg 20 (.k (.bool false))) .nil)) .nil) .nil))
noncomputable def wm:Sx:=(.asg 22 (.and (.cons (.v 20) (.cons (.ite (.cmp .Eq (.v 13) (.k (.int (0)))) (.cmp .Eq (.v 16) (.k (.int (4)))) (.ite (.cmp .Eq (.v 13) (.k (.int (1)))) (.cmp .Eq (.v 16) (.k (.int (1)))) (.cmp .NotEq (.v 16) (.k (.int (4)))))) .nil))))
noncomputable def Bd:Sx:=(.asg 23 (.k (.bool false)))
noncomputable def FF:Sx:=(.orc 1)
noncomputable def D_:Sx:=(.ite (.cmp .Eq (.v 23) (.v 22)) (.cons (.ret (.k (.bool false))) .nil) .nil)
noncomputable def Fv:Sx:=(.ite (.v 23) (.cons (.ret (.k (.bool true))) .nil) .nil)
noncomputable def KR:Sx:=(.ite (.cmp .Eq (.v 16) (.k (.int (1)))) (.cons (.asg 10 (.v 17)) (.cons (.asg 12 (.bin .Add (.v 12) (.v 11))) (.cons (.asg 11 .lst0) .nil))) (.cons (.ite (.cmp .Eq (.v 16) (.k (.int (2)))) (.cons (.ex (.bm (.v 11) 0 (.cons (.v 19) .nil))) .nil) .nil) .nil))
noncomputable def xt:Sx:=(.ite (.cmp .NotEq (.tup (.cons (.attr (.v 1) 13) (.cons (.attr (.v 1) 14) (.cons (.attr (.v 1) 15) .nil)))) (.tup (.cons (.bin .Add (.v 13) (.k (.int (1)))) (.cons (.v 3) (.cons (.v 4) .nil))))) (.cons (.ret (.k (.bool false))) .nil) .nil)
noncomputable def zI:Sx:=(.ite (.or (.cons (.cmp .NotEq (.meth (.attr (.v 1) 16) 7 .nil) (.tup (.cons (.bi 7 (.cons (.v 5) .nil)) (.cons (.bi 7 (.cons (.v 6) .nil)) (.cons (.tup .nil) (.cons (.tup .nil) (.cons (.v 7) .nil))))))) (.cons (.cmp .NotEq (.meth (.attr (.v 1) 17) 7 .nil) (.v 10)) .nil))) (.cons (.ret (.k (.bool false))) .nil) .nil)
noncomputable def vC:Sx:=(.ite (.or (.cons (.cmp .NotEq (.orc 1) (.v 11)) (.cons (.cmp .NotEq (.orc 0) (.v 12)) .nil))) (.cons (.ret (.k (.bool false))) .nil) .nil)
noncomputable def xD:Sx:=(.asg 24 (.k (.bool false)))
noncomputable def AJ:Sx:=(.orc 0)
noncomputable def AD:Sx:=(.ite (.cmp .NotEq (.v 24) (.cmp .Eq (.v 13) (.k (.int (0))))) (.cons (.ret (.k (.bool false))) .nil) .nil)
theorem JP:sL=(.cons yj (.cons wc (.cons yB (.cons A7 (.cons zH (.cons yo (.cons xy (.cons wI (.cons A8 (.cons ve (.cons Br (.cons yL (.cons wm (.cons Bd (.cons FF (.cons D_ (.cons Fv (.cons KR (.cons xt (.cons zI (.cons vC (.cons xD (.cons AJ (.cons AD .nil)))))))))))))))))))))))):=rfl
variable {ns:List Nat}{X:Nat->St->Prop}{Q:Fl->St->Prop}{r:Sx}{b0 b1 b2 b3 b4 b5 b6 b7 b8 b9 b10 b11 b12 b13 b14 b15 b16 b17 b18 b19 b20 b21 b22 b23 b24:Option V}
theorem oT{a b m n k:Nat}(ha:a<m)(hb:b<n)(h:dR (m+n) k=true):a+b<k:=dJ (Nat.add_lt_add ha hb) h
theorem C0(n:Nat):max 1 (n:Int)=((max 1 n:Nat):Int):=(Nat.le_total 1 n).elim (λh=>by refine rwr (u7 h ..) ?_;exact Int.max_eq_right (fQ.mpr h)) λh=>by refine rwr (Nat.max_eq_left h ..) ?_;exact Int.max_eq_left (fQ.mpr h)
theorem DT{i:Nat}(g1:Γ 608 f_)(hns:ns≠[])(hnl:ns.length<=1000)(hi:i<4)(h:∀x y w:Nat,(w=0\/w=1\/w=2\/w=4\/w=7)->aj Γ O OS r X ⟨[some (.d (.list (aw ns))),b1,b2,b3,b4,b5,b6,b7,b8,b9,b10,b11,b12,some (.d (.int ((i:Nat):Int))),some (.d (.int ((x:Nat):Int))),some (.d (.int ((y:Nat):Int))),some (.d (.int ((w:Nat):Int))),b17,b18,b19,b20,b21,b22,b23,b24],own⟩ Q):aj Γ O OS (.cons yj (.cons wc (.cons yB (.cons A7 r)))) X ⟨[some (.d (.list (aw ns))),b1,b2,b3,b4,b5,b6,b7,b8,b9,b10,b11,b12,some (.d (.int ((i:Nat):Int))),b14,b15,b16,b17,b18,b19,b20,b21,b22,b23,b24],own⟩ Q:=by
 walk_at"R"
 refine aq g1 rfl ⟨ns,3+i,rfl,rfl,hns,hnl,?_⟩
 walk_at"N"
 refine rwr (bA ..) ?_
 generalize gJ ns (3+i)=x
 have d200:(x:Int).fdiv 200=((x/200:Nat):Int):=da x 200
 have m5:(x:Int).fmod 5=((x%5:Nat):Int):=bz x 5
 have d5:((x:Int).fdiv 5).fmod 5=((x/5%5:Nat):Int):=by refine rwr (show (x:Int).fdiv 5=((x/5:Nat):Int) from da x 5) ?_;exact bz _ 5
 have hw0:∃w:Nat,(w=0\/w=1\/w=2\/w=4\/w=7)/\(dz [V.d (D.int 4),V.d (D.int 1),V.d (D.int 2),V.d (D.int 1)])[i]? = some (D.int (w:Int)):=by
  refine ao ((by decide:∀k<4,k=0\/k=1\/k=2\/k=3) i hi) (λz0=>?_) (uO (λz1=>?_) (uO (λz2=>?_) (λz3=>?_))) <;>(try subst z0) <;>(try subst z1) <;>(try subst z2) <;>(try subst z3)
  ·exact⟨4,by decide,rfl⟩
  ·exact⟨1,by decide,rfl⟩
  ·exact⟨2,by decide,rfl⟩
  ·exact⟨1,by decide,rfl⟩
 have hw1:∃w:Nat,(w=0\/w=1\/w=2\/w=4\/w=7)/\(dz [V.d (D.int 1),V.d (D.int 2),V.d (D.int 4),V.d (D.int 0),V.d (D.int 7)])[x/5%5]? = some (D.int (w:Int)):=by
  have:=bE (x/5) (show 0<5 by decide)
  refine ao ((by decide:∀k<5,k=0\/k=1\/k=2\/k=3\/k=4) _ this) (λe=>?_) (uO (λe=>?_) (uO (λe=>?_) (uO (λe=>?_) λe=>?_))) <;>refine rwr (e ..) ?_
  ·exact⟨1,by decide,rfl⟩
  ·exact⟨2,by decide,rfl⟩
  ·exact⟨4,by decide,rfl⟩
  ·exact⟨0,by decide,rfl⟩
  ·exact⟨7,by decide,rfl⟩
 refine elE1 hw0 ?_;clear hw0;refine λw0=>ae λhw0 e0=>?_
 refine elE1 hw1 ?_;clear hw1;refine λw1=>ae λhw1 e1=>?_
 walk_at"R"
 refine rwr (d200 ..) ?_
 refine .inl ⟨bW,eF (m:=1000000) (dJ hi rfl),bg (by refine rwr (cS ..) ?_;exact e0) ?_⟩
 by_cases c:x%5=4
 ·walk_at"R"
  refine rwr (d5 ..) ?_
  refine .inl ⟨bW,eF (m:=1000000) (ig rfl rfl),bg (by refine rwr (cS ..) ?_;exact e1) ?_⟩
  exact h x (x/200) w1 hw1
 ·walk_at"R"
  exact h x (x/200) w0 hw0
def zd(w t0 t1 t2:Nat)(op R:List UInt8):Prop:=(w=1/\R=eW t0 t1 t2)\/(w≠1/\R=op)
theorem EO{i x y w base term p:Nat}{op:List UInt8}(g1:Γ 665 iV)(g2:Γ 489 kK)(g3:Γ 408 (cF 408 gO))(hb:base<1000)(ht:term<1000)(h:∀(t0 t1 t2:Nat) (R:List UInt8),t0<2000->t1<2000->t2<2000->zd w t0 t1 t2 op R->aj Γ O OS r X ⟨[some (.d (.list (aw ns))),b1,b2,some (.d (.int ((base:Nat):Int))),some (.d (.int ((term:Nat):Int))),b5,b6,b7,b8,some (.d (.bytes op)),b10,some (.own p),b12,some (.d (.int ((i:Nat):Int))),some (.d (.int ((x:Nat):Int))),some (.d (.int ((y:Nat):Int))),some (.d (.int ((w:Nat):Int))),some (.d (.tup [.int ((t0:Nat):Int),.int ((t1:Nat):Int),.int ((t2:Nat):Int)])),some (.d (.bytes R)),b19,b20,b21,b22,b23,b24],own⟩ Q):aj Γ O OS (.cons zH (.cons yo (.cons xy r))) X ⟨[some (.d (.list (aw ns))),b1,b2,some (.d (.int ((base:Nat):Int))),some (.d (.int ((term:Nat):Int))),b5,b6,b7,b8,some (.d (.bytes op)),b10,some (.own p),b12,some (.d (.int ((i:Nat):Int))),some (.d (.int ((x:Nat):Int))),some (.d (.int ((y:Nat):Int))),some (.d (.int ((w:Nat):Int))),b17,b18,b19,b20,b21,b22,b23,b24],own⟩ Q:=by
 have e0:(y:Int).fmod 200=((y%200:Nat):Int):=bz y 200
 have e1:((y:Int).fdiv 3).fmod 5=((y/3%5:Nat):Int):=by refine rwr (show (y:Int).fdiv 3=((y/3:Nat):Int) from da y 3) ?_;exact bz _ 5
 have e2:((y:Int).fdiv 7).fmod 3=((y/7%3:Nat):Int):=by refine rwr (show (y:Int).fdiv 7=((y/7:Nat):Int) from da y 7) ?_;exact bz _ 3
 have s0:((term:Nat):Int)+((y%200:Nat):Int)=((term+y%200:Nat):Int):=rfl
 have s2:((base:Nat):Int)+((y/7%3:Nat):Int)=((base+y/7%3:Nat):Int):=rfl
 have u0:term+y%200<2000:=oT ht (ig (k:=200) rfl rfl) rfl
 have u1:y/3%5<2000:=ig rfl rfl
 have u2:base+y/7%3<2000:=oT hb (ig (k:=3) rfl rfl) rfl
 walk_at"S"
 rw[e0,e1,e2,s0,s2]
 generalize term+y%200=t0 at u0
 generalize y/3%5=t1 at u1
 generalize base+y/7%3=t2 at u2
 have z0:=cr (n:=t0) (dJ u0 rfl)
 have z1:=cr (n:=t1) (dJ u1 rfl)
 have z2:=cr (n:=t2) (dJ u2 rfl)
 have w0:=dy t0
 have w1:=dy t1
 have w2:=dy t2
 by_cases c:w=1
 ·walk_at"R"
  refine aq g1 rfl ⟨t0,rfl,rfl,dJ u0 rfl,?_⟩
  walk_at"N"
  rw[bA]
  walk_at"R"
  refine⟨(by walk_at"L"),?_⟩
  walk_at"R"
  refine aq g1 rfl ⟨t1,rfl,rfl,dJ u1 rfl,?_⟩
  walk_at"N"
  rw[bA]
  walk_at"R"
  refine⟨(by walk_at"L"),?_⟩
  walk_at"R"
  refine aq g1 rfl ⟨t2,rfl,rfl,dJ u2 rfl,?_⟩
  walk_at"N"
  refine rwr (bA ..) ?_
  walk_at"R"
  refine⟨(by walk_at"L"),?_⟩
  walk_at"R"
  refine aq g3 rfl ⟨rfl,eJ rfl,t0,t1,t2,rfl,rfl,rfl,.inr ⟨gV t0 t1 t2,rfl,?_⟩⟩
  walk_at"N"
  rw[bA]
  walk_at"R"
  refine aq g2 rfl ⟨t0,t1,t2,rfl,rfl,dJ u0 rfl,dJ u1 rfl,dJ u2 rfl,?_⟩
  walk_at"N"
  rw[bA]
  walk_at"R"
  rename _=>hr;rename Bool=>rr
  have he:1::(az t0++az t1++az t2)=[1]++az t0++az t1++az t2:=by simp
  rw[hr.mpr he]
  walk_at"R"
  exact h t0 t1 t2 _ u0 u1 u2 (.inl ⟨c,by unfold eW;simp⟩)
 ·walk_at"R"
  exact h t0 t1 t2 op u0 u1 u2 (.inr ⟨c,rfl⟩)
theorem xB{own:List af}{p:Nat}{rows:List D}(h:getN own p=some (.lst rows)):d9 own (.own p)=some rows:=by
 exact nT h
def tr(w t0 t1 t2 ei ek:Nat)(eb op R:List UInt8):Prop:=(w=1/\R=eW t0 t1 t2)\/(w=2/\R=fE t0 ei ek eb)\/(w=0/\R=[])\/(w=7/\∃c:UInt8,(c.toNat≠1/\c.toNat≠2/\c.toNat≠4)/\R=[c,1,1,1])\/(w=4/\R=op)
theorem GA{i x y w base term p t0 t1 t2 ei:Nat}{op R:List UInt8}{rows:List D}(g1:Γ 665 iV)(hb:base<1000)(hp:getN own p=some (.lst rows))(hrl:rows.length<=10)(hei:ei=base+1+rows.length)(hw:w=0\/w=1\/w=2\/w=4\/w=7)(u0:t0<2000)(h1:zd w t0 t1 t2 op R)(h:∀(ek:Nat) (eb R:List UInt8),(ek=0\/ek=2)->eb.length<=2->tr w t0 t1 t2 ei ek eb op R->aj Γ O OS r X ⟨[some (.d (.list (aw ns))),b1,b2,some (.d (.int ((base:Nat):Int))),some (.d (.int ((term:Nat):Int))),b5,b6,b7,b8,some (.d (.bytes op)),b10,some (.own p),b12,some (.d (.int ((i:Nat):Int))),some (.d (.int ((x:Nat):Int))),some (.d (.int ((y:Nat):Int))),some (.d (.int ((w:Nat):Int))),some (.d (.tup [.int ((t0:Nat):Int),.int ((t1:Nat):Int),.int ((t2:Nat):Int)])),some (.d (.bytes R)),some (.d (.tup [.int ((t0:Nat):Int),.int ((ei:Nat):Int),.int ((ek:Nat):Int),.bytes eb])),b20,b21,b22,b23,b24],own⟩ Q):aj Γ O OS (.cons wI (.cons A8 r)) X ⟨[some (.d (.list (aw ns))),b1,b2,some (.d (.int ((base:Nat):Int))),some (.d (.int ((term:Nat):Int))),b5,b6,b7,b8,some (.d (.bytes op)),b10,some (.own p),b12,some (.d (.int ((i:Nat):Int))),some (.d (.int ((x:Nat):Int))),some (.d (.int ((y:Nat):Int))),some (.d (.int ((w:Nat):Int))),some (.d (.tup [.int ((t0:Nat):Int),.int ((t1:Nat):Int),.int ((t2:Nat):Int)])),some (.d (.bytes R)),b19,b20,b21,b22,b23,b24],own⟩ Q:=by
 have e0:(y:Int).fmod 2=((y%2:Nat):Int):=bz y 2
 have e1:(y:Int).fmod 251=((y%251:Nat):Int):=bz y 251
 have e2:(y:Int).fmod 3=((y%3:Nat):Int):=bz y 3
 have e7:(y:Int).fmod 7=((y%7:Nat):Int):=bz y 7
 have s1:((base:Nat):Int)+1+(rows.length:Int)=((ei:Nat):Int):=by refine rwr (hei ..) ?_;rfl
 have hei2:ei<16384:=by refine rwr (hei ..) ?_;exact oT (k:=16384) (oT (k:=1002) hb (iy 1) rfl) (BW hrl) rfl
 have z0:=cr (n:=t0) (dJ u0 rfl)
 have z1:=cr (n:=ei) hei2
 have w0:=dy t0
 have w1:=dy ei
 walk_at"S"
 refine bg (xB hp) ⟨bP hrl rfl,?_⟩
 walk_at"R"
 refine rwr (s1 ..) (rwr (e0 ..) ?_)
 refine⟨gz (bE y (by decide)) rfl,?_⟩
 walk_at"R"
 have s2:((y%2:Nat):Int)*2=((y%2*2:Nat):Int):=rfl
 refine rwr (e1 ..) (rwr (e2 ..) (rwr (s2 ..) ?_))
 have hek:y%2*2=0\/y%2*2=2:=(LJ y).imp (λe=>by exact rwr (e ..) rfl) λe=>by exact rwr (e ..) rfl
 generalize y%2*2=ek at hek
 have hk2:ek<=2:=hek.elim (λe=>by refine rwr (e ..) ?_;decide) bH
 refine⟨by refine rwr (cS ..) ?_;exact aJ (bH (Nat.one_mul _)) (fG rfl rfl),?_⟩
 walk_at"R"
 have hbs:(ay ((y%3:Nat):Int).toNat (dz [V.d (D.int ((y%251:Nat):Int))])).flatten=(ay (y%3) (y%251).toUInt8).map λc=>D.int c.toNat:=by
  refine rwr (cS ..) (rwr (List.map_replicate ..) (rwr (cu (n:=y%251) (ig rfl rfl)) ?_))
  exact B5
 refine⟨ay (y%3) (y%251).toUInt8,hbs,by refine rwr (iF ..) ?_;exact fG rfl rfl,?_⟩
 have heb:(ay (y%3) (y%251).toUInt8).length<=2:=by refine rwr (iF ..) ?_;exact fG rfl rfl
 generalize ay (y%3) (y%251).toUInt8=eb at heb
 walk_at"R"
 refine fu (λq=>?_) λq2=>?_
 ·have c:w=2:=iE q
  walk_at"R"
  refine aq g1 rfl ⟨t0,rfl,rfl,dJ u0 rfl,?_⟩
  walk_at"N"
  refine rwr (bA ..) ?_
  walk_at"R"
  refine⟨(by walk_at"L"),?_⟩
  walk_at"R"
  refine aq g1 rfl ⟨ei,rfl,rfl,hei2,?_⟩
  walk_at"N"
  refine rwr (bA ..) ?_
  walk_at"R"
  refine⟨(by walk_at"L"),?_⟩
  walk_at"R"
  refine⟨[ek.toUInt8,eb.length.toUInt8],by show [D.int (ek:Int),D.int (eb.length:Int)]=[D.int (ek.toUInt8.toNat:Nat),D.int (eb.length.toUInt8.toNat:Nat)];exact rwr (cu (n:=ek) (fD hk2 rfl)) (rwr (cu (n:=eb.length) (fD heb rfl)) rfl),bL rfl,?_⟩
  walk_at"R"
  refine⟨(by walk_at"L"),?_⟩
  walk_at"R"
  refine⟨(by walk_at"L"),?_⟩
  refine h ek eb _ hek heb (.inr (.inl ⟨c,?_⟩))
  unfold fE
  refine rwr (ew (n:=ek) (fD hk2 rfl)) (rwr (ew (n:=eb.length) (fD heb rfl)) ?_)
  simp
 walk_at"R"
 refine fu (λq=>?_) λq0=>?_
 ·have c:w=0:=iE q
  walk_at"R"
  exact h ek eb [] hek heb (.inr (.inr (.inl ⟨c,rfl⟩)))
 walk_at"R"
 refine fu (λq=>?_) λq7=>?_
 ·have c:w=7:=iE q
  walk_at"R"
  refine rwr (e7 ..) ?_
  have hc:∀k<7,∃n:Nat,(n<256/\n≠1/\n≠2/\n≠4)/\(dz [V.d (D.int 0),V.d (D.int 3),V.d (D.int 5),V.d (D.int 7),V.d (D.int 64),V.d (D.int 129),V.d (D.int 255)])[k]? = some (D.int (n:Int)):=by
   intro k hk
   refine ao ((by decide:∀k<7,k=0\/k=1\/k=2\/k=3\/k=4\/k=5\/k=6) k hk) (λz0=>?_) (uO (λz1=>?_) (uO (λz2=>?_) (uO (λz3=>?_) (uO (λz4=>?_) (uO (λz5=>?_) (λz6=>?_)))))) <;>(try subst z0) <;>(try subst z1) <;>(try subst z2) <;>(try subst z3) <;>(try subst z4) <;>(try subst z5) <;>(try subst z6)
   ·exact⟨0,by decide,rfl⟩
   ·exact⟨3,by decide,rfl⟩
   ·exact⟨5,by decide,rfl⟩
   ·exact⟨7,by decide,rfl⟩
   ·exact⟨64,by decide,rfl⟩
   ·exact⟨129,by decide,rfl⟩
   ·exact⟨255,by decide,rfl⟩
  refine elE1 (hc (y%7) (bE _ (by decide))) λn=>ae λhn en=>?_
  refine .inl ⟨bW,eF (m:=1000000) (ig rfl rfl),bg (by refine rwr (cS ..) ?_;exact en) ?_⟩
  walk_at"R"
  have hu:=cu (n:=n) hn.1
  refine⟨[n.toUInt8,1,1,1],by show [D.int (n:Int),D.int 1,D.int 1,D.int 1]=[D.int (n.toUInt8.toNat:Nat),D.int 1,D.int 1,D.int 1];exact rwr (hu ..) rfl,bL rfl,?_⟩
  refine h ek eb _ hek heb (.inr (.inr (.inr (.inl ⟨c,n.toUInt8,by refine rwr (hu ..) ?_;exact hn.2,rfl⟩))))
 walk_at"R"
 refine h ek eb _ hek heb ?_
 (refine ao hw (λc=>?_) (uO (λc=>?_) (uO (λc=>?_) (uO (λc=>?_) λc=>?_))) <;>clear hw)
 ·exact absurd (congrArg kc c) q0
 ·refine .inl ⟨c,?_⟩
  refine ao h1 (ae λU e=>?_) (ae λq U=>?_) <;>clear h1
  ·exact e
  ·exact absurd c q
 ·exact absurd (congrArg kc c) q2
 ·refine .inr (.inr (.inr (.inr ⟨c,?_⟩)))
  refine ao h1 (ae λq U=>?_) (ae λU e=>?_) <;>clear h1
  ·lia
  ·exact e
 ·exact absurd (congrArg kc c) q7
theorem GU{i x y w base term p t0 t1 t2 ei ek:Nat}{eb op R:List UInt8}(hw:w=0\/w=1\/w=2\/w=4\/w=7)(h:∀wh:Bool,wh=decide (w=1\/w=2\/w=4)->aj Γ O OS r X ⟨[some (.d (.list (aw ns))),b1,b2,some (.d (.int ((base:Nat):Int))),some (.d (.int ((term:Nat):Int))),b5,b6,b7,b8,some (.d (.bytes op)),b10,some (.own p),b12,some (.d (.int ((i:Nat):Int))),some (.d (.int ((x:Nat):Int))),some (.d (.int ((y:Nat):Int))),some (.d (.int ((w:Nat):Int))),some (.d (.tup [.int ((t0:Nat):Int),.int ((t1:Nat):Int),.int ((t2:Nat):Int)])),some (.d (.bytes R)),some (.d (.tup [.int ((t0:Nat):Int),.int ((ei:Nat):Int),.int ((ek:Nat):Int),.bytes eb])),some (.d (.bool wh)),b21,b22,b23,b24],own⟩ Q):aj Γ O OS (.cons ve r) X ⟨[some (.d (.list (aw ns))),b1,b2,some (.d (.int ((base:Nat):Int))),some (.d (.int ((term:Nat):Int))),b5,b6,b7,b8,some (.d (.bytes op)),b10,some (.own p),b12,some (.d (.int ((i:Nat):Int))),some (.d (.int ((x:Nat):Int))),some (.d (.int ((y:Nat):Int))),some (.d (.int ((w:Nat):Int))),some (.d (.tup [.int ((t0:Nat):Int),.int ((t1:Nat):Int),.int ((t2:Nat):Int)])),some (.d (.bytes R)),some (.d (.tup [.int ((t0:Nat):Int),.int ((ei:Nat):Int),.int ((ek:Nat):Int),.bytes eb])),b20,b21,b22,b23,b24],own⟩ Q:=by
 (refine ao hw (λc=>?_) (uO (λc=>?_) (uO (λc=>?_) (uO (λc=>?_) λc=>?_))) <;>clear hw)
 all_goals
  walk_at"R"
  exact h _ (by refine rwr (c ..) ?_;rfl)
def oR(w:Nat)(R R':List UInt8)(wh:Bool):Prop:=(wh=decide (w=1\/w=2\/w=4)/\R'=R)\/(wh=false/\∃k,k<max 1 R.length/\R'=R.take k)\/(wh=false/\w≠0/\∃c,R'=R++[c])
theorem Kd{i x y w base term p t0 t1 t2 ei ek:Nat}{eb op R:List UInt8}{wh:Bool}(hwh:wh=decide (w=1\/w=2\/w=4))(hR:R.length<=2000)(h:∀(hu:Nat) (R':List UInt8) (wh:Bool),oR w R R' wh->aj Γ O OS r X ⟨[some (.d (.list (aw ns))),b1,b2,some (.d (.int ((base:Nat):Int))),some (.d (.int ((term:Nat):Int))),b5,b6,b7,b8,some (.d (.bytes op)),b10,some (.own p),b12,some (.d (.int ((i:Nat):Int))),some (.d (.int ((x:Nat):Int))),some (.d (.int ((y:Nat):Int))),some (.d (.int ((w:Nat):Int))),some (.d (.tup [.int ((t0:Nat):Int),.int ((t1:Nat):Int),.int ((t2:Nat):Int)])),some (.d (.bytes R')),some (.d (.tup [.int ((t0:Nat):Int),.int ((ei:Nat):Int),.int ((ek:Nat):Int),.bytes eb])),some (.d (.bool wh)),some (.d (.int ((hu:Nat):Int))),b22,b23,b24],own⟩ Q):aj Γ O OS (.cons Br (.cons yL r)) X ⟨[some (.d (.list (aw ns))),b1,b2,some (.d (.int ((base:Nat):Int))),some (.d (.int ((term:Nat):Int))),b5,b6,b7,b8,some (.d (.bytes op)),b10,some (.own p),b12,some (.d (.int ((i:Nat):Int))),some (.d (.int ((x:Nat):Int))),some (.d (.int ((y:Nat):Int))),some (.d (.int ((w:Nat):Int))),some (.d (.tup [.int ((t0:Nat):Int),.int ((t1:Nat):Int),.int ((t2:Nat):Int)])),some (.d (.bytes R)),some (.d (.tup [.int ((t0:Nat):Int),.int ((ei:Nat):Int),.int ((ek:Nat):Int),.bytes eb])),some (.d (.bool wh)),b21,b22,b23,b24],own⟩ Q:=by
 have e1:((x:Int).fdiv 25).fmod 8=((x/25%8:Nat):Int):=by refine rwr (show (x:Int).fdiv 25=((x/25:Nat):Int) from da x 25) ?_;exact bz _ 8
 have e2:(y:Int).fmod (max 1 (R.length:Int))=((y%max 1 R.length:Nat):Int):=by
  refine rwr (C0 ..) ?_;exact bz _ _
 have e3:(y:Int).fmod 256=((y%256:Nat):Int):=bz y 256
 have hlt:y%max 1 R.length<max 1 R.length:=bE _ (Nat.le_max_left _ _)
 have q1:0<=(y:Int).fmod (max 1 (R.length:Int)):=e2▸bW
 have q2:(y:Int).fmod (max 1 (R.length:Int))<2^60:=e2▸eF (m:=2^60) (dG hlt (Nat.max_le.mpr ⟨by decide,bP hR rfl⟩))
 have q3:¬max 1 (R.length:Int)=0:=λq=>absurd (Int.le_max_left 1 (R.length:Int)) (by refine rwr (q ..) ?_;decide)
 walk_at"R"
 refine rwr (e1 ..) ?_
 generalize x/25%8=hu
 by_cases c1:hu=1
 ·walk_at"R"
  refine rwr (e2 ..) (rwr (jt (n:=y%max 1 R.length) rfl) ?_)
  exact h hu _ false (.inr (.inl ⟨rfl,_,hlt,rfl⟩))
 by_cases c2:hu=2
 ·by_cases c3:w=0
  ·walk_at"R"
   exact h hu R wh (.inl ⟨hwh,rfl⟩)
  ·walk_at"R"
   refine rwr (e3 ..) ?_
   refine⟨[(y%256).toUInt8],by show [D.int ((y%256:Nat):Int)]=[D.int (((y%256).toUInt8.toNat:Nat):Int)];exact rwr (cu (bE _ (by decide))) rfl,bL rfl,?_⟩
   walk_at"R"
   refine⟨(by walk_at"L"),?_⟩
   walk_at"R"
   exact h hu _ false (.inr (.inr ⟨rfl,c3,_,rfl⟩))
 ·walk_at"R"
  exact h hu R wh (.inl ⟨hwh,rfl⟩)
def gA(i w:Nat)(wh lt:Bool):Prop:=lt=true↔(wh=true/\((i=0/\w=4)\/(i=1/\w=1)\/(2<=i/\w≠4)))
theorem tZ{w k:Nat}(c:¬ w=k):¬ (w:Int)=(k:Int):=λe=>c (iE e)
theorem Ha{i x y w base term p t0 t1 t2 ei ek hu:Nat}{eb op R':List UInt8}{wh:Bool}(h:∀lt:Bool,gA i w wh lt->aj Γ O OS r X ⟨[some (.d (.list (aw ns))),b1,b2,some (.d (.int ((base:Nat):Int))),some (.d (.int ((term:Nat):Int))),b5,b6,b7,b8,some (.d (.bytes op)),b10,some (.own p),b12,some (.d (.int ((i:Nat):Int))),some (.d (.int ((x:Nat):Int))),some (.d (.int ((y:Nat):Int))),some (.d (.int ((w:Nat):Int))),some (.d (.tup [.int ((t0:Nat):Int),.int ((t1:Nat):Int),.int ((t2:Nat):Int)])),some (.d (.bytes R')),some (.d (.tup [.int ((t0:Nat):Int),.int ((ei:Nat):Int),.int ((ek:Nat):Int),.bytes eb])),some (.d (.bool wh)),some (.d (.int ((hu:Nat):Int))),some (.d (.bool lt)),some (.d (.bool false)),b24],own⟩ Q):aj Γ O OS (.cons wm (.cons Bd r)) X ⟨[some (.d (.list (aw ns))),b1,b2,some (.d (.int ((base:Nat):Int))),some (.d (.int ((term:Nat):Int))),b5,b6,b7,b8,some (.d (.bytes op)),b10,some (.own p),b12,some (.d (.int ((i:Nat):Int))),some (.d (.int ((x:Nat):Int))),some (.d (.int ((y:Nat):Int))),some (.d (.int ((w:Nat):Int))),some (.d (.tup [.int ((t0:Nat):Int),.int ((t1:Nat):Int),.int ((t2:Nat):Int)])),some (.d (.bytes R')),some (.d (.tup [.int ((t0:Nat):Int),.int ((ei:Nat):Int),.int ((ek:Nat):Int),.bytes eb])),some (.d (.bool wh)),some (.d (.int ((hu:Nat):Int))),b22,b23,b24],own⟩ Q:=by
 cases wh
 ·walk_at"R"
  exact h _ (by unfold gA;simp)
 by_cases c0:i=0
 ·by_cases c:w=4
  ·walk_at"R"
   exact h _ (by simp[gA,c0,c])
  ·walk_at"R"
   exact h _ (by simp[gA,c0,c];exact tZ c)
 by_cases c1:i=1
 ·by_cases c:w=1
  ·walk_at"R"
   exact h _ (by simp[gA,c1,c])
  ·walk_at"R"
   exact h _ (by simp[gA,c1,c];exact tZ c)
 have h2:2<=i:=Nat.lt_of_le_of_ne (lh c0) (fP c1)
 by_cases c:w=4
 ·walk_at"R"
  exact h _ (by simp[gA,c0,c1,c,h2])
 ·walk_at"R"
  exact h _ (by simp[gA,c0,c1,c,h2];exact tZ c)
end

section
theorem C7{w:Nat}{a:UInt8}{rest R R':List UInt8}{wh:Bool}(hR:R=a::rest)(h3:oR w R R' wh):R'=[]\/R'[0]? = some a:=by
 refine ao h3 (ae λU z0=>?_) (uO (λz1=>?_) (λz2=>?_)) <;>clear h3 <;>(try subst z0) <;>(try rcases z1 with ⟨_,k,_,rfl⟩) <;>(try rcases z2 with ⟨_,_,c,rfl⟩)
 ·subst hR;exact .inr rfl
 ·cases k with
  |zero=>exact .inl rfl
  |succ k=>subst hR;exact .inr rfl
 ·subst hR;exact .inr rfl
inductive lZ(i w t0 t1 t2 ei ek base term:Nat)(eb R':List UInt8)(ids learns:List Nat)(auto lt:Bool):Prop
 |fold (_:lt=true) (_:i=0) (_:w=4) (_:R'[0]? = some 4) (_:iN R' base term ids learns [] [] auto R'.length):lZ i w t0 t1 t2 ei ek base term eb R' ids learns auto lt
 |hard (_:lt=true) (_:1<=i) (_:w=1) (_:R'[0]? = some 1) (_:h_ R' t0 t1 t2 R'.length):lZ i w t0 t1 t2 ei ek base term eb R' ids learns auto lt
 |ent (_:lt=true) (_:2<=i) (_:w=2) (_:R'[0]? = some 2) (_:gG (R'.drop 1) t0 ei ek eb (R'.drop 1).length):lZ i w t0 t1 t2 ei ek base term eb R' ids learns auto lt
 |ref (_:lt=false) (_:fw i R'):lZ i w t0 t1 t2 ei ek base term eb R' ids learns auto lt
theorem CK{i w t0 t1 t2 ei ek base term hu:Nat}{eb op cf R R':List UInt8}{ids learns:List Nat}{auto wh lt:Bool}(hi:i<4)(hw:w=0\/w=1\/w=2\/w=4\/w=7)(h2:tr w t0 t1 t2 ei ek eb op R)(h3:oR w R R' wh)(hl:gA i w wh lt)
  (hop:op=c_ base term cf) (hcf:cf=eG ids learns [] [] auto) (hids:bq ids) (hlr:bq learns) (hb:base<16384) (ht:term<16384) (u0:t0<16384) (u1:t1<16384) (u2:t2<16384) (he:ei<16384) (hk:ek=0\/ek=2) (heb:eb.length<16384):
  lZ i w t0 t1 t2 ei ek base term eb R' ids learns auto lt:=by
 have hn:bq []:=⟨by simp,u8,λn h=>nomatch h⟩
 have hcl:cf.length<=10000:=by refine rwr (hcf ..) ?_;exact aJ (s9 hids hlr hn hn) (by decide)
 have hca:lT cf ids learns [] [] auto:=by refine rwr (hcf ..) ?_;exact H1 hids hlr hn hn
 have fo:∀r:List UInt8,iN (c_ base term cf++r) base term ids learns [] [] auto (c_ base term cf).length:=λr=>⟨cf,KL hb ht (fD hcl rfl),hcl,hids,hlr,hn,hn,hca⟩
 unfold gA at hl
 have lf:∀P:Prop,¬P->(lt=true↔P)->lt=false:=λP hP h=>by
  cases lt with
  |false=>rfl
  |true=>exact absurd (h.mp rfl) hP
 -- a record of a kind that is not asked for
 have odd:∀(a:UInt8) (rest:List UInt8),R=a::rest->((i=0/\a.toNat≠4)\/(i=1/\a.toNat≠1)\/(2<=i/\a.toNat≠1/\a.toNat≠2))->fw i R':=λa rest hR h=>by
  refine ao (C7 hR h3) (λe=>?_) λe=>?_
  ·exact .nil e
  ·refine ao h (λh=>?_) (uO (λh=>?_) λh=>?_)
   ·exact .k0 a e h.1 h.2
   ·exact .k1 a e h.1 h.2
   ·exact .k2 a e h.1 h.2.1 h.2.2
 have n4:(4:UInt8).toNat=4:=rfl
 have n1:(1:UInt8).toNat=1:=rfl
 have n2:(2:UInt8).toNat=2:=rfl
 refine ao h2 (ae λz0 hR=>?_) (uO (ae λz1 hR=>?_) (uO (ae λz2 hR=>?_) (uO (λz3=>?_) (ae λz4 hR=>?_)))) <;>clear h2 <;>(try subst z0) <;>(try subst z1) <;>(try subst z2) <;>(try rcases z3 with ⟨rfl,c,hc,hR⟩) <;>(try subst z4)
 ·-- a hard state
  by_cases h0:i=0
  ·exact .ref (lf _ (λq=>q.2.elim (λx=>absurd x.2 (by decide)) λx=>x.elim (λx=>absurd (h0.symm.trans x.1) (by decide)) λx=>absurd (aJ x.1 (bH h0)) (by decide)) hl) (odd 1 _ hR (.inl ⟨h0,by decide⟩))
  have i12:i=1\/2<=i:=(mR 1 i).elim .inr λg=>.inl (mI g (lh h0))
  have hd:R=1::(az t0++(az t1++az t2)):=hR
  refine ao h3 (ae λhwh z0=>?_) (uO (λz1=>?_) (λz2=>?_)) <;>clear h3 <;>(try subst z0) <;>(try rcases z1 with ⟨hwh,k,hk',rfl⟩) <;>(try rcases z2 with ⟨hwh,_,c,rfl⟩)
  ·refine .hard (hl.mpr ⟨by refine rwr (hwh ..) ?_;decide,.inr (i12.elim (λg=>.inl ⟨g,by decide⟩) λg=>.inr ⟨g,by decide⟩)⟩) (lh h0) rfl (by refine rwr (hd ..) ?_;rfl) ?_
   have:=A_ (r:=[]) u0 u1 u2
   rw[bA]at this
   refine rwr (hR ..) ?_;exact this
  ·refine .ref (lf _ (by refine rwr (hwh ..) ?_;simp) hl) ?_
   cases k with
   |zero=>exact .nil rfl
   |succ k =>
    have hlen:1<=R.length:=by refine rwr (hd ..) ?_;simp
    refine .hard 1 (by refine rwr (hd ..) ?_;rfl) (by lia) n1 (.inl ?_)
    rw[hR]at hk' hlen ⊢
    rw[u7 hlen]at hk'
    exact Cz u0 u1 u2 (by first | exact hk' | lia) (by first | exact hk' | lia)
  ·refine .ref (lf _ (by refine rwr (hwh ..) ?_;simp) hl) (.hard 1 (by refine rwr (hd ..) ?_;rfl) (by lia) n1 (.inr (dZ t0 t1 t2 R.length ⟨?_,by simp⟩)))
   refine rwr (hR ..) ?_
   exact A_ u0 u1 u2
 ·-- an entry
  by_cases h0:i=0
  ·exact .ref (lf _ (λq=>q.2.elim (λx=>absurd x.2 (by decide)) λx=>x.elim (λx=>absurd (h0.symm.trans x.1) (by decide)) λx=>absurd (aJ x.1 (bH h0)) (by decide)) hl) (odd 2 _ hR (.inl ⟨h0,by decide⟩))
  by_cases h1:i=1
  ·exact .ref (lf _ (λq=>q.2.elim (λx=>absurd x.2 (by decide)) λx=>x.elim (λx=>absurd x.2 (by decide)) λx=>absurd (aJ x.1 (bH h1)) (by decide)) hl) (odd 2 _ hR (.inr (.inl ⟨h1,by decide⟩)))
  have i2:2<=i:=Nat.lt_of_le_of_ne (lh h0) (fP h1)
  have hd:R=2::(az t0++(az ei++(az ek++(az eb.length++eb)))):=hR
  refine ao h3 (ae λhwh z0=>?_) (uO (λz1=>?_) (λz2=>?_)) <;>clear h3 <;>(try subst z0) <;>(try rcases z1 with ⟨hwh,k,hk',rfl⟩) <;>(try rcases z2 with ⟨hwh,_,c,rfl⟩)
  ·refine .ent (hl.mpr ⟨by refine rwr (hwh ..) ?_;decide,.inr (.inr ⟨i2,by decide⟩)⟩) i2 rfl (by refine rwr (hd ..) ?_;rfl) ?_
   have:=AG (r:=[]) u0 he hk heb
   rw[bA]at this
   refine rwr (hR ..) (rwr (gE ..) ?_);exact this
  ·refine .ref (lf _ (by refine rwr (hwh ..) ?_;simp) hl) ?_
   cases k with
   |zero=>exact .nil rfl
   |succ k =>
    have hlen:1<=R.length:=by refine rwr (hd ..) ?_;simp
    refine .ent 2 (by refine rwr (hd ..) ?_;rfl) (by lia) n2 (.inl ?_)
    rw[hR]at hk' hlen ⊢
    rw[u7 hlen]at hk'
    exact CX u0 he hk heb (by first | exact hk' | lia) (by first | exact hk' | lia)
  ·refine .ref (lf _ (by refine rwr (hwh ..) ?_;simp) hl) (.ent 2 (by refine rwr (hd ..) ?_;rfl) (by lia) n2 (.inr (jz t0 ei ek eb (R.length-1) ⟨?_,?_⟩)))
   ·refine rwr (hR ..) ?_
    exact AG u0 he hk heb
   ·have hlen:1<=R.length:=by refine rwr (hd ..) ?_;simp
    simp;exact Nat.sub_lt hlen (by decide)
 ·-- nothing
  refine .ref (lf _ ?_ hl) (.nil ?_)
  ·refine ao h3 (ae λhwh U=>?_) (uO (ae λhwh U=>?_) (ae λhwh U=>?_)) <;>clear h3 <;>refine rwr (hwh ..) ?_ <;>simp
  ·refine ao h3 (ae λU z0=>?_) (uO (λz1=>?_) (al λU h U=>?_)) <;>clear h3 <;>(try subst z0) <;>(try rcases z1 with ⟨_,k,_,rfl⟩)
   ·exact hR
   ·exact rwr (hR ..) (rwr (pS ..) rfl)
   ·exact absurd rfl h
 ·-- a record of no kind
  refine .ref (lf _ ?_ hl) (odd c _ hR ((mM i).elim (λg=>.inl ⟨g,hc.2.2⟩) λg=>.inr ((mR 1 i).elim (λg'=>.inr ⟨g',hc.1,hc.2.1⟩) λg'=>.inl ⟨mI g' g,hc.1⟩)))
  refine ao h3 (ae λhwh U=>?_) (uO (ae λhwh U=>?_) (ae λhwh U=>?_)) <;>clear h3 <;>refine rwr (hwh ..) ?_ <;>simp
 ·-- a base
  by_cases h0:i=0
  ·rw[hop]at hR
   have hd:R=4::(az base++(az term++(az cf.length++cf))):=hR
   refine ao h3 (ae λhwh z0=>?_) (uO (λz1=>?_) (λz2=>?_)) <;>clear h3 <;>(try subst z0) <;>(try rcases z1 with ⟨hwh,k,hk',rfl⟩) <;>(try rcases z2 with ⟨hwh,_,c,rfl⟩)
   ·refine .fold (hl.mpr ⟨by refine rwr (hwh ..) ?_;decide,.inl ⟨h0,by decide⟩⟩) (h0) rfl (by refine rwr (hd ..) ?_;rfl) ?_
    have:=fo []
    rw[bA]at this
    refine rwr (hR ..) ?_;exact this
   ·refine .ref (lf _ (by refine rwr (hwh ..) ?_;simp) hl) ?_
    cases k with
    |zero=>exact .nil rfl
    |succ k =>
     have hlen:1<=R.length:=by refine rwr (hd ..) ?_;simp
     refine .fold 4 (by refine rwr (hd ..) ?_;rfl) h0 n4 (.inl ?_)
     rw[hR]at hk' hlen ⊢
     rw[u7 hlen]at hk'
     exact Ck hb ht (fD hcl rfl) (by first | exact hk' | lia) (by first | exact hk' | lia)
   ·refine .ref (lf _ (by refine rwr (hwh ..) ?_;simp) hl) (.fold 4 (by refine rwr (hd ..) ?_;rfl) h0 n4 (.inr (GI base term ids learns [] [] auto R.length ⟨?_,by simp⟩)))
    refine rwr (hR ..) ?_
    exact fo [c]
  ·have hR2:=hR
   rw[hop]at hR2
   refine .ref (lf _ (λq=>q.2.elim (λx=>h0 x.1) λx=>x.elim (λx=>absurd x.2 (by decide)) λx=>x.2 rfl) hl) (odd 4 _ hR2 ?_)
   refine ao ((mR 1 i).elim .inr λg=>.inl (mI g (lh h0))) (λh=>?_) λh=>?_
   ·exact .inr (.inl ⟨h,by decide⟩)
   ·exact .inr (.inr ⟨h,by decide,by decide⟩)
end

section
theorem fF{α:Type}{l:List α}{i:Nat}{a:α}(h:getN l i=some a):i<l.length:=by rw[bk]at h;exact cE h
theorem po{α:Type}{l:List α}{i:Nat}{a:α}(h:i<l.length):getN (setN l i a) i=some a:=by exact rwr (bk ..) (rwr (hZ ..) (rwr (Lf h ..) rfl))
theorem hM{α:Type}{l:List α}{i j:Nat}{a:α}(h:i≠j):getN (setN l i a) j=getN l j:=by exact rwr (bk ..) (rwr (hZ ..) (rwr (BA h ..) (rwr (bk ..) rfl)))
theorem jO{α:Type}{l r:List α}{i:Nat}{a:α}(h:getN l i=some a):getN (l++r) i=some a:=by
 rw[bk]at h
 exact CV h
theorem zC{α:Type}{l r:List α}{n i:Nat}(h:l.length=n):getN (l++r) (n+i)=getN r i:=by
 exact rwr (bk ..) (rwr (uq (by lia)) (rwr (bk ..) (rwr (h ..) (rwr (pL ..) rfl))))
structure bB(own:List af)(e q p cnt bi bt:Nat)(conf hd:D)(es ps rows:List D):Prop where
 h0:getN own 0=some (segO cnt bi bt conf hd (.own e) (.own q))
 he:getN own e=some (.lst es)
 hq:getN own q=some (.lst ps)
 hp:getN own p=some (.lst rows)
 e0:e≠0
 q0:q≠0
 p0:p≠0
 eq:e≠q
 ep:e≠p
 qp:q≠p
theorem sB{a b:Nat}(h:a≠b):aG a b=false:=by cases q:aG a b with | false=>rfl | true=>exact absurd (di q) h
theorem zV(a:Nat):aG a a=true:=BB a
section
variable {Γ:Addr->aH->Prop}{own:List af}{e q p cnt bi bt:Nat}{conf hd:D}{es ps rows:List D}{loc:List (Option V)}{Q:V->St->Prop}{X:Nat->St->Prop}{d:D}{C:aH}{f:Addr}
theorem bB.sel(S:bB own e q p cnt bi bt conf hd es ps rows):selV own [.own 0,.d d] []=[0,e,q]:=by
 show selV own [.d d] (match getN own 0 with | some (.inst _ fs)=>(fieldsOwn fs).foldl addTo (addTo [] 0) | _=>addTo [] 0)=_
 refine rwr (S.h0 ..) ?_
 show ([e,q]).foldl addTo [0]=_
 have a1:addTo [0] e=[0,e]:=by
  unfold addTo
  have:List.elem e [0]=false:=by simp[S.e0]
  refine rwr (this ..) ?_;rfl
 have a2:addTo [0,e] q=[0,e,q]:=by
  unfold addTo
  have:List.elem q [0,e]=false:=by simp[S.q0,fP S.eq]
  refine rwr (this ..) ?_;rfl
 show addTo (addTo [0] e) q=_
 exact rwr (a1 ..) (rwr (a2 ..) rfl)
theorem bB.idx(S:bB own e q p cnt bi bt conf hd es ps rows):Mine.idx [0,e,q] 0=0/\Mine.idx [0,e,q] e=1/\Mine.idx [0,e,q] q=2:=by
 refine⟨rfl,?_,?_⟩
 ·show (bif aG 0 e then 0 else (bif aG e e then 0 else _)+1)=1
  refine rwr (sB (fP S.e0) ..) (rwr (zV ..) ?_);rfl
 ·show (bif aG 0 q then 0 else (bif aG e q then 0 else (bif aG q q then 0 else _)+1)+1)=2
  refine rwr (sB (fP S.q0) ..) (rwr (sB S.eq ..) (rwr (zV ..) ?_));rfl
theorem bB.call(S:bB own e q p cnt bi bt conf hd es ps rows)(hΓ:Γ f C)
  (h:C [.own 0,.d d] [segO cnt bi bt conf hd (.own 1) (.own 2),.lst es,.lst ps] (λV own'=>Q (renV (sig [0,e,q] own.length) V) ⟨loc,merge own [0,e,q] own'⟩) (λCn=>X Cn ⟨loc,own⟩)):fJ Γ f [.own 0,.d d] ⟨loc,own⟩ Q X:=by
 refine bN S.idx λi0 i1 i2=>?_
 refine⟨C,hΓ,?_,?_⟩
 ·unfold sj
  refine rwr (show selV (St.own ⟨loc,own⟩) [.own 0,.d d] []=[0,e,q] from S.sel) ?_
  refine⟨by simp[fP S.e0,fP S.q0,S.eq],λi hi=>?_,λV hV=>?_,?_,λi hi=>?_⟩
  ·simp only[bZ,jn,or_false]at hi
   refine ao hi (λz0=>?_) (uO (λz1=>?_) (λz2=>?_)) <;>clear hi <;>(try subst z0) <;>(try subst z1) <;>(try subst z2)
   ·exact fF S.h0
   ·exact fF S.he
   ·exact fF S.hq
  ·simp only[eM,pM,bZ,jn,or_false]at hV
   refine ao hV (λz0=>?_) λz1=>?_ <;>clear hV <;>(try subst z0) <;>(try subst z1)
   ·show Mine.idx [0,e,q] 0<3;refine rwr (i0 ..) ?_;decide
   ·trivial
  ·rfl
  ·simp only[bZ,jn,or_false]at hi
   refine ao hi (λz0=>?_) (uO (λz1=>?_) (λz2=>?_)) <;>clear hi <;>(try subst z0) <;>(try subst z1) <;>(try subst z2)
   ·refine⟨_,S.h0,?_,?_⟩
    ·unfold segO
     simp only[renO,renF,renV,iP,jV,ec,i1,i2]
     simp
    ·unfold segO
     simp only[renO,renF,renV,i1,i2]
     rfl
   ·exact⟨_,S.he,trivial,rfl⟩
   ·exact⟨_,S.hq,trivial,rfl⟩
 ·rw[show selV (St.own ⟨loc,own⟩) [.own 0,.d d] []=[0,e,q] from S.sel]
  have ho:(j4 own [0,e,q]).map (renO (Mine.idx [0,e,q]))=[segO cnt bi bt conf hd (.own 1) (.own 2),.lst es,.lst ps]:=by
   unfold j4
   simp only[eM,pM,S.h0,S.he,S.hq,BN]
   unfold segO
   simp only[renO,renF,renV,i1,i2]
  show C [.own (Mine.idx [0,e,q] 0),.d d] ((j4 own [0,e,q]).map (renO (Mine.idx [0,e,q]))) _ _
  rw[ho]
  exact h
theorem bB.get3(S:bB own e q p cnt bi bt conf hd es ps rows){o0 o1 o2:af}{r:List af}{own':List af}(h:own'=setN (setN (setN own 0 o0) e o1) q o2++r):
  getN own' 0=some o0/\getN own' e=some o1/\getN own' q=some o2/\getN own' p=some (.lst rows)/\∀i,getN own' (own.length+i)=getN r i:=by
 have l0:=fF S.h0
 have l1:=fF S.he
 have l2:=fF S.hq
 have n1:=S.e0
 have n2:=S.q0
 have n3:=S.p0
 subst h
 refine⟨jO ?_,jO ?_,jO ?_,jO ?_,λi=>zC (by exact rwr (gU ..) (rwr (gU ..) (rwr (gU ..) rfl)))⟩
 ·exact rwr (hM n2 ..) (rwr (hM n1 ..) (rwr (po l0 ..) rfl))
 ·rw[hM (fP S.eq),po (by rw[gU];exact l1)]
 ·rw[po (by rw[gU,gU];exact l2)]
 ·refine rwr (hM S.qp ..) (rwr (hM S.ep ..) (rwr (hM (fP n3) ..) ?_));exact S.hp
variable {xs:List UInt8}
theorem bB.fold(S:bB own e q p cnt bi bt conf hd es ps rows)(g:Γ 524 gS)(hx:xs.length<=10000)(hes:es.length<=100)(hps:ps.length<=100)(hE:jJ bi es.length ps)(hc:cnt=0)(h0:xs[0]? = some 4){i t:Nat}{a b c d:List Nat}{w:Bool}(hf:iN xs i t a b c d w xs.length)
  (hQ:∀V own',bB own' e q p 1 i t (eT a b c d w) hd es ps rows->Q V ⟨loc,own'⟩):fJ Γ 524 [.own 0,.d (.bytes xs)] ⟨loc,own⟩ Q X:=by
 refine S.call g ⟨xs,cnt,bi,bt,conf,hd,es,ps,rfl,rfl,hx,hes,hps,hE,.inl ⟨hc,h0,i,t,a,b,c,d,w,hf,hQ _ _ ?_⟩⟩
 refine gN (S.get3 (own':=merge own [0,e,q] [segO 1 i t (eT a b c d w) hd (.own 1) (.own 2),.lst es,.lst ps]) (o0:=segO 1 i t (eT a b c d w) hd (.own e) (.own q)) (o1:=.lst es) (o2:=.lst ps) (r:=[]) rfl) λk0 k1 k2 k3 U=>?_
 exact⟨k0,k1,k2,k3,S.e0,S.q0,S.p0,S.eq,S.ep,S.qp⟩
theorem bB.hard(S:bB own e q p cnt bi bt conf hd es ps rows)(g:Γ 524 gS)(hx:xs.length<=10000)(hes:es.length<=100)(hps:ps.length<=100)(hE:jJ bi es.length ps)(hc:1<=cnt)(h0:xs[0]? = some 1){t v c:Nat}(hf:h_ xs t v c xs.length)
  (hQ:∀V own' q',bB own' e q' p (cnt+1) bi bt conf (fB t v c) (es++ps) [] rows->Q V ⟨loc,own'⟩):fJ Γ 524 [.own 0,.d (.bytes xs)] ⟨loc,own⟩ Q X:=by
 refine S.call g ⟨xs,cnt,bi,bt,conf,hd,es,ps,rfl,rfl,hx,hes,hps,hE,.inr (.inl ⟨hc,h0,t,v,c,hf,hQ _ _ (own.length+1) ?_⟩)⟩
 refine gN (S.get3 (own':=merge own [0,e,q] [segO (cnt+1) bi bt conf (fB t v c) (.own 1) (.own 4),.lst (es++ps),.dead,cur xs xs.length,.lst []]) (o0:=segO (cnt+1) bi bt conf (fB t v c) (.own e) (.own (own.length+1))) (o1:=.lst (es++ps)) (o2:=.dead) (r:=[cur xs xs.length,.lst []]) rfl) λk0 k1 k2 k3 k4=>?_
 have l1:=fF S.he
 have l3:=fF S.hp
 exact⟨k0,k1,k4 1,k3,S.e0,by lia,S.p0,by lia,S.ep,by lia⟩
theorem bB.ent(S:bB own e q p cnt bi bt conf hd es ps rows)(g:Γ 524 gS)(hx:xs.length<=10000)(hes:es.length<=100)(hps:ps.length<=100)(hE:jJ bi es.length ps)(hc:2<=cnt)(h0:xs[0]? = some 2){t i k:Nat}{b:List UInt8}(hf:gG (xs.drop 1) t i k b (xs.drop 1).length)
  (hQ:∀V own',bB own' e q p (cnt+1) bi bt conf hd es (ps++[eZ t i k b]) rows->Q V ⟨loc,own'⟩):fJ Γ 524 [.own 0,.d (.bytes xs)] ⟨loc,own⟩ Q X:=by
 refine S.call g ⟨xs,cnt,bi,bt,conf,hd,es,ps,rfl,rfl,hx,hes,hps,hE,.inr (.inr (.inl ⟨hc,h0,t,i,k,b,hf,hQ _ _ ?_⟩))⟩
 refine gN (S.get3 (own':=merge own [0,e,q] [segO (cnt+1) bi bt conf hd (.own 1) (.own 2),.lst es,.lst (ps++[eZ t i k b])]) (o0:=segO (cnt+1) bi bt conf hd (.own e) (.own q)) (o1:=.lst es) (o2:=.lst (ps++[eZ t i k b])) (r:=[]) rfl) λk0 k1 k2 k3 U=>?_
 exact⟨k0,k1,k2,k3,S.e0,S.q0,S.p0,S.eq,S.ep,S.qp⟩
theorem bB.refd(S:bB own e q p cnt bi bt conf hd es ps rows)(g:Γ 524 gS)(hx:xs.length<=10000)(hes:es.length<=100)(hps:ps.length<=100)(hE:jJ bi es.length ps)(hr:fw cnt xs)(h1:X 56 ⟨loc,own⟩)(h2:X 68 ⟨loc,own⟩):fJ Γ 524 [.own 0,.d (.bytes xs)] ⟨loc,own⟩ Q X :=
 S.call g ⟨xs,cnt,bi,bt,conf,hd,es,ps,rfl,rfl,hx,hes,hps,hE,.inr (.inr (.inr ⟨hr,h1,h2⟩))⟩
end
end

section
variable {Γ:Addr->aH->Prop}{O:bf}{OS:bJ}{args:List V}{own:List af}{Q:V->List af->Prop}{X:Nat->Prop}
noncomputable abbrev gu:=Nat×Nat×Nat×List UInt8
noncomputable def eR(x:gu):D:=eZ x.1 x.2.1 x.2.2.1 x.2.2.2
noncomputable def bO(x:gu):D:=.tup [.int (x.1:Nat),.int (x.2.1:Nat),.int (x.2.2.1:Nat),.bytes x.2.2.2]
noncomputable def m0:D->D
 |.obj _ fs=>.tup (fs.map (·.2))
 |d=>d
theorem bB.attr{own:List af}{e q p cnt bi bt:Nat}{conf hd:D}{es ps rows:List D}(S:bB own e q p cnt bi bt conf hd es ps rows){k:V->Prop}{f:Nat}{v:V}(hf:f<20)
  (hg:dY [(13,V.d (.int (cnt:Nat))),(14,V.d (.int (bi:Nat))),(15,V.d (.int (bt:Nat))),(16,V.d conf),(17,V.d hd),(18,V.own e),(19,V.own q)] f=some v) (hk:k v):lX own (.own 0) f k:=by
 refine vU S.h0 ?_
 show cond (iL 555&&b_ f 20) (oo (dY _ f) k) False
 refine rwr (fN.mpr hf ..) ?_
 exact bg hg hk
theorem ug:∀l:List Nat,likeDs (aw l) (aw l)
 |[]=>trivial
 |_::r=>⟨trivial,ug r⟩
theorem uk(n:Nat):∀l:List Nat,plainDs n (aw l)
 |[]=>by cases n <;>trivial
 |_::r=>by
  have:=uk n r
  cases n <;>exact⟨trivial,this⟩
theorem tG:∀l:List gu,likeDs (l.map bO) (l.map bO)
 |[]=>trivial
 |_::r=>⟨⟨trivial,trivial,trivial,trivial,trivial⟩,tG r⟩
theorem oI:∀l:List gu,plainDs 3 (l.map bO)
 |[]=>trivial
 |_::r=>⟨⟨trivial,trivial,trivial,trivial,trivial⟩,oI r⟩
theorem KC{a b c:Nat}{d:List UInt8}:∀p∈ie a b c d,p.1<20:=by
 intro p hp
 simp only[ie,bZ,jn,or_false]at hp
 refine ao hp (λz0=>?_) (uO (λz1=>?_) (uO (λz2=>?_) (λz3=>?_))) <;>clear hp <;>(try subst z0) <;>(try subst z1) <;>(try subst z2) <;>(try subst z3) <;>exact bL rfl
theorem Bc{own:List af}{q:Nat}{vs:List D}(h:getN own q=some (.lst vs)):nC (.own q) own=some vs:=by
 exact nT h
theorem v7(l:List gu):(l.map eR).map m0=l.map bO:=by refine rwr (dP ..) ?_;rfl
theorem xJ{l:List gu}:∀d∈l.map eR,∃fs,d=.obj 352 fs/\(∀p∈fs,p.1<20)/\kQ [.d d] [] (λV own'=>V=.d (m0 d)) (λU=>False):=by
 intro d hd
 refine elE1 (aW.mp hd) λx=>ae λU z0=>?_;subst z0
 exact⟨_,rfl,KC,x.1,x.2.1,x.2.2.1,x.2.2.2,rfl,rfl,rfl⟩
noncomputable def kP(Γ:Addr->aH->Prop):bf:=λn st Q X=>ww Γ bT kQ (.attr (.v 1) (bif aG n 1 then 19 else 18)) st Q X
noncomputable def iZ(Γ:Addr->aH->Prop):bJ:=λn st Q X =>
 (n=1/\∃Vo Va,getN st.loc 1=some (some Vo)/\getN st.loc 18=some (some Va)/\jG st.own Vo 5 λf=>fJ Γ f [Vo,Va] st (λU st1=>Q .next st1) (λCn st1=>(Cn=56\/Cn=68)/\Q .next ⟨setN st1.loc 23 (some (.d (.bool true))),st1.own.map λU=>.dead⟩)) \/
 (n=0/\∃(cnt bi bt:Nat) (conf hard:D) (es ps:List D) (i a b:Nat),getN st.loc 1=some (some (.own i))/\getN st.own i=some (segO cnt bi bt conf hard (.own a) (.own b))/\getN st.own a=some (.lst es)/\getN st.own b=some (.lst ps) /\
  ((2<=cnt/\Q .next st)\/(cnt<2/\Q .next ⟨setN st.loc 24 (some (.d (.bool true))),st.own⟩)))
variable {ns ids learns:List Nat}{auto:Bool}{X:Nat->St->Prop}{Q:Fl->St->Prop}{r:Sx}{b0 b1 b2 b3 b4 b5 b6 b7 b8 b9 b10 b11 b12 b13 b14 b15 b16 b17 b18 b19 b20 b21 b22 b23 b24:Option V}
theorem sa{i base term p e q h1 h2 h3:Nat}{esE psE:List gu}(g1:Γ 433 kx)(g2:Γ 384 kH)(hi:i<4)(hids:ids.length<=60)(hlr:learns.length<=60)(hes:esE.length<=10)(hps:psE.length<=10)(S:bB own e q p (i+1) base term (eT ids learns [] [] auto) (fB h1 h2 h3) (esE.map eR) (psE.map eR) (psE.map bO))(h:∀b24:Option V,Q .next ⟨[b0,some (.own 0),b2,some (.d (.int ((base:Nat):Int))),some (.d (.int ((term:Nat):Int))),some (.d (.list (aw ids))),some (.d (.list (aw learns))),some (.d (.bool auto)),b8,b9,some (.d (.tup [.int ((h1:Nat):Int),.int ((h2:Nat):Int),.int ((h3:Nat):Int)])),some (.own p),some (.d (.list (esE.map bO))),some (.d (.int ((i:Nat):Int))),b14,b15,b16,b17,b18,b19,b20,b21,b22,b23,b24],own⟩):aj Γ (kP Γ) (iZ Γ) (.cons xt (.cons zI (.cons vC (.cons xD (.cons AJ (.cons AD .nil)))))) X ⟨[b0,some (.own 0),b2,some (.d (.int ((base:Nat):Int))),some (.d (.int ((term:Nat):Int))),some (.d (.list (aw ids))),some (.d (.list (aw learns))),some (.d (.bool auto)),b8,b9,some (.d (.tup [.int ((h1:Nat):Int),.int ((h2:Nat):Int),.int ((h3:Nat):Int)])),some (.own p),some (.d (.list (esE.map bO))),some (.d (.int ((i:Nat):Int))),b14,b15,b16,b17,b18,b19,b20,b21,b22,b23,b24],own⟩ Q:=by
 have F:=λ(k:V->Prop) (f:Nat) (v:V)=>S.attr (k:=k) (f:=f) (v:=v)
 walk_at"R"
 refine F _ 13 _ (by decide) rfl ?_
 walk_at"R"
 refine F _ 14 _ (by decide) rfl ?_
 walk_at"R"
 refine F _ 15 _ (by decide) rfl ?_
 walk_at"R"
 refine iX (by show D.tup [D.int ((i+1:Nat):Int),D.int (base:Int),D.int (term:Int)]=D.tup [D.int ((i:Int)+1),D.int (base:Int),D.int (term:Int)];refine rwr (B6 ..) ?_;rfl) (by repeat' first | exact trivial | apply dg) (by repeat' first | exact trivial | apply dg) ?_
 walk_at"R"
 refine F _ 16 _ (by decide) rfl ?_
 have d1:=db ids
 have d2:=db learns
 walk_at"R"
 refine aq g1 rfl ⟨ids,learns,[],[],auto,rfl,rfl,hids,hlr,by decide,by decide,?_⟩
 walk_at"N"
 refine rwr (bA ..) ?_
 walk_at"R"
 refine iX rfl ⟨ug ids,ug learns,trivial,trivial,trivial,trivial⟩ ⟨uk _ ids,uk _ learns,trivial,trivial,trivial,trivial⟩ ?_
 walk_at"R"
 refine F _ 17 _ (by decide) rfl ?_
 walk_at"R"
 refine aq g2 rfl ⟨h1,h2,h3,rfl,rfl,?_⟩
 walk_at"N"
 refine rwr (bA ..) ?_
 walk_at"R"
 refine iX rfl ⟨trivial,trivial,trivial,trivial⟩ ⟨trivial,trivial,trivial,trivial⟩ ?_
 walk_at"R"
 refine F _ _ _ (by decide) rfl ?_
 refine⟨_,Bc S.hq,by simp;lia,m0,xJ,?_⟩
 refine rwr (v7 ..) ?_
 walk_at"R"
 refine bg (Ft S.hp) ⟨tG psE,oI psE,oI psE,λrr hr=>?_⟩
 refine rwr (hr.mpr rfl ..) ?_
 walk_at"R"
 refine F _ _ _ (by decide) rfl ?_
 refine⟨_,Bc S.he,by simp;lia,m0,xJ,?_⟩
 refine rwr (v7 ..) ?_
 walk_at"R"
 refine iX rfl (tG esE) (oI esE) ?_
 by_cases c:i=0
 ·walk_at"R"
  refine .inr ⟨rfl,rX (i+1) base term _ _ _ _ 0 e ⟨q,rfl,S.h0,S.he,S.hq,.inr ⟨by lia,?_⟩⟩⟩
  walk_at"R"
  rename _=>hr2;rename Bool=>rr2
  refine rwr (hr2.mpr (decide_eq_true (by lia)).symm) ?_
  walk_at"R"
  exact h _
 ·walk_at"R"
  refine .inr ⟨rfl,rX (i+1) base term _ _ _ _ 0 e ⟨q,rfl,S.h0,S.he,S.hq,.inl ⟨by lia,?_⟩⟩⟩
  walk_at"R"
  rename _=>hr2;rename Bool=>rr2
  refine rwr (hr2.mpr (decide_eq_false (by lia)).symm) ?_
  walk_at"R"
  exact h _
end

section
variable {Γ:Addr->aH->Prop}{O:bf}{OS:bJ}{args:List V}{own:List af}{Q:V->List af->Prop}{X:Nat->Prop}
variable {ns ids learns:List Nat}{auto:Bool}{X:Nat->St->Prop}{Q:Fl->St->Prop}{r:Sx}{b0 b1 b2 b3 b4 b5 b6 b7 b8 b9 b10 b11 b12 b13 b14 b15 b16 b17 b18 b19 b20 b21 b22 b23 b24:Option V}
theorem bB.meth{own:List af}{e q p cnt bi bt:Nat}{conf hd:D}{es ps rows:List D}(S:bB own e q p cnt bi bt conf hd es ps rows){k:Addr->Prop}(hk:k 524):jG own (.own 0) 5 k:=by
 exact vU S.h0 hk
theorem bB.app{own r:List af}{e q p cnt bi bt:Nat}{conf hd:D}{es ps rows:List D}(S:bB own e q p cnt bi bt conf hd es ps rows):bB (own++[.lst []]) e q own.length cnt bi bt conf hd es ps []:=by
 have l0:=fF S.h0
 have l1:=fF S.he
 have l2:=fF S.hq
 exact⟨jO S.h0,jO S.he,jO S.hq,zC (i:=0) rfl,S.e0,S.q0,by lia,S.eq,by lia,by lia⟩
theorem bB.push{own:List af}{e q p cnt bi bt:Nat}{conf hd:D}{es ps rows:List D}(S:bB own e q p cnt bi bt conf hd es ps rows)(d:D):bB (setN own p (.lst (rows++[d]))) e q p cnt bi bt conf hd es ps (rows++[d]):=
 ⟨by refine rwr (hM S.p0 ..) ?_;exact S.h0,by refine rwr (hM (fP S.ep) ..) ?_;exact S.he,by refine rwr (hM (fP S.qp) ..) ?_;exact S.hq,po (fF S.hp),S.e0,S.q0,S.p0,S.eq,S.ep,S.qp⟩
theorem I5{own:List af}{p:Nat}{vs:List D}(h:getN own p=some (.lst vs)):o4 (iG own (.own p)) 0=true:=by refine rwr (lz h ..) ?_;rfl
theorem HW{own:List af}{p:Nat}{vs:List D}{d:D}{loc:List (Option V)}{Q:V->St->Prop}(h:getN own p=some (.lst vs))(hl:vs.length<=1000000)(hq:Q (.d .none) ⟨loc,setN own p (.lst (vs++[d]))⟩):oF 0 (.own p) [.d d] ⟨loc,own⟩ Q:=by
 exact Kw h ⟨d,rfl,hl,hq⟩
theorem H9{w t0 t1 t2 ei ek:Nat}{eb op R:List UInt8}(h:tr w t0 t1 t2 ei ek eb op R)(u0:t0<16384)(u1:t1<16384)(u2:t2<16384)(he:ei<16384)(hk:ek<16384)(heb:eb.length<=2)(hop:op.length<=1000):R.length<=1000:=by
 have a0:=dy t0
 have a1:=dy t1
 have a2:=dy t2
 have a3:=dy ei
 have a4:=dy ek
 have a5:=dy eb.length
 refine ao h (ae λU z0=>?_) (uO (ae λU z1=>?_) (uO (ae λU z2=>?_) (uO (λz3=>?_) (ae λU z4=>?_)))) <;>clear h <;>(try subst z0) <;>(try subst z1) <;>(try subst z2) <;>(try rcases z3 with ⟨_,c,_,rfl⟩) <;>(try subst z4)
 ·refine rwr (qy u0 u1 u2 ..) ?_;exact bp (m:=5) (bp (m:=3) (jm a0 1) a1 rfl) a2 rfl
 ·refine rwr (sZ u0 he hk (fD heb rfl)) ?_;exact bp (m:=1) (bG _) (iz (iz (iz (iz a0 a3) a4) a5) heb) rfl
 ·exact cR _
 ·exact bL rfl
 ·exact hop
theorem Hd{w:Nat}{R R':List UInt8}{wh:Bool}(h:oR w R R' wh)(hR:R.length<=1000):R'.length<=10000:=by
 refine ao h (ae λU z0=>?_) (uO (λz1=>?_) (λz2=>?_)) <;>clear h <;>(try subst z0) <;>(try rcases z1 with ⟨_,k,_,rfl⟩) <;>(try rcases z2 with ⟨_,_,c,rfl⟩)
 ·exact bP hR rfl
 ·exact f8 (bP hR rfl)
 ·refine rwr (bV ..) ?_;exact bp hR (bG _) rfl
theorem Ew{own:List af}{i base term p e q bi bt h1 h2 h3:Nat}{cf0:D}{psE:List gu}{op cf:List UInt8}(g1:Γ 608 f_)(g2:Γ 665 iV)(g3:Γ 489 kK)(g4:Γ 408 (cF 408 gO))(g5:Γ 524 gS)(g6:Γ 433 kx)(g7:Γ 384 kH)
  (hns:ns≠[]) (hnl:ns.length<=1000) (hi:i<4) (hb:base<1000) (ht:term<1000) (hop:op=c_ base term cf) (hcf:cf=eG ids learns [] [] auto) (hopl:op.length<=1000) (hids:bq ids) (hlr:bq learns)
  (S:bB own e q p i bi bt cf0 (fB h1 h2 h3) [] (psE.map eR) (psE.map bO)) (hcnt:i=0\/(bi=base/\bt=term/\cf0=eT ids learns [] [] auto)) (hp0:i<=2->psE=[]) (hpl:psE.length<=4) (hpx:∀m x,psE[m]? = some x->x.2.1=bi+1+m)
  (h:∀(own':List af) (e' q' p' k1 k2 k3:Nat) (esE psE':List gu) (c14 c15 c16 c17 c18 c19 c20 c21 c22 c23 c24:Option V),bB own' e' q' p' (i+1) base term (eT ids learns [] [] auto) (fB k1 k2 k3) (esE.map eR) (psE'.map eR) (psE'.map bO)->(i<=2->esE=[])->(i<=1->psE'=[])->psE'.length<=psE.length+1->(∀m x,psE'[m]? = some x->x.2.1=base+1+m)->Q .next ⟨[some (.d (.list (aw ns))),some (.own 0),b2,some (.d (.int ((base:Nat):Int))),some (.d (.int ((term:Nat):Int))),some (.d (.list (aw ids))),some (.d (.list (aw learns))),some (.d (.bool auto)),b8,some (.d (.bytes op)),some (.d (.tup [.int ((k1:Nat):Int),.int ((k2:Nat):Int),.int ((k3:Nat):Int)])),some (.own p'),some (.d (.list (esE.map bO))),some (.d (.int ((i:Nat):Int))),c14,c15,c16,c17,c18,c19,c20,c21,c22,c23,c24],own'⟩) (hR:∀st,Q (.ret (.d (.bool true))) st):aj Γ (kP Γ) (iZ Γ) sL X ⟨[some (.d (.list (aw ns))),some (.own 0),b2,some (.d (.int ((base:Nat):Int))),some (.d (.int ((term:Nat):Int))),some (.d (.list (aw ids))),some (.d (.list (aw learns))),some (.d (.bool auto)),b8,some (.d (.bytes op)),some (.d (.tup [.int ((h1:Nat):Int),.int ((h2:Nat):Int),.int ((h3:Nat):Int)])),some (.own p),some (.d (.list [])),some (.d (.int ((i:Nat):Int))),b14,b15,b16,b17,b18,b19,b20,b21,b22,b23,b24],own⟩ Q:=by
 refine rwr (JP ..) ?_
 refine DT g1 hns hnl hi λx y w hw=>?_
 refine EO g2 g3 g4 hb ht λt0 t1 t2 R u0 u1 u2 hr1=>?_
 have hrl:(psE.map bO).length=psE.length:=by exact rwr (cV ..) rfl
 refine GA g2 hb S.hp (by lia) rfl hw u0 hr1 λek eb R2 hek heb hr2=>?_
 refine GU hw λwh0 hwh=>?_
 have nE:base+1+(psE.map bO).length<16384:=by rw[hrl];exact cy (iz (j' (ci hb) 1) hpl) (by decide)
 have l2:=H9 hr2 (cg u0 (by decide)) (cg u1 (by decide)) (cg u2 (by decide)) (by first | exact nE | lia) (by first | exact nE | lia) heb hopl
 refine Kd hwh (bP l2 rfl) λhu R3 wh hr3=>?_
 refine Ha λlt hl=>?_
 have l3:=Hd hr3 l2
 have hE:jJ bi ([]:List D).length (psE.map eR):=λj d hd=>by
  rw[dO]at hd
  cases hx:psE[j]? with
  |none=>rw[hx]at hd;cases hd
  |some x =>
   rw[hx]at hd
   simp only[li,lj]at hd
   subst hd
   refine(ex3 x.1 x.2.2.1 x.2.2.2 ?_)
   have:=hpx j x hx
   show eZ x.1 x.2.1 x.2.2.1 x.2.2.2=eZ x.1 (bi+1+(0+j)) x.2.2.1 x.2.2.2
   exact rwr (this ..) (rwr (iD ..) rfl)
 have hel:([]:List D).length<=100:=by decide
 have hql:(psE.map eR).length<=100:=by refine rwr (cV ..) ?_;exact bP hpl rfl
 have hP:=CK (hu:=hu) hi hw hr2 hr3 hl hop hcf hids hlr (by first | exact nE | lia) (by first | exact nE | lia) (by first | exact nE | lia) (by first | exact nE | lia) (by first | exact nE | lia) (by first | exact nE | lia) hek (by first | exact nE | lia)
 rcases hP with ⟨rfl,h0,rfl,hx,hf⟩ | ⟨rfl,h0,rfl,hx,hf⟩ | ⟨rfl,h0,rfl,hx,hf⟩ | ⟨rfl,hx⟩
 ·skip
  refine .inl ⟨rfl,ex2 (.own 0) _ ⟨rfl,rfl,S.meth (S.fold g5 l3 hel hql hE h0 hx hf λV own' S'=>?_)⟩⟩
  walk_at"R"
  rename _=>hr;rename Bool=>rr
  have hrf:rr=false:=by cases rr;rfl;exact absurd (hr.mp rfl) (by decide)
  refine rwr (hrf ..) ?_
  walk_at"R"
  have hps:psE=[]:=hp0 (by lia)
  subst hps
  refine sa (esE:=[]) (psE:=[]) (h1:=h1) (h2:=h2) (h3:=h3) (base:=base) (term:=term) (p:=p) (e:=e) (q:=q) g6 g7 hi hids.1 hlr.1 (by decide) (by decide) (by refine rwr (h0 ..) ?_;exact S') λb24=>?_
  exact h _ e q p h1 h2 h3 [] [] _ _ _ _ _ _ _ _ _ _ _ (by refine rwr (h0 ..) ?_;exact S') (λU=>rfl) (λU=>rfl) (cR _) (λm x hx=>nomatch hx)
 ·skip
  refine .inl ⟨rfl,ex2 (.own 0) _ ⟨rfl,rfl,S.meth (S.hard g5 l3 hel hql hE h0 hx hf λV own' q' S'=>?_)⟩⟩
  walk_at"R"
  rename _=>hr;rename Bool=>rr
  have hrf:rr=false:=by cases rr;rfl;exact absurd (hr.mp rfl) (by decide)
  refine rwr (hrf ..) ?_
  walk_at"S"
  obtain⟨z1,z2,z3⟩:bi=base/\bt=term/\cf0=eT ids learns [] [] auto:=by (refine ao hcnt (λz=>?_) λz=>?_ <;>clear hcnt);lia;exact z
  rw[z1,z2,z3]at S'
  refine bg (xB S'.hp) ⟨by simp;lia,?_⟩
  refine rwr (mS ..) ?_
  have S2:=S'.app (r:=[])
  rw[mS]at S2
  refine sa (esE:=psE) (psE:=[]) (h1:=t0) (h2:=t1) (h3:=t2) (base:=base) (term:=term) (p:=own'.length) (e:=e) (q:=q') g6 g7 hi hids.1 hlr.1 (by lia) (by decide) S2 λb24=>?_
  exact h _ e q' own'.length t0 t1 t2 psE [] _ _ _ _ _ _ _ _ _ _ _ S2 hp0 (λU=>rfl) (cR _) (λm x hx=>nomatch hx)
 ·skip
  refine .inl ⟨rfl,ex2 (.own 0) _ ⟨rfl,rfl,S.meth (S.ent g5 l3 hel hql hE h0 hx hf λV own' S'=>?_)⟩⟩
  walk_at"R"
  rename _=>hr;rename Bool=>rr
  have hrf:rr=false:=by cases rr;rfl;exact absurd (hr.mp rfl) (by decide)
  refine rwr (hrf ..) ?_
  walk_at"R"
  obtain⟨z1,z2,z3⟩:bi=base/\bt=term/\cf0=eT ids learns [] [] auto:=by (refine ao hcnt (λz=>?_) λz=>?_ <;>clear hcnt);lia;exact z
  rw[z1,z2,z3]at S'
  refine bg (lz S'.hp) ?_
  walk_at"S"
  refine GK (I5 S'.hp) (HW S'.hp (by lia) ?_)
  have S2:=S'.push (bO (t0,base+1+(psE.map bO).length,ek,eb))
  have m1:psE.map eR++[eZ t0 (base+1+(psE.map bO).length) ek eb]=(psE++[(t0,base+1+(psE.map bO).length,ek,eb)]).map eR:=by refine rwr (eK ..) ?_;rfl
  have m2:psE.map bO++[bO (t0,base+1+(psE.map bO).length,ek,eb)]=(psE++[(t0,base+1+(psE.map bO).length,ek,eb)]).map bO:=by refine rwr (eK ..) ?_;rfl
  rw[m1,m2]at S2
  have S3:bB (setN own' p (.lst (psE.map bO++[bO (t0,base+1+(psE.map bO).length,ek,eb)]))) e q p (i+1) base term (eT ids learns [] [] auto) (fB h1 h2 h3) ([]:List D) ((psE++[(t0,base+1+(psE.map bO).length,ek,eb)]).map eR) ((psE++[(t0,base+1+(psE.map bO).length,ek,eb)]).map bO):=by refine rwr (m2 ..) ?_;exact S2
  refine sa (esE:=[]) (psE:=psE++[(t0,base+1+(psE.map bO).length,ek,eb)]) (h1:=h1) (h2:=h2) (h3:=h3) (base:=base) (term:=term) (p:=p) (e:=e) (q:=q) g6 g7 hi hids.1 hlr.1 (by decide) (by simp;lia) S3 λb24=>?_
  refine h _ e q p h1 h2 h3 [] _ _ _ _ _ _ _ _ _ _ _ _ S3 (λU=>rfl) (λz=>absurd z (by lia)) (by simp) λm x hx=>?_
  refine ao (mR m psE.length) (λhm=>?_) λhm=>?_
  ·rw[ji hm]at hx
   exact z1▸hpx m x hx
  ·rw[uq hm]at hx
   have hm0:m-psE.length=0:=by
    refine ao (mM (m-psE.length)) (λz=>?_) λz=>?_
    ·exact z
    ·rw[BR (by simp;lia)]at hx;cases hx
   rw[hm0]at hx
   simp only[List.getElem?_cons_zero,lj]at hx
   subst hx
   show base+1+(psE.map bO).length=base+1+m
   rw[hrl];exact congrArg (base+1 + ·) (mI hm (Nat.le_of_sub_eq_zero hm0))
 ·skip
  refine .inl ⟨rfl,ex2 (.own 0) _ ⟨rfl,rfl,S.meth (S.refd g5 l3 hel hql hE hx ⟨.inl rfl,?_⟩ ⟨.inr rfl,?_⟩)⟩⟩
  all_goals
   walk_at"R"
   rename _=>hr;rename Bool=>rr
   have hrf:rr=false:=by cases rr;rfl;exact absurd (hr.mp rfl) (by decide)
   refine rwr (hrf ..) ?_
   walk_at"R"
   exact hR _
end

section
variable {Γ:Addr->aH->Prop}{O:bf}{OS:bJ}{args:List V}{own:List af}{Q:V->List af->Prop}{X:Nat->Prop}
inductive hW(args:List V)(own:List af)(Q:V->List af->Prop)(X:Nat->Prop):Prop
 |mk (ns:List Nat) (_:args=[.d (.list (aw ns))]) (_:own=[]) (_:ns≠[]) (_:ns.length<=1000) (_:Q (.d (.bool true)) []):hW args own Q X
theorem D2(k:Nat)(hk:k<4):∃ids:List Nat,bq ids/\ids.length<=3/\(dz [V.d (D.list (dz [V.d (D.int 1),V.d (D.int 2)])),V.d (D.list (dz [V.d (D.int 1),V.d (D.int 2),V.d (D.int 3)])),V.d (D.list (dz [V.d (D.int 4),V.d (D.int 130)])),V.d (D.list (dz []))])[k]? = some (.list (aw ids)):=by
 refine ao ((by decide:∀k<4,k=0\/k=1\/k=2\/k=3) k (by assumption)) (λz0=>?_) (uO (λz1=>?_) (uO (λz2=>?_) (λz3=>?_))) <;>(try subst z0) <;>(try subst z1) <;>(try subst z2) <;>(try subst z3)
 ·exact⟨[1,2],⟨by decide,by decide,by decide⟩,by decide,rfl⟩
 ·exact⟨[1,2,3],⟨by decide,by decide,by decide⟩,by decide,rfl⟩
 ·exact⟨[4,130],⟨by decide,by decide,by decide⟩,by decide,rfl⟩
 ·exact⟨[],⟨by decide,by decide,by decide⟩,by decide,rfl⟩
theorem J6(k:Nat)(hk:k<2):∃ids:List Nat,bq ids/\ids.length<=3/\(dz [V.d (D.list (dz [])),V.d (D.list (dz [V.d (D.int 5),V.d (D.int 300)]))])[k]? = some (.list (aw ids)):=by
 refine ao ((by decide:∀k<2,k=0\/k=1) k (by assumption)) (λz0=>?_) λz1=>?_ <;>(try subst z0) <;>(try subst z1)
 ·exact⟨[],⟨by decide,by decide,by decide⟩,by decide,rfl⟩
 ·exact⟨[5,300],⟨by decide,by decide,by decide⟩,by decide,rfl⟩
inductive ym(ns ids learns:List Nat)(d base term:Nat)(auto:Bool)(cf:List UInt8)(j:Nat)(st:St):Prop
 |mk (own:List af) (e q p bi bt h1 h2 h3:Nat) (cf0:D) (psE:List gu) (c13 c14 c15 c16 c17 c18 c19 c20 c21 c22 c23 c24:Option V)
  (_:st=⟨[some (.d (.list (aw ns))),some (.own 0),some (.d (.int (d:Nat))),some (.d (.int (base:Nat))),some (.d (.int (term:Nat))),some (.d (.list (aw ids))),some (.d (.list (aw learns))),some (.d (.bool auto)),some (.d (.bytes cf)),some (.d (.bytes (c_ base term cf))),
   some (.d (.tup [.int (h1:Nat),.int (h2:Nat),.int (h3:Nat)])),some (.own p),some (.d (.list [])),c13,c14,c15,c16,c17,c18,c19,c20,c21,c22,c23,c24],own⟩)
  (_:bB own e q p j bi bt cf0 (fB h1 h2 h3) [] (psE.map eR) (psE.map bO)) (_:j=0\/(bi=base/\bt=term/\cf0=eT ids learns [] [] auto)) (_:j<=2->psE=[]) (_:psE.length<=4) (_:∀m x,psE[m]? = some x->x.2.1=bi+1+m):ym ns ids learns d base term auto cf j st
theorem Ed(g0:Γ 555 (cF 555 lD))(g1:Γ 608 f_)(g2:Γ 665 iV)(g3:Γ 489 kK)(g4:Γ 408 (cF 408 gO))(g5:Γ 524 gS)(g6:Γ 433 kx)(g7:Γ 384 kH)(g8:Γ 672 o5)(g9:Γ 496 nQ)(g10:Γ 443 (cF 443 kE))
  (h:hW args own Q X):aj Γ (kP Γ) (iZ Γ) qB (λCn U=>X Cn) ⟨args.map some++ay (zW.length-1) Bx,own⟩ (aC own.length Q):=by
 obtain⟨ns,rfl,rfl,hns,hnl,hQ⟩:=h
 show aj Γ (kP Γ) (iZ Γ) qB _ ⟨[some (.d (.list (aw ns))),Bx,Bx,Bx,Bx,Bx,Bx,Bx,Bx,Bx,Bx,Bx,Bx,Bx,Bx,Bx,Bx,Bx,Bx,Bx,Bx,Bx,Bx,Bx,Bx],[]⟩ (aC 0 Q)
 have ret:∀st:St,aC 0 Q (.ret (.d (.bool true))) st:=λst=>be 0 rfl rfl rfl hQ
 walk_at"R"
 refine aq g0 rfl ⟨rfl,eJ rfl,rfl,rfl,rfl,.inl ?_⟩
 walk_at"N"
 walk_at"R"
 refine aq g1 rfl ⟨ns,2,rfl,rfl,hns,hnl,?_⟩
 walk_at"N"
 generalize gJ ns 2=d
 have e1:((d:Int).fdiv 16).fmod 400=((d/16%400:Nat):Int):=by refine rwr (show (d:Int).fdiv 16=((d/16:Nat):Int) from da d 16) ?_;exact bz _ 400
 have e2:((d:Int).fdiv 6400).fmod 300=((d/6400%300:Nat):Int):=by refine rwr (show (d:Int).fdiv 6400=((d/6400:Nat):Int) from da d 6400) ?_;exact bz _ 300
 have e3:(d:Int).fmod 4=((d%4:Nat):Int):=bz d 4
 have e4:((d:Int).fdiv 4).fmod 2=((d/4%2:Nat):Int):=by refine rwr (show (d:Int).fdiv 4=((d/4:Nat):Int) from da d 4) ?_;exact bz _ 2
 have e5:((d:Int).fdiv 8).fmod 2=((d/8%2:Nat):Int):=by refine rwr (show (d:Int).fdiv 8=((d/8:Nat):Int) from da d 8) ?_;exact bz _ 2
 have b1:d/16%400<400:=bE _ (by decide)
 have b2:d/6400%300<300:=bE _ (by decide)
 refine elE1 (D2 (d%4) (bE _ (by decide))) λids=>al λhids hil hie=>?_
 refine elE1 (J6 (d/4%2) (bE _ (by decide))) λlearns=>al λhlr hll hle=>?_
 obtain⟨auto,ha1,ha2⟩:∃auto:Bool,decide ((((d/8%2:Nat):Int))=1)=auto/\(d/8%2:Nat)=(jE auto).toNat:=by
  refine ao (LJ (d/8)) (λe=>?_) λe=>?_ <;>refine rwr (e ..) ?_
  ·exact⟨false,by decide,by decide⟩
  ·exact⟨true,by decide,by decide⟩
 walk_at"R"
 refine rwr (e1 ..) (rwr (e2 ..) (rwr (e3 ..) ?_))
 generalize d/16%400=base at b1
 generalize d/6400%300=term at b2
 refine .inl ⟨bW,eF (m:=1000000) (ig rfl rfl),bg (by refine rwr (cS ..) ?_;exact hie) ?_⟩
 walk_at"R"
 refine rwr (e4 ..) ?_
 refine .inl ⟨bW,eF (m:=1000000) (ig rfl rfl),bg (by refine rwr (cS ..) ?_;exact hle) ?_⟩
 walk_at"S"
 rw[e5,ha1]
 refine aq g8 rfl ⟨ids,rfl,rfl,by lia,hids.2.2,?_⟩
 walk_at"N"
 walk_at"R"
 refine aq g8 rfl ⟨learns,rfl,rfl,by lia,hlr.2.2,?_⟩
 walk_at"N"
 have z1:=gx hids
 have z2:=gx hlr
 walk_at"R"
 refine⟨[0,0,jE auto],by show [D.int 0,D.int 0,D.int (((d:Int).fdiv 8).fmod 2)]=[D.int 0,D.int 0,D.int ((jE auto).toNat:Nat)];exact rwr (e5 ..) (rwr (ha2 ..) rfl),bL rfl,?_⟩
 walk_at"R"
 refine⟨(by walk_at"L"),?_⟩
 have hn:bq []:=⟨by decide,u8,λn h=>nomatch h⟩
 have hcf:dw ids++dw learns++[0,0,jE auto]=eG ids learns [] [] auto:=by
  have:dw []=[0]:=by unfold dw;refine rwr (ew (by decide)) ?_;rfl
  unfold eG
  refine rwr (this ..) ?_;simp
 refine rwr (hcf ..) ?_
 have z3:=s9 (q:=auto) hids hlr hn hn
 generalize hcfe:eG ids learns [] [] auto=cf at z3
 have q1:=dy base
 have q2:=dy term
 have q3:=dy cf.length
 have n4:=cg b1 (by decide:400<16384)
 have n5:=cg b2 (by decide:300<16384)
 have n6:=fD (k:=16384) z3 rfl
 have p4:=aJ (bH (cr n4)) q1
 have p5:=aJ (bH (cr n5)) q2
 have p6:=aJ (bH (cr n6)) q3
 have r1:0+1+(az base).length<=1000000:=bp (bG _) p4 rfl
 have r2:(az base).length+1+(az term).length<=1000000:=bp (m:=3) (j' p4 1) p5 rfl
 have r3:(az base).length+(az term).length+1+(az cf.length).length<=1000000:=bp (m:=5) (j' (iz p4 p5) 1) p6 rfl
 have r4:(az base).length+(az term).length+1+(az cf.length).length+cf.length<=1000000:=bp (m:=7) (bp (m:=5) (j' (iz p4 p5) 1) p6 rfl) z3 rfl
 walk_at"R"
 refine aq g2 rfl ⟨base,rfl,rfl,n4,?_⟩
 walk_at"N"
 walk_at"R"
 try refine⟨(by walk_at"L"),?_⟩
 walk_at"R"
 refine aq g2 rfl ⟨term,rfl,rfl,n5,?_⟩
 walk_at"N"
 walk_at"R"
 try refine⟨(by walk_at"L"),?_⟩
 walk_at"R"
 refine aq g2 rfl ⟨cf.length,rfl,rfl,n6,?_⟩
 walk_at"N"
 walk_at"R"
 try refine⟨(by walk_at"L"),?_⟩
 walk_at"R"
 try refine⟨(by walk_at"L"),?_⟩
 have hop:[4]++az base++az term++az cf.length++cf=c_ base term cf:=by unfold c_;simp
 walk_at"R"
 refine aq g10 rfl ⟨rfl,eJ rfl,ids,learns,[],[],auto,rfl,rfl,by lia,hids.2.1,by lia,hlr.2.1,by decide,u8,by decide,u8,rfl,.inr ⟨gh ids learns [] [] auto,rfl,?_⟩⟩
 walk_at"N"
 walk_at"R"
 refine aq g9 rfl ⟨base,term,ids,learns,[],[],auto,rfl,rfl,n4,n5,hids,hlr,hn,hn,?_⟩
 refine rwr (hcfe ..) ?_
 walk_at"N"
 walk_at"R"
 rename _=>hr;rename Bool=>rr
 have hop2:4::(az base++az term++az cf.length++cf)=c_ base term cf:=by unfold c_;simp
 rw[hop2]at hr ⊢
 refine rwr (hr.mpr rfl ..) ?_
 have hol:(c_ base term cf).length<=1000:=by refine rwr (t9 n4 n5 n6) ?_;exact bp (m:=7) (bp (m:=5) (bp (m:=3) (jm q1 1) q2 rfl) q3 rfl) z3 rfl
 walk_at"R"
 refine⟨λj st=>j<4->ym ns ids learns d base term auto cf j st,
  iY (m:=4) (by decide) ?_ ?_ ?_⟩
 ·exact λU=>⟨_,1,2,3,0,0,0,0,0,.none,[],_,_,_,_,_,_,_,_,_,_,_,_,rfl,⟨rfl,rfl,rfl,rfl,by decide,by decide,by decide,by decide,by decide,by decide⟩,.inl rfl,λU=>rfl,by decide,λm x hx=>nomatch hx⟩
 ·intro j st1 hj hJ
  obtain⟨own,e,q,p,bi,bt,h1,h2,h3,cf0,psE,c13,c14,c15,c16,c17,c18,c19,c20,c21,c22,c23,c24,rfl,S,k1,k2,k3,k4⟩:=hJ hj
  refine Ew g1 g2 g3 g4 g5 g6 g7 hns hnl hj (cg b1 (by decide)) (cg b2 (by decide)) rfl hcfe.symm hol hids hlr S k1 k2 k3 k4 ?_ ret
  intro own' e' q' p' n1 n2 n3 esE psE' d14 d15 d16 d17 d18 d19 d20 d21 d22 d23 d24 S' m1 m2 m3 m4 hlt
  have hes:=m1 (by lia)
  subst hes
  have hps:=k2 (by lia)
  subst hps
  exact⟨own',e',q',p',base,term,n1,n2,n3,_,psE',_,d14,d15,d16,d17,d18,d19,d20,d21,d22,d23,d24,rfl,S',.inr ⟨rfl,rfl,rfl⟩,λz=>m2 (by lia),by simp at m3;lia,m4⟩
 ·intro st1 U
  walk_at"R"
  exact ret _
end

section
variable {Γ:Addr->aH->Prop}{O:bf}{OS:bJ}{args:List V}{own:List af}{Q:V->List af->Prop}{X:Nat->Prop}
noncomputable def ko:bw:=⟨false,.slc (.v 0) .nil (.k (.int 12)),aa "x",aa "",false,false,false,.bin .Mod .x (.bin .Pow (.k 10) (.k 17))⟩
noncomputable def fA(Γ:Addr->aH->Prop):bJ:=λU st Q X=>i_ Γ bT .none ko st (λV st1=>Q .next ⟨setN st1.loc 1 (some V),st1.own⟩) X
inductive kW(args:List V)(own:List af)(Q:V->List af->Prop)(X:Nat->Prop):Prop
 |mk (n:Nat) (_:args=[.d (.int n)]) (_:own=[]) (_:n<10^18) (_:∀b:List UInt8,b.length<=17->Q (.d (.bytes b)) []):kW args own Q X
inductive q9(args:List V)(own:List af)(Q:V->List af->Prop)(X:Nat->Prop):Prop
 |mk (is:List Int) (_:args=[.d (.list (is.map D.int))]) (_:own=[]) (_:is.length<=1000) (_:Q (.d (.bool true)) []):q9 args own Q X
theorem Fs{ns:List Nat}(h:∀n∈ns,n<10^17){i:Nat}(hi:i<=10):gJ ns i<10^18:=by
 unfold gJ
 have h1:i/ns.length<=10:=aJ (uY _ _) hi
 have h2:((ns[i%ns.length]?).getD 0)<10^17:=by
  cases q:ns[i%ns.length]? with
  |none=>exact u5 (by decide)
  |some n=>exact h n (cw q)
 exact dG (LA h2 (lb 7919 h1)) (by decide)
theorem De{xs:List UInt8}(h:xs.length<=17): -1<=bQ xs/\bQ xs<10^16:=by
 unfold bQ
 split
 ·rename_i q
  have:=wu 16 (xs.take (xs.length-1)) (aJ EN (lg h 1)) (jH.mp q).2.2
  exact⟨uC (by decide) bW,cB.mpr this⟩
 ·lia
theorem DH:∀k<15,∀pc,fT[k]? = some pc->pc.length<=2/\bQ ([49]++pc++[50,10]) = -1/\bQ (pc++[49,50,10]) = -1/\bQ ([49,50]++pc++[10]) = -1:=by
 have:∀k<15,((fT[k]?).getD []).length<=2/\bQ ([49]++((fT[k]?).getD [])++[50,10]) = -1/\bQ (((fT[k]?).getD [])++[49,50,10]) = -1/\bQ ([49,50]++((fT[k]?).getD [])++[10]) = -1:=by decide +kernel
 intro k hk pc hpc
 have:=this k hk
 rw[hpc]at this
 exact this
noncomputable abbrev LB(ns:List Nat)(v0:V)(x2 x3 x4 x5 x6 x7 x8 x9 x10:Option V):St:=⟨[some v0,some (.d (.list (aw ns))),x2,x3,x4,x5,x6,x7,x8,x9,x10],[]⟩
variable {ns:List Nat}{v0:V}{Qs:Fl->St->Prop}{Xs:Nat->St->Prop}
theorem Fy(g1:Γ 677 hW)(g2:Γ 601 ga)(hns:ns≠[])(hnl:ns.length<=12)(hQ:Q (.d (.bool true)) []){x2 x3 x4 x5 x6 x7 x8 x9 x10:Option V}:aj Γ bT (fA Γ) zP Xs (LB ns v0 x2 x3 x4 x5 x6 x7 x8 x9 x10) (aC 0 Q):=by
 walk_at"R"
 refine⟨λU st=>∃x,st=LB ns v0 x2 x3 x4 x5 x6 x7 x8 x x10,gw (by decide) ⟨_,rfl⟩ ?_ ?_⟩
 ·refine λj d st1 hd=>uE1 λx z0=>?_;subst z0
  have key:∀l:List Nat,d=.str (S l)->l.length<=100->pN l=(0,0)->aj Γ bT (fA Γ) xi Xs (LB ns v0 x2 x3 x4 x5 x6 x7 x8 (some (.d d)) x10) (ey (λst=>∃x,st=LB ns v0 x2 x3 x4 x5 x6 x7 x8 x x10) (λfl st1=>match fl with | .next=>aj Γ bT (fA Γ) wK Xs st1 (aC 0 Q) | fl=>aC 0 Q fl st1)):=by
   refine λl z0 hl hp=>?_;subst z0
   walk_at"R"
   refine aq g2 rfl ⟨l,rfl,rfl,hl,?_⟩
   refine rwr (hp ..) ?_
   walk_at"N"
   walk_at"R"
   refine iX rfl (by repeat' first | exact trivial | apply dg) (by repeat' first | exact trivial | apply dg) ?_
   walk_at"R"
   exact⟨_,rfl⟩
  match j,hd with
  |0,hd =>
   injection hd with hd
   exact key (lit "RAFT") (by exact rwr (aM (hd ..)) (rwr (aM (fU ..)) rfl)) (by decide +kernel) HZ
  |1,hd =>
   injection hd with hd
   exact key (lit "RAFT.new") (by exact rwr (aM (hd ..)) (rwr (aM (fU ..)) rfl)) (by decide +kernel) Fg
  |j+2,hd=>cases hd
 ·refine λst1=>uE1 λx z0=>?_;subst z0
  walk_at"R"
  refine aq g1 rfl ⟨ns,rfl,rfl,hns,by lia,?_⟩
  walk_at"N"
  exact be 0 rfl rfl rfl hQ
theorem CS(g1:Γ 677 hW)(g2:Γ 601 ga)(g3:Γ 658 jd)(g4:Γ 608 f_)(hns:ns≠[])(hnl:ns.length<=12)(hQ:Q (.d (.bool true)) []){hd num:Nat}(hnum:num<10^16){x3 x4 x5 x7 x8 x9 x10:Option V}:
  aj Γ bT (fA Γ) zB Xs (LB ns v0 (some (.d (.int (hd:Nat)))) x3 x4 x5 (some (.d (.int (num:Nat)))) x7 x8 x9 x10) (aC 0 Q):=by
 have e1:(hd:Int).fmod 4=((hd%4:Nat):Int):=bz hd 4
 walk_at"R"
 refine aq g4 rfl ⟨ns,1,rfl,rfl,hns,by lia,?_⟩
 walk_at"N"
 generalize gJ ns 1=dd
 have e2:((dd:Int).fdiv 4).fmod (10^(12:Int).toNat+1)=((dd/4%(10^12+1):Nat):Int):=by refine rwr (show (dd:Int).fdiv 4=((dd/4:Nat):Int) from da dd 4) ?_;exact bz _ (10^12+1)
 have b2:dd/4%(10^12+1)<10^12+1:=bE _ (by decide)
 have e3:(999998:Int)+((hd%4:Nat):Int)=((999998+hd%4:Nat):Int):=rfl
 walk_at"S"
 rw[e1,e2,e3]
 generalize dd/4%(10^12+1)=n3 at b2
 have b3:999998+hd%4<10^16:=dG (Nat.add_lt_add_left (bE hd (by decide:0<4)) _) (by decide)
 generalize 999998+hd%4=n2 at b3
 refine⟨by decide,?_⟩
 walk_at"R"
 refine⟨λU st=>∃x,st=LB ns v0 (some (.d (.int (hd:Nat)))) x3 x4 x5 (some (.d (.int (num:Nat)))) x7 x x9 x10,gw (bL rfl) ⟨_,rfl⟩ ?_ ?_⟩
 ·refine λj d st1 hd'=>uE1 λx z0=>?_;subst z0
  have key:∀n:Nat,n<10^16->∀(Q':Fl->St->Prop),(Q' .next (LB ns v0 (some (.d (.int (hd:Nat)))) x3 x4 x5 (some (.d (.int (num:Nat)))) x7 (some (.d (.int (n:Nat)))) x9 x10))->aj Γ bT (fA Γ) vg Xs (LB ns v0 (some (.d (.int (hd:Nat)))) x3 x4 x5 (some (.d (.int (num:Nat)))) x7 (some (.d (.int (n:Nat)))) x9 x10) Q':=by
   intro n hn Q' hq
   walk_at"R"
   refine aq g3 rfl ⟨n,rfl,rfl,hn,?_⟩
   walk_at"N"
   walk_at"R"
   exact hq
  match j,hd' with
  |0,hd' =>
   injection hd' with hd'
   subst hd'
   exact key num hnum _ ⟨_,rfl⟩
  |1,hd' =>
   injection hd' with hd'
   subst hd'
   exact key n2 b3 _ ⟨_,rfl⟩
  |2,hd' =>
   injection hd' with hd'
   subst hd'
   exact key n3 (by lia) _ ⟨_,rfl⟩
  |j+3,hd'=>cases hd'
 ·refine λst1=>uE1 λx z0=>?_;subst z0
  exact Fy g1 g2 hns hnl hQ
theorem HA(n:Nat):min 6 (n:Int)=((min 6 n:Nat):Int):=(Nat.le_total 6 n).elim (λh=>by refine rwr (gq h ..) ?_;exact Int.min_eq_left (fQ.mpr h)) λh=>by refine rwr (BG h ..) ?_;exact Int.min_eq_right (fQ.mpr h)
theorem Dk(g1:Γ 677 hW)(g2:Γ 601 ga)(g3:Γ 658 jd)(g4:Γ 608 f_)(g5:Γ 651 kW)(g6:Γ 639 fC)(g7:Γ 646 fC)(hns:ns≠[])(hnl:ns.length<=12)(hnb:∀n∈ns,n<10^17)(hQ:Q (.d (.bool true)) []){hd:Nat}{x3 x4 x5 x6 x7 x8 x9 x10:Option V}:
  aj Γ bT (fA Γ) xE Xs (LB ns v0 (some (.d (.int (hd:Nat)))) x3 x4 x5 x6 x7 x8 x9 x10) (aC 0 Q):=by
 have hdl:=db ns
 have e1:(2:Int)+min 6 (((aw ns).length:Nat):Int)=((2+min 6 ns.length:Nat):Int):=by refine rwr (hdl ..) (rwr (HA ..) ?_);rfl
 have q6:min 6 ns.length<=6:=B_ _ _
 have q1:2+min 6 ns.length<=8:=jm q6 2
 have q2:(2:Int)+min 6 (((aw ns).length:Nat):Int)<=1000000:=e1▸sD (m:=1000000) (bP q1 rfl)
 have q3 : -1000000<=(2:Int)+min 6 (((aw ns).length:Nat):Int):=e1▸uC (by decide) bW
 walk_at"R"
 refine rwr (e1 ..) ?_
 refine⟨λU st=>∃(num:Nat) (x3 x7 x10:Option V),num<10^16/\st=LB ns v0 (some (.d (.int (hd:Nat)))) x3 x4 x5 (some (.d (.int (num:Nat)))) x7 x8 x9 x10,iY (bP q1 rfl) (dZ 0 _ _ _ ⟨u5 (by decide),rfl⟩) ?_ ?_⟩
 ·refine λj st1 hj=>l_ λnum y3 y7 y10=>ae λhnum z0=>?_;subst z0
  have hdr:=Fs hnb (i:=j) (aJ (ci hj) (bP q1 rfl))
  walk_at"R"
  refine aq g4 rfl ⟨ns,j,rfl,rfl,hns,by lia,?_⟩
  walk_at"N"
  walk_at"R"
  refine aq g5 rfl ⟨_,rfl,rfl,hdr,λb hb=>?_⟩
  walk_at"N"
  walk_at"R"
  refine aq g6 rfl ⟨b,rfl,rfl,by lia,?_⟩
  walk_at"N"
  walk_at"R"
  refine aq g7 rfl ⟨b,rfl,rfl,by lia,?_⟩
  walk_at"N"
  have hp:=De hb
  by_cases c:0<=bQ b
  ·refine elE1 (show ∃v:Nat,bQ b=(v:Int) from ⟨(bQ b).toNat,(Int.toNat_of_nonneg c).symm⟩) λv hv=>?_
   refine rwr (hv ..) ?_
   walk_at"R"
   exact(dZ v _ _ _ ⟨cB.mp (show ((v:Nat):Int)<((10^16:Nat):Int) from hv▸hp.2),rfl⟩)
  ·walk_at"R"
   exact(dZ num _ _ _ ⟨hnum,rfl⟩)
 ·refine λst1=>l_ λnum y3 y7 y10=>ae λhnum z0=>?_;subst z0
  exact CS g1 g2 g3 g4 hns hnl hQ hnum
theorem EB(g1:Γ 677 hW)(g2:Γ 601 ga)(g3:Γ 658 jd)(g4:Γ 608 f_)(g5:Γ 651 kW)(g6:Γ 639 fC)(g7:Γ 646 fC)(g8:Γ 615 jC)(hns:ns≠[])(hnl:ns.length<=12)(hnb:∀n∈ns,n<10^17)(hQ:Q (.d (.bool true)) []){hd:Nat}{x3 x4 x5 x6 x7 x8 x9 x10:Option V}:
  aj Γ bT (fA Γ) tR Xs (LB ns v0 (some (.d (.int (hd:Nat)))) x3 x4 x5 x6 x7 x8 x9 x10) (aC 0 Q):=by
 walk_at"R"
 refine aq g8 rfl ⟨rfl,rfl,?_⟩
 walk_at"N"
 walk_at"R"
 refine⟨λU st=>∃(x3 x5:Option V),st=LB ns v0 (some (.d (.int (hd:Nat)))) x3 (some (.d (.list (fT.map D.bytes)))) x5 x6 x7 x8 x9 x10,iY (m:=15) (by lia) (ex2 _ _ rfl) ?_ ?_⟩
 ·refine λj st1 hj=>uE2 λy3 y5 z0=>?_;subst z0
  refine elE1 (show ∃pc,fT[j]? = some pc from ⟨_,cM hj⟩) λpc hpc=>?_
  refine cX (DH j hj pc hpc) λp0 p1 p2 p3=>?_
  have hsub:(fT.map D.bytes)[((j:Nat):Int).toNat]? = some (.bytes pc):=by refine rwr (cS ..) (rwr (dO ..) (rwr (hpc ..) ?_));rfl
  have e3:(((j:Nat):Int)+((hd:Nat):Int)).fmod 3=(((j+hd)%3:Nat):Int):=by
   have:=bz (j+hd) 3
   rw[B6]at this
   exact this
  have b3:(j+hd)%3<3:=bE _ (by decide)
  generalize hK:(j+hd)%3=K at e3 b3
  walk_at"R"
  refine .inl ⟨bW,eF (m:=1000000) (cg hj (by decide)),bg hsub ?_⟩
  walk_at"R"
  try refine⟨(by walk_at"L"),?_⟩
  walk_at"R"
  try refine⟨(by walk_at"L"),?_⟩
  walk_at"R"
  refine .inl ⟨bW,eF (m:=1000000) (cg hj (by decide)),bg hsub ?_⟩
  walk_at"R"
  try refine⟨(by walk_at"L"),?_⟩
  walk_at"R"
  refine .inl ⟨bW,eF (m:=1000000) (cg hj (by decide)),bg hsub ?_⟩
  walk_at"R"
  try refine⟨(by walk_at"L"),?_⟩
  walk_at"R"
  try refine⟨(by walk_at"L"),?_⟩
  walk_at"R"
  refine rwr (e3 ..) ?_
  obtain⟨b,hb,hbl,hbv⟩:∃b,(dz [V.d (D.bytes ([49]++pc++[50,10])),V.d (D.bytes (pc++[49,50,10])),V.d (D.bytes ([49,50]++pc++[10]))])[K]? = some (.bytes b)/\b.length<=18/\bQ b = -1:=by
   refine ao ((by decide:∀k<3,k=0\/k=1\/k=2) K (hK▸bE _ (by decide))) (λz0=>?_) (uO (λz1=>?_) (λz2=>?_)) <;>(try subst z0) <;>(try subst z1) <;>(try subst z2)
   ·exact⟨_,rfl,by simp;lia,p1⟩
   ·exact⟨_,rfl,by simp;lia,p2⟩
   ·exact⟨_,rfl,by simp;lia,p3⟩
  refine .inl ⟨bW,eF (m:=1000000) (cg b3 (by decide)),bg (by refine rwr (cS ..) ?_;exact hb) ?_⟩
  by_cases c:j<3
  ·have c':(j:Int)<3:=cB.mpr c
   walk_at"R"
   refine .inl ⟨bW,eF (m:=1000000) (cg hj (by decide)),bg hsub ?_⟩
   walk_at"R"
   try refine⟨(by walk_at"L"),?_⟩
   walk_at"R"
   try refine⟨(by walk_at"L"),?_⟩
   walk_at"R"
   refine aq g7 rfl ⟨_,rfl,rfl,by simp;lia,?_⟩
   walk_at"N"
   have p1':bQ (49::(pc++[50,10])) = -1:=p1
   refine rwr (p1' ..) ?_
   walk_at"R"
   exact(ex2 _ _ rfl)
  ·walk_at"R"
   refine aq g7 rfl ⟨b,rfl,rfl,hbl,?_⟩
   walk_at"N"
   refine rwr (hbv ..) ?_
   walk_at"R"
   exact(ex2 _ _ rfl)
 ·refine λst1=>uE2 λy3 y5 z0=>?_;subst z0
  exact Dk g1 g2 g3 g4 g5 g6 g7 hns hnl hnb hQ
noncomputable def Ki:Sx:=(.cons (.asg 2 (.call (aa "_law_draw") 608 (.cons (.v 1) (.cons (.k (.int (0))) .nil)))) (.cons (.forL 3 (.lst (.cons (.k (.bytes [])) (.cons (.k (.bytes [10])) (.cons (.k (.bytes [55])) (.cons (.k (.bytes [48])) (.cons (.k (.bytes [48,10])) (.cons (.k (.bytes [48,57,10])) (.cons (.k (.bytes [48,48,55,10])) (.cons (.k (.bytes [49,48,10,10])) (.cons (.k (.bytes [49,10,50,10])) .nil)))))))))) v8) tR))
theorem AP(g1:Γ 677 hW)(g2:Γ 601 ga)(g3:Γ 658 jd)(g4:Γ 608 f_)(g5:Γ 651 kW)(g6:Γ 639 fC)(g7:Γ 646 fC)(g8:Γ 615 jC)(hns:ns≠[])(hnl:ns.length<=12)(hnb:∀n∈ns,n<10^17)(hQ:Q (.d (.bool true)) []){x2 x3 x4 x5 x6 x7 x8 x9 x10:Option V}:
  aj Γ bT (fA Γ) Ki Xs (LB ns v0 x2 x3 x4 x5 x6 x7 x8 x9 x10) (aC 0 Q):=by
 walk_at"R"
 refine aq g4 rfl ⟨ns,0,rfl,rfl,hns,by lia,?_⟩
 walk_at"N"
 generalize gJ ns 0=hd
 walk_at"R"
 refine⟨λU st=>∃x3,st=LB ns v0 (some (.d (.int (hd:Nat)))) x3 x4 x5 x6 x7 x8 x9 x10,gw (bL rfl) ⟨_,rfl⟩ ?_ ?_⟩
 ·refine λj d st1 hd'=>uE1 λy3 z0=>?_;subst z0
  obtain⟨b,rfl,hb⟩:∃b,d=.bytes b/\b.length<=18:=by
   match j,hd' with
   |0,h=>injection h with h;exact⟨_,h.symm,by decide⟩
   |1,h=>injection h with h;exact⟨_,h.symm,by decide⟩
   |2,h=>injection h with h;exact⟨_,h.symm,by decide⟩
   |3,h=>injection h with h;exact⟨_,h.symm,by decide⟩
   |4,h=>injection h with h;exact⟨_,h.symm,by decide⟩
   |5,h=>injection h with h;exact⟨_,h.symm,by decide⟩
   |6,h=>injection h with h;exact⟨_,h.symm,by decide⟩
   |7,h=>injection h with h;exact⟨_,h.symm,by decide⟩
   |8,h=>injection h with h;exact⟨_,h.symm,by decide⟩
   |j+9,h=>cases h
  walk_at"R"
  refine aq g7 rfl ⟨b,rfl,rfl,hb,?_⟩
  walk_at"N"
  walk_at"R"
  refine aq g6 rfl ⟨b,rfl,rfl,hb,?_⟩
  walk_at"N"
  walk_at"R"
  exact⟨_,rfl⟩
 ·refine λst1=>uE1 λy3 z0=>?_;subst z0
  exact EB g1 g2 g3 g4 g5 g6 g7 g8 hns hnl hnb hQ
theorem Fi(g1:Γ 677 hW)(g2:Γ 601 ga)(g3:Γ 658 jd)(g4:Γ 608 f_)(g5:Γ 651 kW)(g6:Γ 639 fC)(g7:Γ 646 fC)(g8:Γ 615 jC)(h:q9 args own Q X):
  aj Γ bT (fA Γ) sU (λCn U=>X Cn) ⟨args.map some++ay (zY.length-1) Bx,own⟩ (aC own.length Q):=by
 obtain⟨is,rfl,rfl,hl,hQ⟩:=h
 show aj Γ bT (fA Γ) sU _ ⟨[some (.d (.list (is.map D.int))),Bx,Bx,Bx,Bx,Bx,Bx,Bx,Bx,Bx,Bx],[]⟩ (aC 0 Q)
 walk_at"R"
 refine⟨by refine rwr (cV ..) ?_;lia,?_⟩
 refine⟨is.take 12,⟨by show some (cut (is.map D.int) Bx (some 12))=_;exact rwr (show cut (is.map D.int) Bx (some 12)=(is.map D.int).take 12 from jt (n:=12) rfl) (rwr (List.map_take ..) rfl),by refine rwr (fO ..) ?_;exact aJ (B_ _ _) (by decide)⟩,λx=>x.fmod (10^17),λx U U=>⟨⟨by decide,by decide,by decide⟩,by decide,rfl⟩,?_⟩
 have hft:(is.take 12).filter (bU ko)=is.take 12:=kU _
 have hns:(((is.take 12).filter (bU ko)).map λx=>x.fmod (10^17)).map D.int=aw ((is.take 12).map λx=>(x.fmod (10^17)).toNat):=by
  refine rwr (hft ..) ?_
  unfold aw
  refine rwr (dP ..) (rwr (dP ..) ?_)
  refine j_ λx U=>?_
  have:0<=x.fmod (10^17):=by refine rwr (uW _ (by decide)) ?_;exact Int.emod_nonneg _ (by decide)
  show D.int (x.fmod (10^17))=D.int ((x.fmod (10^17)).toNat:Nat)
  exact rwr (Int.toNat_of_nonneg this ..) rfl
 refine rwr (hns ..) ?_
 have hnl:((is.take 12).map λx=>(x.fmod (10^17)).toNat).length<=12:=by refine rwr (cV ..) (rwr (fO ..) ?_);exact B_ _ _
 have hnb:∀n∈(is.take 12).map λx=>(x.fmod (10^17)).toNat,n<10^17:=by
  intro n hn
  refine elE1 (aW.mp hn) λx=>ae λU z0=>?_;subst z0
  have:x.fmod (10^17)<10^17:=by refine rwr (uW _ (by decide)) ?_;exact Int.emod_lt_of_pos _ (by decide)
  have h0:0<=x.fmod (10^17):=by refine rwr (uW _ (by decide)) ?_;exact Int.emod_nonneg _ (by decide)
  exact(pT h0).mpr this
 generalize (is.take 12).map (λx=>(x.fmod (10^17)).toNat)=ns at hnl hnb
 have hdl:=db ns
 by_cases hz:ns.length=0
 ·walk_at"R"
  exact AP (ns:=[0]) (v0:=.d (.list (is.map D.int))) g1 g2 g3 g4 g5 g6 g7 g8 (by decide) (by decide) (by decide) hQ
 ·have hz':¬((aw ns).length:Int)=0:=λe=>hz (hdl.symm.trans (iE e))
  walk_at"R"
  exact AP (ns:=ns) (v0:=.d (.list (is.map D.int))) g1 g2 g3 g4 g5 g6 g7 g8 (λq=>hz (by refine rwr (q ..) ?_;rfl)) hnl hnb hQ
end

end

section
set_option autoImplicit false
noncomputable def kJ:ac:=aa "Corrupt"
noncomputable def nO:ac:=aa "read_pointer"
noncomputable def eV(S:aU)(i:Nat)(x:ac):Bool:=getN S.nm i==some x
noncomputable def jR(S:aU)(i:Nat)(v:Expr->Bool)(hs:List ExceptHandler):Bool:=bY hs λh=>w9 h λt n b U=>lP t λt=>bu t λxc U=>lL n (bY b λs=>je s λts ce U=>bY ts λy=>bu y λy U =>
 (xc==kJ)&&((S.glob kJ λg=>g==.ex 56)&&(eV S i y&&v ce)))
noncomputable def xW:Const->Bool
 |.int j=>j==1
 |_=>false
noncomputable def xf:Const->Bool
 |.bool b=>b
 |_=>false
noncomputable def sV(e:Expr):Bool:=iR e λop a U=>(op==.USub)&&fS a λc U U=>xW c
noncomputable def mv(e:Expr):Bool:=fS e λc U U=>xf c
noncomputable def sA(S:aU):Nat->Stmt->Bool:=λU t=>s_ t λb hs o l U=>ck o (ck l (bY b λs=>je s λts v U=>bY ts λx=>bu x λx U=>eP v λfn as ks U=>bu fn λfn U=>bY as λa=>bu a λa U=>ck ks
 (eV S 1 x&&(eV S 0 a&&((fn==nO)&&((S.glob nO λg=>g==.fn 503)&&jR S 1 sV hs))))))
noncomputable def qc(S:aU):Nat->Stmt->Bool:=λn t=>s_ t λb hs o l U=>ck o (ck l (bY b λs=>tN s λv U=>eP v λg as ks ps=>ck ks (iK g λog m mp=>bu og λo' U=>eV S 1 o'&&((mp.endLine==ps.line) &&
 bif aG n 1 then (m==cN 5)&&bY as λa=>bu a λa U=>eV S 18 a&&jR S 23 mv hs else aG n 0&&((m==cN 11)&&ck as (jR S 24 mv hs))))))
noncomputable def AZ(S:aU):Nat->Expr->Bool:=λn e=>pB S (aI S) (aa "one") (.attr (.v 1) (bif aG n 1 then 19 else 18)) e
noncomputable def vt(S:aU):Nat->Stmt->Bool:=λU t=>oz t λt it b o U=>ck o (mY t λts U U=>bu it λy U=>pE S.nm [3,4,5,6] ts&&(eV S 2 y&&(ej S (aI S) (aO S) n7).l b))
noncomputable def Bt(S:aU):Nat->Stmt->Bool:=λU t=>zX S (aI S) ko 1 t
section
variable {prog:Program}{w:World}{K:Frag}{k:Nat}{gn bn:ac->Option Value}{G:List (ac×GV)}{C:aH}{c:FC}{S:aU}{Γ:Addr->aH->Prop}{X:Nat->St->Prop}{st:St}{Q:Fl->St->Prop}
theorem jM{i:Nat}{x:ac}(hN:bX K S c)(h:eV S i x=true):c.nm[i]? = some x:=by
 unfold eV at h
 rw[beq_iff_eq,bk]at h
 refine rwr (hN.nm ..) ?_;exact h
theorem tT{i:Nat}{v:Expr->Bool}{hs:List ExceptHandler}(hN:bX K S c)(h:jR S i v hs=true):∃tp y yp ce ap hpos,hs=[.ExceptHandler (some (.Name kJ tp)) Bx [.Assign [.Name y yp] ce ap] hpos]/\c.nm[i]? = some y/\v ce=true /\
  c.env.kindOf kJ=some .globalImplicit/\(kJ==("__debug__" : ac))=false/\c.gn kJ=some (.ref 56):=by
 have g:=h
 clear h
 refine cq g λU gx1=>?_
 refine CI gx1 λU U U hpos gx2=>?_
 refine rh gx2 λU gx3=>?_
 refine bx gx3 λxc tp gx4=>?_
 refine nc gx4 λgx5=>?_
 refine cq gx5 λU gx6=>?_
 refine jw gx6 λU ce ap gx7=>?_
 refine cq gx7 λU gx8=>?_
 refine bx gx8 λy yp gx9=>?_
 refine ak (aB gx9) λh1 gx10=>?_
 refine ak (aB gx10) λh2 gx11=>?_
 refine ak (aB gx11) λh3 h4=>?_
 refine bo h1 ?_
 refine bN (aU.glob_of hN h2) λg1 g2=>uE1 λg=>ae λg3 g4=>?_
 have:=eq_of_beq g4
 subst this
 exact(ly tp y yp ce ap hpos ⟨rfl,jM hN h3,h4,g1,g2,(hN.ex _ _ g3).bound⟩)
theorem D6{c:Const}(h:xW c=true):c=.int 1:=by
 cases c <;>first | exact aE h | exact congrArg _ (eq_of_beq h)
theorem Gg{c:Const}(h:xf c=true):c=.bool true:=by
 cases c <;>first | exact aE h | exact congrArg _ h
theorem B'{e:Expr}(h:sV e=true):∃kd p pos,e=.UnaryOp .USub (.Constant (.int 1) kd p) pos:=by
 refine nu h λop U pos hx12=>?_
 refine ak (aB hx12) λh1 hx13=>?_
 refine bo h1 ?_
 refine gf hx13 λU kd p hx14=>?_
 have:=D6 hx14
 subst this
 exact(ex3 kd p pos rfl)
theorem yZ{e:Expr}(h:mv e=true):∃kd p,e=.Constant (.bool true) kd p:=by
 refine gf h λU kd p hx15=>?_
 have:=Gg hx15
 subst this
 exact(ex2 kd p rfl)
inductive mW(S:aU):Stmt->Prop
 |mk (x fn a:ac) (xp np ap' cp p1 pos:Pos) (hs:List ExceptHandler) (_:eV S 1 x=true) (_:eV S 0 a=true) (_:fn=nO) (_:(S.glob nO λg=>g==.fn 503)=true) (_:jR S 1 sV hs=true):
  mW S (.Try [.Assign [.Name x xp] (.Call (.Name fn np) [.Name a ap'] [] cp) p1] hs [] [] pos)
theorem mW.of{n:Nat}{t:Stmt}(he:sA S n t=true):mW S t:=by
 refine yQ he λU hs' U U pos hx16=>cK hx16 λhx17=>cK hx17 λhx18=>cq hx18 λU hx19=>jw hx19 λU U p1 hx20=>cq hx20 λU hx21=>bx hx21 λx xp hx22=>dA hx22 λU U U cp hx23=>bx hx23 λfn np hx24=>cq hx24 λU hx25 =>
  bx hx25 λa ap' hx26=>cK hx26 λhx27=>?_
 have ⟨e1,hx28⟩:=aB hx27
 have ⟨e2,hx29⟩:=aB hx28
 have ⟨e3,hx30⟩:=aB hx29
 have ⟨e4,e5⟩:=aB hx30
 exact⟨x,fn,a,xp,np,ap',cp,p1,pos,hs',e1,e2,eq_of_beq e3,e4,e5⟩
theorem FD(ok:am K k c)(hN:bX K S c)(hx:exmOne K (.ref 56) (.ref 56)=some true/\exmOne K (.ref 68) (.ref 56)=some true)(hs:ah prog w K c.gn c.bn k (.ref 503) o6)(n:Nat)(t:Stmt)(he:sA S n t=true)(h:ni n st Q X):
  WS prog w c (exec t c.env) st Q X:=by
 obtain⟨x,fn,a,xp,np,ap',cp,p1,pos,hs',e1,e2,e3,e4,e5⟩:=mW.of he
 subst e3
 refine gT (tT hN e5) λtp y yp ce ap hpos=>eS λz0 f1 f2 f3 f4 f5=>?_;subst z0
 refine elE3 (B' f2) λkd p pp z0=>?_;subst z0
 refine bN (aU.glob_of hN e4) λg1 g2=>uE1 λg=>ae λg3 g4=>?_
 rw[eq_of_beq g4]at g3
 refine ak (hN.fn _ _ g3) λg5 g6=>?_
 have hxx:=jM hN e1
 have haa:=jM hN e2
 have:y=x:=by rw[hxx]at f1;cases f1;rfl
 subst this
 refine elE1 h λxs=>al λhv hl hQ=>?_;clear h
 refine KJ (D0:=.d (.int (-1))) ok f3 f4 f5 (λC hC=>by refine ao hC (λz0=>?_) λz1=>?_ <;>clear hC <;>(try subst z0) <;>(try subst z1);exact hx.1;exact hx.2) g1 g2 g5 g6 hxx haa hv rfl (λA s Qc Ec hq=>?_) hs ⟨xs,rfl,rfl,by lia,?_⟩
 ·exact wpAny_UnaryOp (wpAny_Constant_int (neg_int (hq _ _ λZ ad=>⟨_,rfl⟩)))
 ·by_cases hp:m6 xs=true
  ·refine .inl ⟨jH.mp hp,_,rfl,?_⟩
   have hv:bQ xs=dW (xs.take (xs.length-1)):=by unfold bQ;exact rwr (if_pos hp ..) rfl
   rw[hv]at hQ
   exact hQ
  ·refine .inr ⟨λq=>hp (jH.mpr q),.inl rfl,?_⟩
   have hv:bQ xs = -1:=by unfold bQ;exact rwr (if_neg hp ..) rfl
   rw[hv]at hQ
   exact hQ
inductive mr(S:aU)(n:Nat):Stmt->Prop
 |meth (o a:ac) (op' mp ap' ps p1 pos:Pos) (hs:List ExceptHandler) (_:eV S 1 o=true) (_:mp.endLine=ps.line) (_:n=1) (_:eV S 18 a=true) (_:jR S 23 mv hs=true):mr S n (.Try [.Expr (.Call (.Attribute (.Name o op') (cN 5) mp) [.Name a ap'] [] ps) p1] hs [] [] pos)
 |look (o:ac) (op' mp ps p1 pos:Pos) (hs:List ExceptHandler) (_:eV S 1 o=true) (_:mp.endLine=ps.line) (_:n=0) (_:jR S 24 mv hs=true):mr S n (.Try [.Expr (.Call (.Attribute (.Name o op') (cN 11) mp) [] [] ps) p1] hs [] [] pos)
theorem mr.of{n:Nat}{t:Stmt}(he:qc S n t=true):mr S n t:=by
 refine yQ he λU hs' U U pos hx31=>cK hx31 λhx32=>cK hx32 λhx33=>cq hx33 λU hx34=>zs hx34 λU p1 hx35=>dA hx35 λU as U ps hx36=>cK hx36 λhx37=>jb hx37 λU m mp hx38=>bx hx38 λo op' hx39=>?_
 have ⟨e1,hx40⟩:=aB hx39
 have ⟨e2,e3⟩:=aB hx40
 have e2:=eq_of_beq e2
 revert e3
 cases e4:aG n 1 with
 |true =>
  intro e3
  have ⟨e7,ex41⟩:=aB e3
  refine cq ex41 λU ex42=>bx ex42 λa ap' ex43=>?_
  have ⟨e5,e6⟩:=aB ex43
  exact(eq_of_beq e7:m=cN 5)▸.meth o a op' mp ap' ps p1 pos hs' e1 e2 (di e4) e5 e6
 |false =>
  intro e3
  have ⟨e4,ex44⟩:=aB e3
  have ⟨e7,ex45⟩:=aB ex44
  exact cK ex45 λe6=>(eq_of_beq e7:m=cN 11)▸.look o op' mp ps p1 pos hs' e1 e2 (di e4) e6
theorem Df{own:List af}{cnt bi bt:Nat}{conf hard:D}{i:Nat}{a b:V}(hK:cJ K)(h2:getN own i=some (segO cnt bi bt conf hard a b)):jZ K own (.own i) (cN 11) 552 :=
 ⟨555,_,h2,(hK.meth 555 11 552 rfl).1,(hK.meth 555 11 552 rfl).2,sK (by decide) rfl⟩
theorem Kk(ok:am K k c)(hN:bX K S c)(hK:cJ K)(hi:interactive c.env=false)(hmu:c.mu=[])(hΓ:∀f C,Γ f C->ah prog w K c.gn c.bn k (.ref f) C)(hx:exmOne K (.ref 56) (.ref 56)=some true/\exmOne K (.ref 68) (.ref 56)=some true)
  (hs:ah prog w K c.gn c.bn k (.ref 552) oO) (n:Nat) (t:Stmt) (he:qc S n t=true) (h:iZ Γ n st Q X):WS prog w c (exec t c.env) st Q X:=by
 have hx2:∀C,(C=56\/C=68)->exmOne K (.ref C) (.ref 56)=some true:=λC hC=>by refine ao hC (λz0=>?_) λz1=>?_ <;>clear hC <;>(try subst z0) <;>(try subst z1);exact hx.1;exact hx.2
 cases mr.of he with
 |meth o a op' mp ap' ps p1 pos hs' e1 e2 hn e5 e6 =>
  refine gT (tT hN e6) λtp y yp ce ap hpos=>eS λz0 f1 f2 f3 f4 f5=>?_;subst z0
  refine elE2 (yZ f2) λkd p z0=>?_;subst z0
  refine ao h (λz0=>?_) (ae λh0 U=>?_) <;>clear h <;>(try rcases z0 with ⟨_,Vo,Va,h1,h2,h3⟩)
  ·refine elE1 (Ai hK (by decide) h3) λf=>ae λhme h4=>?_
   refine elE1 (rR hΓ h4) λC=>ae λhsC hC=>?_
   exact JN (D0:=.d (.bool true)) ok hK hmu f3 f4 f5 hx2 hi f1 (jM hN e1) (jM hN e5) h1 h2 rfl e2 hme (λA s Qc Ec hq=>wpAny_Constant_bool (hq _ s.toks λZ ad=>rfl)) hsC hC
  ·rw[hn]at h0;cases h0
 |look o op' mp ps p1 pos hs' e1 e2 hn e6 =>
  refine gT (tT hN e6) λtp y yp ce ap hpos=>eS λz0 f1 f2 f3 f4 f5=>?_;subst z0
  refine elE2 (yZ f2) λkd p z0=>?_;subst z0
  refine ao h (ae λh0 U=>?_) λz0=>?_ <;>clear h <;>(try rcases z0 with ⟨_,cnt,bi,bt,conf,hard,es,pss,i,a,b,h1,h2,h3,h4,h5⟩)
  ·rw[hn]at h0;cases h0
  ·refine Kt (D0:=.d (.bool true)) (d:=.obj 555 (oW cnt bi bt conf hard es pss)) ok hK f3 f4 f5 hx2 hi f1 (jM hN e1) h1 rfl e2 (Df hK h2) (λA s Qc Ec hq=>wpAny_Constant_bool (hq _ s.toks λZ ad=>rfl)) hs
    (λs fz ad fps v S' rv=>HV S' h2 h3 h4 rv) ⟨cnt,bi,bt,conf,hard,es,pss,rfl,rfl,?_⟩
   revert h5;refine uO (ae λh5 hQ=>?_) (ae λh5 hQ=>?_)
   ·exact .inl ⟨h5,hQ⟩
   ·exact .inr ⟨h5,.inl rfl,hQ⟩
theorem Ep(ok:am K k c)(hN:bX K S c)(hK:cJ K)(hΓ:∀f C,Γ f C->ah prog w K c.gn c.bn k (.ref f) C)(hs:ah prog w K c.gn c.bn k (.ref 328) kQ)(X:Nat->St->Prop)(n:Nat)(e:Expr)(he:AZ S n e=true):
  fi e=true/\∀st Q,kP Γ n st Q X->WE prog w c (eval e c.env) st Q X:=by
 refine⟨?_,λst Q h=>?_⟩
 ·have he:pB S (aI S) _ _ e=true:=he
  refine lH he λU U U U U=>?_
  rfl
 ·have hX:bb prog w c X (wp Γ bT X (.attr (.v 1) (bif aG n 1 then 19 else 18))) (aN S (aI S) (.attr (.v 1) (bif aG n 1 then 19 else 18))):=lN (T:=aI S) ok hN hK hΓ (λn' e' h'=>nomatch h') _
  exact CT ok hK hX rfl hs he h
theorem EZ(ok:am K k c)(hN:bX K S c)(hK:cJ K)(hi:interactive c.env=false)(hΓ:∀f C,Γ f C->ah prog w K c.gn c.bn k (.ref f) C)(n:Nat)(t:Stmt)(he:vt S n t=true)(h:oP Γ n st Q X):WS prog w c (exec t c.env) st Q X:=by
 refine ri he λU U body U pos hx46=>?_
 refine cK hx46 λhx47=>?_
 refine nU hx47 λts kd tp hx48=>?_
 refine bx hx48 λy yp hx49=>?_
 refine ak (aB hx49) λe1 hx50=>?_
 refine ak (aB hx50) λe2 e3=>?_
 refine elE1 h λitems=>ae λh1=>uE1 λJ=>al λh2 h3 h4=>?_;clear h
 refine Jm (is:=[3,4,5,6]) ok (hN.nm▸gb.of e1) (λU=>rfl) (yh ok (jM hN e2) h1 ⟨items,rfl,J,h2,λj d st2 hd hJ=>?_,h4⟩)
 refine elE1 (h3 j d st2 hd hJ) λds=>al λq1 q2 q3=>?_
 exact⟨ds,q1,q2,(qM (T:=aI S) (TS:=aO S) ok hN hK hi hΓ (λX n e he=>nomatch he) (λX n t he=>nomatch he) n7).l body e3 _ _ _ q3⟩
theorem H6(ok:am K k c)(hN:bX K S c)(hK:cJ K)(hΓ:∀f C,Γ f C->ah prog w K c.gn c.bn k (.ref f) C)(n:Nat)(t:Stmt)(he:Bt S n t=true)(h:fA Γ n st Q X):WS prog w c (exec t c.env) st Q X:=by
 have hX:bb prog w c X (wp Γ bT X ko.it) (aN S (aI S) ko.it):=lN (T:=aI S) ok hN hK hΓ (λn' e' h'=>nomatch h') _
 exact Iu ok hN hX (.inl rfl) (λq=>nomatch q) (λU=>rfl) (.inr λbs=>by intro e;cases e) he h
end
end

section
set_option autoImplicit false
noncomputable def wz:ac:=aa "data"
noncomputable def sY:ac:=aa "y"
noncomputable def Jx:List ac:=[aa "figures",aa "place",aa "piece"]
noncomputable def r9(K:Frag):List Bool:=[
 aQ K glob aI aO 89 2 Bh te,
 aQ K glob aI aO 96 4 xQ r7,
 aQ K glob aI aO 103 1 yA qb,
 aQ K glob aI aO 110 2 wM rA,
 aQ K glob aI aO 117 1 zK tP,
 aQ K glob aI aO 124 2 Bi rB,
 aQ K glob aI aO 131 2 xm qW,
 aQ K glob aI aO 153 1 AH um,
 aQ K glob aI aO 160 1 zM qx,
 aQ K glob aI aO 181 1 wa un,
 aQ K glob aI aO 195 1 Ah s6,
 aQ K glob aI aO 209 1 wf qa,
 aQ K glob aI aO 230 1 za qF,
 aQ K glob aI aO 237 2 zS ue,
 aQ K glob aI aO 258 2 wB sO,
 aQ K glob aI aO 265 2 w6 tm,
 aQ K glob aI aO 272 2 v6 tX,
 aQ K glob aI aO 286 1 yd ua,
 aQ K glob aI aO 300 1 AM si,
 aQ K glob aI aO 307 1 zG sb,
 aQ K glob aI aO 321 5 vz sF,
 aQ K glob aI aO 328 1 AO qs,
 aQ K glob aI aO 363 1 xU tE,
 aQ K glob aI aO 377 4 zb t8,
 aQ K glob aI aO 384 1 vj qV,
 aQ K glob aI aO 426 6 vK qn,
 aQ K glob aI aO 433 1 wj sG,
 aQ K glob aI aO 454 2 Aa tQ,
 aQ K glob aI aO 461 1 wb qK,
 aQ K glob aI aO 468 1 yb ul,
 aQ K glob aI aO 475 1 vm qH,
 aQ K glob aI aO 482 1 A6 r_,
 aQ K glob aI aO 489 1 Bn ql,
 aQ K glob aI aO 496 3 zy sQ,
 aQ K glob aI aO 503 1 vX tF,
 aQ K glob aI aO 517 1 wl t4,
 aQ K glob aI aO 524 2 x0 t5,
 aQ K glob aI aO 531 2 Ba qv,
 aQ K glob aI aO 538 2 Aj tK,
 aQ K glob aI aO 545 2 xl sd,
 aQ K glob aI aO 552 1 yI qq,
 aQ K glob aI aO 566 1 Ap ss,
 aQ K glob aI aO 573 1 Af rZ,
 aQ K glob aI aO 580 1 wg rm,
 aQ K glob aI aO 587 1 vN uc,
 aQ K glob aI aO 594 1 yg tB,
 aQ K glob aI aO 601 1 zc tI,
 aQ K glob aI aO 608 2 Au qO,
 aQ K glob aI aO 615 0 Bj tb,
 aQ K glob aI aO 622 2 vi ta,
 aQ K glob (tw kA) aO 627 1 AR rV,
 aQ K glob aI aO 634 3 yX rO,
 aQ K glob aI sA 646 1 u_ qw,
 aQ K glob aI vt 658 1 yE rg,
 aQ K glob aI aO 665 1 Aq qI,
 aQ K glob aI aO 672 1 yx rN,
 aQ K glob AZ qc 677 1 zW qB,
 aQ K glob aI Bt 682 1 zY sU,
 Ab K glob yR sh,
 zk K glob (iQ wz eY) 639 vH wz s8,
 xh K glob (iQ sY pC) 651 (aa "n") (aa "way") Jx sY v_,
 makesIn K 212,
 (findIn K (.ref 212) "__init__")==some (some (.ref 146)),
 isFn K (.ref 146),
 makesIn K 289,
 (findIn K (.ref 289) "__init__")==some (some (.ref 230)),
 isFn K (.ref 230),
 makesIn K 352,
 (findIn K (.ref 352) "__init__")==some (some (.ref 321)),
 isFn K (.ref 321),
 makesIn K 408,
 (findIn K (.ref 408) "__init__")==some (some (.ref 377)),
 isFn K (.ref 377),
 makesIn K 443,
 (findIn K (.ref 443) "__init__")==some (some (.ref 426)),
 isFn K (.ref 426),
 makesIn K 555,
 (findIn K (.ref 555) "__init__")==some (some (.ref 517)),
 isFn K (.ref 517),
 (exmOne K (.ref 56) (.ref 56))==some true,
 (exmOne K (.ref 68) (.ref 56))==some true]
noncomputable abbrev sg:List Bool->Nat->Bool
 |[],_=>true
 |b::_,0=>b
 |_::r,n+1=>sg r n
def eX:List Bool->Prop
 |[]=>True
 |b::r=>b=true/\eX r
theorem eX.nil:eX []:=trivial
theorem eX.cons{b:Bool}{r:List Bool}(h:b=true)(k:eX r):eX (b::r):=⟨h,k⟩
theorem eX.at:∀{l:List Bool},eX l->∀i,sg l i=true
 |[],_,_=>rfl
 |_::_,h,0=>h.1
 |_::_,h,i+1=>eX.at h.2 i
def AX(K:Frag)(gn bn:ac->Option Value):Prop:=(∀base,K.In base->base.Ns mainGlobals gn->base.Ns builtinsNs bn->base.NoLimit->iT K glob gn bn base)/\cJ K/\eX (r9 K)
theorem AX.at{K:Frag}{gn bn:ac->Option Value}(H:AX K gn bn)(i:Nat):sg (r9 K) i=true:=H.2.2.at i
section
variable {prog:Program}{w:World}{K:Frag}{gn bn:ac->Option Value}
theorem ah.or{k:Nat}{f:Value}{C1 C2 C:aH}(h1:ah prog w K gn bn k f C1)(h2:ah prog w K gn bn k f C2)(h:∀args own Q X,C args own Q X->C1 args own Q X\/C2 args own Q X):ah prog w K gn bn k f C :=
 λA envs base s vals args own ad fps fz Q X cx a b c d e i hC=>(h args own Q X hC).elim (λx=>h1 A envs base s vals args own ad fps fz Q X cx a b c d e i x) λx=>h2 A envs base s vals args own ad fps fz Q X cx a b c d e i x
theorem ah.mk{k fa np:Nat}{nm:List ac}{ir:Sx}{C:aH}(H:AX K gn bn)
  {T:aU->Nat->Expr->Bool} {TS:aU->Nat->Stmt->Bool} (OX:FC->bf) (OSX:FC->bJ) (hF:aQ K glob T TS fa np nm ir=true)
  (hO:∀c,am K k c->bX K ⟨nm,dM K fa,glob⟩ c->c.gn=gn->c.bn=bn->interactive c.env=false->∀X n e,T ⟨nm,dM K fa,glob⟩ n e=true->fi e=true/\∀st Q,OX c n st Q X->WE prog w c (eval e c.env) st Q X)
  (hOS:∀c,am K k c->bX K ⟨nm,dM K fa,glob⟩ c->c.gn=gn->c.bn=bn->interactive c.env=false->∀X n t,TS ⟨nm,dM K fa,glob⟩ n t=true->∀st Q,OSX c n st Q X->WS prog w c (exec t c.env) st Q X)
  (hC:∀args own Q X,C args own Q X->args.length=np)
  (h:∀args own Q X,C args own Q X->∀c:FC,(own=[]->c.mu=[])->aj (λf C=>ah prog w K gn bn k (.ref f) C) (OX c) (OSX c) ir (λCn U=>X Cn) ⟨args.map some++ay (nm.length-np) Bx,own⟩ (aC own.length Q)):
  ah prog w K gn bn (k+1) (.ref fa) C :=
 ah.of_ir (OX:=OX) (OSX:=OSX) (dv:=[]) (dargs:=[]) (λU U=>rfl) (DW hF) H.1 H.2.1 hO hOS (λargs own Q X hc=>by refine rwr (B8 ..) (rwr (Nat.add_zero ..) ?_);exact hC args own Q X hc) (λargs own Q X hc c U U hmu=>by refine rwr (bA ..) ?_;exact h args own Q X hc c hmu)
theorem ah.mk0{k fa np:Nat}{nm:List ac}{ir:Sx}{C:aH}(H:AX K gn bn)
  (hF:aQ K glob aI aO fa np nm ir=true) (hC:∀args own Q X,C args own Q X->args.length=np)
  (h:∀args own Q X,C args own Q X->aj (λf C=>ah prog w K gn bn k (.ref f) C) bT gr ir (λCn U=>X Cn) ⟨args.map some++ay (nm.length-np) Bx,own⟩ (aC own.length Q)):
  ah prog w K gn bn (k+1) (.ref fa) C :=
 ah.mk H (λU=>bT) (λU=>gr) hF (λU U U U U U X n e he=>aE he) (λU U U U U U X n t he=>aE he) hC λargs own Q X hc U U=>h args own Q X hc
inductive yD(args:List V)(own:List af)(Q:V->List af->Prop)(X:Nat->Prop):Prop
 |mk (_:args.length=2) (_:nI (args++[.d (.int 0)]) own Q X):yD args own Q X
set_option hygiene false in
local macro_rules | `(tactic| walk_at "A") => `(tactic| (intro args own Q X hc; rcases (hc) with ⟨⟩; exact congrArg List.length ‹args = _›))
variable (H:AX K gn bn)
include H
theorem FA:ah prog w K gn bn 1 (.ref 377) gO:=ah.mk0 H (H.at 23) (by walk_at"A") λargs own Q X hc=>G1  hc
theorem qG:ah prog w K gn bn 2 (.ref 408) (cF 408 gO):=ah.of_class (H.at 70) (eq_of_beq (H.at 71)) (H.at 72) (FA H)
theorem CQ:ah prog w K gn bn 3 (.ref 517) lD:=ah.mk0 H (H.at 35) (by walk_at"A") λargs own Q X hc=>Dh (qG H) hc
theorem Fn:ah prog w K gn bn 4 (.ref 555) (cF 555 lD):=ah.of_class (H.at 76) (eq_of_beq (H.at 77)) (H.at 78) (CQ H)
theorem At:ah prog w K gn bn 1 (.ref 608) f_:=ah.mk0 H (H.at 47) (by walk_at"A") λargs own Q X hc=>J7  hc
theorem vp:ah prog w K gn bn 1 (.ref 665) iV:=ah.mk0 H (H.at 54) (by walk_at"A") λargs own Q X hc=>E0  hc
theorem IH:ah prog w K gn bn 1 (.ref 230) jQ:=ah.mk0 H (H.at 12) (by walk_at"A") λargs own Q X hc=>GE  hc
theorem uh:ah prog w K gn bn 2 (.ref 289) (cF 289 jQ):=ah.of_class (H.at 64) (eq_of_beq (H.at 65)) (H.at 66) (IH H)
theorem yF:ah prog w K gn bn 1 (.ref 265) mf:=ah.mk0 H (H.at 15) (by walk_at"A") λargs own Q X hc=>G3  hc
theorem xX:ah prog w K gn bn 1 (.ref 89) lq:=ah.mk0 H (H.at 0) (by walk_at"A") λargs own Q X hc=>Jl  hc
theorem JY:ah prog w K gn bn 2 (.ref 103) (jX 18446744073709551615):=ah.mk0 H (H.at 2) (by walk_at"A") λargs own Q X hc=>E6 (xX H) hc
theorem qD:ah prog w K gn bn 3 (.ref 237) kL:=ah.mk0 H (H.at 13) (by walk_at"A") λargs own Q X hc=>II (JY H) hc
theorem sf:ah prog w K gn bn 1 (.ref 286) kO:=ah.mk0 H (H.at 17) (by walk_at"A") λargs own Q X hc=>EL  hc
theorem HF:ah prog w K gn bn 4 (.ref 489) kK:=ah.mk0 H (H.at 32) (by walk_at"A") λargs own Q X hc=>CW (ah.mono (uh H) (by decide)) (ah.mono (yF H) (by decide)) (qD H) (ah.mono (sf H) (by decide)) hc
theorem KP:ah prog w K gn bn 1 (.ref 146) jL:=by
 refine ak (GL (H.at 58)) λh1=>uE1 λtk h2=>?_
 have a1:ah prog w K gn bn 1 (.ref 146) nI:=ah.of_ir (OX:=λU=>bT) (OSX:=λU=>gr) (dv:=[]) (dargs:=[]) (λU U=>rfl) h1 H.1 H.2.1 (λU U U U U U X n e he=>aE he) (λU U U U U U X n t he=>aE he)
  (λargs own Q X hc=>by obtain⟨_,_,rfl,_⟩:=hc;rfl) (λargs own Q X hc c U U U=>by rw[bA];exact Ae hc)
 have a2:ah prog w K gn bn 1 (.ref 146) yD:=ah.of_ir (OX:=λU=>bT) (OSX:=λU=>gr) (dv:=[.int 0 tk]) (dargs:=[.d (.int 0)]) (λU U=>⟨_,_,rfl,⟨tk,rfl⟩,rfl⟩) h2 H.1 H.2.1 (λU U U U U U X n e he=>aE he) (λU U U U U U X n t he=>aE he)
  (λargs own Q X hc=>by refine rwr (hc.1 ..) ?_;rfl) (λargs own Q X hc c U U U=>Ae hc.2)
 refine ah.or a1 a2 λargs own Q X hc=>?_
 obtain⟨xs,at',h,h3,h4,h5,hQ⟩:=hc
 refine ao h (λz0=>?_) (ae λz1 z2=>?_) <;>clear h <;>(try subst z0) <;>(try subst z1) <;>(try subst z2)
 ·exact .inl ⟨xs,at',rfl,h3,h4,h5,hQ⟩
 ·exact .inr ⟨rfl,xs,0,rfl,h3,h4,h5,hQ⟩
theorem nL:ah prog w K gn bn 2 (.ref 212) (cF 212 jL):=ah.of_class (H.at 61) (eq_of_beq (H.at 62)) (H.at 63) (KP H)
theorem vx:ah prog w K gn bn 1 (.ref 96) lK:=ah.mk0 H (H.at 1) (by walk_at"A") λargs own Q X hc=>DG  hc
theorem IF:ah prog w K gn bn 2 (.ref 110) jK:=ah.mk0 H (H.at 3) (by walk_at"A") λargs own Q X hc=>EQ (vx H) hc
theorem ml:ah prog w K gn bn 3 (.ref 160) iO:=ah.mk0 H (H.at 8) (by walk_at"A") λargs own Q X hc=>Fd (IF H) hc
theorem xH:ah prog w K gn bn 1 (.ref 153) lm:=ah.mk0 H (H.at 7) (by walk_at"A") λargs own Q X hc=>G_  hc
theorem oX:ah prog w K gn bn 2 (.ref 209) j7:=ah.mk0 H (H.at 11) (by walk_at"A") λargs own Q X hc=>Jn (xH H) hc
theorem Fe:ah prog w K gn bn 2 (.ref 124) jK:=ah.mk0 H (H.at 5) (by walk_at"A") λargs own Q X hc=>Gi (vx H) hc
theorem EW:ah prog w K gn bn 3 (.ref 131) oJ:=ah.mk0 H (H.at 6) (by walk_at"A") λargs own Q X hc=>JO (Fe H) hc
theorem wL:ah prog w K gn bn 4 (.ref 181) lR:=ah.mk0 H (H.at 9) (by walk_at"A") λargs own Q X hc=>IX (EW H) hc
theorem D5:ah prog w K gn bn 4 (.ref 307) on:=ah.mk0 H (H.at 19) (by walk_at"A") λargs own Q X hc=>DB (ml H) (ah.mono (xH H) (by decide)) hc
theorem DK:ah prog w K gn bn 5 (.ref 461) oM:=ah.mk0 H (H.at 28) (by walk_at"A") λargs own Q X hc=>KA (D5 H) (ah.mono (ml H) (by decide)) hc
theorem FP:ah prog w K gn bn 1 (.ref 195) ng:=ah.mk0 H (H.at 10) (by walk_at"A") λargs own Q X hc=>I_  hc
theorem HR:ah prog w K gn bn 1 (.ref 300) oy:=ah.mk0 H (H.at 18) (by walk_at"A") λargs own Q X hc=>HK  hc
theorem JX:ah prog w K gn bn 2 (.ref 426) kE:=ah.mk0 H (H.at 25) (by walk_at"A") λargs own Q X hc=>GN (HR H) hc
theorem xu:ah prog w K gn bn 3 (.ref 443) (cF 443 kE):=ah.of_class (H.at 73) (eq_of_beq (H.at 74)) (H.at 75) (JX H)
theorem F_:ah prog w K gn bn 6 (.ref 475) nD:=ah.mk0 H (H.at 30) (by walk_at"A") λargs own Q X hc=>Hf (ah.mono (nL H) (by decide)) (DK H) (ah.mono (FP H) (by decide)) (ah.mono (oX H) (by decide)) (ah.mono (xu H) (by decide)) hc
theorem Im:ah prog w K gn bn 7 (.ref 531) oi:=ah.mk0 H (H.at 37) (by walk_at"A") λargs own Q X hc=>EK (ah.mono (nL H) (by decide)) (ah.mono (ml H) (by decide)) (ah.mono (oX H) (by decide)) (ah.mono (wL H) (by decide)) (F_ H) hc
theorem Gv:ah prog w K gn bn 1 (.ref 545) oa:=ah.mk0 H (H.at 39) (by walk_at"A") λargs own Q X hc=>KY  hc
theorem FL:ah prog w K gn bn 4 (.ref 538) o7:=ah.mk0 H (H.at 38) (by walk_at"A") λargs own Q X hc=>CR (ah.mono (nL H) (by decide)) (ml H) (ah.mono (oX H) (by decide)) (ah.mono (Gv H) (by decide)) (ah.mono (qG H) (by decide)) hc
theorem Fm:ah prog w K gn bn 1 (.ref 321) lv:=ah.mk0 H (H.at 20) (by walk_at"A") λargs own Q X hc=>J4  hc
theorem Cw:ah prog w K gn bn 2 (.ref 352) (cF 352 lv):=ah.of_class (H.at 67) (eq_of_beq (H.at 68)) (H.at 69) (Fm H)
theorem FU:ah prog w K gn bn 5 (.ref 363) nK:=ah.mk0 H (H.at 22) (by walk_at"A") λargs own Q X hc=>IN (ah.mono (nL H) (by decide)) (ah.mono (ml H) (by decide)) (wL H) (ah.mono (oX H) (by decide)) (ah.mono (Cw H) (by decide)) hc
theorem Gf:ah prog w K gn bn 8 (.ref 524) gS:=ah.mk0 H (H.at 36) (by walk_at"A") λargs own Q X hc=>G9 (Im H) (ah.mono (FL H) (by decide)) (ah.mono (FU H) (by decide)) hc
theorem I6:ah prog w K gn bn 1 (.ref 433) kx:=ah.mk0 H (H.at 26) (by walk_at"A") λargs own Q X hc=>JR  hc
theorem KD:ah prog w K gn bn 1 (.ref 384) kH:=ah.mk0 H (H.at 24) (by walk_at"A") λargs own Q X hc=>DU  hc
theorem HL:ah prog w K gn bn 2 (.ref 672) o5:=ah.mk0 H (H.at 55) (by walk_at"A") λargs own Q X hc=>Hv (vp H) hc
theorem I1:ah prog w K gn bn 4 (.ref 454) nl:=ah.mk0 H (H.at 27) (by walk_at"A") λargs own Q X hc=>Gr (qD H) hc
theorem KU:ah prog w K gn bn 1 (.ref 272) oS:=ah.mk0 H (H.at 16) (by walk_at"A") λargs own Q X hc=>EX  hc
theorem Dr:ah prog w K gn bn 5 (.ref 468) oV:=ah.mk0 H (H.at 29) (by walk_at"A") λargs own Q X hc=>EI (ah.mono (uh H) (by decide)) (I1 H) (ah.mono (KU H) (by decide)) (ah.mono (sf H) (by decide)) hc
theorem FV:ah prog w K gn bn 2 (.ref 117) (jX 4294967295):=ah.mk0 H (H.at 4) (by walk_at"A") λargs own Q X hc=>GM (xX H) hc
theorem CC:ah prog w K gn bn 3 (.ref 258) mZ:=ah.mk0 H (H.at 14) (by walk_at"A") λargs own Q X hc=>Kc (FV H) hc
theorem Jk:ah prog w K gn bn 6 (.ref 496) nQ:=ah.mk0 H (H.at 33) (by walk_at"A") λargs own Q X hc=>K0 (ah.mono (uh H) (by decide)) (ah.mono (yF H) (by decide)) (ah.mono (qD H) (by decide)) (ah.mono (sf H) (by decide)) (Dr H) (ah.mono (CC H) (by decide)) hc
theorem DO:ah prog w K gn bn 1 (.ref 552) oO:=ah.mk0 H (H.at 40) (by walk_at"A") λargs own Q X hc=>CF  hc
theorem Ca:ah prog w K gn bn 1 (.ref 328) kQ:=ah.mk0 H (H.at 21) (by walk_at"A") λargs own Q X hc=>Dp  hc
theorem Jg:ah prog w K gn bn 9 (.ref 677) hW:=ah.mk H (λU=>kP (λf C=>ah prog w K gn bn 8 (.ref f) C)) (λc n st Q X=>c.mu=[]/\iZ (λf C=>ah prog w K gn bn 8 (.ref f) C) n st Q X) (H.at 56)
 (λc ok hN e1 e2 hi X n e he=>Ep ok hN H.2.1 (λf C hs=>by refine rwr (e1 ..) (rwr (e2 ..) ?_);exact hs) (by refine rwr (e1 ..) (rwr (e2 ..) ?_);exact(ah.mono (Ca H) (by decide))) X n e he)
 (λc ok hN e1 e2 hi X n t he st Q h=>Kk ok hN H.2.1 hi h.1 (λf C hs=>by refine rwr (e1 ..) (rwr (e2 ..) ?_);exact hs) ⟨(eq_of_beq (H.at 79)),(eq_of_beq (H.at 80))⟩ (by refine rwr (e1 ..) (rwr (e2 ..) ?_);exact(ah.mono (DO H) (by decide))) n t he h.2) (by walk_at"A") λargs own Q X hc c hmu=>by
  have hm:c.mu=[]:=hmu (by obtain⟨_,_,rfl,_⟩:=hc;rfl)
  have e:(λn st Q X=>c.mu=[]/\iZ (λf C=>ah prog w K gn bn 8 (.ref f) C) n st Q X:bJ)=iZ (λf C=>ah prog w K gn bn 8 (.ref f) C):=by
   funext n st Q X
   exact propext ⟨λh=>h.2,λh=>⟨hm,h⟩⟩
  refine rwr (e ..) ?_
  exact Ed (ah.mono (Fn H) (by decide)) (ah.mono (At H) (by decide)) (ah.mono (vp H) (by decide)) (ah.mono (HF H) (by decide)) (ah.mono (qG H) (by decide)) (Gf H) (ah.mono (I6 H) (by decide)) (ah.mono (KD H) (by decide)) (ah.mono (HL H) (by decide)) (ah.mono (Jk H) (by decide)) (ah.mono (xu H) (by decide)) hc
theorem JU:ah prog w K gn bn 1 (.ref 594) oG:=ah.mk0 H (H.at 45) (by walk_at"A") λargs own Q X hc=>FW  hc
theorem zi:ah prog w K gn bn 2 (.ref 601) ga:=ah.mk0 H (H.at 46) (by walk_at"A") λargs own Q X hc=>Dy (JU H) hc
theorem wG:ah prog w K gn bn 1 (.ref 622) mj:=ah.mk0 H (H.at 49) (by walk_at"A") λargs own Q X hc=>G'  hc
theorem CE:ah prog w K gn bn 2 (.ref 634) ls:=ah.mk0 H (H.at 51) (by walk_at"A") λargs own Q X hc=>IG (wG H) hc
theorem JT:ah prog w K gn bn 1 (.ref 482) (d8 (lit "wal-") []):=ah.mk0 H (H.at 31) (by walk_at"A") λargs own Q X hc=>IP  hc
theorem Gq:ah prog w K gn bn 1 (.ref 587) (d8 (lit "MANIFEST-") ([])):=ah.mk0 H (H.at 44) (by walk_at"A") λargs own Q X hc=>HE  hc
theorem Hq:ah prog w K gn bn 1 (.ref 566) (d8 ([]) (lit ".log")):=ah.mk0 H (H.at 41) (by walk_at"A") λargs own Q X hc=>Gw  hc
theorem G2:ah prog w K gn bn 1 (.ref 573) (d8 [] (lit ".ldb")):=ah.mk0 H (H.at 42) (by walk_at"A") λargs own Q X hc=>HB  hc
theorem Ey:ah prog w K gn bn 1 (.ref 580) (d8 ([]) (lit ".dbtmp")):=ah.mk0 H (H.at 43) (by walk_at"A") λargs own Q X hc=>E4  hc
theorem Gj:ah prog w K gn bn 3 (.ref 658) jd:=ah.mk H (λU=>bT) (λU=>oP (λf C=>ah prog w K gn bn 2 (.ref f) C)) (H.at 53) (λU U U U U U X n e he=>aE he) (λc ok hN e1 e2 hi X n t he st Q h=>EZ ok hN H.2.1 hi (λf C hs=>by refine rwr (e1 ..) (rwr (e2 ..) ?_);exact hs) n t he h) (by walk_at"A") λargs own Q X hc c U=>DF (CE H) (zi H) (ah.mono (JT H) (by decide)) (ah.mono (Gq H) (by decide)) (ah.mono (Hq H) (by decide)) (ah.mono (G2 H) (by decide)) (ah.mono (Ey H) (by decide)) hc
theorem Di:ah prog w K gn bn 1 (.ref 627) oL:=ah.mk H (λU=>pj (λf C=>ah prog w K gn bn 0 (.ref f) C) kA) (λU=>gr) (H.at 50) (λc ok hN e1 e2 U X n e he=>La ok hN H.2.1 (λf C hs=>by refine rwr (e1 ..) (rwr (e2 ..) ?_);exact hs) X n e he) (λU U U U U U X n t he=>aE he) (by walk_at"A") λargs own Q X hc c U=>Hs hc
theorem yW:ah prog w K gn bn 1 (.ref 615) jC:=ah.mk0 H (H.at 48) (by walk_at"A") λargs own Q X hc=>KM  hc
theorem FE:ah prog w K gn bn 2 (.ref 651) kW:=by
 refine ah.of_cell2 (H.at 60) H.1 H.2.1 λargs own Q X hc=>?_
 obtain⟨n,rfl,rfl,hn,hQ⟩:=hc
 have e1:(n:Int).fdiv 8=((n/8:Nat):Int):=da n 8
 have e2:(n:Int).fmod 8=((n%8:Nat):Int):=bz n 8
 refine⟨rfl,(n:Int),rfl,λj hj=>⟨rfl,λU e=>(by cases e),λU=>.inr λbs=>(by intro e;cases e)⟩,?_⟩
 refine rwr (e1 ..) (rwr (e2 ..) ?_)
 exact GQ (Di H) (wG H) (yW H) (cy (uY _ _) hn) (bE _ (by decide)) hQ
theorem Hg:ah prog w K gn bn 1 (.ref 639) fC:=by
 refine ah.of_cell1 (H.at 59) H.1 H.2.1 λargs own Q X hc=>?_
 obtain⟨xs,rfl,rfl,hl,hQ⟩:=hc
 refine⟨rfl,xs,rfl,λn hn=>?_,J2 hl hQ⟩
 match n with
 |0=>exact⟨rfl,λU e=>(by cases e),λU=>.inl rfl⟩
 |n+1=>exact⟨rfl,(λq=>nomatch q),(λq=>nomatch q)⟩
theorem FH:ah prog w K gn bn 1 (.ref 503) o6:=ah.mk0 H (H.at 34) (by walk_at"A") λargs own Q X hc=>H_  hc
theorem EV:ah prog w K gn bn 2 (.ref 646) fC:=ah.mk H (λU=>bT) (λU=>ni) (H.at 52) (λU U U U U U X n e he=>aE he) (λc ok hN e1 e2 U X n t he st Q h=>FD ok hN ⟨(eq_of_beq (H.at 79)),(eq_of_beq (H.at 80))⟩ (by refine rwr (e1 ..) (rwr (e2 ..) ?_);exact(FH H)) n t he h) (by walk_at"A") λargs own Q X hc c U=>IE hc
theorem CP:ah prog w K gn bn 10 (.ref 682) q9:=ah.mk H (λU=>bT) (λU=>fA (λf C=>ah prog w K gn bn 9 (.ref f) C)) (H.at 57) (λU U U U U U X n e he=>aE he) (λc ok hN e1 e2 hi X n t he st Q h=>H6 ok hN H.2.1 (λf C hs=>by refine rwr (e1 ..) (rwr (e2 ..) ?_);exact hs) n t he h) (by walk_at"A") λargs own Q X hc c U=>Fi (Jg H) (ah.mono (zi H) (by decide)) (ah.mono (Gj H) (by decide)) (ah.mono (At H) (by decide)) (ah.mono (FE H) (by decide)) (ah.mono (Hg H) (by decide)) (ah.mono (EV H) (by decide)) (ah.mono (yW H) (by decide)) hc
end
end

section
set_option autoImplicit false
noncomputable def Fh(v:Value):Tok:=v.casesOn 0 0 0 (λU=>0) (λU t=>t) (λU t=>t) (λU t=>t) (λU t=>t) (λU=>0) (λU=>0) λU=>0
noncomputable def xP(o:Option (Option Value)):Tok:=o.casesOn 0 λo=>o.casesOn 0 Fh
noncomputable def s7(K:Frag)(p:ac×GV):Bool:=p.2.casesOn (λi=>nsIn K mainGlobals p.1==some (some (.int i (xP (nsIn K mainGlobals p.1))))) (λs=>nsIn K mainGlobals p.1==some (some (.str s (xP (nsIn K mainGlobals p.1)))))
 (λa=>(nsIn K mainGlobals p.1==some (some (.ref a)))&&keepIn K (.ref a)) (λb=>(nsIn K mainGlobals p.1==some Bx)&&(!(p.1==("__name__" : ac))&&(bootBuiltins p.1==some (eE b))))
 λC=>(nsIn K mainGlobals p.1==some (some (.ref C)))&&excIn K C oQ "Exception.__new__"
set_option tactic.hygienic true in
theorem EC{K:Frag}{p:Program}{loose:List ac}{mg mb:ac->Option Value}{h base:Heap}(T:TopRead p loose mg mb h)(hb:glob.all (s7 K)=true)(X:K.In base)(g:base.Ns mainGlobals mg)(b:base.Ns builtinsNs mb)(l:base.NoLimit):iT K glob mg mb base :=
 have get:∀{x v},glob.lookup x=some v->s7 K (x,v)=true:=λhx=>fR.mp hb _ (mem_of_lookup hx)
 ⟨λU U hx=>⟨_,mg_of X g (eq_of_beq (get hx))⟩,λU U hx=>⟨_,mg_of X g (eq_of_beq (get hx))⟩,λU U hx=>⟨mg_of X g (eq_of_beq (aL (get hx))),aR (get hx)⟩,
  λx U hx=>⟨mg_none_of X g (eq_of_beq (aL (get hx))),(T.builtins x (λe=>by have:=aL (aR (get hx));rw[e]at this;simp at this)).trans (eq_of_beq (aR (aR (get hx))))⟩,
  λU U hx=>own_of_in X ⟨g,b,l,T.builtins,T.free⟩ (eq_of_beq (aL (get hx))) (aR (get hx))⟩
noncomputable def sv(K:Frag):Bool:=(rW.all λC=>dc K C&&(bM 20).all λf=>dX K C f)&&rj.all λp=>dc K p.1&&fj K p.1 (cN p.2.1) p.2.2
theorem HH{C:Nat}(h:iL C=true):C∈rW:=by
 refine elE1 (List.any_eq_true.mp h) λx=>ae λhx e=>?_
 refine rwr (di e ..) ?_
 exact hx
theorem Dg{C m:Nat}{f:Addr}(h:kY C m=some f):(C,m,f)∈rj:=wd h
theorem Gu{K:Frag}(h:sv K=true):cJ K:=by
 unfold sv at h
 simp only[eO,fR]at h
 refine ak h λh1 h2=>?_;clear h
 refine⟨λC hC=>?_,λC m f hf=>?_⟩
 ·refine ak (h1 C (HH hC)) λa b=>?_
  exact⟨a,λf hf=>b f (ka.mpr hf)⟩
 ·exact h2 _ (Dg hf)
end

section
set_option autoImplicit false
theorem Ar{R:WRecords}:∀{xs:List WData},WShape.hasItems R xs .int=true->∃is:List Int,xs=is.map kh
 |[],_=>⟨[],rfl⟩
 |x::r,h=>by
  have h':=dh.mp (show (WShape.has R x .int&&WShape.hasItems R r .int)=true from h)
  refine elE1 (hasW_int h'.1) λi z0=>?_;subst z0
  refine elE1 (Ar h'.2) λis z0=>?_;subst z0
  exact⟨i::is,rfl⟩
def F3(P:Params)(h:Heap)(v:Value)(d:WData):Prop :=
 d.casesOn True (λU=>True) (λi=>∃t,v=.int i t) (λU=>True) (λxs=>∃l vs,v=.ref l/\h.get? l=some { cls:=.type "list",data:=.seq (List.toArray vs) }/\WellAll P h vs xs) (λU=>True) (λU=>True) (λU=>True) (λU=>True) (λU=>True) (λU=>True) (λU=>True) λU U=>True
theorem vr{P:Params}{h:Heap}{v:Value}{d:WData}(w:Well P h v d):F3 P h v d:=by
 induction w using Well.casesOn with
 |int i t=>exact⟨t,rfl⟩
 |list a b=>exact(ex2 _ _ ⟨rfl,a,b⟩)
 |_=>trivial
def C5(P:Params)(h:Heap)(vs:List Value)(ds:List WData):Prop:=ds.casesOn (vs=[]) λd r=>∃v vs',vs=v::vs'/\Well P h v d/\WellAll P h vs' r
theorem pt{P:Params}{h:Heap}{vs:List Value}{ds:List WData}(w:WellAll P h vs ds):C5 P h vs ds:=by
 induction w using WellAll.casesOn with
 |nil=>exact rfl
 |cons a b=>exact(ex2 _ _ ⟨rfl,a,b⟩)
theorem wx{P:Params}{h:Heap}{Z:Zt}:∀{is:List Int} {vs:List Value},WellAll P h vs (is.map kh)->RDs P Z (is.map D.int) vs
 |[],_,h=>pt h
 |_::_,_,h=>elE2 (pt h) λv r=>al λe h1 h2=>⟨v,r,e,vr h1,wx h2⟩
theorem KB{b:Bool}{e:WCtx}(h:(WTm.lit (.bool b)).holds [] e=true):b=true:=by
 induction b using Bool.casesOn with
 |false=>exact nomatch (show false=true from h)
 |true=>rfl
theorem Ji{is:List Int}(h:PySem.Challenge.rw_xw0267_01.row.toRowW.pre.holds PySem.Challenge.rw_xw0267_01.row.toRowW.records { args:=[.list (is.map kh)] }=true):is.length<=63:=by
 have h':(WTm.and (.not (.lt (.lit (.int 63)) (.len (.arg 0)))) (.lit (.bool true))).holds [] { args:=[.list (is.map kh)] }=true:=h
 have h1:=(holds_andW h').1
 have h2:=KB (b:=!decide ((63:Int)<((is.map kh).length:Nat))) (e:={ args:=[.list (is.map kh)] }) h1
 rw[cV]at h2
 exact fQ.mp (uD.mp (of_decide_eq_false ((fe _).mp h2)))
theorem JZ{args ds:List WData}:PySem.Challenge.rw_xw0267_01.row.toRowW.claim.post args (.bool true) ds=true:=by
 have e:same (u9 true) (u9 true)=true:=same_self _
 show (WShape.has [] (.bool true) .bool&&(WTm.lit (.bool (same (u9 true) (u9 true)))).holds [] { args:=args,res:=some (.bool true),after:=ds })=true
 refine rwr (e ..) ?_
 rfl
theorem Hh:glob.lookup (aa "law")=some (.fn 682):=by decide +kernel
theorem Ii{w:World}{h:Heap}{args:List WData}{vals:List Value}(hpre:PySem.Challenge.rw_xw0267_01.row.toRowW.claim.pre args=true)(hwl:WellAll w.params h vals args):
  ∃(is:List Int) (l:Addr) (vs:List Value),args=[.list (is.map kh)]/\vals=[.ref l]/\h.get? l=some { cls:=.type "list",data:=.seq (List.toArray vs) }/\WellAll w.params h vs (is.map kh)/\is.length<=63:=by
 refine ak (pre_splitW hpre) λhsh hcond=>?_
 refine elE2 (hasAllW_cons (e:=.list .int) (es:=[]) hsh) λd0 r0=>al λz0 h1 h2=>?_
 refine elE1 (hasW_list h1) λxs=>ae λz1 h3=>?_
 refine elE1 (Ar h3) λis z2=>?_
 rw[hasAllW_nil h2,z1,z2]at z0
 subst z0
 refine elE2 (pt hwl) λv r=>al λe w1 w2=>elE2 (vr w1) λl vs=>al λe1 ho w3=>?_
 rw[show r=[] from pt w2,e1]at e
 exact(ex3 is l vs ⟨rfl,e,ho,w3,Ji hcond⟩)
theorem finish{q:Program}{loose:List ac}{XP:(ac->Option Value)->Heap->Prop}{YP:World->Heap->Prop}{d:DefRec}{kwd:List (ac×Expr)}{KF:Params->Frag}(hY:∀(w:World) (h:Heap),YP w h->(KF w.params).In h)(chk:∀P,eX (r9 (KF P)))
  (hg:∀P,glob.all (s7 (KF P))=true) (hc:∀P,sv (KF P)=true) (hn:d.name=aa "law"):vo q loose XP YP PySem.Challenge.rw_xw0267_01.row.toRowW d kwd λf vs=>PySem.call f vs:=by
 intro w s₀ s₁ mg mb G Y a o pm cd doc dV kV ho hd hcd hD hmg hgens args vals as hpre hlay hrd hwl hlo
 refine elE3 (Ii hpre hwl) λis l vs=>kI λz0 z1 hobj hall hlen=>?_
 clear hpre hwl hlay hrd hlo hcd hD hd
 have T:=topRead_of G.T
 have KX:=hY w _ Y
 have hG:∀base,(KF w.params).In base->base.Ns mainGlobals mg->base.Ns builtinsNs mb->base.NoLimit->iT (KF w.params) glob mg mb base:=λbase X g b l=>EC T (hg _) X g b l
 have hK:=Gu (hc w.params)
 have ha:a=682:=Value.ref.inj (pP (hmg.symm.trans ((congrArg mg hn).trans ((hG _ KX T.g T.b T.nolimit).fn _ _ Hh).1)))
 clear hmg ho
 subst ha;subst z0;subst z1
 have cx:Cx (KF w.params) 10 callerA [] s₁.heap s₁.heap mg mb:=⟨rfl,rfl,rfl,by decide +kernel,by decide +kernel,KX,T.nolimit,λU U e=>e,trivial,T.g,T.b,bG _⟩
 have hs:=CP (prog:=PySem.Challenge.rw_xw0267_01.row.toRowW.prog) (w:=w) ⟨hG,hK,chk _⟩ callerA [] s₁.heap s₁ [.ref l] [.d (.list (is.map D.int))] [] [] [] [] (λV U=>V=.d (.bool true)) (λU=>False) cx (λU h=>nomatch h) (λU h=>nomatch h) ix (λU h=>nomatch h) .nil
  ⟨_,_,rfl,⟨l,vs.toArray,0,rfl,.inl hobj,wx hall⟩,rfl⟩ ⟨is,rfl,rfl,by lia,rfl⟩
 refine jP (ee hs λr s' hr=>?_)
 cases r with
 |error e=>obtain⟨_,_,_,_,_,hX,_⟩:=hr;exact hX.elim
 |ok fl =>
  cases fl with
  |next=>exact hr
  |brk=>exact hr
  |cont=>exact hr
  |ret v =>
   obtain⟨V,own',fz',ad',fps',rfl,e1,e2,b1,b2,b3,hk,hsl,hlv,hfz,hF,hnd,hdis,R',rv⟩:=hr
   have hv:v=.bool true:=rv
   subst hv
   exact⟨.inl (ex3 _ (.bool true) [] ⟨rfl,λU=>rfl,.bool true,JZ,λU=>⟨ix,λU h=>nomatch h⟩⟩),.of_keep λb o e=>hk b o e (λh=>nomatch h) (λh=>nomatch h),b3,.of_eq (b1.trans hgens)⟩
end
end Mine
set_option tactic.hygienic true
set_option maxRecDepth 100000
set_option Elab.async true
open PySem.Calls
namespace Mine.head
def tw11925700103697007601:=Nat
def tw14139617269561922093:=Nat
def tw2326617092838664518:=Nat
def tw9065935926736091543:=Nat
def tw466721876749952763:=Nat
def tw8912104118211102971:=Nat
def tw18433677622606106133:=Nat
def tw7161073391023584161:=Nat
def tw13508044439285423174:=Nat
def tw3821945547825155762:=Nat
def tw2298694737197419510:=Nat
def tw10988817232074504935:=Nat
def tw12074249297620881909:=Nat
def tw11582096051123008839:=Nat
def tw11305582741114486441:=Nat
def tw12287978374625458572:=Nat
def tw6388477656530123435:=Nat
def tw15436542981012472205:=Nat
def tw6489421142724028100:=Nat
def tw14882813523228863612:=Nat
def tw12604462930493870256:=Nat
def tw5501060405047882677:=Nat
def tw9107825763807709430:=Nat
def tw6211381574409162282:=Nat
def tw9062998866958442273:=Nat
def tw16572314662081343053:=Nat
def tw12611893724949602041:=Nat
def tw11821203517306503961:=Nat
def tw13246386896891170512:=Nat
def tw6085824867444503733:=Nat
def tw17212568112599259466:=Nat
def tw14744981736328886265:=Nat
def tw13916477371382194880:=Nat
def tw13942192884097748152:=Nat
def tw14946772226789246504:=Nat
def tw8476099583838051002:=Nat
def tw17194126546080390198:=Nat
def tw2728595385866086531:=Nat
def tw11290360913936777911:=Nat
def tw15895551434495452948:=Nat
def tw4764554697811233:=Nat
def tw13337238644230332656:=Nat
def tw6053349399257934933:=Nat
def tw9388430590476628193:=Nat
def tw779419810087314491:=Nat
def tw10258521583956687137:=Nat
def tw15967466079928408925:=Nat
def tw16800043278716471037:=Nat
def tw10079960370226730655:=Nat
def tw2973143901146584636:=Nat
def tw17015032458148788900:=Nat
def tw1608297297296620843:=Nat
def tw12478146576626367362:=Nat
def tw820421773197932041:=Nat
def tw2355103038987944067:=Nat
def tw13585267454733459922:=Nat
def tw15840312062823119879:=Nat
def tw3980653432952411973:=Nat
def tw17173245716831642929:=Nat
def tw4964814941381164201:=Nat
def tw10431609616501453582:=Nat
def tw3944913497352057107:=Nat
def tw17894702793023417833:=Nat
def tw18364922244981856966:=Nat
def tw8535708456716222715:=Nat
def tw6237802210402583469:=Nat
def tw4528443807372415038:=Nat
def tw6369041477666114370:=Nat
def tw6053997905714604814:=Nat
def tw14843749296085226474:=Nat
def tw6161856959107265637:=Nat
def tw11923155195566972133:=Nat
def tw11427066125472700054:=Nat
def tw14149427978524627653:=Nat
def tw1495726902847802894:=Nat
def tw17836260108008149386:=Nat
def tw16576625349610184965:=Nat
def tw8874674299285249911:=Nat
def tw10746725682022337571:=Nat
def tw16817119741492734445:=Nat
def tw11081218982966106116:=Nat
def tw14195316510222423288:=Nat
def tw3304075619188804072:=Nat
def tw9767149119325585590:=Nat
def tw6402496994288996404:=Nat
def tw5792407227767346561:=Nat
def tw12398312691204496596:=Nat
def tw12773685731770592110:=Nat
def tw6088685845774392931:=Nat
def tw11105056867450500199:=Nat
def tw11434997419882176723:=Nat
def tw4709128311485490483:=Nat
def tw13743032657059413451:=Nat
def tw17453365369857097546:=Nat
def tw1503407388533364548:=Nat
def tw15894371620910866019:=Nat
def tw4857777746444614323:=Nat
def tw9592777112578238593:=Nat
def tw15798066900824788120:=Nat
def tw15539854500240908086:=Nat
def tw696122501370772008:=Nat
def tw12310735299239354703:=Nat
def tw2428695696106030784:=Nat
def tw14488727979953464203:=Nat
def tw10736139440505347576:=Nat
def tw16966009324859112401:=Nat
def tw13227620805987009915:=Nat
def tw1992862871153497056:=Nat
def tw1082313596108445148:=Nat
def tw8534208459206503383:=Nat
def tw14112051064653734678:=Nat
def tw16031315777459398524:=Nat
def tw48543519692965452:=Nat
def tw4554283584077286953:=Nat
def tw18007968972792079559:=Nat
def tw10270352894671993868:=Nat
def tw5824390128016035984:=Nat
def tw6880043348581005364:=Nat
def tw3501597964444990463:=Nat
def tw1939405473400901271:=Nat
def tw17646911460466567920:=Nat
def tw4972248218790579157:=Nat
def tw10668533816033670360:=Nat
def tw12362083183470981646:=Nat
def tw16769997242578385675:=Nat
def tw7148437315225170067:=Nat
def tw6871339299614917876:=Nat
def tw1457377512435260902:=Nat
def tw3690969761935527329:=Nat
def tw15794997505209512671:=Nat
def tw10015159338476511836:=Nat
def tw5723944856813171866:=Nat
def tw15785421084128741142:=Nat
def tw11063524718261073790:=Nat
def tw15256841493749336786:=Nat
def tw3986194592780655508:=Nat
def tw1315816938146588887:=Nat
def tw13002585709282622103:=Nat
def tw1919001801439425371:=Nat
def tw8169693465737517768:=Nat
def tw8182079617134344778:=Nat
def tw7253898381062576733:=Nat
def tw13208582627755315303:=Nat
def tw12460202669355646752:=Nat
def tw16128420640991077102:=Nat
def tw6327039764776113722:=Nat
def tw7802898811600756450:=Nat
def tw5944575059761466720:=Nat
def tw7616930195647119758:=Nat
def tw8451290768687142514:=Nat
def tw15091486752826498866:=Nat
def tw15609255003364895129:=Nat
def tw18375999222851292949:=Nat
def tw13137911371727378231:=Nat
def tw9407594320385231609:=Nat
def tw10664049775405315680:=Nat
def tw5986637957666399235:=Nat
def tw14628233357713752721:=Nat
def tw3368474557548986910:=Nat
def tw7705420606127192585:=Nat
def tw9658139154387788515:=Nat
def tw5617373736292572815:=Nat
def tw11308087075614649832:=Nat
def tw9978949632667528635:=Nat
def tw9162278640276766204:=Nat
def tw17854890406432584798:=Nat
def tw3790771472595898956:=Nat
def tw4473611206160876864:=Nat
def tw7494366503370351645:=Nat
def tw14139502460874162764:=Nat
def tw7748693106545578708:=Nat
def tw6857060684267632606:=Nat
def tw13276723143375012678:=Nat
def tw11988142204041823098:=Nat
def tw17674571679781333832:=Nat
def tw8264559056461403633:=Nat
def tw1929634836878124385:=Nat
def tw16065720564569863766:=Nat
def tw5788964047882338313:=Nat
def tw640434116619478595:=Nat
def tw7994106446794305319:=Nat
def tw14877080517539528568:=Nat
def tw14028522991509751376:=Nat
def tw1172538174109094731:=Nat
def tw2506711637615833298:=Nat
def tw17844492200522320778:=Nat
def tw15148963937461231693:=Nat
def tw5209715836286462241:=Nat
def tw14676189674455941282:=Nat
def tw8035625575855466936:=Nat
def tw15647610678857825673:=Nat
def tw12359489953124434286:=Nat
def tw17002534310236347988:=Nat
def tw12475708393154427166:=Nat
def tw10510622979536455646:=Nat
def tw527386997569798941:=Nat
def tw6202090305015876224:=Nat
def tw9646481798937456297:=Nat
def tw17093656651364094606:=Nat
def tw13295774097974887486:=Nat
def tw174166394780034911:=Nat
def tw16014373381606645092:=Nat
def tw13537664574400122534:=Nat
def tw9553506758532729402:=Nat
def tw9802980913210911633:=Nat
def tw13478637309914159250:=Nat
def tw9984397402777080727:=Nat
def tw957920728692688272:=Nat
def tw4160124254940468481:=Nat
def tw17113217626458354986:=Nat
def tw6763335052953634553:=Nat
def tw8337448324364255386:=Nat
def tw14788773977795034992:=Nat
def tw17782148633632673465:=Nat
def tw18384547517478447814:=Nat
def tw10812213935944405949:=Nat
def tw14969872817325187116:=Nat
def tw14364637388885140079:=Nat
def tw6588589085864783938:=Nat
def tw8997269238129315039:=Nat
def tw11603432971120843656:=Nat
def tw10573961123116132518:=Nat
def tw17275705279478898512:=Nat
def tw9082462177598256812:=Nat
def tw3453547403478019728:=Nat
def tw1211024037004892549:=Nat
def tw10519217271611395807:=Nat
def tw14234965402570480558:=Nat
def tw7450023128482652576:=Nat
def tw3368030927266983236:=Nat
def tw300626226527484142:=Nat
def tw7901268698958117014:=Nat
def tw262713603470380999:=Nat
def tw6507506987150044280:=Nat
def tw12903917746401883607:=Nat
def tw10070411193226618655:=Nat
def tw976808484645153763:=Nat
def tw9820158181544301314:=Nat
def tw5697773043789114877:=Nat
def tw12330954535739239725:=Nat
def tw17411354535832351560:=Nat
def tw12076887017831592465:=Nat
def tw10205530081349824492:=Nat
def tw9030979908501067730:=Nat
def tw4746297304354101679:=Nat
def tw13637325136056909300:=Nat
def tw17188972718952451159:=Nat
def tw7906546307943345882:=Nat
def tw12987040726578829979:=Nat
def tw5508695066786827253:=Nat
def tw9103479521544129834:=Nat
def tw14810052793992546949:=Nat
def tw13896987355042952010:=Nat
def tw5865467396996320769:=Nat
def tw14205479233844494046:=Nat
def tw15520248196984853422:=Nat
def tw851385035628625539:=Nat
def tw14527164170590304321:=Nat
def tw6079359036626576793:=Nat
def tw742351954350328859:=Nat
def tw17725469503822016867:=Nat
def tw7062146859851562108:=Nat
def tw12695399030622205104:=Nat
def tw10706776884845955466:=Nat
def tw4273228799998304602:=Nat
def tw11540955194716235030:=Nat
def tw10840385229135970747:=Nat
def tw10366927770000222440:=Nat
def tw1748456618969930982:=Nat
def tw10265929125382437317:=Nat
def tw7658410731251134818:=Nat
def tw5506250874072839755:=Nat
def tw15064752311394979489:=Nat
def tw1852205218256702202:=Nat
def tw18332285231265401824:=Nat
def tw930087139818521243:=Nat
def tw7833285031277912329:=Nat
def tw10005452208157733855:=Nat
def tw16640130746408290383:=Nat
def tw2441957057352720082:=Nat
def tw11484797826999851062:=Nat
def tw15487638686976844055:=Nat
def tw3615648651819825313:=Nat
def tw8097174177036852075:=Nat
def tw18165431152234640623:=Nat
def tw4433315090154635215:=Nat
def tw15296082917334920728:=Nat
def tw6207834228037699737:=Nat
def tw10898857373019930491:=Nat
def tw16922147877168347812:=Nat
def tw7805308653706644653:=Nat
def tw12352672977532951062:=Nat
def tw733406405333840765:=Nat
def tw5725584637647431893:=Nat
def tw17821319399108415887:=Nat
def tw1832916270232011604:=Nat
def tw11562507594152271597:=Nat
def tw11296743742662292762:=Nat
def tw17552560543380974038:=Nat
def tw11338825007792423415:=Nat
def tw16984083398119652359:=Nat
def tw14667470093908496907:=Nat
def tw2154566216772986472:=Nat
def tw12601080634535202701:=Nat
def tw14699756766385990792:=Nat
def tw2004296183926418032:=Nat
def tw4543076655600059902:=Nat
def tw8773370040425892893:=Nat
def tw5987550445186205895:=Nat
def tw12870424476946447624:=Nat
def tw13653928888864918839:=Nat
def tw4693820183103290663:=Nat
def tw7013799640231393816:=Nat
def tw12147184966966947637:=Nat
def tw13379354915994877463:=Nat
def tw9495540839478616804:=Nat
def tw3547240966391284428:=Nat
def tw9142320679590124636:=Nat
def tw12043669396524033845:=Nat
def tw4691952243595246448:=Nat
def tw17348764703882912863:=Nat
def tw9515422150858430662:=Nat
def tw44622916816846810:=Nat
def tw2825341998796452840:=Nat
def tw5346772772824661884:=Nat
def tw2340069552987342377:=Nat
def tw15226672633840520885:=Nat
def tw8541356943393881859:=Nat
def tw13198292447841614426:=Nat
def tw8372164355529847743:=Nat
def tw11544532188706048022:=Nat
def tw15841401105113185080:=Nat
def tw10018764681926925449:=Nat
def tw18123143868385100064:=Nat
def tw6110071263904590700:=Nat
def tw9464831228461672588:=Nat
def tw9074772780463953568:=Nat
def tw9083612298779875492:=Nat
def tw5187041380464763778:=Nat
def tw3991279037241028524:=Nat
def tw9702098958229961203:=Nat
def tw1689142752476645926:=Nat
def tw8715499118904818895:=Nat
def tw3365352493744685392:=Nat
def tw8216834362191484069:=Nat
def tw18080951475816111786:=Nat
def tw13294958713779813728:=Nat
def tw14943480678444902952:=Nat
def tw14425796286289626669:=Nat
def tw12822298378996975857:=Nat
def tw17486074103640542121:=Nat
def tw2581250870941146908:=Nat
def tw16714887947964762639:=Nat
def tw4063747431996464497:=Nat
def tw14417885227837004991:=Nat
def tw11692735721529064706:=Nat
def tw6861794922711700498:=Nat
def tw5038994553942263901:=Nat
def tw2554682012703037696:=Nat
def tw2249667046024356820:=Nat
def tw3500380475922496097:=Nat
def tw7704315382344345624:=Nat
def tw14112020806712329415:=Nat
def tw9186546921256032858:=Nat
def tw10021064610941686981:=Nat
def tw17464823870196871000:=Nat
def tw7277520189549225825:=Nat
def tw15501141472565082077:=Nat
def tw9420838687424145684:=Nat
def tw10261356005730403935:=Nat
def tw3088210815446039105:=Nat
def tw12741294794224977040:=Nat
def tw13906610036690215845:=Nat
def tw16997897962222511:=Nat
def tw2350586252961548244:=Nat
def tw15035418422258542911:=Nat
def tw1489404036187247834:=Nat
def tw16172288393029767808:=Nat
def tw15735840784391694233:=Nat
def tw16106133796442146334:=Nat
def tw6846866878297920324:=Nat
def tw12763952150808568291:=Nat
def tw11052631288978436188:=Nat
def tw693309671712327132:=Nat
def tw9353324838224930552:=Nat
def tw17142359554024780413:=Nat
def tw5141578139466067413:=Nat
def tw8549075639274686408:=Nat
def tw5764021196749891206:=Nat
def tw15666658371737129944:=Nat
def tw6426539377367359892:=Nat
def tw2525317073905713282:=Nat
def tw13357441389134331599:=Nat
def tw13605870324054321959:=Nat
def tw1714602735852981970:=Nat
def tw12364624919760631829:=Nat
def tw2876011056497122456:=Nat
def tw5353729903917744248:=Nat
def tw12095829319087573521:=Nat
def tw9449176361245260279:=Nat
def tw5651425540991249520:=Nat
def tw10356212845559719233:=Nat
def tw2477160067735435323:=Nat
def tw467416434755642258:=Nat
def tw3581614266968435656:=Nat
def tw1134157569726261602:=Nat
def tw4053978428183960486:=Nat
def tw3928599903575798129:=Nat
def tw2591067827882107080:=Nat
def tw5331137831679937033:=Nat
def tw5438144065070405397:=Nat
def tw4885112425497105109:=Nat
def tw3715144110773694964:=Nat
def tw604627371996746742:=Nat
def tw2096541523181747872:=Nat
def tw2864405669816312776:=Nat
def tw13801937863458859944:=Nat
def tw6298033893332097587:=Nat
def tw3180135309550538989:=Nat
def tw3973953319845086491:=Nat
def tw14909605222495392915:=Nat
def tw13287313496625625458:=Nat
def tw6836605351468522007:=Nat
def tw14531177953140590962:=Nat
def tw8402214883040486957:=Nat
def tw15305915472762889579:=Nat
def tw12775505166333009402:=Nat
def tw17698105195316432488:=Nat
def tw2994366008111725845:=Nat
def tw14969385696402013904:=Nat
def tw7404141018258913797:=Nat
def tw1398043889541792783:=Nat
def tw7599496313472250701:=Nat
def tw4009957668330374740:=Nat
def tw14699528089545365996:=Nat
def tw15039987702171664376:=Nat
def tw12182850187970735909:=Nat
def tw140066278072042493:=Nat
def tw11484358847640170188:=Nat
def tw5140934472235413692:=Nat
def tw7523532297153676066:=Nat
def tw5870146547769353613:=Nat
def tw17854896373637125580:=Nat
def tw16111715859725283846:=Nat
def tw2172669909848549399:=Nat
def tw13381877923881390905:=Nat
def tw9746458257258439470:=Nat
def tw18260194641540637818:=Nat
def tw2694075680205673411:=Nat
def tw4381510469713062047:=Nat
def tw14512941343882779238:=Nat
def tw17538388429313760193:=Nat
def tw18176413224385145225:=Nat
def tw8185714761375850791:=Nat
def tw8159583801465064534:=Nat
def tw16903022960794457021:=Nat
def tw1499353310998574721:=Nat
def tw2753283235347674219:=Nat
def tw12205659690895024086:=Nat
def tw7928285938522686346:=Nat
def tw4976181008148175253:=Nat
def tw12865059321931465230:=Nat
def tw7960053054240918295:=Nat
def tw4017301010375394790:=Nat
def tw10010264046613662565:=Nat
def tw4834694072379752904:=Nat
def tw4419558321834357505:=Nat
def tw12998212659555988865:=Nat
def tw14061139507663348314:=Nat
def tw14349913743752837093:=Nat
def tw2879759524354350568:=Nat
def tw4945251732147069371:=Nat
def tw1224924573807776437:=Nat
def tw5013180600929471838:=Nat
def tw5629256929840616583:=Nat
def tw13689084217373910675:=Nat
def tw15112835437128306455:=Nat
def tw9325123708862168440:=Nat
def tw10987702880554017565:=Nat
def tw6474009502463322548:=Nat
def tw3869590956505411354:=Nat
def tw13295082483830516422:=Nat
def tw7512725033676591148:=Nat
def tw1062042127530464391:=Nat
def tw5401097623525119610:=Nat
def tw3083302935323014018:=Nat
def tw3185377453876500656:=Nat
def tw6684978435548883818:=Nat
def tw17826015225549371706:=Nat
def tw9280153536138602973:=Nat
def tw10062970787820224252:=Nat
def tw7789450098604059249:=Nat
def tw3794523003379204399:=Nat
def tw11628534518673281344:=Nat
def tw10242447542790323104:=Nat
def tw3290047583113660281:=Nat
def tw12841863872788715202:=Nat
def tw14631306762972528136:=Nat
def tw16392261803761106818:=Nat
def tw8689355711821476740:=Nat
def tw7096138990903361605:=Nat
def tw9368406320212774489:=Nat
def tw6587087628758450585:=Nat
def tw8796753266530204203:=Nat
def tw4154363929692500862:=Nat
def tw7417405269818204032:=Nat
def tw11862927689305589065:=Nat
def tw12344544660321961925:=Nat
def tw8299393411229908732:=Nat
def tw17017319662998615:=Nat
def tw17850378814381688901:=Nat
def tw13277248329175295865:=Nat
def tw12472887615940459650:=Nat
def tw16874305072444578374:=Nat
def tw5479459121986351116:=Nat
def tw14168692526580214153:=Nat
def tw13954853420313727417:=Nat
def tw16659920880120507502:=Nat
def tw13986843968525588388:=Nat
def tw780477332936465449:=Nat
def tw16441004959143088680:=Nat
def tw8895791426145780158:=Nat
def tw13086575352542018947:=Nat
def tw13335025841360890868:=Nat
def tw7876399200375917224:=Nat
def tw15604011560834605598:=Nat
def tw9101448428047585222:=Nat
def tw17958272820484234708:=Nat
def tw12274188130655085128:=Nat
def tw15037083628117588352:=Nat
def tw10521553517811329670:=Nat
def tw16172356507618199906:=Nat
def tw1389810093214676884:=Nat
def tw10170068340998493759:=Nat
def tw2529948359932261575:=Nat
def tw4415685298772064003:=Nat
def tw13213268828098156179:=Nat
def tw12328230846540189838:=Nat
def tw1276956409769668328:=Nat
def tw17905491414393134947:=Nat
def tw15506723302920939300:=Nat
def tw8187629637223713605:=Nat
def tw7090939061502383884:=Nat
def tw5111174896325423537:=Nat
def tw1917425121527220963:=Nat
def tw9133290819911140118:=Nat
def tw17444863063712431705:=Nat
def tw1506576300011279404:=Nat
def tw9987851973559822609:=Nat
def tw2797894973233656403:=Nat
def tw17508272824862286709:=Nat
def tw15204471325056678010:=Nat
def tw5996384718915585738:=Nat
def tw11180365069992382532:=Nat
def tw6121141971511671821:=Nat
def tw16871623187472473471:=Nat
def tw12032222614953749359:=Nat
def tw1463646239528298992:=Nat
def tw9743709737119245314:=Nat
def tw16278871845796110771:=Nat
def tw8626486368039343599:=Nat
def tw4607607821588926596:=Nat
def tw9213911765573242809:=Nat
def tw3547030090768783262:=Nat
def tw5797013207949663412:=Nat
def tw5612995960945425718:=Nat
def tw11714945338242495837:=Nat
def tw15253846138512369154:=Nat
def tw12851702773856589430:=Nat
def tw9325057278558614444:=Nat
def tw11820730986300896962:=Nat
def tw17988201657351507238:=Nat
def tw1673358830478937286:=Nat
def tw15410735652082386980:=Nat
def tw2203363585012173787:=Nat
def tw17700853532424174462:=Nat
def tw14637134836413734856:=Nat
def tw14999265807660949796:=Nat
def tw9196398404247428943:=Nat
def tw2518057956044344595:=Nat
def tw14643959010103036307:=Nat
def tw7688317290187622652:=Nat
def tw14842460003800876886:=Nat
def tw3062044705579621278:=Nat
def tw16782820856776367440:=Nat
def tw10900948863051656163:=Nat
def tw7661765248129044261:=Nat
def tw9716329373054682134:=Nat
def tw6772502638888315869:=Nat
def tw13353151263460963528:=Nat
def tw11097941207591946120:=Nat
def tw13988103294471073821:=Nat
def tw739537129135343663:=Nat
def tw9145527808636388435:=Nat
def tw9380374249521086144:=Nat
def tw8408249889716310983:=Nat
def tw13932022402069264104:=Nat
def tw1858156416291392539:=Nat
def tw10872037306656784433:=Nat
def tw6247268493268985975:=Nat
def tw1909714482019496454:=Nat
def tw7758381527925395934:=Nat
def tw13510609219080548989:=Nat
def tw13955511503576765797:=Nat
def tw11124748197601291601:=Nat
def tw10875119458065257276:=Nat
def tw14432977821161478157:=Nat
def tw14385403278947933607:=Nat
def tw14492117785962260688:=Nat
def tw3270352941656771521:=Nat
def tw1626232751844553403:=Nat
def tw3103639331685909893:=Nat
def tw1519320592345488741:=Nat
def tw8409189969818401543:=Nat
def tw8988664977312594650:=Nat
def tw5593727005144783397:=Nat
def tw8414573866900348196:=Nat
def tw17608190574486352970:=Nat
def tw5487235932777146282:=Nat
def tw4932745802714450591:=Nat
def tw15656768269340197940:=Nat
def tw4311042196063409733:=Nat
def tw2400818531096893172:=Nat
def tw2260579728952749127:=Nat
def tw7732209734871044160:=Nat
def tw10786079294511566085:=Nat
def tw14646466228836335164:=Nat
def tw6737735255597943219:=Nat
def tw9202431907968578930:=Nat
def tw7498250532897285284:=Nat
def tw5467695095851852608:=Nat
def tw5973763720392745831:=Nat
def tw5638995163158488052:=Nat
def tw4023466491090337370:=Nat
def tw15326552575505426906:=Nat
def tw18416563613846182222:=Nat
def tw3264716943610762504:=Nat
def tw5104563664521345299:=Nat
def tw807142644699662319:=Nat
def tw17243387458012846398:=Nat
def tw6240353410654795137:=Nat
def tw1212124681294104184:=Nat
def tw14643560169476415855:=Nat
end Mine.head
namespace Mine
theorem head:PySem.Challenge.rw_xw0267_01.Holds:=by
 w_on;o_law;k_head;(case hw=>w_witness2)
 k_fill
 exact finish (λw h Y=>kIn_of Y) (λP=>by (repeat refine eX.cons (by kernel_rfl) ?_);exact eX.nil) (λP=>by kernel_rfl) (λP=>by kernel_rfl) rfl
end Mine
theorem PySem.Challenge.cw_xw0267_01_holds : PySem.Challenge.rw_xw0267_01.Holds :=
  Mine.head
