import PyProof.Rows.All
import Wide.All
import OpenK.AllK
import Wide.FinOn
import KE.KBytesCut
import KE.KxBytes
import KE.BytesMake
import KE.KSortTup
import KE.KDictSum
import PySem.Challenge.RW_nt0576_01
set_option Elab.async false
set_option genSizeOf false
set_option genInjectivity false
set_option bootstrap.genMatcherCode false
set_option linter.all false
set_option maxRecDepth 100000
set_option maxHeartbeats 0
set_option tactic.hygienic false
set_option synthInstance.maxSize 100000
open PySem PySem.W PyProof PyProof.Rows
open _root_.Nat renaming le_trans->xH,lt_of_le_of_lt->xN,lt_of_lt_of_le->xO,le_refl->xS,not_lt->xX,le_add_right->x7,le_of_lt->ya,le_of_lt_succ->yb,add_le_add_left->yf,mul_le_mul_left->yD,add_comm->yE,zero_le->yI,lt_trans->yL,lt_succ_self->yM,lt_or_eq_of_le->yN,le_of_eq->yQ,add_le_add_right->yR,le_antisymm->yW,le_succ->yY,add_le_add->yZ,mul_le_mul->za,add_assoc->zf,zero_add->zj,ne_of_lt->zt,ne_of_gt->zH,le_add_left->zJ,sub_le->zR,pow_le_pow_right->zS,not_lt_zero->zT,lt_irrefl->zU,mod_eq_of_lt->zX,add_sub_cancel'->Aa,le_succ_of_le->Ab,two_pow_pos->Ae,succ_pos->Af,lt_succ_of_le->As,sub_lt->AB,not_le->AD,add_right_comm->AE,succ_add_eq_add_succ->AL,pow_succ->AM,mul_comm->AN,le_sub_one_of_lt->AR,lt_succ_of_lt->AZ,le_of_succ_le->A0,add_lt_add_left->Bc,le_add_right_of_le->Be,succ_le_succ->Bf,min_eq_left->Bt,zero_mul->Bw,sub_self->Bx,mul_succ->By,min_le_right->BP,lt_add_of_pos_right->BQ,sub_add_cancel->BV,le_of_succ_le_succ->BW,mul_le_mul_right->Cr,le_of_not_lt->CA,one_pos->CR,one_mul->CU,le_of_ble_eq_true->Dh,add_sub_add_right->Di,succ_ne_zero->Dn,succ_lt_succ->Dp,and_two_pow_sub_one_eq_mod->Dq,mul_assoc->Dv,add_mul->Dx,div_le_self->DI,add_zero->DQ,pos_of_ne_zero->DX,mod_lt->DY,lt_of_le_of_ne->DZ,zero_lt_of_lt->D8,succ_le_of_lt->D9,sub_sub->Ea,mul_two->Eb,lt_trichotomy->Ec,lt_of_succ_lt->Ed,blt->Ee,add_sub_assoc->Ef,lt_of_not_le->EB,div_eq_of_lt->EC,succ_mul->EJ,sub_eq_zero_iff_le->EK,eq_zero_of_not_pos->EL,mul_add_mod->ES,le_div_iff_mul_le->Fc,mul_div_le->Fq,add_add_add_comm->Fs,sub_lt_sub_left->FN,add_sub_cancel->FY,succ_sub->Gj,sub_pos_of_lt->Gk,le_total->Gm,min_eq_right->GF,pow_add->GP,mul_add->GQ,mul_add_div->G7,lt_one_iff->Hp,le_mul_of_pos_right->HS,add_sub_cancel_left->HT,lt_add_of_pos_left->Ik,sub_eq_zero_of_le->Iw,two_pos->IJ,sub_succ_lt_self->IK,not_succ_le_zero->IL,log2_lt->IM,le_zero->IP,div_lt_of_lt_mul->IQ,div_le_of_le_mul->IS,add_lt_add_right->IT,add_left_cancel->Ja,one_le_two_pow->Jo
open _root_.PySem renaming wpAny_bind->xI,Shared->xM,Value->xP,wpAny_pure->xU,wpAny->xY,Addr->yk,Expr->yF,Heap->yJ,model->yK,wpAny_mono->yO,Around->yS,wpAny_loadPart_at->yT,builtinLookup_eq_fast->zd,Str->ze,mainGlobals->zA,wpAny_newObj_type->zG,wpAny_of_eq->zI,typeLookup_type->zL,checkBuiltinCall->zN,cellsFrom->zO,wpAny_isSubtype_exc->zP,excClassObj->zQ,wpAny_holding->zZ,intKind->Ap,typeLookup->Av,Program->AG,Builtin->AJ,ExceptHandler->AU,sizeLine->Bb,getMethod_builtin->Bd,wpAny_field->Bj,wpAny_call_entry->Bk,GenState->Br,rawInt->Bz,letOwnedTupleGo->BB,builtinsNs->BO,Env->BX,DictEntry->BY,standAt->BZ,wpAny_load->B8,wpAny_specialOf->Cf,wpAny_standAt->Cj,swapsWithSole->Ck,swappedStores->Cm,compareOp->Cn,assignInOrder->Cp,wpAny_assign_Name->Cv,Stmt->CM,starEach->CV,theTreesLotGoes->CW,importedModules->CX,holding->CY,wpAny_rule->C6,pyNext->C7,assignEach->C8,assign->C9,isSubtype_type->Dk,firstArgMember->Dl,Scope->Dm,FuncData->Dr,wpAny_isInstance->DD,tupleKind->DE,sysModules->DF,noteFrame->DG,notedBy->DK,foldedForSure->DL,wpAny_typeNameOfWhole_keyiter->DM,intItems->DN,wpAny_execs_nil->DV,call_meetsIn->D3,pushCells->D6,getMethod->D7,wpAny_setField->Ej,recursionLimit->Ek,pyIter->El,evalEach->Em,entryFor->En,Fin->Ep,NameKind->Er,OsState->ED,wpAny_typeNameOf_keyiter->EI,Comprehension->EP,entryFor_of_tree->EX,callWith->EY,callEnvC->EZ,wpAny_call->Fj,compareChain->Fl,cameBackBy->Fm,exec_Assign_arm->Fz,codeAny_call_builtin->FV,backTo->FW,argsOk->FX,IsRangeIter->FZ,IntMulOk->F5,codeAny->F8,builtinType_eq_fast->Gg,mem_of_lookup->Gr,Result->GC,IsTupleKey->GH,wpAny_truthy_bool->G2,wpAny_dictEntries->G3,keeperOf->G4,foldedSetIterable->G5,call->G6,wpAny_madeBy_exc->Hg,wpAny_execs_cons->Hh,treeTable->Hi,opaqueClassAbove->Hj,relabel->Hk,holding->Hl,Arguments->Hv,wpAny_throw->Hw,unsupported->Hx,interactive->Hy,intItems_at->Hz,bm_if_false->HA,pushCells_keeps->HH,execs_cons_wrap->HI,codeAny_of_tree->HJ,leaving->HO,wpAny_newFunctionEnv_cells->Ia,typeIs_str->Ib,newFunctionEnv->Ic,isSubtype_stop->Ie,dictSetDefault->Ig,clipAt_nat->Ih,bindName->Ij,wpAny_check_type_call_sub->Ir,codeAny_call_builtin_code->It,wpAt_of_wpAny->Iu,wpAny_handled->ID,wpAny_attempt->IE,plainId_quiet->IF,wpAny_pyNext_range_item->I1,testChain->I3,specialOf->I4,newFields->I5,wpAny_typeOf->Jd,typeOf->Je,standAt->Jf,setItem->Jg,richCompare_meets_room->Jh,newExc->Ji,isTrue->Jj,clipAt->Jk,callerA->Jl,callSpecial?->Jm,callAny->Jn
open _root_.List renaming length_map->xJ,length_append->xK,getElem?_eq_some_iff->xQ,getElem?_eq_getElem->xR,mem_singleton->xV,mem_of_getElem?->ye,mem_map->yg,map_append->yq,replicate->yr,append_assoc->yt,mem_cons->yu,getElem?_append_left->yw,all_eq_true->yx,mem_append->yz,getElem?_map->yA,append_nil->yB,range->yH,map_cons->yP,getElem?_append_right->yU,mem_range->y5,take_length->zc,map_map->zh,getElem?_set_self->zk,take_append_getElem->zm,lookup_cons->zo,getD_eq_getElem?_getD->zq,mem_iff_getElem?->zu,contains_iff_mem->zv,getElem_mem->zy,sum_cons->zB,size_toArray->zC,mem_of_mem_take->zD,getElem?_set_ne->zE,length_range->zM,take_of_length_le->zV,casesOn->zW,find?_eq_none->Ag,length_take->Ai,length_eq_zero_iff->Aj,length_cons->Ak,length->Al,drop_eq_getElem_cons->Aw,take_append_drop->Ax,getElem?_toArray->Ay,getElem?_eq_none->Az,contains_cons->AA,mem_append_left->AP,any_eq_false->AS,mem_zipIdx_iff_getElem?->Ba,mem_append_right->Bh,mem_of_find?_eq_some->Bo,nodup_cons->Bp,map_congr_left->BC,flatMap_append->BD,not_mem_nil->BH,find?_map->BJ,take_append_of_le_length->BR,mem_filter->B0,length_set->B3,length_replicate->B7,nodup_append->B9,mem_flatMap->Cy,any_eq_true->Cz,mem_map_of_mem->CD,find?_some->CJ,pairwise_singleton->CO,map_inj_left->CZ,length_eq_one_iff->C3,drop_of_length_le->C4,eq_nil_of_length_eq_zero->Dw,foldl_cons->DA,count_cons->DB,take_left->DU,getElem?_zip_eq_some->D1,foldl_append->D4,ext_getElem?->D5,getElem?_replicate->Ew,drop_length->Ex,append_cancel_left->Ey,find?_cons_of_pos->EE,range'->Fg,forIn_nil->Fh,map_eq_nil_iff->FA,getElem?_range->FC,filterMap_cons->FD,append_toArray->FG,take_nil->FP,map_take->FQ,zip_cons_cons->FT,count_pos_iff->FU,count_append->Gb,mem_flatten->Gv,length_drop->Gw,isEmpty_iff->Gx,lookup->GG,range_succ->GU,nil_append->GV,head?_drop->GW,forIn_cons->GX,map->Hc,isPrefixOf_iff_prefix->Hd,drop_left->He,contains_eq_any_beq->HG,drop->HL,toArray->HU,range_succ_eq_map->HV,find?_cons_of_neg->HW,length_take_le'->Iy,drop_eq_nil_iff->Iz,count_singleton->IA,contains_eq_mem->IB,length_reverse->IU,getElem_of_mem->IV,foldl->Jb,reverse_cons->Jp,push_toArray->Jq,getElem?_inj->Jr,find?_append->Js
open _root_.Option.some renaming inj->xT
open _root_.PySem.Heap renaming get?_push_of_some->xW,get?_push_size->yC,lt_size->zb,get?_none_of_le->zF,get?_update_self->Ad,SameBut->Ar,size_push->BK,get?_update_other->BU,get?_update_ne->DJ,MadeObj->HY,get?_push_at->Ju
open _root_.Bool renaming and_eq_true_iff->xZ,false_ne_true->x8,and_eq_true->Am,not_eq_true'->AX,false_eq_true->Bg,eq_false_iff->Bv,eq_iff_iff->DC,or_false->Ei,or_true->EH,or_eq_true_iff->FJ,or_eq_true->G1
open _root_.Int renaming ofNat_lt->x9,ofNat_le->yj,le_trans->yG,not_lt->zg,ofNat_inj->zr,toNat_of_nonneg->zx,le_of_lt->zY,ofNat_ne_zero->Ac,add_sub_cancel->Ah,sub_nonneg_of_le->An,ofNat->Ao,lt_of_lt_of_le->AF,lt_of_le_of_lt->Bi,sub_le_self->Bu,ofNat_sub->BA,natCast_pow->B4,one_mul->Cs,le_sub_one_of_lt->Ct,fmod_eq_emod_of_nonneg->Cu,lt_irrefl->CK,natCast_nonneg->CQ,add_comm->De,le_refl->Dy,lt_trans->DR,ofNat_fdiv->D0,sub_pos_of_lt->Eg,toNat_lt->EM,sub_zero->EN,fmod_nonneg_of_pos->EO,natCast_mul->ET,le_antisymm->EU,sub_sub->Ft,add_le_add_right->Fu,add_le_add->Fv,sub_add_cancel->F6,toNat_natCast->Gn,add_zero->Gp,natCast_add->G8,ofNat_fmod->Hs,add_nonneg->Ht,eq_ofNat_of_zero_le->HX,toNat_le->Il,ne_of_lt->Im,sub_one_lt_of_le->IW,sub_nonpos_of_le->IX,sub_le_sub_right->IY,natAbs_of_nonneg->IZ,lt_iff_le_and_ne->I0,fmod_lt_of_pos->Jt
open _root_.Option renaming map_eq_some_iff->yh,bind_eq_some_iff->zw,casesOn->Ce,some_ne_none->Cw,isSome_iff_exists->CC,isNone_iff_eq_none->DS,map_map->ER,bind_some->Ga,map_eq_none_iff->HF,map->Iv,some->J,none->Jw
open _root_.PySem.Builtin.Range renaming rangeSize->yV,rangeFitsLong->FH,small->G0
open _root_.False renaming elim->yX
open _root_.PySem.Value renaming ref->y0,none->zK,type->DO,str->HB,isInt_shape->I7
open _root_.PySem.Obj renaming mapFields->Aq,mapSeq->CN,data_mapFields->DW,isFreed_of_fields->Fb,cls_mapFields->Gi,data_mapDictKeys->II
open _root_.PySem.F renaming excBase_Exception->Au,slot_dict_setdefault->AQ,slot_dict_keyiterator_next->CG,plainAttrs_dict->CH,args_dict_setdefault_3->Dd,entry_dict_setdefault->Dg,slot_dict_get->EA,cmp_object->Fp,bm_called->FK,type_dict_setdefault->Gh,store_Exception->GJ,slot_dict_iter->Hm,entry_dict_get->Hn,args_list_eq_2->Ho,slot_int_rmul->HC,slot_dict_pop->HD,entry_list_eq->HE,slot_list_eq->HK,slot_range_iterator_next->HN,slot_str_eq->HQ,bm_plain->IH
open _root_.PySem.Heap.SameBut renaming update->AI
open _root_.PySem.Str renaming ofString->AK
open _root_.Classical renaming em->AW,ofNonempty->B5,byContradiction->Gy,epsilon_spec->G9,epsilon->HZ
open _root_.Nat.succ renaming inj->AY
open _root_.List.cons renaming inj->Bl
open _root_.Array renaming getElem?_eq_getElem->Bm,getElem?_setIfInBounds_self_of_lt->Cd,getElem?_eq_some_iff->Cg,getElem?_toList->Df,length_toList->Fy,getElem?_setIfInBounds_ne->Gf,perm_iff_toList_perm->Hb,mk->Iq,toList_push->Jc
open _root_.PySem.NameKind renaming cell->Bn,free->Fe
open _root_.Prod renaming fst->Bs,snd->BG
open _root_.PySem.Builtin.Bytes renaming buffer?->BE,find?->B6,exportsOf->Cq,exported->CB,payload->CI,write->C5,checkResize->Du,ownRelease->Dz,takeBufferQuiet?->Ff,checkCodecArg->FI,slotIsOwn->Gd,byteValue->Ge,payload?->Gq,searchM->Gz,window->GN,bound?->GO
open _root_.Pure renaming pure->BF
open _root_.PyProof.Rows renaming subscriptTail->BL,seqObj->BN,listUpdate_at->IG
open _root_.PySem.Builtin.Int renaming intBits->Cb
open _root_.PySem.W renaming boot_heap->Co,kindOf->Dj,look_both->DH,typeIs_bytes->D2,SharedT->HP,boot_drawn->Ii,boot_toks->I6
open _root_.PySem.Code renaming quiet_builtin->CL,builtin->EG
open _root_.PySem.Sem renaming bind_eq_wrap'->Dc,wrap_wrap->Eo,wp_mono->Fo,onRaise_eq_wrap->I9
open _root_.PySem.W.FB renaming slot_bytes_getitem->Ds,args_bytes_getitem_2->Ip,entry_bytes_getitem->IC
open _root_.PySem.Env renaming kindOf->Dt
open _root_.PySem.Value.ref renaming inj->DP
open _root_.Ne renaming symm->DT
open _root_.ForInStep renaming yield->Eh
open _root_.Eq renaming refl->Et,symm->Hu
open _root_.PySem.Value.type renaming inj->Eu
open _root_.PySem.Builtin.ObjectAttr renaming storeInDict->Ez
open _root_.PySem.EntryCells renaming newEntry->EF
open _root_.PySem.Around renaming under_plainId->EW
open _root_.PySem.Builtin.Generator renaming genWake->Fi
open _root_.PySem.Flow renaming next->Fw
open _root_.PySem.Builtin.Dict renaming dictSlotNone->F7,showsAll->GL
open _root_.Prod.mk renaming inj->F9
open _root_.PySem.W.WShape renaming hasItems->Gs
open _root_.UInt8 renaming ofNat->Gu,toNat_inj->GB
open _root_.PySem.Heap.IsSliceOf renaming new->GZ
open _root_.PySem.Calls renaming Name_function_global->Ha,call_function_entry->Hf
open _root_.PySem.W.Looks renaming of_pure->Hq
open _root_.PySem.W.KBy renaming picked->Hr
open _root_.PySem.W.KBc renaming picked_eq->HM
open _root_.PySem.Heap.Ns1 renaming of_empty->Io
namespace Mine.Internal
noncomputable section
@[elab_as_elim] theorem Z{α:Sort _}{a b:α}{P:α->Prop}(h:a=b)(x:P b):P a:=h▸x
@[elab_as_elim] theorem Ql{α:Sort _}{a b:α}{P:α->Prop}(h:b=a)(x:P b):P a:=h▸x
theorem Qc{G:Prop}(h:∀R:Prop,(G->R)->R):G:=h G id
section
variable{α β γ δ:Sort _}{C:Prop}
section
variable{p q r s t:Prop}
theorem ou(h:p/\q/\r)(k:p->q->r->C):C:=k h.1 h.2.1 h.2.2
theorem sM(h:p/\q/\r/\s)(k:p->q->r->s->C):C:=k h.1 h.2.1 h.2.2.1 h.2.2.2
theorem aod(h:p/\q/\r/\s/\t)(k:p->q->r->s->t->C):C:=k h.1 h.2.1 h.2.2.1 h.2.2.2.1 h.2.2.2.2
theorem bU(a:p)(b:q)(c:r):p/\q/\r:=⟨a,b,c⟩
theorem iu(a:p)(b:q)(c:r)(d:s):p/\q/\r/\s:=⟨a,b,c,d⟩
end
section
variable{p q r s t:α->Prop}
theorem aO(h:∃x,p x/\q x)(k:∀x,p x->q x->C):C:=h.elim λU g=>k _ g.1 g.2
theorem fc(h:∃x,p x/\q x/\r x)(k:∀x,p x->q x->r x->C):C:=h.elim λU g=>k _ g.1 g.2.1 g.2.2
theorem o9(h:∃x,p x/\q x/\r x/\s x)(k:∀x,p x->q x->r x->s x->C):C:=h.elim λU g=>k _ g.1 g.2.1 g.2.2.1 g.2.2.2
theorem tK(h:∃x,p x/\q x/\r x/\s x/\t x)(k:∀x,p x->q x->r x->s x->t x->C):C:=h.elim λU g=>k _ g.1 g.2.1 g.2.2.1 g.2.2.2.1 g.2.2.2.2
theorem aM(x)(a:p x)(b:q x):∃x,p x/\q x:=⟨_,a,b⟩
theorem bJ(x)(a:p x)(b:q x)(c:r x):∃x,p x/\q x/\r x:=⟨_,a,b,c⟩
theorem oz(x)(a:p x)(b:q x)(c:r x)(d:s x):∃x,p x/\q x/\r x/\s x:=⟨_,a,b,c,d⟩
theorem uP(x)(a:p x)(b:q x)(c:r x)(d:s x)(e:t x):∃x,p x/\q x/\r x/\s x/\t x:=⟨_,a,b,c,d,e⟩
end
section
variable{p q r s t u v:α->β->Prop}
theorem gX(h:∃x y,p x y)(k:∀x y,p x y->C):C:=h.elim λU g=>g.elim λU g=>k _ _ g
theorem kT(h:∃x y,p x y/\q x y)(k:∀x y,p x y->q x y->C):C:=h.elim λU g=>g.elim λU g=>k _ _ g.1 g.2
theorem qj(h:∃x y,p x y/\q x y/\r x y/\s x y)(k:∀x y,p x y->q x y->r x y->s x y->C):C:=h.elim λU g=>g.elim λU g=>k _ _ g.1 g.2.1 g.2.2.1 g.2.2.2
theorem uF(h:∃x y,p x y/\q x y/\r x y/\s x y/\t x y/\u x y)(k:∀x y,p x y->q x y->r x y->s x y->t x y->u x y->C):C:=h.elim λU g=>g.elim λU g=>k _ _ g.1 g.2.1 g.2.2.1 g.2.2.2.1 g.2.2.2.2.1 g.2.2.2.2.2
theorem jj(x)(y)(a:p x y):∃x y,p x y:=⟨_,_,a⟩
theorem mc(x)(y)(a:p x y)(b:q x y):∃x y,p x y/\q x y:=⟨_,_,a,b⟩
theorem k4(x)(y)(a:p x y)(b:q x y)(c:r x y):∃x y,p x y/\q x y/\r x y:=⟨_,_,a,b,c⟩
theorem mZ(x)(y)(a:p x y)(b:q x y)(c:r x y)(d:s x y):∃x y,p x y/\q x y/\r x y/\s x y:=⟨_,_,a,b,c,d⟩
theorem oy(x)(y)(a:p x y)(b:q x y)(c:r x y)(d:s x y)(e:t x y):∃x y,p x y/\q x y/\r x y/\s x y/\t x y:=⟨_,_,a,b,c,d,e⟩
theorem uN(x)(y)(a:p x y)(b:q x y)(c:r x y)(d:s x y)(e:t x y)(f:u x y)(g:v x y):∃x y,p x y/\q x y/\r x y/\s x y/\t x y/\u x y/\v x y:=⟨_,_,a,b,c,d,e,f,g⟩
end
section
variable{p q r s t:α->β->γ->Prop}
theorem aoc(h:∃x y z,p x y z/\q x y z/\r x y z/\s x y z/\t x y z)(k:∀x y z,p x y z->q x y z->r x y z->s x y z->t x y z->C):C:=h.elim λU g=>g.elim λU g=>g.elim λU g=>k _ _ _ g.1 g.2.1 g.2.2.1 g.2.2.2.1 g.2.2.2.2
theorem uM(x)(y)(z)(a:p x y z)(b:q x y z):∃x y z,p x y z/\q x y z:=⟨_,_,_,a,b⟩
theorem qy(x)(y)(z)(a:p x y z)(b:q x y z)(c:r x y z)(d:s x y z):∃x y z,p x y z/\q x y z/\r x y z/\s x y z:=⟨_,_,_,a,b,c,d⟩
end
section
variable{p q:α->β->γ->δ->Prop}
theorem uE(h:∃x y z w,p x y z w/\q x y z w)(k:∀x y z w,p x y z w->q x y z w->C):C:=h.elim λU g=>g.elim λU g=>g.elim λU g=>g.elim λU g=>k _ _ _ _ g.1 g.2
end
end
theorem ad0(c e n:Nat)(h:c+15<=e):c+(20*n+15)<=20*n+e:=Nat.add_left_comm c (20*n) 15▸yf h (20*n)
theorem adA(d n:Nat):d+1+(20*n+15)<=d+20*(n+1):=zf d 1 _▸yf (ad0 1 20 n (by decide)) d
theorem ad1{d n:Nat}(h:d+20*(n+1)<1000):d+1+(20*n+15)<1000:=xN (adA d n) h
theorem adB(u n c e:Nat)(h:c+15<=e):u+3*c+3*(20*n+15)<=u+3*(20*n+e):=
 zf u _ _▸GQ 3 c _▸yf (yD 3 (ad0 c e n h)) u
theorem ad2{u n:Nat}(h:u+3*(20*(n+1))<9900):u+3+3*(20*n+15)<9900:=xN (adB u n 1 20 (by decide)) h
theorem ad3{b d n:Nat}(h:b<=d+1)(k:d+(20*(n+1)+5)<1000):b+(20*n+15)<1000:=
 xN (xH (yR h _) (xH (adA d n) (yf (x7 _ 5) d))) k
theorem ad4{b u n:Nat}(h:b<=u+1+10)(k:u+3*(20*(n+1)+5)<9900):b+3*(20*n+15)<9900:=
 xN (xH (yR (xH h (yY (u+11))) _) (adB u n 4 25 (by decide))) k
theorem ad5{a x y:Nat}(h:x<=5)(k:y<=5):a+x+y<=a+10:=zf a x y▸yf (yZ h k) a
theorem ad6{a n:Nat}:a+1+n<=a+(n+15):=zf a 1 n▸yf (yE 1 n▸yf (by decide) n) a
theorem ad7{a n:Nat}:a+1+3*n<=a+3*(n+15):=GQ 3 n 15▸zf a 1 _▸yf (yE 1 (3*n)▸yf (by decide) _) a
abbrev Tq{T:Prop}(_:¬T):Prop:=T
abbrev Pq(P:Prop){R:Prop}(_:P=R):Prop:=P
section
variable{a b c d e f g i j k l m t:Type}[Nonempty t]{P:Prop}{p:t->Prop}
def ep(p:t->Prop):t:=HZ λa=>¬p a
theorem eg{u:t->Prop}(f:P->∀q,u q)(g:(∀q,u q)->P)(h:¬P->u (ep u)):P:=g λa=>Gy λn=>G9 (p:=λa=>¬u a) ⟨a,n⟩ (h λm=>n (f m a))
def A1(p:t->Prop):Prop:=∀x,p x
theorem e1(h:¬A1 p->p (ep p)):A1 p:=eg id id h
section
variable(p2:a->b->Prop)(p3:a->b->c->Prop)(p4:a->b->c->d->Prop)(p5:a->b->c->d->e->Prop)(p6:a->b->c->d->e->f->Prop)(p7:a->b->c->d->e->f->g->Prop)(p8:a->b->c->d->e->f->g->i->Prop)(p9:a->b->c->d->e->f->g->i->j->Prop)(p10:a->b->c->d->e->f->g->i->j->k->Prop)(p11:a->b->c->d->e->f->g->i->j->k->l->Prop)(p12:a->b->c->d->e->f->g->i->j->k->l->m->Prop)
def A2:Prop:=∀xa xb,p2 xa xb
def u2(q:a×b):Prop:=Pq _ (R:=p2 q.1 q.2) (by delta Bs BG;rfl)
def A3:Prop:=∀xa xb xc,p3 xa xb xc
def u3(q:a×b×c):Prop:=Pq _ (R:=u2 (p3 q.1) q.2) (by delta Bs BG;rfl)
def A4:Prop:=∀xa xb xc xd,p4 xa xb xc xd
def u4(q:a×b×c×d):Prop:=Pq _ (R:=u3 (p4 q.1) q.2) (by delta Bs BG;rfl)
def A5:Prop:=∀xa xb xc xd xe,p5 xa xb xc xd xe
def u5(q:a×b×c×d×e):Prop:=Pq _ (R:=u4 (p5 q.1) q.2) (by delta Bs BG;rfl)
def A6:Prop:=∀xa xb xc xd xe xf,p6 xa xb xc xd xe xf
def u6(q:a×b×c×d×e×f):Prop:=Pq _ (R:=u5 (p6 q.1) q.2) (by delta Bs BG;rfl)
def A7:Prop:=∀xa xb xc xd xe xf xg,p7 xa xb xc xd xe xf xg
def u7(q:a×b×c×d×e×f×g):Prop:=Pq _ (R:=u6 (p7 q.1) q.2) (by delta Bs BG;rfl)
def A8:Prop:=∀xa xb xc xd xe xf xg xi,p8 xa xb xc xd xe xf xg xi
def u8(q:a×b×c×d×e×f×g×i):Prop:=Pq _ (R:=u7 (p8 q.1) q.2) (by delta Bs BG;rfl)
def A9:Prop:=∀xa xb xc xd xe xf xg xi xj,p9 xa xb xc xd xe xf xg xi xj
def u9(q:a×b×c×d×e×f×g×i×j):Prop:=Pq _ (R:=u8 (p9 q.1) q.2) (by delta Bs BG;rfl)
def A10:Prop:=∀xa xb xc xd xe xf xg xi xj xk,p10 xa xb xc xd xe xf xg xi xj xk
def jw(q:a×b×c×d×e×f×g×i×j×k):Prop:=Pq _ (R:=u9 (p10 q.1) q.2) (by delta Bs BG;rfl)
def A11:Prop:=∀xa xb xc xd xe xf xg xi xj xk xl,p11 xa xb xc xd xe xf xg xi xj xk xl
def lI(q:a×b×c×d×e×f×g×i×j×k×l):Prop:=Pq _ (R:=jw (p11 q.1) q.2) (by delta Bs BG;rfl)
def A12:Prop:=∀xa xb xc xd xe xf xg xi xj xk xl xm,p12 xa xb xc xd xe xf xg xi xj xk xl xm
def wC(q:a×b×c×d×e×f×g×i×j×k×l×m):Prop:=Pq _ (R:=lI (p12 q.1) q.2) (by delta Bs BG;rfl)
variable[Nonempty a][Nonempty b][Nonempty c][Nonempty d][Nonempty e][Nonempty f][Nonempty g][Nonempty i][Nonempty j][Nonempty k][Nonempty l][Nonempty m]
def E2:=ep (u2 p2)
theorem e2(h:¬A2 p2->u2 p2 (E2 p2)):A2 p2:=eg (u:=u2 p2) (λm U=>m _ _) (λh U U=>h (_,_)) h
def E3:=ep (u3 p3)
theorem e3(h:¬A3 p3->u3 p3 (E3 p3)):A3 p3:=eg (u:=u3 p3) (λm U=>m _ _ _) (λh U U U=>h (_,_,_)) h
def E4:=ep (u4 p4)
theorem e4(h:¬A4 p4->u4 p4 (E4 p4)):A4 p4:=eg (u:=u4 p4) (λm U=>m _ _ _ _) (λh U U U U=>h (_,_,_,_)) h
def E5:=ep (u5 p5)
theorem e5(h:¬A5 p5->u5 p5 (E5 p5)):A5 p5:=eg (u:=u5 p5) (λm U=>m _ _ _ _ _) (λh U U U U U=>h (_,_,_,_,_)) h
def E6:=ep (u6 p6)
theorem e6(h:¬A6 p6->u6 p6 (E6 p6)):A6 p6:=eg (u:=u6 p6) (λm U=>m _ _ _ _ _ _) (λh U U U U U U=>h (_,_,_,_,_,_)) h
def E7:=ep (u7 p7)
theorem e7(h:¬A7 p7->u7 p7 (E7 p7)):A7 p7:=eg (u:=u7 p7) (λm U=>m _ _ _ _ _ _ _) (λh U U U U U U U=>h (_,_,_,_,_,_,_)) h
def E8:=ep (u8 p8)
theorem e8(h:¬A8 p8->u8 p8 (E8 p8)):A8 p8:=eg (u:=u8 p8) (λm U=>m _ _ _ _ _ _ _ _) (λh U U U U U U U U=>h (_,_,_,_,_,_,_,_)) h
def E9:=ep (u9 p9)
theorem e9(h:¬A9 p9->u9 p9 (E9 p9)):A9 p9:=eg (u:=u9 p9) (λm U=>m _ _ _ _ _ _ _ _ _) (λh U U U U U U U U U=>h (_,_,_,_,_,_,_,_,_)) h
def E10:=ep (jw p10)
theorem rD(h:¬A10 p10->jw p10 (E10 p10)):A10 p10:=eg (u:=jw p10) (λm U=>m _ _ _ _ _ _ _ _ _ _) (λh U U U U U U U U U U=>h (_,_,_,_,_,_,_,_,_,_)) h
def E11:=ep (lI p11)
theorem ub(h:¬A11 p11->lI p11 (E11 p11)):A11 p11:=eg (u:=lI p11) (λm U=>m _ _ _ _ _ _ _ _ _ _ _) (λh U U U U U U U U U U U=>h (_,_,_,_,_,_,_,_,_,_,_)) h
def E12:=ep (wC p12)
theorem hU(h:¬A12 p12->wC p12 (E12 p12)):A12 p12:=eg (u:=wC p12) (λm U=>m _ _ _ _ _ _ _ _ _ _ _ _) (λh U U U U U U U U U U U U=>h (_,_,_,_,_,_,_,_,_,_,_,_)) h
end
end
local instance:Nonempty PySem.GenState:=⟨.running⟩
local instance:Nonempty PySem.Drawn:=⟨{}⟩
local instance:Nonempty PySem.Shared:=⟨{}⟩
local instance:Nonempty PySem.Params:=⟨by constructor <;> exact B5⟩
local instance:Nonempty PySem.World:=⟨by constructor <;> exact B5⟩
local instance:Nonempty PySem.Around:=⟨by constructor <;> exact B5⟩
local instance:Nonempty PySem.Model:=⟨by constructor <;> exact B5⟩
set_option genCtorIdx false in
inductive AV where
 | none
 | bool(b:Bool)
 | int(i:Int)
 | str(s:ze)
 | bytes(b:List UInt8)
 | tup(vs:List AV)
 | ref(i:Nat)
 | gB(a b c:Int)
 | raw(a:Nat)
 deriving Nonempty
noncomputable def AV.ctorIdx(x:AV):Nat:=AV.casesOn x 0 (λU=>1) (λU=>2) (λU=>3) (λU=>4) (λU=>5) (λU=>6) (λU U U=>7) λU=>8
set_option genCtorIdx false in
inductive AO where
 | inst(C:yk)(fs:List (Nat×AV))
 | list(xs:List AV)
 | aP(es:List (Int×AV))(ep:Nat)
 | bD(es:List (List Int×AV))
 | set(xs:List Int)
 | fU(bs:List UInt8)
 | gen(k:Nat)(vs:List AV)
 | fix(ws:List xP)(k:Nat)(xs:List AV)
 deriving Nonempty
noncomputable def AO.ctorIdx(x:AO):Nat:=AO.casesOn x (λU U=>0) (λU=>1) (λU U=>2) (λU=>3) (λU=>4) (λU=>5) (λU U=>6) λU U U=>7
theorem nf{a b:AO}(h:(a.ctorIdx==b.ctorIdx)=false):a≠b:=λe=>x8 (h.symm.trans (e▸beq_self_eq_true a.ctorIdx))
theorem na{a b:AV}(h:(a.ctorIdx==b.ctorIdx)=false):a≠b:=λe=>x8 (h.symm.trans (e▸beq_self_eq_true a.ctorIdx))
theorem nM{α:Type _}{P:α->Prop}:∀x∈([]:List α),P x:=λU h=>absurd h BH
abbrev AH:=List AO
structure WE where
 a:yk
 aux:List yk
 gs:List Nat
 deriving Nonempty
abbrev WD:=List WE
def oS(h:yJ)(r:yk)(a b c:Int):Prop:=∃t u v,IsRange h r a b c t u v
def cf(W W':WD):Prop:=∀(i:Nat) p,W[i]? =J p->∃p',W'[i]? =J p'/\p'.a=p.a/\p'.gs=p.gs
theorem cf.rfl{W:WD}:cf W W:=λU p e=>(bJ p e (Et _) (Et _))
theorem cf.trans{W W' W'':WD}(x:cf W W')(y:cf W' W''):cf W W'':=λi p e=>
 fc (x i p e) λp' e' a b=>fc (y i p' e') λp'' e'' a' b'=>(bJ p'' e'' (a'.trans a) (b'.trans b))
theorem cf.app{W t:WD}:cf W (W++t):=λi p e=>(bJ p (by rw[yw (xQ.mp e).1];exact e) (Et _) (Et _))
inductive bZ{α β:Type}(R:α->β->Prop):List α->List β->Prop
 | nil:bZ R [] []
 | cons {a b as bs} (x:R a b) (y:bZ R as bs):bZ R (a::as) (b::bs)
inductive VR(W:WD)(h:yJ):AV->xP->Prop
 | none:VR W h .none .none
 | bool (b):VR W h (.bool b) (.bool b)
 | int (i t):VR W h (.int i) (.int i t)
 | str (s t):VR W h (.str s) (.str s t)
 | bytes(b:List UInt8) (t):VR W h (.bytes b) (.bytes b.toArray t)
 | tupI (a) (vs:List AV) (ws:List xP):IsTup h a ws.toArray->vs.length=ws.length->(∀(i:Nat) x y,vs[i]? =J x->ws[i]? =J y->VR W h x y)->VR W h (.tup vs) (.ref a)
 | ref (i) (p:WE):W[i]? =J p->VR W h (.ref i) (.ref p.a)
 | gB (r a b c):oS h r a b c->VR W h (.gB a b c) (.ref r)
 | raw (a):VR W h (.raw a) (.ref a)
abbrev bS(W:WD)(h:yJ):List AV->List xP->Prop:=bZ (VR W h)
section
variable{α β:Type}{R R':α->β->Prop}
theorem bZ.length{as bs}(x:bZ R as bs):as.length=bs.length:=by
 induction x with
 | nil=>rfl
 | cons _ _ ih=>exact congrArg (· +1) ih
theorem bZ.mono(k:∀a b,R a b->R' a b){as bs}(x:bZ R as bs):bZ R' as bs:=by
 induction x with
 | nil=>exact .nil
 | cons x _ ih=>exact .cons (k _ _ x) ih
theorem bZ.look{as bs}(x:bZ R as bs):∀(i:Nat) a b,as[i]? =J a->bs[i]? =J b->R a b:=by
 induction x with
 | nil=>exact λU U U e U=>by cases e
 | cons x _ ih=>
  intro i a b;cases i with
  | zero=>exact λe e'=>xT e▸xT e'▸x
  | succ i=>exact ih i a b
theorem bZ.of{as:List α}:∀{bs:List β},as.length=bs.length->(∀(i:Nat) a b,as[i]? =J a->bs[i]? =J b->R a b)->bZ R as bs:=by
 induction as with
 | nil=>exact λl U=>Dw l.symm▸.nil
 | cons a as ih=>
  intro bs l f;cases bs with
  | nil=>exact absurd l (Dn _)
  | cons b bs=>exact .cons (f 0 a b rfl rfl) (ih (AY l) λi=>f (i+1))
theorem bZ.get{as bs}(x:bZ R as bs){i:Nat}(e:as[i]? =J a):∃b,bs[i]? =J b/\R a b:=
 have h:=x.length▸(xQ.mp e).1
 (aM _ (xR h) (x.look i _ _ e (xR h)))
theorem bZ.append{as bs as' bs'}(x:bZ R as bs)(y:bZ R as' bs'):bZ R (as++as') (bs++bs'):=by
 induction x with
 | nil=>exact y
 | cons x _ ih=>exact .cons x ih
theorem bZ.set{a b as bs}(x:bZ R as bs)(i)(e:R a b):bZ R (as.set i a) (bs.set i b):=by
 induction x generalizing i with
 | nil=>exact .nil
 | cons x y ih=>exact match i with
  | 0=>.cons e y
  | i+1=>.cons x (ih i)
theorem bZ.take{as bs}(x:bZ R as bs)(n):bZ R (as.take n) (bs.take n):=by
 induction x generalizing n with
 | nil=>exact Z FP (Z FP (.nil))
 | cons x _ ih=>exact match n with
  | 0=>.nil
  | n+1=>.cons x (ih n)
end
theorem VR.tup{W:WD}{h:yJ}(a:yk)(vs)(ws)(x:IsTup h a ws.toArray)(y:bS W h vs ws):VR W h (.tup vs) (.ref a):=.tupI a vs ws x y.length y.look
def bp(o:Obj):Prop:=(o.cls= .type "tuple"/\∃xs n,o.data= .seq xs n)\/(o.cls= .type "range"/\∃vs,o.data= .fields vs)
def aX(h h':yJ):Prop:=∀b o,h.get? b=J o->bp o->h'.get? b=J o
theorem aX.refl(h):aX h h:=λU U e U=>e
theorem aX.of_keeps{h h':yJ}(x:∀b o,h.get? b=J o->h'.get? b=J o):aX h h':=λb o e U=>x b o e
theorem g9{h h':yJ}{a ws}(k:aX h h')(x:IsTup h a ws):IsTup h' a ws:=by
 refine Qc λU u6=>x.elim λo v6=>v6.elim λe y6=>y6.elim λc z6=>z6.elim λn d=>u6 ?_;exact ⟨o,k _ _ e (.inl ⟨c,_,_,d⟩),c,n,d⟩
theorem afC{h h':yJ}{r a b c}(k:aX h h')(x:oS h r a b c):oS h' r a b c:=by
 refine Qc λU u6=>x.elim λt v6=>v6.elim λu y6=>y6.elim λv e=>u6 ?_;exact ⟨t,u,v,k _ _ e (.inr ⟨rfl,_,rfl⟩)⟩
theorem VR.mono{W W':WD}{h h':yJ}(p:cf W W')(k:aX h h'){av v}(x:VR W h av v):VR W' h' av v:=by
 induction x with
 | none=>exact .none
 | bool b=>exact .bool b
 | int i t=>exact .int i t
 | str s t=>exact .str s t
 | bytes b t=>exact .bytes b t
 | tupI a vs ws x l _ ih=>exact .tupI a vs ws (g9 k x) l ih
 | ref i q e=>
  refine fc (p i q e) λq' e' a U=>?_;exact a▸.ref i q' e'
 | gB r a b c x=>exact .gB r a b c (afC k x)
 | raw a=>exact .raw a
theorem bS.mono{W W':WD}{h h':yJ}(p:cf W W')(k:aX h h'){as vs}(x:bS W h as vs):bS W' h' as vs:=bZ.mono (λU U=>VR.mono p k) x
def iZ(NM:Nat->ze)(W:WD)(h:yJ)(fs:List (Nat×AV))(mA:ze->Option xP):Prop:=
 (∀n av,fs.lookup n=J av->∃v,mA (NM n)=J v/\VR W h av v)/\
 ∀x v,mA x=J v->∃n av,fs.lookup n=J av/\NM n=x
structure fP(h:yJ)(x dx C:yk)(mA:ze->Option xP):Prop where
 obj:∃ox,h.get? x=J ox/\ox.cls= .ref C/\ox.dict=J dx/\ox.data= .plain
 ns:h.Ns1 dx mA
 apart:dx≠x
theorem fP.inst{h x dx C mA}(I:fP h x dx C mA):h.Inst x C mA:=
 o9 I.obj λox e c d n=>⟨ox,e,c,(λc=>by refine Z n ?_;simp),.inr (bJ dx d I.apart I.ns)⟩
inductive kO{K V:Type}(R:AV->V->Prop):List (K×AV)->List (K×V)->Prop
 | nil:kO R [] []
 | cons{k:K}{a:AV}{v:V}{r:List (K×AV)}{r':List (K×V)}(x:R a v)(y:kO R r r'):kO R ((k,a)::r) ((k,v)::r')
abbrev om{K:Type}(W:WD)(h:yJ):List (K×AV)->List (K×xP)->Prop:=kO (VR W h)
abbrev gA(W:WD)(h:yJ):List (List Int×AV)->List (List Int×yk×xP)->Prop:=kO λa (v:yk×xP)=>VR W h a v.2
section
variable(prog:AG)(w:World)(NM:Nat->ze)(fld:yk->Nat->Bool)(GR:WD->xM->WE->Nat->List AV->Prop)
inductive n8(W:WD)(s:xM)(p:WE)(C:yk)(fs:List (Nat×AV)):Prop
 | mk(g:p.gs=[])(dx:yk)(mA:ze->Option xP)(e:p.aux=[dx])(I:fP s.heap p.a dx C mA)(F:iZ NM W s.heap fs mA)(q:∀n av,fs.lookup n=J av->fld C n=true):n8 W s p C fs
inductive bM(W:WD)(s:xM)(p:WE)(xs:List AV):Prop
 | mk(g:p.gs=[])(e:p.aux=[])(ws:List xP)(k:Nat)(a:s.heap.get? p.a=J {cls:=.type "list",dict:=Jw,data:=.seq ws.toArray k,slots:= #[]})(v:bS W s.heap xs ws):bM W s p xs
inductive b3(W:WD)(s:xM)(p:WE)(es:List (Int×AV))(ep:Nat):Prop
 | mk(g:p.gs=[])(e:p.aux=[])(kvs:List (Int×xP))(D:s.heap.DictAt (Ap prog w) p.a kvs ep)(B:om W s.heap es kvs):b3 W s p es ep
inductive gh(W:WD)(s:xM)(p:WE)(es:List (List Int×AV)):Prop
 | mk(g:p.gs=[])(e:p.aux=[])(kvs:List (List Int×yk×xP))(D:s.heap.DictOfH (DE (Ap prog w)) p.a kvs)(B:gA W s.heap es kvs):gh W s p es
inductive qK(s:xM)(p:WE)(xs:List Int):Prop
 | mk(g:p.gs=[])(e:p.aux=[])(S:s.heap.SetOf (Ap prog w) p.a (λk=>xs.contains k) xs.length):qK s p xs
inductive jQ(s:xM)(p:WE)(bs:List UInt8):Prop
 | mk(g:p.gs=[])(e:p.aux=[])(o:Obj)(a:s.heap.get? p.a=J o)(c:o.cls= .type "bytearray")(d:o.dict=Jw)(b:o.data= .bytearray bs.toArray 0):jQ s p bs
inductive n9(W:WD)(s:xM)(p:WE)(ws:List xP)(k:Nat)(xs:List AV):Prop
 | mk(g:p.gs=[])(e:p.aux=[])(a:s.heap.get? p.a=J {cls:=.type "list",dict:=Jw,data:=.seq ws.toArray k,slots:= #[]})(v:bS W s.heap xs ws):n9 W s p ws k xs
theorem n9.list{s:xM}(x:n9 W s p ws k xs):bM W s p xs:=n9.rec (λg e a v=>⟨g,e,ws,k,a,v⟩) x
def OR(W:WD)(s:xM)(p:WE):AO->Prop
 | .inst C fs=>n8 NM fld W s p C fs
 | .list xs=>bM W s p xs
 | .aP es ep=>b3 prog w W s p es ep
 | .bD es=>gh prog w W s p es
 | .set xs=>qK prog w s p xs
 | .fU bs=>jQ s p bs
 | .gen k vs=>GR W s p k vs
 | .fix ws k xs=>n9 W s p ws k xs
def WE.has(p:WE)(b:yk):Prop:=b=p.a\/b∈p.aux
def Own(W:WD)(b:yk):Prop:=∃p∈W,WE.has p b
def oC(W:WD)(g:Nat):Prop:=∃p∈W,g∈p.gs
structure HR(hS:yJ)(W:WD)(H:AH)(s:xM):Prop where
 len:W.length=H.length
 rel:∀(i:Nat) (p:WE) (ao:AO),W[i]? =J p->H[i]? =J ao->OR prog w NM fld GR W s p ao
 gO:∀(i j:Nat) (p q:WE),W[i]? =J p->W[j]? =J q->i≠j->(∀b,p.has b->¬q.has b)/\∀g∈p.gs,g∉q.gs
 mT:∀b,Own W b->hS.get? b=Jw/\∃o,s.heap.get? b=J o/\¬bp o
 jb:∀(g:Nat),oC W g->∃x,s.gens[g]? =J x
theorem aiW{P:α->Prop}(e:o=Jw)(h:∃x,o=J x/\P x):False:=h.elim λU h=>nomatch e.symm.trans h.1
theorem mC(e:(l++[a])[i]? =J x):l[i]? =J x\/(i=l.length/\x=a):=by
 rcases Nat.lt_or_ge i l.length with h | h
 ·exact .inl (yw h▸e)
 ·rw[yU h] at e
  cases q:i-l.length with
  | zero=>have e:=q▸e;exact .inr ⟨yW (EK.mp q) h,(xT e).symm⟩
  | succ k=>have e:=q▸e;cases e
theorem Own.snoc:Own (W++[p]) b->Own W b\/p.has b:=λ⟨q,hq,hb⟩=>(yz.mp hq).elim (λh=>.inl ⟨q,h,hb⟩) λh=>.inr (xV.mp h▸hb)
theorem oC.snoc:oC (W++[p]) g->oC W g\/g∈p.gs:=λ⟨q,hq,hb⟩=>(yz.mp hq).elim (λh=>.inl ⟨q,h,hb⟩) λh=>.inr (xV.mp h▸hb)
structure Step(own fs:yk->Prop)(W:WD)(s:xM)(W':WD)(s':xM):Prop where
 pre:cf W W'
 there:∀b o,s.heap.get? b=J o->∃o',s'.heap.get? b=J o'
 keep:∀b o,s.heap.get? b=J o->¬Own W b->¬own b->∃sl,s'.heap.get? b=J {o with slots:=sl}/\(¬fs b->sl=o.slots)
 fresh:∀b,Own W' b->Own W b\/s.heap.get? b=Jw
 gj:∀(g:Nat) (x:Br),s.gens[g]? =J x->∃x',s'.gens[g]? =J x'
 mX:∀(g:Nat) (x:Br),s.gens[g]? =J x->¬oC W g->s'.gens[g]? =J x
 iM:∀(g:Nat),oC W' g->oC W g\/s.gens[g]? =Jw
 os:s'.os=s.os
end
theorem Own.at{i:Nat}(e:W[i]? =J p):Own W p.a:=⟨p,ye e,.inl rfl⟩
theorem Step.refl(own fs)(W)(s):Step own fs W s W s:=
 ⟨cf.rfl,λU o e=>⟨o,e⟩,λU o e U U=>⟨o.slots,e,λU=>rfl⟩,λU x=>.inl x,λU x e=>⟨x,e⟩,λU U e U=>e,λU x=>.inl x,rfl⟩
theorem Step.trans{own fs:yk->Prop}{s S5 S8:xM}(x:Step own fs W s W4 S5)(y:Step own fs W4 S5 W3 S8):Step own fs W s W3 S8:=by
 refine ⟨x.pre.trans y.pre,λb o e=>?_,λb o e n1 n2=>?_,λb hb=>?_,λg q e=>?_,λg q e n=>?_,λg hg=>?_,y.os.trans x.os⟩
 ·refine (x.there b o e).elim λo' e'=>?_;exact y.there b o' e'
 ·refine aO (x.keep b o e n1 n2) λsl e1 q1=>?_
  obtain ⟨sl',e2,q2⟩:=y.keep b _ e1 (λhb=>by
   rcases x.fresh b hb with h | h
   ·exact n1 h
   ·have e:=h▸e;cases e) n2
  exact (aM sl' e2 (λh=>by exact Z (q2 h) (q1 h)))
 ·rcases y.fresh b hb with h | h
  ·exact x.fresh b h
  ·right
   cases q:s.heap.get? b with
   | none=>rfl
   | some o=>refine (x.there b o q).elim λo' e'=>?_;have e':=h▸e';cases e'
 ·refine (x.gj g q e).elim λo' e'=>?_;exact y.gj g o' e'
 ·exact y.mX g q (x.mX g q e n) λhg=>by
   rcases x.iM g hg with h | h
   ·exact n h
   ·have e:=h▸e;cases e
 ·rcases y.iM g hg with h | h
  ·exact x.iM g h
  ·right
   cases q:s.gens[g]? with
   | none=>rfl
   | some o=>refine (x.gj g o q).elim λo' e'=>?_;have e':=h▸e';cases e'
theorem Step.same{own fs:yk->Prop}{s s':xM}(x:Step own fs W s W' s')(e:s.heap.get? b=J o)(n1:¬Own W b)(n2:¬own b)(n3:¬fs b):s'.heap.get? b=J o:=by
 refine aO (x.keep b o e n1 n2) λsl e1 q=>?_;have e1:=(q n3)▸e1;exact e1
theorem Step.weaken{own own' fs fs':yk->Prop}{s s':xM}(x:Step own fs W s W' s')(k:∀b o,s.heap.get? b=J o->own b->own' b)
  (k2:∀b o,s.heap.get? b=J o->fs b->fs' b):Step own' fs' W s W' s':=
 ⟨x.pre,x.there,λb o e n1 n2=>aO (x.keep b o e n1 (λh=>n2 (k b o e h))) λsl e1 q=>(aM sl e1 (λh=>q λh'=>h (k2 b o e h'))),x.fresh,x.gj,x.mX,x.iM,x.os⟩
theorem Step.grow{own fs:yk->Prop}{s s':xM}(k:∀b o,s.heap.get? b=J o->s'.heap.get? b=J o)(g:s'.gens=s.gens)(o:s'.os=s.os):Step own fs W s W s':=
 ⟨cf.rfl,λb o e=>⟨o,k b o e⟩,λb o e U U=>⟨o.slots,k b o e,λU=>rfl⟩,λU x=>.inl x,λU x e=>⟨x,g▸e⟩,λU U e U=>g▸e,λU x=>.inl x,o⟩
def tf(GR:WD->xM->WE->Nat->List AV->Prop)(hS:yJ):Prop:=
 (∀W W' s s' p k vs,GR W s p k vs->cf W W'->aX s.heap s'.heap->(∀b o,p.has b->s.heap.get? b=J o->s'.heap.get? b=J o)->(∀g x,g∈p.gs->s.gens[g]? =J x->s'.gens[g]? =J x)->
  hS.StaysIn s'.heap->GR W' s' p k vs)
theorem kO.mono{K V:Type}{R R':AV->V->Prop}(k:∀a v,R a v->R' a v){es:List (K×AV)}{kvs:List (K×V)}(x:kO R es kvs):kO R' es kvs:=by
 induction x with
 | nil=>exact .nil
 | cons y _ ih=>exact .cons (k _ _ y) ih
theorem iZ.mono{NM:Nat->ze}{h h':yJ}(p:cf W W')(k:aX h h'){fs mA}(x:iZ NM W h fs mA):iZ NM W' h' fs mA:=
 ⟨λn av e=>aO (x.1 n av e) λv a b=>(aM v a (b.mono p k)),x.2⟩
theorem fP.at{h h':yJ}{x dx C mA}(I:fP h x dx C mA)(k1:∀o,h.get? x=J o->h'.get? x=J o)(k2:∀o,h.get? dx=J o->h'.get? dx=J o):fP h' x dx C mA:=
 ⟨I.obj.elim λox y=>oz ox (k1 _ y.1) y.2.1 y.2.2.1 y.2.2.2,I.ns.at k2,I.apart⟩
section
variable{prog:AG}{w:World}{NM:Nat->ze}{fld:yk->Nat->Bool}{GR:WD->xM->WE->Nat->List AV->Prop}{hS:yJ}
theorem acx{h h':yJ}(k:aX h h')(x:GH (Ap prog w) h ks a):GH (Ap prog w) h' ks a:=by
 refine Qc λU u6=>x.elim λo v6=>v6.elim λitems y6=>y6.elim λn z6=>z6.elim λe u7=>u7.elim λc v7=>v7.elim λd i=>u6 ?_;exact ⟨o,items,n,k _ _ e (.inl ⟨c,_,_,d⟩),c,d,i⟩
theorem afK{h h':yJ}{xs}(x:h.DictOfH (DE (Ap prog w)) a xs)(k:aX h h')(k1:∀o,h.get? a=J o->h'.get? a=J o):h'.DictOfH (DE (Ap prog w)) a xs:=by
 revert prog w h h' a xs;apply e6;intro U;apply(?Z:Tq U);intro prog w h h' a xs;intros;refine Qc λU u6=>x.elim λo v6=>v6.elim λes y6=>y6.elim λep z6=>z6.elim λe u7=>u7.elim λc v7=>v7.elim λd y7=>y7.elim λl z7=>z7.elim λi n=>u6 ?_;exact ⟨o,es,ep,k1 _ e,c,d,l,λx hx=>acx k (i x hx),n⟩
theorem OR.mono(pH:tf GR hS){W W':WD}{s s':xM}{p:WE}{ao:AO}(x:OR prog w NM fld GR W s p ao)(pr:cf W W')(k:aX s.heap s'.heap)
  (ko:∀b o,p.has b->s.heap.get? b=J o->s'.heap.get? b=J o) (kg:∀(g:Nat) (x:Br),g∈p.gs->s.gens[g]? =J x->s'.gens[g]? =J x) (st:hS.StaysIn s'.heap):OR prog w NM fld GR W' s' p ao:=by
 have ka:∀o,s.heap.get? p.a=J o->s'.heap.get? p.a=J o:=λo=>ko p.a o (.inl rfl);cases ao with
 | inst C fs=>
  refine Qc λU u6=>?_;obtain ⟨g,dx,mA,e,I,F,q⟩:=x;refine u6 ?_;exact ⟨g,dx,mA,e,I.at ka (λo=>ko dx o (.inr (by exact Z e (.head _)))),F.mono pr k,q⟩
 | list xs=>
  refine Qc λU v6=>?_;obtain ⟨g,e,ws,n,a,v⟩:=x;refine v6 ?_;exact ⟨g,e,ws,n,ka _ a,v.mono pr k⟩
 | aP es ep=>
  refine Qc λU y6=>?_;obtain ⟨g,e,kvs,⟨o,es',ho,r⟩,B⟩:=x;refine y6 ?_;exact ⟨g,e,kvs,⟨o,es',ka o ho,r⟩,B.mono λU U=>VR.mono pr k⟩
 | bD es=>
  refine Qc λU z6=>?_;obtain ⟨g,e,kvs,D,B⟩:=x;refine z6 ?_;exact ⟨g,e,kvs,afK D k ka,B.mono λU U=>VR.mono pr k⟩
 | set xs=>
  refine Qc λU u7=>?_;obtain ⟨g,e,o,es,ep,t,a,r⟩:=x;refine u7 ?_;exact ⟨g,e,o,es,ep,t,ka _ a,r⟩
 | fU bs=>
  refine Qc λU v7=>?_;obtain ⟨g,e,o,a,c,d,b⟩:=x;refine v7 ?_;exact ⟨g,e,o,ka _ a,c,d,b⟩
 | gen n vs=>exact pH _ _ _ _ _ _ _ x pr k ko kg st
 | fix ws n xs=>
  refine Qc λU y7=>?_;obtain ⟨g,e,a,v⟩:=x;refine y7 ?_;exact ⟨g,e,ka _ a,v.mono pr k⟩
theorem HR.upd(pH:tf GR hS){s s':xM}(R:HR prog w NM fld GR hS W H s){i:Nat}(hi:W[i]? =J p)
  (k:∀b o,s.heap.get? b=J o->¬p.has b->s'.heap.get? b=J o) (kg:∀(g:Nat) (x:Br),s.gens[g]? =J x->g∉p.gs->s'.gens[g]? =J x) (st:hS.StaysIn s'.heap)
  (al:∀b,p.has b->∃o,s'.heap.get? b=J o/\¬bp o) (alg:∀g:Nat,g∈p.gs->∃x,s'.gens[g]? =J x) (x:OR prog w NM fld GR W s' p ao'):HR prog w NM fld GR hS W (H.set i ao') s':=by
 have kf:aX s.heap s'.heap:=λb o e f=>k b o e λhb=>by
  refine (R.mT b ⟨p,ye hi,hb⟩).elim λU w1q=>aO w1q λo' e' n=>?_;have e':=e▸e';cases e';exact n f
 refine ⟨by exact Z B3 R.len,λj q ao hj hao=>?_,R.gO,λb hb=>?_,λg hg=>?_⟩
 ·by_cases e:i=j
  ·subst e
   have hj:=hi▸hj;cases hj;have hl:=R.len▸(xQ.mp hi).1;rw[zk hl] at hao;cases hao;exact x
  ·rw[zE e] at hao
   exact (R.rel j q ao hj hao).mono pH cf.rfl kf (λb o hb eb=>k b o eb λhp=>(R.gO i j p q hi hj e).1 b hp hb) (λg y hg eg=>kg g y eg λhp=>(R.gO i j p q hi hj e).2 g hp hg) st
 ·refine ⟨(R.mT b hb).1,?_⟩
  by_cases hp:p.has b
  ·exact al b hp
  ·refine (R.mT b hb).elim λU w2q=>aO w2q λo e n=>?_
   exact (aM o (k b o e hp) n)
 ·by_cases hp:g∈p.gs
  ·exact alg g hp
  ·refine (R.jb g hg).elim λy e=>?_
   exact ⟨y,kg g y e hp⟩
theorem HR.new(pH:tf GR hS){W:WD}{H:AH}{s s':xM}(R:HR prog w NM fld GR hS W H s){p:WE}{ao:AO}
  (k:∀b o,s.heap.get? b=J o->s'.heap.get? b=J o) (kg:∀(g:Nat) (x:Br),s.gens[g]? =J x->s'.gens[g]? =J x) (st:hS.StaysIn s'.heap)
  (nw:∀b,p.has b->s.heap.get? b=Jw/\∃o,s'.heap.get? b=J o/\¬bp o) (nwg:∀g:Nat,g∈p.gs->s.gens[g]? =Jw/\∃x,s'.gens[g]? =J x) (sS:hS.StaysIn s.heap)
  (x:OR prog w NM fld GR (W++[p]) s' p ao):HR prog w NM fld GR hS (W++[p]) (H++[ao]) s':=by
 have on:∀{q:WE},q∈W->∀b,q.has b->¬p.has b:=λhq b hb hp=>aiW (nw b hp).1 (R.mT b ⟨_,hq,hb⟩).2;have og:∀{q:WE},q∈W->∀g,g∈q.gs->g∉p.gs:=λhq g hg hp=>(R.jb g ⟨_,hq,hg⟩).elim λy e=>nomatch (nwg g hp).1.symm.trans e
 have mo:∀{q:WE} {ao},OR prog w NM fld GR W s q ao->OR prog w NM fld GR (W++[p]) s' q ao:=λz=>z.mono pH cf.app (aX.of_keeps k) (λb o U=>k b o) (λg y U=>kg g y) st;refine ⟨by exact Z xK (Z xK (Z R.len rfl)),λi q ao' hi hao=>?_,λi j q r hi hj ne=>?_,λb hb=>(Own.snoc hb).elim (λh=>?_) λh=>⟨?_,(nw b h).2⟩,λg hg=>(oC.snoc hg).elim (λh=>(R.jb g h).elim λy e=>⟨y,kg g y e⟩) λh=>(nwg g h).2⟩
 ·rcases mC hi with e | ⟨rfl,rfl⟩
  ·rw[yw (R.len▸(xQ.mp e).1)] at hao
   exact mo (R.rel i q ao' e hao)
  ·rw[R.len,yU (xS _),Bx] at hao
   exact xT hao▸x
 ·rcases mC hi with e | ⟨e1,rfl⟩
  ·rcases mC hj with e' | ⟨_,rfl⟩
   ·exact R.gO i j q r e e' ne
   ·exact ⟨on (ye e),og (ye e)⟩
  ·rcases mC hj with e' | ⟨e2,_⟩
   ·exact ⟨λb h1 h2=>on (ye e') b h2 h1,λg h1 h2=>og (ye e') g h2 h1⟩
   ·exact absurd (e1.trans e2.symm) ne
 ·exact ⟨(R.mT b h).1,(R.mT b h).2.elim λo e=>(aM o (k b o e.1) e.2)⟩
 ·cases c:hS.get? b with
  | none=>rfl
  | some o=>exact nomatch (nw b h).1.symm.trans (sS b o c)
theorem HR.keep(pH:tf GR hS){s s':xM}(R:HR prog w NM fld GR hS W H s)
  (k:∀b o,Own W b->s.heap.get? b=J o->s'.heap.get? b=J o) (kf:aX s.heap s'.heap) (kg:∀(g:Nat) (x:Br),oC W g->s.gens[g]? =J x->s'.gens[g]? =J x) (st:hS.StaysIn s'.heap):HR prog w NM fld GR hS W H s':=
 ⟨R.len,λi p ao hi hao=>(R.rel i p ao hi hao).mono pH cf.rfl kf (λb o hb=>k b o ⟨p,ye hi,hb⟩) (λg y hg=>kg g y ⟨p,ye hi,hg⟩) st,R.gO,
  λb hb=>(R.mT b hb).elim λa w3q=>aO w3q λo e n=>⟨a,o,k b o hb e,n⟩,λg hg=>(R.jb g hg).elim λy e=>⟨y,kg g y hg e⟩⟩
end
set_option genCtorIdx false in
inductive BI where
 | len | range | abs | max | min | sum | int | sorted | tuple | list | bytes | bytearray | set | str | no (n:Nat)
set_option genCtorIdx false in
inductive FL where
 | next
 | cont
 | brk
 | ret(v:AV)
abbrev EV:=List (Option AV)
abbrev XF:=yk->AH->Prop
structure fW where
 ip:yk->List AV->AH->(AV->AH->Prop)->XF->Prop
 oP:yk->List AV->AH->(AV->AH->Prop)->XF->Prop
 init:yk->Option yk
 cR:yk->Nat->Option yk
 fld:yk->Nat->Bool
 exc:yk->Bool
 k6:Nat->List AV->AH->(Option (AV×Nat×List AV)->AH->Prop)->Prop
 road:Bool
 deriving Nonempty
noncomputable def fW.off(G:fW):fW:={G with ip:=G.oP,road:=false}
noncomputable abbrev pA:Nat:=0
noncomputable abbrev aor:Nat:=1
noncomputable abbrev aoq:Nat:=2
noncomputable abbrev iJ:Nat:=3
noncomputable abbrev aop:Nat:=4
noncomputable abbrev ago:Nat:=5
noncomputable abbrev amf:Nat:=6
noncomputable abbrev ab4:Nat:=7
structure kM(a:Nat)(o:AO)(H H':AH):Prop where
 self:H'[a]? =J o
 old:∀(j:Nat) o',H[j]? =J o'->H'[j]? =J o'
 eq:a=H.length
 len:H'.length=H.length+1
structure Upd(i:Nat)(o:AO)(H H':AH):Prop where
 self:H'[i]? =J o
 ne:∀(j:Nat) o',j≠i->H[j]? =J o'->H'[j]? =J o'
 len:H'.length=H.length
def bR(o:AO)(H:AH)(Q:AV->AH->Prop):Prop:=∀a H',kM a o H H'->Q (.ref a) H'
def dD(i:Nat)(o:AO)(H:AH)(K:AH->Prop):Prop:=∀H',Upd i o H H'->K H'
def small(i:Int):Prop:=i.natAbs<2^200
def cO(x:AV)(k:Int->Prop):Prop:=match x with | .int i=>k i | _=>False
def onStr(x:AV)(k:ze->Prop):Prop:=match x with | .str i=>k i | _=>False
def onBytes(x:AV)(k:List UInt8->Prop):Prop:=match x with | .bytes i=>k i | _=>False
def lN(x:AV)(k:List AV->Prop):Prop:=match x with | .tup i=>k i | _=>False
def oK(x:AV)(k:Nat->Prop):Prop:=match x with | .ref i=>k i | _=>False
def mS(x:AV)(k:Prop):Prop:=match x with | .none=>k | _=>False
def wL(args:List AV)(k:AV->Prop):Prop:=match args with | [x]=>k x | _=>False
abbrev bH(x y:AV)(k:Int->Int->Prop):Prop:=cO x λa=>cO y λb=>k a b
def ao8(x y:AV)(H:AH)(Q:AV->AH->Prop):Prop:=match x with
 | .int a=>cO y λb=>Q (.int (a+b)) H
 | .bytes a=>onBytes y λb=>a.length+b.length<=1000000/\Q (.bytes (a++b)) H
 | .ref a=>oK y λb=>∃xs ys,H[a]? =J (.list xs)/\H[b]? =J (.list ys)/\xs.length+ys.length<=1000000/\bR (.list (xs++ys)) H Q
 | _=>False
def aos(x y:AV)(H:AH)(Q:AV->AH->Prop):Prop:=match x with
 | .int a=>cO y λb=>F5 a b/\Q (.int (a*b)) H
 | .ref a=>cO y λn=>∃x,H[a]? =J (.list [x])/\0<=n/\n<=1000000/\bR (.list (yr n.toNat x)) H Q
 | _=>False
def xu(op:Operator)(x y:AV)(H:AH)(Q:AV->AH->Prop):Prop:=match op with
 | .Add=>ao8 x y H Q
 | .Sub=>bH x y λa b=>Q (.int (a-b)) H
 | .Mult=>aos x y H Q
 | .FloorDiv=>bH x y λa b=>b≠0/\small b/\Q (.int (a.fdiv b)) H
 | .Mod=>bH x y λa b=>b≠0/\Q (.int (a.fmod b)) H
 | .Pow=>bH x y λa b=>small a/\0<=b/\b<=64/\Q (.int (a^b.toNat)) H
 | .LShift=>bH x y λa b=>small a/\0<=b/\b<=64/\Q (.int (a*2^b.toNat)) H
 | .RShift=>bH x y λa b=>0<=b/\b<=64/\Q (.int (a.fdiv (2^b.toNat))) H
 | .BitAnd=>bH x y λa b=>0<=a/\0<=b/\Q (.int ((a.toNat&&& b.toNat:Nat):Int)) H
 | .BitOr=>bH x y λa b=>0<=a/\0<=b/\Q (.int ((a.toNat||| b.toNat:Nat):Int)) H
 | _=>False
noncomputable def intsOf:List AV->Option (List Int)
 | []=>J []
 | .int i::r=>(intsOf r).map (i:: ·)
 | _::_=>Jw
noncomputable def bj{K V:Type}[DecidableEq K](es:List (K×V))(k:K):Bool:=es.any λe=>e.1=k
noncomputable def getKey{K V:Type}[DecidableEq K](es:List (K×V))(k:K):Option V:=(es.find? λe=>e.1=k).map (·.2)
noncomputable def br{K V:Type}[DecidableEq K](es:List (K×V))(k:K)(v:V):List (K×V):=
 if es.any (λe=>e.1=k) then es.map (λe=>if e.1=k then (e.1,v) else e) else es++[(k,v)]
noncomputable def jK{K V:Type}[DecidableEq K](es:List (K×V))(k:K):List (K×V):=es.filter λe=>e.1≠k
inductive vz(H:AH)(Q:Bool->Prop):AV->AV->Prop
 | set{a:Nat}{xs:List Int}{i:Int}(h:H[a]? =J (.set xs))(q:Q (xs.contains i)):vz H Q (.int i) (.ref a)
 | aP{a:Nat}{es:List (Int×AV)}{ep:Nat}{i:Int}(h:H[a]? =J (.aP es ep))(q:Q (bj es i)):vz H Q (.int i) (.ref a)
 | bD{a:Nat}{es:List (List Int×AV)}{ks:List AV}{is:List Int}(h:H[a]? =J (.bD es))(hk:intsOf ks=J is)(q:Q (bj es is)):vz H Q (.tup ks) (.ref a)
 | an6{a:Nat}{bs:List ze}{s:ze}(h:H[a]? =J (.list (bs.map .str)))(q:Q (bs.any (· ==s))):vz H Q (.str s) (.ref a)
 | inst{a i C n:Nat}{bs:List ze}{v:AV}{fs:List (Nat×AV)}(h:H[a]? =J (.list (bs.map .str)))(hi:H[i]? =J (.inst C ((n,v)::fs)))(q:Q false):vz H Q (.ref i) (.ref a)
def noRef(x:AV):Prop:=match x with | .ref _=>False | _=>True
def eqP(x y:AV)(H:AH)(Q:Bool->Prop):Prop:=match x with
 | .int a=>cO y λb=>Q (a==b)
 | .str a=>onStr y λb=>Q (a==b)
 | .ref a=>oK y λb=>∃xs,H[a]? =J (.list xs)/\H[b]? =J (.list [])/\Q xs.isEmpty
 | _=>False
def neP(x y:AV)(Q:Bool->Prop):Prop:=match x with
 | .int a=>cO y λb=>Q (a !=b)
 | .str a=>onStr y λb=>Q (a !=b)
 | _=>False
def isP(x:AV)(Q:Bool->Prop):Prop:=match x with
 | .none=>Q true
 | .tup _=>Q false
 | _=>False
def uc(op:CmpOp)(x y:AV)(H:AH)(Q:Bool->Prop):Prop:=match op with
 | .Eq=>eqP x y H Q
 | .NotEq=>neP x y Q
 | .Lt=>bH x y λa b=>Q (decide (a<b))
 | .LtE=>bH x y λa b=>Q (decide (a<=b))
 | .Gt=>bH x y λa b=>Q (decide (b<a))
 | .GtE=>bH x y λa b=>Q (decide (b<=a))
 | .Is=>mS y (isP x Q)
 | .In=>vz H Q x y
 | .NotIn=>noRef x/\vz H (λb=>Q (!b)) x y
 | _=>False
inductive fV(H:AH)(Q:AV->AH->Prop):AV->AV->Prop
 | tup{vs:List AV}{k:Int}{v:AV}(h0:0<=k)(h1:k<1000000)(e:vs[k.toNat]? =J v)(q:Q v H):fV H Q (.tup vs) (.int k)
 | bytes{b:List UInt8}{k:Int}{v:UInt8}(h0:0<=k)(h1:k<1000000)(e:b[k.toNat]? =J v)(q:Q (.int v.toNat) H):fV H Q (.bytes b) (.int k)
 | list{a:Nat}{xs:List AV}{k:Int}{v:AV}(h:H[a]? =J (.list xs))(h0:0<=k)(h1:k<1000000)(e:xs[k.toNat]? =J v)(q:Q v H):fV H Q (.ref a) (.int k)
 | old{a n:Nat}{ws:List xP}{xs:List AV}{k:Int}{v:AV}(h:H[a]? =J (.fix ws n xs))(h0:0<=k)(h1:k<1000000)(e:xs[k.toNat]? =J v)(q:Q v H):fV H Q (.ref a) (.int k)
 | aP{a:Nat}{es:List (Int×AV)}{ep:Nat}{k:Int}{v:AV}(h:H[a]? =J (.aP es ep))(e:getKey es k=J v)(q:Q v H):fV H Q (.ref a) (.int k)
 | bD{a:Nat}{es:List (List Int×AV)}{ks:List AV}{is:List Int}{v:AV}(h:H[a]? =J (.bD es))(hk:intsOf ks=J is)(e:getKey es is=J v)(q:Q v H):fV H Q (.ref a) (.tup ks)
inductive rM(H:AH)(Q:AV->AH->Prop):AV->Option AV->Option AV->Prop
 | to{b:List UInt8}{k:Int}(l:b.length<=1000000)(h0:0<=k)(h1:k<1000000)(q:Q (.bytes (b.take k.toNat)) H):rM H Q (.bytes b) Jw (J (.int k))
 | from{b:List UInt8}{j:Int}(l:b.length<=1000000)(h0:0<=j)(h1:j<1000000)(q:Q (.bytes (b.drop j.toNat)) H):rM H Q (.bytes b) (J (.int j)) Jw
 | both{b:List UInt8}{j k:Int}(l:b.length<=1000000)(h0:0<=j)(hjk:j<=k)(h1:k<1000000)(q:Q (.bytes ((b.take k.toNat).drop j.toNat)) H):rM H Q (.bytes b) (J (.int j)) (J (.int k))
 | list{a:Nat}{xs:List AV}{k:Int}(h:H[a]? =J (.list xs))(l:xs.length<=1000000)(h0:0<=k)(h1:k<1000000)(q:bR (.list (xs.take k.toNat)) H Q):rM H Q (.ref a) Jw (J (.int k))
noncomputable def octets:List AV->Option (List UInt8)
 | []=>J []
 | .int i::r=>if 0<=i/\i<256 then (octets r).map (Gu i.toNat:: ·) else Jw
 | _::_=>Jw
noncomputable def cN(p:Int×Int):AV:=.tup [.int p.1,.int p.2]
noncomputable def ql(p:Int×Int):List Int:=[p.1,p.2]
def ltPair(a b:Int×Int):Prop:=a.1<b.1\/(a.1=b.1/\a.2<b.2)
def j4(ps:List (Int×Int))(H:AH)(Q:AV->AH->Prop):Prop:=
 ps.Nodup/\ps.length<64/\∀out:List (Int×Int),out.Perm ps->out.Pairwise ltPair->bR (.list (out.map cN)) H Q
def sm(i:Int):Prop:= -1000000<=i/\i<=1000000
noncomputable def bX(a b c:Int):List Int:=(yH (yV a b c).toNat).map λ(i:Nat)=>a+c*i
inductive lH(G:fW)(H:AH)(Q:AV->AH->Prop):BI->List AV->Prop
 | dO{a:Nat}{xs:List AV}(h:H[a]? =J (.list xs))(l:xs.length<=1000000)(q:Q (.int xs.length) H):lH G H Q .len [.ref a]
 | aoE{a k:Nat}{ws:List xP}{xs:List AV}(h:H[a]? =J (.fix ws k xs))(l:xs.length<=1000000)(q:Q (.int xs.length) H):lH G H Q .len [.ref a]
 | kY{x:List UInt8}(l:x.length<=1000000)(q:Q (.int x.length) H):lH G H Q .len [.bytes x]
 | tV{x:List AV}(l:x.length<=1000000)(q:Q (.int x.length) H):lH G H Q .len [.tup x]
 | bQ{n:Int}(q:Q (.gB 0 n 1) H):lH G H Q .range [.int n]
 | q9{a n:Int}(q:Q (.gB a n 1) H):lH G H Q .range [.int a,.int n]
 | aiG{a n c:Int}(h0:0<c)(h1:c<=1000000)(q:Q (.gB a n c) H):lH G H Q .range [.int a,.int n,.int c]
 | abs{i:Int}(q:Q (.int i.natAbs) H):lH G H Q .abs [.int i]
 | aox{a:Nat}{xs:List AV}{is:List Int}{m:Int}(h:H[a]? =J (.list xs))(hi:intsOf xs=J is)(hm:is.max? =J m)(q:Q (.int m) H):lH G H Q .max [.ref a]
 | max2{a b:Int}(q:Q (.int (if a<b then b else a)) H):lH G H Q .max [.int a,.int b]
 | aow{xs:List AV}{is:List Int}{m:Int}(hi:intsOf xs=J is)(hm:is.min? =J m)(q:Q (.int m) H):lH G H Q .min [.tup xs]
 | min2{a b:Int}(q:Q (.int (if b<a then b else a)) H):lH G H Q .min [.int a,.int b]
 | an3{xs:List AV}{is:List Int}(hi:intsOf xs=J is)(l:is.length<=1000)(hb:∀i∈is,0<=i/\i<=1000000)(q:Q (.int is.sum) H):lH G H Q .sum [.tup xs]
 | pD{i:Int}(q:Q (.int i) H):lH G H Q .int [.int i]
 | aoJ{b:Bool}(q:Q (.int (if b then 1 else 0)) H):lH G H Q .int [.bool b]
 | oX{a:Nat}{ps:List (Int×Int)}(h:H[a]? =J (.list (ps.map cN)))(q:j4 ps H Q):lH G H Q .sorted [.ref a]
 | af7{a:Nat}{es:List (List Int×AV)}{ps:List (Int×Int)}(h:H[a]? =J (.bD es))(e:es.map (·.1)=ps.map ql)(q:j4 ps H Q):lH G H Q .sorted [.ref a]
 | vD{vs:List AV}(q:Q (.tup vs) H):lH G H Q .tuple [.tup vs]
 | vE{a:Nat}{xs:List AV}(h:H[a]? =J (.list xs))(l:xs.length<=1000000)(q:Q (.tup xs) H):lH G H Q .tuple [.ref a]
 | tU{a b c:Int}(ha:sm a)(hb:sm b)(h0:0<c)(h1:c<=1000000)(q:bR (.list ((bX a b c).map .int)) H Q):lH G H Q .list [.gB a b c]
 | nH{a:Nat}{x:List UInt8}(h:H[a]? =J (.fU x))(l:x.length<=1000000)(q:Q (.bytes x) H):lH G H Q .bytes [.ref a]
 | pO{a:Nat}{xs:List AV}{x:List UInt8}(h:H[a]? =J (.list xs))(e:octets xs=J x)(l:x.length<=1000000)(q:Q (.bytes x) H):lH G H Q .bytes [.ref a]
 | set(q:bR (.set []) H Q):lH G H Q .set []
 | bytearray(r:G.road=true)(q:bR (.fU []) H Q):lH G H Q .bytearray []
noncomputable def findB(x y:List UInt8):Nat->Int
 | 0=>if y.isPrefixOf x then 0 else-1
 | n+1=>if y.isPrefixOf x then 0 else match x with
  | []=> -1
  | _::r=>let k:=findB r y n;if k<0 then-1 else k+1
set_option genCtorIdx false in
inductive BM where
 | b7 | find | append | add | bK | dV | get | pop | aY | no (n:Nat)
 deriving Nonempty
set_option genCtorIdx false in
inductive Sel where
 | fn(f:yk)
 | bi(b:BM)
inductive iR(G:fW)(H:AH)(k:Sel->Prop):Nat->AV->Prop
 | fn{n i C f:Nat}{fs:List (Nat×AV)}(h:H[i]? =J (.inst C fs))(l:fs.lookup n=Jw)(m:G.cR C n=J f)(q:k (.fn f)):iR G H k n (.ref i)
 | b7{i:Int}(q:k (.bi .b7)):iR G H k ab4 (.int i)
 | find{b:List UInt8}(q:k (.bi .find)):iR G H k amf (.bytes b)
 | append{i:Nat}{xs:List AV}(h:H[i]? =J (.list xs))(q:k (.bi .append)):iR G H k pA (.ref i)
 | add{i:Nat}{xs:List Int}(h:H[i]? =J (.set xs))(q:k (.bi .add)):iR G H k aor (.ref i)
 | bK{i:Nat}{xs:List UInt8}(h:H[i]? =J (.fU xs))(q:k (.bi .bK)):iR G H k pA (.ref i)
 | dV{i:Nat}{xs:List UInt8}(h:H[i]? =J (.fU xs))(q:k (.bi .dV)):iR G H k ago (.ref i)
 | get{i:Nat}{es:List (Int×AV)}{ep:Nat}(h:H[i]? =J (.aP es ep))(q:k (.bi .get)):iR G H k aoq (.ref i)
 | pop{i:Nat}{es:List (Int×AV)}{ep:Nat}(h:H[i]? =J (.aP es ep))(q:k (.bi .pop)):iR G H k aop (.ref i)
 | al5{i:Nat}{es:List (Int×AV)}{ep:Nat}(h:H[i]? =J (.aP es ep))(q:k (.bi .aY)):iR G H k iJ (.ref i)
 | al4{i:Nat}{es:List (List Int×AV)}(h:H[i]? =J (.bD es))(q:k (.bi .aY)):iR G H k iJ (.ref i)
inductive rQ(G:fW)(H:AH)(Q:AV->AH->Prop):BM->AV->List AV->Prop
 | b7{i:Int}(h:small i)(q:Q (.int (if i=0 then 0 else i.natAbs.log2+1)) H):rQ G H Q .b7 (.int i) []
 | find{b c:List UInt8}(hc:c.length=2)(l:b.length<=1000000)(q:Q (.int (findB b c b.length)) H):rQ G H Q .find (.bytes b) [.bytes c]
 | append{a:Nat}{xs:List AV}{v:AV}(h:H[a]? =J (.list xs))(l:xs.length<1000000)(q:dD a (.list (xs++[v])) H (Q .none)):rQ G H Q .append (.ref a) [v]
 | add{a:Nat}{xs:List Int}{i:Int}(h:H[a]? =J (.set xs))(n:i∉xs)(l:xs.length<1000)(q:dD a (.set (xs++[i])) H (Q .none)):rQ G H Q .add (.ref a) [.int i]
 | aoK{a:Nat}{es:List (Int×AV)}{ep:Nat}{k:Int}(h:H[a]? =J (.aP es ep))(q:Q ((getKey es k).getD .none) H):rQ G H Q .get (.ref a) [.int k]
 | vR{a:Nat}{es:List (Int×AV)}{ep:Nat}{k:Int}{d:AV}(h:H[a]? =J (.aP es ep))(q:Q ((getKey es k).getD d) H):rQ G H Q .get (.ref a) [.int k,d]
 | pop{a:Nat}{es:List (Int×AV)}{ep:Nat}{k:Int}{v:AV}(h:H[a]? =J (.aP es ep))(l:es.length<=1000)(e:getKey es k=J v)(q:∀ep',dD a (.aP (jK es k) ep') H (Q v)):rQ G H Q .pop (.ref a) [.int k]
 | al6{a ep:Nat}{ks:List AV}{is:List Int}{d:AV}(h:H[a]? =J (.aP [] ep))(hk:intsOf ks=J is)(q:dD a (.bD [(is,d)]) H (Q d)):rQ G H Q .aY (.ref a) [.tup ks,d]
 | agb{a:Nat}{es:List (List Int×AV)}{ks:List AV}{is:List Int}{d v:AV}(h:H[a]? =J (.bD es))(hk:intsOf ks=J is)(l:es.length<1000)(e:getKey es is=J v)(q:Q v H):rQ G H Q .aY (.ref a) [.tup ks,d]
 | agc{a:Nat}{es:List (List Int×AV)}{ks:List AV}{is:List Int}{d:AV}(h:H[a]? =J (.bD es))(hk:intsOf ks=J is)(l:es.length<1000)(e:getKey es is=Jw)(q:dD a (.bD (br es is d)) H (Q d)):rQ G H Q .aY (.ref a) [.tup ks,d]
 | bK{a:Nat}{bs:List UInt8}{i:Int}(r:G.road=true)(h:H[a]? =J (.fU bs))(h0:0<=i)(h1:i<256)(l:bs.length<1000000)(q:dD a (.fU (bs++[i.toNat.toUInt8])) H (Q .none)):rQ G H Q .bK (.ref a) [.int i]
 | dV{a:Nat}{bs z:List UInt8}(r:G.road=true)(h:H[a]? =J (.fU bs))(l:bs.length+z.length<=1000000)(q:dD a (.fU (bs++z)) H (Q .none)):rQ G H Q .dV (.ref a) [.bytes z]
def methP(G:fW)(sel:Sel)(x:AV)(args:List AV)(H:AH)(Q:AV->AH->Prop)(X:XF):Prop:=match sel with
 | .fn f=>G.ip f (x::args) H Q X
 | .bi b=>rQ G H Q b x args
inductive n7(v:AV)(H:AH)(K:AH->Prop):AV->AV->Prop
 | list{a:Nat}{xs:List AV}{k:Int}(h:H[a]? =J (.list xs))(h0:0<=k)(h1:k<1000000)(l:k.toNat<xs.length)(q:dD a (.list (xs.set k.toNat v)) H K):n7 v H K (.ref a) (.int k)
 | aP{a:Nat}{es:List (Int×AV)}{ep:Nat}{k:Int}(h:H[a]? =J (.aP es ep))(l:es.length<1000)(q:∀ep',dD a (.aP (br es k v) ep') H K):n7 v H K (.ref a) (.int k)
 | aii{a ep:Nat}{ks:List AV}{is:List Int}(h:H[a]? =J (.aP [] ep))(hk:intsOf ks=J is)(q:dD a (.bD [(is,v)]) H K):n7 v H K (.ref a) (.tup ks)
 | bD{a:Nat}{es:List (List Int×AV)}{ks:List AV}{is:List Int}(h:H[a]? =J (.bD es))(hk:intsOf ks=J is)(l:es.length<1000)(q:dD a (.bD (br es is v)) H K):n7 v H K (.ref a) (.tup ks)
noncomputable def sN(n:Nat)(v:AV):List (Nat×AV)->List (Nat×AV)
 | []=>[(n,v)]
 | (m,u)::r=>if m=n then (n,v)::r else (m,u)::sN n v r
inductive fO(H:AH)(k:List AV->(AH->Prop)->Prop):AV->Prop
 | gB{a b c:Int}(ha:sm a)(hb:sm b)(h0:0<c)(h1:c<=1000000)(q:k ((bX a b c).map .int) λU=>True):fO H k (.gB a b c)
 | tup{vs:List AV}(q:k vs λU=>True):fO H k (.tup vs)
 | bytes{b:List UInt8}(q:k (b.map λx=>.int x.toNat) λU=>True):fO H k (.bytes b)
 | list{a:Nat}{xs:List AV}(h:H[a]? =J (.list xs))(l:xs.length<=1000000)(q:k xs λH'=>H'[a]? =J (.list xs)):fO H k (.ref a)
 | aP{a:Nat}{es:List (Int×AV)}{ep:Nat}(h:H[a]? =J (.aP es ep))(q:k (es.map λe=>.int e.1) λH'=>H'[a]? =J (.aP es ep)):fO H k (.ref a)
noncomputable def oQ(one:Bool)(k:Nat)(v:AV):Option (List (Option AV)):=match one with
 | true=>if k=1 then J [J v] else Jw
 | false=>match v with
  | .tup vs=>if vs.length=k then J (vs.map J) else Jw
  | _=>Jw
noncomputable def putAll:List Nat->List AV->EV->Option EV
 | [],[],ρ=>J ρ
 | i::is,v::vs,ρ=>putAll is vs (ρ.set i (J v))
 | _,_,_=>Jw
inductive dI(x y:Prop):Bool->Prop
 | t(q:x):dI x y true
 | f(q:y):dI x y false
def iF(o:Option EV)(k:EV->Prop):Prop:=match o with | some ρ=>k ρ | none=>False
def jr(da:AH->Prop)(bind:AV->Option EV)(conds:EV->AH->(Bool->AH->Prop)->Prop)(elt:EV->AH->(AV->AH->Prop)->Prop):List AV->AH->List AV->(List AV->AH->Prop)->Prop
 | [],H,acc,K=>da H/\K acc H
 | v::vs,H,acc,K=>da H/\iF (bind v) λρ=>conds ρ H λb H₁=>dI (elt ρ H₁ λx H₂=>jr da bind conds elt vs H₂ (acc++[x]) K) (jr da bind conds elt vs H₁ acc K) b
abbrev PT(α:Type):=fW->EV->AH->(α->AH->Prop)->XF->Prop
def kX(o:Option (Option AV))(k:AV->Prop):Prop:=match o with | some (J v)=>k v | _=>False
def pj(x:AV)(k:Bool->Prop):Prop:=match x with | .bool b=>k b | _=>False
def cg{α:Type}:PT α:=λU U U U U=>False
def af(v:AV):PT AV:=λU U H Q U=>Q v H
def aa(i:Nat):PT AV:=λU ρ H Q U=>kX ρ[i]? λv=>Q v H
def aF(op:Operator)(a b:PT AV):PT AV:=λG ρ H Q X=>a G ρ H (λx H₁=>b G ρ H₁ (λy H₂=>xu op x y H₂ Q) X) X
def tL(a:PT AV):PT AV:=λG ρ H Q X=>a G ρ H (λx H₁=>cO x λi=>Q (.int (-i)) H₁) X
abbrev PL:=PT (List AV)
def ar:PL:=λU U H Q U=>Q [] H
def ae(a:PT AV)(l:PL):PL:=λG ρ H Q X=>a G ρ H (λx H₁=>l G ρ H₁ (λxs H₂=>Q (x::xs) H₂) X) X
def wd:PT (Option AV):=λU U H Q U=>Q Jw H
def qo(a:PT AV):PT (Option AV):=λG ρ H Q X=>a G ρ H (λx H₁=>Q (J x) H₁) X
abbrev PC:=AV->PT Bool
def aH(op:CmpOp)(a:PT AV):PC:=λx G ρ H Q X=>a G ρ H (λy H₁=>uc op x y H₁ λb=>Q b H₁) X
def jt(op:CmpOp)(a:PT AV)(l:PC):PC:=λx G ρ H Q X=>a G ρ H (λy H₁=>uc op x y H₁ λb=>dI (l y G ρ H₁ Q X) (Q false H₁) b) X
def aR(a:PT AV)(l:PC):PT Bool:=λG ρ H Q X=>a G ρ H (λx H₁=>l x G ρ H₁ Q X) X
def qp(c:PT Bool):PT AV:=λG ρ H Q X=>c G ρ H (λb H₁=>Q (.bool b) H₁) X
def j6(a:PT AV):PT Bool:=λG ρ H Q X=>a G ρ H (λv H₁=>pj v λb=>Q b H₁) X
def rf(c:PT Bool):PT Bool:=λG ρ H Q X=>c G ρ H (λb H₁=>Q (!b) H₁) X
def dr:PT Bool:=λU U H Q U=>Q true H
def kW(c d:PT Bool):PT Bool:=λG ρ H Q X=>c G ρ H (λb H₁=>dI (d G ρ H₁ Q X) (Q false H₁) b) X
def sO(c d:PT Bool):PT Bool:=λG ρ H Q X=>c G ρ H (λb H₁=>dI (Q true H₁) (d G ρ H₁ Q X) b) X
def tM(c:PT Bool)(a b:PT AV):PT AV:=λG ρ H Q X=>c G ρ H (λt H₁=>dI (a G ρ H₁ Q X) (b G ρ H₁ Q X) t) X
def cU(l:PL):PT AV:=λG ρ H Q X=>l G ρ H (λvs H₁=>Q (.tup vs) H₁) X
def cV(l:PL):PT AV:=λG ρ H Q X=>l G ρ H (λvs H₁=>bR (.list vs) H₁ Q) X
def gk:PT AV:=λU U H Q U=>bR (.aP [] 0) H Q
inductive uq(n:Nat)(H:AH)(Q:AV->AH->Prop):AV->Prop
 | mk{i C:Nat}{fs:List (Nat×AV)}{v:AV}(h:H[i]? =J (.inst C fs))(l:fs.lookup n=J v)(q:Q v H):uq n H Q (.ref i)
def aE(a:PT AV)(n:Nat):PT AV:=λG ρ H Q X=>a G ρ H (λx H₁=>uq n H₁ Q x) X
def a7(a i:PT AV):PT AV:=λG ρ H Q X=>a G ρ H (λx H₁=>i G ρ H₁ (λy H₂=>fV H₂ Q x y) X) X
def qu(a:PT AV)(lo hi:PT (Option AV)):PT AV:=λG ρ H Q X=>a G ρ H (λx H₁=>lo G ρ H₁ (λj H₂=>hi G ρ H₂ (λk H₃=>rM H₃ Q x j k) X) X) X
def aG(f:yk)(l:PL):PT AV:=λG ρ H Q X=>l G ρ H (λvs H₁=>G.ip f vs H₁ Q X) X
def aiR(o:Option yk)(k:yk->Prop):Prop:=match o with | some f=>k f | none=>False
inductive iT(G:fW)(C:yk)(vs:List AV)(H:AH)(Q:AV->AH->Prop)(X:XF):Prop
 | mk(q:aiR (G.init C) λf=>∀a H',kM a (.inst C []) H H'->G.ip f (.ref a::vs) H' (λr H₂=>mS r (Q (.ref a) H₂)) X):iT G C vs H Q X
def b5(C:yk)(l:PL):PT AV:=λG ρ H Q X=>l G ρ H (λvs H₁=>iT G C vs H₁ Q X) X
def aC(b:BI)(l:PL):PT AV:=λG ρ H Q X=>l G ρ H (λvs H₁=>lH G H₁ Q b vs) X
def aJ(a:PT AV)(n:Nat)(l:PL):PT AV:=λG ρ H Q X=>a G ρ H (λx H₁=>iR G H₁ (λsel=>l G ρ H₁ (λvs H₂=>methP G sel x vs H₂ Q X) X) n x) X
def cW(elt:PT AV)(one:Bool)(k:Nat)(src:PT AV)(cond:PT Bool):PT AV:=λG ρ H Q X=>src G.off ρ H (λx H₁=>fO H₁ (λitems da=>items.length<=1000000/\
 jr da (λv=>(oQ one k v).map (ρ++ ·)) (λρ' H' K=>cond G.off ρ' H' K λU U=>False) (λρ' H' K=>elt G.off ρ' H' K λU U=>False) items H₁ [] λacc H₂=>bR (.list acc) H₂ Q) x) X
abbrev KF:=FL->EV->AH->Prop
abbrev ST:=fW->EV->AH->KF->XF->Prop
abbrev TT:=AV->fW->EV->AH->(EV->AH->Prop)->XF->Prop
def mI:TT:=λU U U U U U=>False
def aK(i:Nat):TT:=λv U ρ H K U=>K (ρ.set i (J v)) H
def fS(l:List Nat):TT:=λv U ρ H K U=>lN v λvs=>iF (putAll l vs ρ) λρ'=>K ρ' H
def lK(l:List Nat):TT:=λv U ρ H K U=>lN v λvs=>iF (putAll l vs.reverse ρ) λρ'=>K ρ' H
inductive uo(G:fW)(n:Nat)(v:AV)(H:AH)(K:AH->Prop):AV->Prop
 | mk{i C:Nat}{fs:List (Nat×AV)}(h:H[i]? =J (.inst C fs))(f:G.fld C n=true)(l:fs.length<1000)(q:dD i (.inst C (sN n v fs)) H K):uo G n v H K (.ref i)
def aU(a:PT AV)(n:Nat):TT:=λv G ρ H K X=>a G ρ H (λx H₁=>uo G n v H₁ (λH₂=>K ρ H₂) x) X
def kR(a i:PT AV):TT:=λv G ρ H K X=>a G ρ H (λx H₁=>i G ρ H₁ (λy H₂=>n7 v H₂ (λH₃=>K ρ H₃) x y) X) X
def bV(K:KF)(P:EV->AH->Prop):KF:=λfl ρ H=>match fl with
 | .next=>P ρ H
 | .cont=>P ρ H
 | .brk=>K .next ρ H
 | .ret v=>K (.ret v) ρ H
def forL(da:AH->Prop)(turn:AV->EV->AH->KF->Prop)(K:KF):List AV->EV->AH->Prop
 | [],ρ,H=>da H/\K .next ρ H
 | v::vs,ρ,H=>da H/\turn v ρ H (bV K λρ' H'=>forL da turn K vs ρ' H')
def apu(a:Nat)(turn:AV->EV->AH->KF->Prop)(K:KF)(P:EV->AH->Prop)(ρ:EV)(r:Option (AV×Nat×List AV))(H:AH):Prop:=match r with
 | none=>dD a (.gen 0 []) H (K .next ρ)
 | some (v,k',vs')=>dD a (.gen k' vs') H λH'=>turn v ρ H' (bV K P)
inductive GenQ(a:Nat)(turn:AV->EV->AH->KF->Prop)(K:KF)(P:EV->AH->Prop)(ρ:EV)(r:Option (AV×Nat×List AV))(H:AH):Prop
 | mk(h:H[a]? =J (.gen 3 []))(q:apu a turn K P ρ r H):GenQ a turn K P ρ r H
inductive GenStep(G:fW)(a:Nat)(turn:AV->EV->AH->KF->Prop)(K:KF)(P:EV->AH->Prop)(ρ:EV)(H:AH):Prop
 | mk{k:Nat}{vs:List AV}(h:H[a]? =J (.gen k vs))(q:dD a (.gen 3 []) H λH'=>G.k6 k vs H' (GenQ a turn K P ρ)):GenStep G a turn K P ρ H
def aoL(G:fW)(a:Nat)(turn:AV->EV->AH->KF->Prop)(K:KF)(ρ:EV)(H:AH):Prop:=
 ∀P,(∀ρ H,GenStep G a turn K P ρ H->P ρ H)->P ρ H
def xn(G:fW):List (yk×ze)->yk->EV->AH->KF->XF->Prop
 | [],C,_,H,_,X=>X C H
 | (D,m)::r,C,ρ,H,K,X=>G.exc D=true/\dI (K (.ret (.str m)) ρ H) (xn G r C ρ H K X) (C==D)
def fy(P:EV->AH->Prop)(K:KF):KF:=λfl ρ H=>match fl with
 | .next=>P ρ H
 | fl=>K fl ρ H
def fa:ST:=λU U U U U=>False
def aA:ST:=λU ρ H K U=>K .next ρ H
def aq(a b:ST):ST:=λG ρ H K X=>a G ρ H (fy (λρ' H'=>b G ρ' H' K X) K) X
def aV(a:PT AV):ST:=λG ρ H K X=>a G ρ H (λU H₁=>K .next ρ H₁) X
def ak(t:TT)(a:PT AV):ST:=λG ρ H K X=>a G ρ H (λv H₁=>t v G ρ H₁ (λρ' H₂=>K .next ρ' H₂) X) X
def sH(i:Nat)(a:PT AV):ST:=λG ρ H K X=>kX ρ[i]? λv=>cO v λx=>a G ρ H (λy H₁=>cO y λb=>K .next (ρ.set i (J (.int (x+b)))) H₁) X
def aW(a:PT AV):ST:=λG ρ H K X=>a G ρ H (λv H₁=>K (.ret v) ρ H₁) X
def bh(c:PT Bool)(t f:ST):ST:=λG ρ H K X=>c G ρ H (λb H₁=>dI (t G ρ H₁ K X) (f G ρ H₁ K X) b) X
def gV(c:PT Bool)(b:ST):ST:=λG ρ H K X=>∀P,(∀ρ H,c G ρ H (λt H₁=>dI (b G ρ H₁ (bV K P) X) (K .next ρ H₁) t) X->P ρ H)->P ρ H
inductive ik(G:fW)(turn:AV->EV->AH->KF->Prop)(K:KF)(ρ:EV)(H:AH):AV->Prop
 | items{x:AV}(h:fO H (λitems da=>forL da turn K items ρ H) x):ik G turn K ρ H x
 | gen{a:Nat}(h:aoL G a turn K ρ H):ik G turn K ρ H (.ref a)
def cz(t:TT)(src:PT AV)(b:ST):ST:=λG ρ H K X=>src G ρ H (λx H₁=>ik G (λv ρ' H' K'=>t v G ρ' H' (λρ₂ H₂=>b G ρ₂ H₂ K' X) X) K ρ H₁ x) X
def bF(C:yk)(l:PL):ST:=λG ρ H U X=>l G ρ H (λvs H₁=>wL vs λv=>onStr v λU=>G.exc C=true/\X C H₁) X
def vG(b:ST)(hs:List (yk×ze)):ST:=λG ρ H K X=>b G ρ H K λC H₁=>xn G hs C (ρ.map λU=>Jw) H₁ K X
def tJ(Q:AV->AH->Prop):KF:=λfl U H=>match fl with | .ret v=>Q v H | _=>Q .none H
noncomputable def sD(k n:Nat)(args:List AV):EV:=args.map J++yr (n-k) Jw
structure qO where
 n:Nat
 k:Nat
 body:ST
 dflt:List Int
 deriving Nonempty
structure Tab where
 fn:yk->Option qO
 init:yk->Option yk
 cR:yk->Nat->Option yk
 fld:yk->Nat->Bool
 exc:yk->Bool
 gen:yk->List AV->AH->(AV->AH->Prop)->Prop
 k6:fW->Nat->List AV->AH->(Option (AV×Nat×List AV)->AH->Prop)->Prop
 deriving Nonempty
def qO.run(d:qO)(G:fW)(args:List AV)(H:AH)(Q:AV->AH->Prop)(X:XF):Prop:=
 args.length+d.dflt.length=d.k/\d.body G (sD d.k d.n (args++d.dflt.map AV.int)) H (tJ Q) X
def Tab.call(t:Tab)(G:fW)(f:yk)(args:List AV)(H:AH)(Q:AV->AH->Prop)(X:XF):Prop:=match t.fn f with
 | some d=>d.run G args H Q X
 | none=>t.gen f args H Q
noncomputable def Tab.gJ(t:Tab):Tab:={t with exc:=λU=>false,gen:=λU U U U=>False,k6:=λU U U U U=>False}
noncomputable def Tab.mk'(t:Tab)(r:Bool)(c x:yk->List AV->AH->(AV->AH->Prop)->XF->Prop)(g:Nat->List AV->AH->(Option (AV×Nat×List AV)->AH->Prop)->Prop):fW:=
 {ip:=c,oP:=x,init:=t.init,cR:=t.cR,fld:=t.fld,exc:=t.exc,k6:=g,road:=r}
abbrev CF:=yk->List AV->AH->(AV->AH->Prop)->XF->Prop
abbrev wO:CF:=λU U U U U=>False
abbrev GFn:=Nat->List AV->AH->(Option (AV×Nat×List AV)->AH->Prop)->Prop
abbrev wD:GFn:=λU U U U=>False
def Tab.wo(t:Tab):Nat->CF
 | 0=>wO
 | n+1=>t.call (t.mk' false (Tab.wo t n) (Tab.wo t n) wD)
def Tab.gp(t:Tab):Nat->GFn
 | 0=>wD
 | n+1=>t.k6 (t.gJ.mk' false (t.gJ.wo n) (t.gJ.wo n) wD)
def Tab.cp(t:Tab):Nat->Bool->CF
 | 0,_=>wO
 | n+1,r=>t.call (t.mk' r (Tab.cp t n r) (Tab.cp t n false) (t.gp n))
noncomputable def Tab.sig(t:Tab)(r:Bool)(n:Nat):fW:=t.mk' r (t.cp n r) (t.cp n false) (t.gp n)
noncomputable def Tab.qh(t:Tab)(n:Nat):fW:=t.gJ.mk' false (t.gJ.wo n) (t.gJ.wo n) wD
abbrev uH:XF:=λU U=>False
def i5(M3:PT AV)(G:fW)(a b c:AV)(j n:Int)(H:AH)(Q:Option (AV×Nat×List AV)->AH->Prop):Prop:=
 dI (M3 G [J a,J b,J c,J (.int j)] H (λv H'=>Q (J (v,2,[a,b,c,.int (j+1),.int n])) H') uH) (Q Jw H) (decide (j<n))
inductive U2(M3:PT AV)(G:fW)(a b:AV)(ρ:EV)(H:AH)(Q:Option (AV×Nat×List AV)->AH->Prop):AV->Prop
 | mk{n:Int}{c:AV}(h0:0<=n)(h1:n<=1000000)(e:ρ=[J a,J b,J c,Jw])(q:i5 M3 G a b c 0 n H Q):U2 M3 G a b ρ H Q (.gB 0 n 1)
def ri(fl:FL)(k:Prop):Prop:=match fl with | .next=>k | _=>False
inductive jO(M1:ST)(M2 M3:PT AV)(G:fW)(H:AH)(Q:Option (AV×Nat×List AV)->AH->Prop):Nat->List AV->Prop
 | one{a b:AV}(q:M1 G [J a,J b,Jw,Jw] H (λfl ρ H₁=>ri fl (M2 G ρ H₁ (λx H₂=>U2 M3 G a b ρ H₂ Q x) uH)) uH):jO M1 M2 M3 G H Q 1 [a,b]
 | two{a b c:AV}{j n:Int}(q:i5 M3 G a b c j n H Q):jO M1 M2 M3 G H Q 2 [a,b,c,.int j,.int n]
def afv:ST:=
 aq (aW (aJ (aC .abs (ae (aa 0) ar)) 7 ar)) aA
def ahy:ST:=
 aq (bh (aR (aa 0) (aH .Lt (af (.int 0)))) (aq (aW (aF .Sub (aF .Add (aa 0) (aF .Pow (af (.int 2)) (aa 1))) (af (.int 1)))) aA) aA)<|aq (aW (aa 0)) aA
def afs:ST:=
 aq (bh (kW (aR (aa 1) (aH .Gt (af (.int 0)))) (aR (aa 0) (aH .Lt (aF .Pow (af (.int 2)) (aF .Sub (aa 1) (af (.int 1))))))) (aq (aW (aF .Add (aF .Sub (aa 0) (aF .Pow (af (.int 2)) (aa 1))) (af (.int 1)))) aA) aA)<|aq (aW (aa 0)) aA
def aes:ST:=
 aq (bh (aR (aa 0) (aH .Eq (af (.int 1)))) (aq (aW (aa 1)) aA) aA)<|aq (bh (aR (aa 0) (aH .Eq (af (.int 2)))) (aq (aW (aa 2)) aA) aA)<|aq (bh (aR (aa 0) (aH .Eq (af (.int 3)))) (aq (aW (aa 3)) aA) aA)<|aq (bh (aR (aa 0) (aH .Eq (af (.int 4)))) (aq (aW (aF .Sub (aF .Add (aa 1) (aa 2)) (aa 3))) aA) aA)<|aq (bh (aR (aa 0) (aH .Eq (af (.int 5)))) (aq (aW (aF .Add (aa 1) (aF .RShift (aF .Sub (aa 2) (aa 3)) (af (.int 1))))) aA) aA)<|aq (bh (aR (aa 0) (aH .Eq (af (.int 6)))) (aq (aW (aF .Add (aa 2) (aF .RShift (aF .Sub (aa 1) (aa 3)) (af (.int 1))))) aA) aA)<|aq (bh (aR (aa 0) (aH .Eq (af (.int 7)))) (aq (aW (aF .RShift (aF .Add (aa 1) (aa 2)) (af (.int 1)))) aA) aA)<|aq (bF 99 (ae (aF .Add (af (.str "no such predictor: ")) (aC .str (ae (aa 0) ar))) ar)) aA
def aaI:ST:=
 aq (aW (aF .LShift (af (.int 1)) (aF .Sub (aF .Sub (aa 0) (aa 1)) (af (.int 1))))) aA
def adv:ST:=
 aq (ak (aK 2) (aF .Mod (aF .Sub (aa 0) (aa 1)) (af (.int 65536))))<|aq (aW (tM (aR (aa 2) (aH .Gt (af (.int 32768)))) (aF .Sub (aa 2) (af (.int 65536))) (aa 2))) aA
def afu:ST:=
 aq (aW (aF .Mod (aF .Add (aa 1) (aa 0)) (af (.int 65536)))) aA
def aad:ST:=
 aq (ak (aU (aa 0) 10) (aa 1))<|aq (ak (aU (aa 0) 11) (aa 2))<|aq (ak (aU (aa 0) 12) (aa 3))<|aq (ak (aU (aa 0) 13) gk) aA
def aap:ST:=
 aq (ak (aU (aa 0) 13) gk) aA
def aat:ST:=
 aq (bh (aR (aa 1) (aH .NotIn (aE (aa 0) 13))) (aq (ak (kR (aE (aa 0) 13) (aa 1)) (aa 3)) aA) aA)<|aq (ak (aK 4) (qp (aR (a7 (aE (aa 0) 13) (aa 1)) (aH .Eq (aa 3)))))<|aq (bh (aR (aa 2) (aH .Eq (af (.int 0)))) (aq (aW (tM (j6 (aa 4)) (aE (aa 0) 12) (aJ (aE (aa 0) 10) 2 (ae (aa 1) (ae (aa 2) (ae (aF .Sub (aa 3) (af (.int 1))) ar)))))) aA) aA)<|aq (ak (aK 5) (aJ (aE (aa 0) 10) 2 (ae (aa 1) (ae (aF .Sub (aa 2) (af (.int 1))) (ae (aa 3) ar)))))<|aq (bh (j6 (aa 4)) (aq (aW (aa 5)) aA) aA)<|aq (ak (aK 6) (aJ (aE (aa 0) 10) 2 (ae (aa 1) (ae (aa 2) (ae (aF .Sub (aa 3) (af (.int 1))) ar)))))<|aq (aW (aG 129 (ae (aE (aa 0) 11) (ae (aa 5) (ae (aa 6) (ae (aJ (aE (aa 0) 10) 2 (ae (aa 1) (ae (aF .Sub (aa 2) (af (.int 1))) (ae (aF .Sub (aa 3) (af (.int 1))) ar)))) ar)))))) aA
def aam:ST:=
 aq (ak (aU (aa 0) 14) (cW (cW (aF .Mult (cV (ae (af (.int 0)) ar)) (aa 2)) true 1 (aC .range (ae (aa 3) ar)) dr) false 2 (aa 1) dr)) aA
def aa7:ST:=
 aq (aW (a7 (a7 (a7 (aE (aa 0) 14) (aa 1)) (aa 3)) (aa 2))) aA
def aa6:ST:=
 aq (ak (kR (a7 (a7 (aE (aa 0) 14) (aa 1)) (aa 3)) (aa 2)) (aa 4)) aA
def aa3:ST:=
 aq (ak (aK 3) (aC .range (ae (aC .len (ae (aa 1) ar)) ar)))<|aq (ak (aK 5) (b5 214 (ae (cW (aJ (aa 0) 15 (ae (aa 10) ar)) true 1 (aa 3) dr) ar)))<|aq (cz (aK 4) (aa 3) (aq (ak (fS [6,7]) (aJ (aa 0) 15 (ae (aa 4) ar)))<|aq (cz (aK 8) (aC .range (ae (aa 7) ar)) (aq (cz (aK 9) (aC .range (ae (aa 6) ar)) (aq (aV (aJ (aa 5) 16 (ae (aa 4) (ae (aa 9) (ae (aa 8) (ae (aF .RShift (aJ (a7 (aa 1) (aa 4)) 17 (ae (aa 9) (ae (aa 8) ar))) (aa 2)) ar)))))) aA)) aA)) aA))<|aq (aW (aa 5)) aA
def aab:ST:=
 aq (ak (aU (aa 0) 18) (aa 1))<|aq (ak (aU (aa 0) 10) (aa 2))<|aq (ak (aU (aa 0) 19) (aa 3))<|aq (ak (aU (aa 0) 20) (aa 4)) aA
def aah:ST:=
 aq (aV (aJ (aE (aa 0) 19) 21 ar)) aA
def aan:ST:=
 aq (ak (aK 5) (aJ (aE (aa 0) 19) 22 (ae (aa 2) (ae (aa 3) (ae (aa 4) ar)))))<|aq (ak (aK 6) (aG 143 (ae (aJ (aE (aa 0) 10) 2 (ae (aa 2) (ae (aa 3) (ae (aa 4) ar)))) (ae (aa 5) ar))))<|aq (ak (aK 7) (aG 108 (ae (aa 6) ar)))<|aq (aV (aJ (aE (aa 0) 20) 23 (ae (cU (ae (af (.int 0)) (ae (a7 (aE (aa 0) 18) (aa 1)) ar))) (ae (aa 7) ar))))<|aq (bh (aR (af (.int 0)) (jt .Lt (aa 7) (aH .Lt (af (.int 16))))) (aq (aV (aJ (aE (aa 0) 20) 24 (ae (aG 115 (ae (aa 6) (ae (aa 7) ar))) (ae (aa 7) ar)))) aA) aA) aA
def aaf:ST:=
 aq (aW (aJ (aE (aa 0) 20) 25 ar)) aA
def aac:ST:=
 aq (ak (aU (aa 0) 18) (aa 1))<|aq (ak (aU (aa 0) 10) (aa 2))<|aq (ak (aU (aa 0) 19) (aa 3))<|aq (ak (aU (aa 0) 26) (aa 4))<|aq (ak (aU (aa 0) 27) (aa 5))<|aq (ak (aU (aa 0) 24) (af .none)) aA
def aai:ST:=
 aq (aV (aJ (aE (aa 0) 19) 21 ar))<|aq (ak (aU (aa 0) 24) (aa 1)) aA
def aao:ST:=
 aq (ak (aK 5) (aJ (a7 (aE (aa 0) 26) (cU (ae (af (.int 0)) (ae (a7 (aE (aa 0) 18) (aa 1)) ar)))) 28 (ae (aE (aa 0) 24) ar)))<|aq (bh (aR (aa 5) (aH .Gt (af (.int 16)))) (aq (bF 75 (ae (af (.str "a difference of more than 16 bits")) ar)) aA) aA)<|aq (bh (aR (aa 5) (aH .Eq (af (.int 16)))) (aq (ak (aK 6) (af (.int 32768))) aA) (aq (ak (aK 6) (tM (aR (aa 5) (aH .Gt (af (.int 0)))) (aG 122 (ae (aJ (aE (aa 0) 24) 24 (ae (aa 5) ar)) (ae (aa 5) ar))) (af (.int 0)))) aA))<|aq (ak (aK 7) (aG 150 (ae (aa 6) (ae (aJ (aE (aa 0) 19) 22 (ae (aa 2) (ae (aa 3) (ae (aa 4) ar)))) ar))))<|aq (bh (aR (aa 7) (aH .Gt (aE (aa 0) 27))) (aq (bF 75 (ae (af (.str "a sample beyond its precision")) ar)) aA) aA)<|aq (aV (aJ (aE (aa 0) 10) 16 (ae (aa 2) (ae (aa 3) (ae (aa 4) (ae (aa 7) ar)))))) aA
def aag:ST:=
 aq (ak (aK 1) (aJ (aE (aa 0) 24) 29 ar))<|aq (bh (sO (aR (aa 1) (aH .Gt (af (.int 7)))) (kW (aR (aa 1) (aH .Gt (af (.int 0)))) (aR (aJ (aE (aa 0) 24) 24 (ae (aa 1) ar)) (aH .NotEq (aF .Sub (aF .LShift (af (.int 1)) (aa 1)) (af (.int 1))))))) (aq (bF 75 (ae (af (.str "an interval that does not end with its samples")) ar)) aA) aA) aA
def aa5:ST:=
 aq (bh (sO (aR (aa 1) (aH .Lt (af (.int 0)))) (aR (aF .Mod (aa 1) (aa 0)) (aH .NotEq (af (.int 0))))) (aq (bF 63 (ae (af (.str "a restart interval of a lossless scan must be of whole rows")) ar)) aA) aA) aA
def aaT:ST:=
 aq (ak (aK 3) (cV ar))<|aq (ak (aK 4) (af (.int 0)))<|aq (aV (aJ (aa 2) 21 ar))<|aq (cz (aK 5) (aa 0) (aq (bh (kW (aR (aa 1) (aH .Gt (af (.int 0)))) (aR (aa 4) (aH .Eq (aa 1)))) (aq (aV (aJ (aa 3) 0 (ae (aJ (aa 2) 25 ar) ar)))<|aq (aV (aJ (aa 2) 21 ar))<|aq (ak (aK 4) (af (.int 0))) aA) aA)<|aq (cz (fS [6,7,8,9]) (aa 5) (aq (aV (aJ (aa 2) 30 (ae (aa 6) (ae (aa 7) (ae (aa 8) (ae (aa 9) ar)))))) aA))<|aq (sH 4 (af (.int 1))) aA))<|aq (aV (aJ (aa 3) 0 (ae (aJ (aa 2) 25 ar) ar)))<|aq (aW (aa 3)) aA
def aa1:ST:=
 aq (ak (aK 4) (af (.int 0)))<|aq (ak (aK 5) (af (.int 0)))<|aq (aV (aJ (aa 2) 21 (ae (a7 (aa 3) (af (.int 0))) ar)))<|aq (cz (aK 6) (aa 0) (aq (bh (kW (aR (aa 1) (aH .Gt (af (.int 0)))) (aR (aa 5) (aH .Eq (aa 1)))) (aq (aV (aJ (aa 2) 25 ar))<|aq (sH 4 (af (.int 1)))<|aq (bh (aR (aa 4) (aH .Eq (aC .len (ae (aa 3) ar)))) (aq (bF 75 (ae (af (.str "a scan with too few intervals")) ar)) aA) aA)<|aq (aV (aJ (aa 2) 21 (ae (a7 (aa 3) (aa 4)) ar)))<|aq (ak (aK 5) (af (.int 0))) aA) aA)<|aq (cz (fS [7,8,9,10]) (aa 6) (aq (aV (aJ (aa 2) 28 (ae (aa 7) (ae (aa 8) (ae (aa 9) (ae (aa 10) ar)))))) aA))<|aq (sH 5 (af (.int 1))) aA))<|aq (aV (aJ (aa 2) 25 ar))<|aq (bh (aR (aF .Add (aa 4) (af (.int 1))) (aH .NotEq (aC .len (ae (aa 3) ar)))) (aq (bF 75 (ae (af (.str "a scan with too many intervals")) ar)) aA) aA) aA
def ak9:ST:=
 aq (aW (aF .FloorDiv (aF .Sub (aF .Add (aa 0) (aa 1)) (af (.int 1))) (aa 1))) aA
def aaw:ST:=
 aq (ak (aU (aa 0) 31) (aa 1))<|aq (ak (aU (aa 0) 32) (aa 2))<|aq (ak (aU (aa 0) 33) (aa 3))<|aq (ak (aU (aa 0) 34) (aa 4)) aA
def abb:ST:=
 aq (ak (aU (aa 0) 11) (aa 1))<|aq (ak (aU (aa 0) 35) (aa 2))<|aq (ak (aU (aa 0) 36) (aa 3))<|aq (ak (aU (aa 0) 37) (aa 4))<|aq (ak (aU (aa 0) 38) (aa 5))<|aq (ak (aU (aa 0) 39) (aa 6)) aA
def aaz:ST:=
 aq (aW (aC .max (ae (cW (aE (aa 1) 32) true 1 (aE (aa 0) 38) dr) ar))) aA
def aaW:ST:=
 aq (aW (aC .max (ae (cW (aE (aa 1) 33) true 1 (aE (aa 0) 38) dr) ar))) aA
def aaA:ST:=
 aq (aW (aG 335 (ae (aE (aa 0) 37) (ae (aF .Mult (aE (aa 0) 39) (aJ (aa 0) 40 ar)) ar)))) aA
def aaX:ST:=
 aq (aW (aG 335 (ae (aE (aa 0) 36) (ae (aF .Mult (aE (aa 0) 39) (aJ (aa 0) 41 ar)) ar)))) aA
def aaJ:ST:=
 aq (ak (aK 2) (a7 (aE (aa 0) 38) (aa 1)))<|aq (ak (aK 3) (aG 335 (ae (aF .Mult (aE (aa 0) 37) (aE (aa 2) 32)) (ae (aJ (aa 0) 40 ar) ar))))<|aq (aW (cU (ae (aa 3) (ae (aG 335 (ae (aF .Mult (aE (aa 0) 36) (aE (aa 2) 33)) (ae (aJ (aa 0) 41 ar) ar))) ar)))) aA
def ab8:ST:=
 aq (ak (fS [2,3]) (aJ (aa 0) 42 (ae (aa 1) ar)))<|aq (aW (cU (ae (aG 335 (ae (aa 2) (ae (aE (aa 0) 39) ar))) (ae (aG 335 (ae (aa 3) (ae (aE (aa 0) 39) ar))) ar)))) aA
def ab7:ST:=
 aq (ak (aK 2) (a7 (aE (aa 0) 38) (aa 1)))<|aq (aW (cU (ae (aF .Mult (aJ (aa 0) 43 ar) (aE (aa 2) 32)) (ae (aF .Mult (aJ (aa 0) 44 ar) (aE (aa 2) 33)) ar)))) aA
def aax:ST:=
 aq (ak (aU (aa 0) 45) (aC .bytearray ar))<|aq (ak (aU (aa 0) 46) (af (.int 0)))<|aq (ak (aU (aa 0) 47) (af (.int 0))) aA
def abC:ST:=
 aq (bh (sO (aR (aa 2) (aH .Lt (af (.int 0)))) (rf (aR (af (.int 0)) (jt .LtE (aa 1) (aH .Lt (aF .LShift (af (.int 1)) (aa 2))))))) (aq (bF 99 (ae (af (.str "a number has not so many bits")) ar)) aA) aA)<|aq (ak (aU (aa 0) 46) (aF .BitOr (aF .LShift (aE (aa 0) 46) (aa 2)) (aa 1)))<|aq (ak (aU (aa 0) 47) (aF .Add (aE (aa 0) 47) (aa 2)))<|aq (gV (aR (aE (aa 0) 47) (aH .GtE (af (.int 8)))) (aq (ak (aU (aa 0) 47) (aF .Sub (aE (aa 0) 47) (af (.int 8))))<|aq (aV (aJ (aE (aa 0) 45) 0 (ae (aF .RShift (aE (aa 0) 46) (aE (aa 0) 47)) ar)))<|aq (ak (aU (aa 0) 46) (aF .BitAnd (aE (aa 0) 46) (aF .Sub (aF .LShift (af (.int 1)) (aE (aa 0) 47)) (af (.int 1))))) aA)) aA
def abD:ST:=
 aq (bh (aR (aE (aa 0) 47) (aH .Gt (af (.int 0)))) (aq (aV (aJ (aa 0) 16 (ae (aF .Sub (aF .LShift (af (.int 1)) (aF .Sub (af (.int 8)) (aE (aa 0) 47))) (af (.int 1))) (ae (aF .Sub (af (.int 8)) (aE (aa 0) 47)) ar)))) aA) aA) aA
def aaM:ST:=
 aq (aW (aC .bytes (ae (aE (aa 0) 45) ar))) aA
def aay:ST:=
 aq (ak (aU (aa 0) 48) (aa 1))<|aq (ak (aU (aa 0) 17) (af (.int 0))) aA
def abd:ST:=
 aq (aW (aF .Sub (aF .Mult (af (.int 8)) (aC .len (ae (aE (aa 0) 48) ar))) (aE (aa 0) 17))) aA
def abE:ST:=
 aq (bh (aR (aE (aa 0) 17) (aH .GtE (aF .Mult (af (.int 8)) (aC .len (ae (aE (aa 0) 48) ar))))) (aq (bF 87 (ae (af (.str "the bits end too soon")) ar)) aA) aA)<|aq (ak (aK 1) (aF .BitAnd (aF .RShift (a7 (aE (aa 0) 48) (aF .RShift (aE (aa 0) 17) (af (.int 3)))) (aF .Sub (af (.int 7)) (aF .BitAnd (aE (aa 0) 17) (af (.int 7))))) (af (.int 1))))<|aq (ak (aU (aa 0) 17) (aF .Add (aE (aa 0) 17) (af (.int 1))))<|aq (aW (aa 1)) aA
def abe:ST:=
 aq (bh (aR (aa 1) (aH .Gt (aJ (aa 0) 29 ar))) (aq (bF 87 (ae (af (.str "the bits end too soon")) ar)) aA) aA)<|aq (ak (aK 2) (af (.int 0)))<|aq (cz (aK 3) (aC .range (ae (aa 1) ar)) (aq (ak (aK 2) (aF .Add (aF .Mult (aa 2) (af (.int 2))) (aJ (aa 0) 49 ar))) aA))<|aq (aW (aa 2)) aA
def aeu:ST:=
 aq (ak (aK 1) (cV ar))<|aq (ak (fS [2,3]) (cU (ae (af (.int 0)) (ae (af (.int 0)) ar))))<|aq (cz (aK 4) (aC .range (ae (af (.int 1)) (ae (aF .Add (aC .len (ae (aa 0) ar)) (af (.int 1))) ar))) (aq (ak (aK 5) (a7 (aa 0) (aF .Sub (aa 4) (af (.int 1)))))<|aq (aV (aJ (aa 1) 0 (ae (cU (ae (aa 2) (ae (aa 5) (ae (aa 3) ar)))) ar)))<|aq (ak (aK 2) (aF .Add (aa 2) (aa 5)))<|aq (ak (aK 3) (aF .Add (aa 3) (aa 5)))<|aq (bh (kW (aR (aa 2) (aH .GtE (aF .Pow (af (.int 2)) (aa 4)))) (aR (aa 5) (aH .Gt (af (.int 0))))) (aq (bF 51 (ae (af (.str "there are too many codes, or one is all ones")) ar)) aA) aA)<|aq (ak (aK 2) (aF .Mult (aa 2) (af (.int 2)))) aA))<|aq (aW (aa 1)) aA
def adw:ST:=
 aq (bh (sO (aR (aC .len (ae (aa 0) ar)) (aH .NotEq (af (.int 16)))) (aR (aC .min (ae (aa 0) ar)) (aH .Lt (af (.int 0))))) (aq (bF 51 (ae (af (.str "a table tells sixteen numbers of codes")) ar)) aA) aA)<|aq (bh (sO (aR (aC .sum (ae (aa 0) ar)) (aH .NotEq (aC .len (ae (aa 1) ar)))) (aR (aC .len (ae (aa 1) ar)) (aH .Gt (af (.int 256))))) (aq (bF 51 (ae (af (.str "a table has another number of symbols")) ar)) aA) aA)<|aq (ak (aK 2) (aC .set ar))<|aq (cz (aK 3) (aa 1) (aq (bh (aR (aa 3) (aH .In (aa 2))) (aq (bF 51 (ae (af (.str "a symbol stands twice in a table")) ar)) aA) aA)<|aq (aV (aJ (aa 2) 1 (ae (aa 3) ar))) aA)) aA
def aau:ST:=
 aq (aV (aG 520 (ae (aa 1) (ae (aa 2) ar))))<|aq (ak (aU (aa 0) 50) (aC .tuple (ae (aa 1) ar)))<|aq (ak (aU (aa 0) 51) (aC .tuple (ae (aa 2) ar)))<|aq (ak (aU (aa 0) 14) (aG 513 (ae (aE (aa 0) 50) ar)))<|aq (ak (aU (aa 0) 52) gk)<|aq (cz (aK 3) (aC .range (ae (af (.int 1)) (ae (aF .Add (af (.int 16)) (af (.int 1))) ar))) (aq (ak (fS [4,5,6]) (a7 (aE (aa 0) 14) (aF .Sub (aa 3) (af (.int 1)))))<|aq (cz (aK 7) (aC .range (ae (aa 5) ar)) (aq (ak (kR (aE (aa 0) 52) (a7 (aE (aa 0) 51) (aF .Add (aa 6) (aa 7)))) (cU (ae (aF .Add (aa 4) (aa 7)) (ae (aa 3) ar)))) aA)) aA)) aA
def aba:ST:=
 aq (ak (aK 2) (aJ (aE (aa 0) 52) 2 (ae (aa 1) ar)))<|aq (bh (aR (aa 2) (aH .Is (af .none))) (aq (bF 51 (ae (aF .Add (af (.str "a table has no code for ")) (aC .str (ae (aa 1) ar))) ar)) aA) aA)<|aq (aW (aa 2)) aA
def aa9:ST:=
 aq (ak (aK 2) (af (.int 0)))<|aq (cz (fS [3,4,5]) (aE (aa 0) 14) (aq (ak (aK 2) (aF .Add (aF .Mult (aa 2) (af (.int 2))) (aJ (aa 1) 49 ar)))<|aq (bh (aR (aF .Sub (aa 2) (aa 3)) (aH .Lt (aa 4))) (aq (aW (a7 (aE (aa 0) 51) (aF .Sub (aF .Add (aa 5) (aa 2)) (aa 3)))) aA) aA) aA))<|aq (bF 75 (ae (af (.str "no code begins so")) ar)) aA
def ai6:ST:=
 aq (ak (aK 2) (cV ar))<|aq (ak (fS [3,4]) (cU (ae (af (.int 0)) (ae (af (.int 0)) ar))))<|aq (gV (sO (aR (aa 3) (aH .Lt (aC .len (ae (aa 0) ar)))) (aR (aa 4) (aH .Lt (aC .len (ae (aa 1) ar))))) (aq (bh (sO (aR (aa 4) (aH .Eq (aC .len (ae (aa 1) ar)))) (kW (aR (aa 3) (aH .Lt (aC .len (ae (aa 0) ar)))) (aR (a7 (a7 (aa 0) (aa 3)) (af (.int 0))) (aH .LtE (a7 (a7 (aa 1) (aa 4)) (af (.int 0))))))) (aq (aV (aJ (aa 2) 0 (ae (a7 (aa 0) (aa 3)) ar)))<|aq (ak (aK 3) (aF .Add (aa 3) (af (.int 1)))) aA) (aq (aV (aJ (aa 2) 0 (ae (a7 (aa 1) (aa 4)) ar)))<|aq (ak (aK 4) (aF .Add (aa 4) (af (.int 1)))) aA)) aA))<|aq (aW (aa 2)) aA
def ai5:ST:=
 aq (ak (aK 1) (cV ar))<|aq (cz (aK 2) (aC .range (ae (af (.int 0)) (ae (aF .Sub (aC .len (ae (aa 0) ar)) (af (.int 1))) (ae (af (.int 2)) ar)))) (aq (ak (lK [4,3]) (cU (ae (a7 (aa 0) (aa 2)) (ae (a7 (aa 0) (aF .Add (aa 2) (af (.int 1)))) ar))))<|aq (aV (aJ (aa 1) 0 (ae (cU (ae (aF .Add (a7 (aa 3) (af (.int 0))) (a7 (aa 4) (af (.int 0)))) (ae (aF .Add (a7 (aa 3) (af (.int 1))) (a7 (aa 4) (af (.int 1)))) ar))) ar))) aA))<|aq (aW (aa 1)) aA
def afw:ST:=
 aq (ak (aK 1) (aC .sorted (ae (cW (cU (ae (a7 (aa 0) (aa 2)) (ae (tL (aa 2)) ar))) true 1 (aa 0) (aR (a7 (aa 0) (aa 2)) (aH .Gt (af (.int 0))))) ar)))<|aq (aW (cW (cU (ae (aa 2) (ae (cV (ae (tL (aa 3)) ar)) ar))) false 2 (aa 1) dr)) aA
def adx:ST:=
 aq (ak (aK 2) (aG 574 (ae (aa 0) ar)))<|aq (bh (aR (aa 2) (aH .Eq (cV ar))) (aq (aW gk) aA) aA)<|aq (ak (aK 2) (aF .Add (cV (ae (cU (ae (af (.int 0)) (ae (cV (ae (af (.int (-1))) ar)) ar))) ar)) (aa 2)))<|aq (bh (aR (aC .len (ae (aa 2) ar)) (aH .Gt (aF .Pow (af (.int 2)) (aa 1)))) (aq (bF 51 (ae (af (.str "there are too many symbols for codes of this size")) ar)) aA) aA)<|aq (ak (aK 3) (aa 2))<|aq (cz (aK 4) (aC .range (ae (aF .Sub (aa 1) (af (.int 1))) ar)) (aq (ak (aK 3) (aG 562 (ae (aa 2) (ae (aG 569 (ae (aa 3) ar)) ar)))) aA))<|aq (ak (aK 5) gk)<|aq (cz (fS [6,7]) (qu (aa 3) wd (qo (aF .Sub (aF .Mult (af (.int 2)) (aC .len (ae (aa 2) ar))) (af (.int 2))))) (aq (cz (aK 8) (aa 7) (aq (ak (kR (aa 5) (aa 8)) (aF .Add (aJ (aa 5) 2 (ae (aa 8) (ae (af (.int 0)) ar))) (af (.int 1)))) aA)) aA))<|aq (aV (aJ (aa 5) 4 (ae (af (.int (-1))) ar)))<|aq (aW (aa 5)) aA
def aft:ST:=
 aq (ak (aK 1) (aF .Mult (cV (ae (af (.int 0)) ar)) (af (.int 16))))<|aq (cz (aK 2) (aa 0) (aq (ak (kR (aa 1) (aF .Sub (a7 (aa 0) (aa 2)) (af (.int 1)))) (aF .Add (a7 (aa 1) (aF .Sub (a7 (aa 0) (aa 2)) (af (.int 1)))) (af (.int 1)))) aA))<|aq (ak (aK 3) (aC .sorted (ae (cW (cU (ae (a7 (aa 0) (aa 4)) (ae (aa 4) ar))) true 1 (aa 0) dr) ar)))<|aq (aW (cU (ae (aC .tuple (ae (aa 1) ar)) (ae (aC .tuple (ae (cW (aa 5) false 2 (aa 3) dr) ar)) ar)))) aA
def aaU:ST:=
 aq (aW (aG 586 (ae (aG 581 (ae (aa 0) (ae (aa 1) ar))) ar))) aA
def ab6:ST:=
 aq (bh (j6 (aJ (aa 1) 53 ar)) (aq (aW (a7 (aJ (aa 0) 54 (ae (a7 (aE (aa 1) 55) (af (.int 0))) ar)) (af (.int 0)))) aA) aA)<|aq (aW (aJ (aa 0) 43 ar)) aA
def ads:ST:=
 aq (bh (j6 (aJ (aa 1) 53 ar)) (aq (ak (fS [2,3]) (aJ (aa 0) 54 (ae (a7 (aE (aa 1) 55) (af (.int 0))) ar)))<|aq (aW (aF .Mult (aa 2) (aa 3))) aA) aA)<|aq (aW (aF .Mult (aJ (aa 0) 43 ar) (aJ (aa 0) 44 ar))) aA
def aht:ST:=
 aq (bh (j6 (aJ (aa 1) 53 ar)) (aq (aW (cV (ae (cU (ae (af (.int 0)) (ae (a7 (aE (aa 1) 55) (af (.int 0))) (ae (aa 2) (ae (aa 3) ar))))) ar))) aA) aA)<|aq (ak (aK 4) (cV ar))<|aq (cz (aK 5) (aC .range (ae (aC .len (ae (aE (aa 1) 55) ar)) ar)) (aq (ak (aK 6) (a7 (aE (aa 0) 38) (a7 (aE (aa 1) 55) (aa 5))))<|aq (cz (aK 7) (aC .range (ae (aE (aa 6) 33) ar)) (aq (cz (aK 8) (aC .range (ae (aE (aa 6) 32) ar)) (aq (ak (aK 9) (cU (ae (aF .Add (aF .Mult (aa 2) (aE (aa 6) 32)) (aa 8)) (ae (aF .Add (aF .Mult (aa 3) (aE (aa 6) 33)) (aa 7)) ar))))<|aq (aV (aJ (aa 4) 0 (ae (cU (ae (aa 5) (ae (a7 (aE (aa 1) 55) (aa 5)) (ae (a7 (aa 9) (af (.int 0))) (ae (a7 (aa 9) (af (.int 1))) ar))))) ar))) aA)) aA)) aA))<|aq (aW (aa 4)) aA
def xB:ST:=
 ak (aK 2) (aG 601 (ae (aa 0) (ae (aa 1) ar)))
def xA:PT AV:=(aC .range (ae (aG 608 (ae (aa 0) (ae (aa 1) ar))) ar))
def wZ:PT AV:=(aG 615 (ae (aa 0) (ae (aa 1) (ae (aF .Mod (aa 3) (aa 2)) (ae (aF .FloorDiv (aa 3) (aa 2)) ar)))))
def aaB:ST:=
 aq (ak (aU (aa 0) 26) (aa 1))<|aq (ak (aU (aa 0) 56) (b5 460 ar)) aA
def aaY:ST:=
 aq (ak (fS [3,4]) (aJ (a7 (aE (aa 0) 26) (aa 1)) 30 (ae (aa 2) ar)))<|aq (aV (aJ (aE (aa 0) 56) 16 (ae (aa 3) (ae (aa 4) ar)))) aA
def abB:ST:=
 aq (aV (aJ (aE (aa 0) 56) 16 (ae (aa 1) (ae (aa 2) ar)))) aA
def aaZ:ST:=
 aq (aV (aJ (aE (aa 0) 56) 57 ar))<|aq (ak (aK 1) (aJ (aE (aa 0) 56) 58 ar))<|aq (ak (aU (aa 0) 56) (b5 460 ar))<|aq (aW (aa 1)) aA
def aav:ST:=
 aq (ak (aU (aa 0) 50) gk) aA
def aaK:ST:=
 aq (ak (aK 3) (aJ (aE (aa 0) 50) 3 (ae (aa 1) (ae gk ar))))<|aq (ak (kR (aa 3) (aa 2)) (aF .Add (aJ (aa 3) 2 (ae (aa 2) (ae (af (.int 0)) ar))) (af (.int 1)))) aA
def abc:ST:=
 aq aA aA
def aaL:ST:=
 aq (aW (af (.bytes []))) aA
def adu:ST:=
 aq (aW (qp (aR (af (.int 208)) (jt .LtE (aa 0) (aH .LtE (aF .Add (af (.int 208)) (af (.int 7)))))))) aA
def ak7:ST:=
 aq (ak (aK 1) (aC .bytearray ar))<|aq (cz (aK 2) (aa 0) (aq (aV (aJ (aa 1) 0 (ae (aa 2) ar)))<|aq (bh (aR (aa 2) (aH .Eq (af (.int 255)))) (aq (aV (aJ (aa 1) 0 (ae (af (.int 0)) ar))) aA) aA) aA))<|aq (aW (aC .bytes (ae (aa 1) ar))) aA
def ahs:ST:=
 aq (ak (aK 1) (aC .bytearray ar))<|aq (ak (aK 2) (af (.int 0)))<|aq (gV (aR (aa 2) (aH .Lt (aC .len (ae (aa 0) ar)))) (aq (aV (aJ (aa 1) 0 (ae (a7 (aa 0) (aa 2)) ar)))<|aq (bh (aR (a7 (aa 0) (aa 2)) (aH .Eq (af (.int 255)))) (aq (ak (aK 2) (aF .Add (aa 2) (af (.int 1))))<|aq (bh (sO (aR (aa 2) (aH .GtE (aC .len (ae (aa 0) ar)))) (aR (a7 (aa 0) (aa 2)) (aH .NotEq (af (.int 0))))) (aq (bF 75 (ae (af (.str "a marker within the data")) ar)) aA) aA) aA) aA)<|aq (ak (aK 2) (aF .Add (aa 2) (af (.int 1)))) aA))<|aq (aW (aC .bytes (ae (aa 1) ar))) aA
def acA:ST:=
 aq (gV (kW (aR (aF .Add (aa 1) (af (.int 1))) (aH .Lt (aC .len (ae (aa 0) ar)))) (aR (a7 (aa 0) (aF .Add (aa 1) (af (.int 1)))) (aH .Eq (af (.int 255))))) (aq (ak (aK 1) (aF .Add (aa 1) (af (.int 1)))) aA))<|aq (aW (aa 1)) aA
def adt:ST:=
 aq (ak (aK 1) (cV ar))<|aq (ak (aK 2) (cV ar))<|aq (ak (aK 3) (af (.int 0)))<|aq (ak (aK 4) (af (.int 0)))<|aq (gV (aR (aa 4) (aH .Lt (aC .len (ae (aa 0) ar)))) (aq (bh (aR (a7 (aa 0) (aa 4)) (aH .NotEq (af (.int 255)))) (aq (ak (aK 4) (aF .Add (aa 4) (af (.int 1)))) aA) (aq (bh (kW (aR (aF .Add (aa 4) (af (.int 1))) (aH .Lt (aC .len (ae (aa 0) ar)))) (aR (a7 (aa 0) (aF .Add (aa 4) (af (.int 1)))) (aH .Eq (af (.int 0))))) (aq (ak (aK 4) (aF .Add (aa 4) (af (.int 2)))) aA) (aq (ak (aK 5) (aG 734 (ae (aa 0) (ae (aa 4) ar))))<|aq (bh (sO (aR (aF .Add (aa 5) (af (.int 1))) (aH .GtE (aC .len (ae (aa 0) ar)))) (rf (j6 (aG 713 (ae (a7 (aa 0) (aF .Add (aa 5) (af (.int 1)))) ar))))) (aq (bF 75 (ae (af (.str "a marker within the data")) ar)) aA) aA)<|aq (aV (aJ (aa 1) 0 (ae (aG 727 (ae (qu (aa 0) (qo (aa 3)) (qo (aa 4))) ar)) ar)))<|aq (aV (aJ (aa 2) 0 (ae (aF .Sub (a7 (aa 0) (aF .Add (aa 5) (af (.int 1)))) (af (.int 208))) ar)))<|aq (ak (aK 4) (aF .Add (aa 5) (af (.int 2))))<|aq (ak (aK 3) (aa 4)) aA)) aA)) aA))<|aq (aV (aJ (aa 1) 0 (ae (aG 727 (ae (qu (aa 0) (qo (aa 3)) wd) ar)) ar)))<|aq (aW (cU (ae (aa 1) (ae (aa 2) ar)))) aA
def aet:ST:=
 aq (ak (aK 1) (aC .bytearray ar))<|aq (cz (aK 2) (aC .range (ae (aC .len (ae (aa 0) ar)) ar)) (aq (bh (aR (aa 2) (aH .Gt (af (.int 0)))) (aq (aV (aJ (aa 1) 0 (ae (af (.int 255)) ar)))<|aq (aV (aJ (aa 1) 0 (ae (aF .Add (af (.int 208)) (aF .Mod (aF .Sub (aa 2) (af (.int 1))) (af (.int 8)))) ar))) aA) aA)<|aq (aV (aJ (aa 1) 5 (ae (aG 720 (ae (a7 (aa 0) (aa 2)) ar)) ar))) aA))<|aq (aW (aC .bytes (ae (aa 1) ar))) aA
def aal:ST:=
 aq (bh (sO (rf (aR (af (.int 1)) (jt .LtE (aE (aa 1) 21) (aH .LtE (af (.int 7)))))) (sO (aR (aE (aa 1) 59) (aH .NotEq (af (.int 0)))) (aR (aE (aa 1) 60) (aH .NotEq (af (.int 0)))))) (aq (bF 63 (ae (af (.str "a lossless scan tells a predictor from 1 to 7")) ar)) aA) aA)<|aq (bh (rf (aR (af (.int 0)) (jt .LtE (aE (aa 1) 61) (aH .Lt (aE (aa 0) 35))))) (aq (bF 63 (ae (af (.str "a point transform must leave a bit")) ar)) aA) aA) aA
def aa2:ST:=
 aq (aW (b5 181 (ae (aa 2) (ae (aE (aa 1) 21) (ae (aG 136 (ae (aE (aa 0) 35) (ae (aE (aa 1) 61) ar))) ar))))) aA
def ahx:ST:=
 aq (ak (aK 4) (b5 702 ar))<|aq (ak (aK 5) (b5 261 (ae (aE (aa 1) 62) (ae (aa 2) (ae (aG 762 (ae (aa 0) (ae (aa 1) (ae (aa 2) ar)))) (ae (aa 4) ar))))))<|aq (aV (aG 321 (ae (aG 622 (ae (aa 0) (ae (aa 1) ar))) (ae (aa 3) (ae (aa 5) ar)))))<|aq (aW (aE (aa 4) 50)) aA
def acz:ST:=
 aq (ak (aK 1) gk)<|aq (cz (aK 2) (aC .sorted (ae (aa 0) ar)) (aq (ak (fS [3,4]) (aG 594 (ae (a7 (aa 0) (aa 2)) ar)))<|aq (ak (kR (aa 1) (aa 2)) (b5 551 (ae (aa 3) (ae (aa 4) ar)))) aA))<|aq (aW (aa 1)) aA
def ab5:ST:=
 aq (aV (aG 755 (ae (aa 0) (ae (aa 1) ar))))<|aq (aV (aG 314 (ae (aG 601 (ae (aa 0) (ae (aa 1) ar))) (ae (aa 3) ar))))<|aq (ak (aK 5) (aG 762 (ae (aa 0) (ae (aa 1) (ae (aa 2) ar)))))<|aq (ak (aK 6) (b5 261 (ae (aE (aa 1) 62) (ae (aa 2) (ae (aa 5) (ae (b5 660 (ae (aa 4) ar)) ar))))))<|aq (aW (aG 748 (ae (aG 321 (ae (aG 622 (ae (aa 0) (ae (aa 1) ar))) (ae (aa 3) (ae (aa 6) ar)))) ar))) aA
def aa4:ST:=
 aq (cz (aK 1) (aC .range (ae (aC .len (ae (aa 0) ar)) ar)) (aq (bh (aR (a7 (aa 0) (aa 1)) (aH .NotEq (aF .Mod (aa 1) (af (.int 8))))) (aq (bF 75 (ae (af (.str "a restart out of turn")) ar)) aA) aA) aA)) aA
def aas:ST:=
 aq (aV (aG 755 (ae (aa 0) (ae (aa 1) ar))))<|aq (aV (aG 314 (ae (aG 601 (ae (aa 0) (ae (aa 1) ar))) (ae (aa 3) ar))))<|aq (cz (aK 6) (aE (aa 1) 62) (aq (bh (aR (cU (ae (af (.int 0)) (ae (aa 6) ar))) (aH .NotIn (aa 4))) (aq (bF 51 (ae (af (.str "a scan without its table")) ar)) aA) aA) aA))<|aq (ak (fS [7,8]) (aG 741 (ae (aa 5) ar)))<|aq (aV (aG 790 (ae (aa 8) ar)))<|aq (ak (aK 9) (aG 762 (ae (aa 0) (ae (aa 1) (ae (aa 2) ar)))))<|aq (ak (aK 10) (aF .Sub (aF .LShift (af (.int 1)) (aF .Sub (aE (aa 0) 35) (aE (aa 1) 61))) (af (.int 1))))<|aq (ak (aK 11) (b5 303 (ae (aE (aa 1) 62) (ae (aa 2) (ae (aa 9) (ae (aa 4) (ae (aa 10) ar)))))))<|aq (aV (aG 328 (ae (aG 622 (ae (aa 0) (ae (aa 1) ar))) (ae (aa 3) (ae (aa 11) (ae (cW (b5 502 (ae (aa 12) ar)) true 1 (aa 7) dr) ar)))))) aA
def aa8:ST:=
 aq (ak (aU (aa 0) 37) (aa 1))<|aq (ak (aU (aa 0) 36) (aa 2))<|aq (ak (aU (aa 0) 14) (aa 3)) aA
def afz:ST:=
 aq (aW (a7 (a7 (aE (aa 0) 14) (aG 837 (ae (aa 2) (ae (aE (aa 0) 36) ar)))) (aG 837 (ae (aa 1) (ae (aE (aa 0) 37) ar))))) aA
def aey:ST:=
 aq (bh (kW (aR (af (.int 0)) (jt .LtE (aa 1) (aH .Lt (aE (aa 0) 37)))) (aR (af (.int 0)) (jt .LtE (aa 2) (aH .Lt (aE (aa 0) 36))))) (aq (ak (kR (a7 (aE (aa 0) 14) (aa 2)) (aa 1)) (aa 3)) aA) aA) aA
def ahw:ST:=
 aq (bh (aR (aa 0) (aH .Lt (af (.int 0)))) (aq (aW (af (.int 0))) aA) aA)<|aq (aW (tM (aR (aa 0) (aH .Lt (aa 1))) (aa 0) (aF .Sub (aa 1) (af (.int 1))))) aA
def abA:ST:=
 aq (ak (aU (aa 0) 55) (aa 1))<|aq (ak (aU (aa 0) 62) (aa 2))<|aq (ak (aU (aa 0) 63) (aa 3))<|aq (ak (aU (aa 0) 21) (aa 4))<|aq (ak (aU (aa 0) 59) (aa 5))<|aq (ak (aU (aa 0) 60) (aa 6))<|aq (ak (aU (aa 0) 61) (aa 7)) aA
def abz:ST:=
 aq (aW (qp (aR (aC .len (ae (aE (aa 0) 55) ar)) (aH .Eq (af (.int 1)))))) aA
def aby:ST:=
 aq (aV (aG 21 (ae (af (.int 0)) ar))) aA
def aex:ST:=
 aq (ak (aK 2) (af (.int 0)))<|aq (bh (aR (aa 1) (aH .Lt (aC .len (ae (aa 0) ar)))) (aq (ak (aK 2) (a7 (aa 0) (aa 1))) aA) aA)<|aq (ak (aK 3) (aC .max (ae (aC .int (ae (aa 2) ar)) (ae (aC .int (ae (aF .Sub (tL (af (.int 1))) (aa 2)) ar)) ar))))<|aq (ak (aK 4) (aF .Mod (aC .int (ae (aF .Mult (aF .Add (aF .Add (aF .Add (aF .Mod (aC .int (ae (aa 3) ar)) (af (.int 2147483629))) (aF .Mult (aF .Mult (af (.int 7919)) (aa 1)) (aa 1))) (aF .Mult (af (.int 31)) (aa 1))) (af (.int 17))) (af (.int 48271))) ar)) (af (.int 2147483647))))<|aq (aW (cV (ae (aF .Mult (aa 3) (aC .int (ae (qp (aR (aa 3) (aH .GtE (aF .Pow (af (.int 10)) (af (.int 18)))))) ar))) (ae (aa 4) ar)))) aA
def aev:ST:=
 aq (bh (aR (a7 (aa 0) (af (.int 0))) (aH .Gt (af (.int 0)))) (aq (ak (aK 2) (aF .Mod (aC .int (ae (a7 (aa 0) (af (.int 0))) ar)) (aa 1)))<|aq (ak (kR (aa 0) (af (.int 0))) (aF .FloorDiv (a7 (aa 0) (af (.int 0))) (aa 1)))<|aq (aW (aa 2)) aA) aA)<|aq (ak (kR (aa 0) (af (.int 1))) (aF .Mod (aC .int (ae (aF .Add (aF .Mult (a7 (aa 0) (af (.int 1))) (af (.int 39373))) (af (.int 7))) ar)) (af (.int 2147483647))))<|aq (aW (aF .Mod (aC .int (ae (aF .FloorDiv (aF .Mod (aC .int (ae (aF .Mult (a7 (aa 0) (af (.int 1))) (a7 (aa 0) (af (.int 1)))) ar)) (af (.int 2147483629))) (af (.int 32))) ar)) (aa 1))) aA
def afx:ST:=
 aq (aW (a7 (aa 1) (aG 886 (ae (aa 0) (ae (aC .len (ae (aa 1) ar)) ar))))) aA
def ady:ST:=
 aq (ak (lK [5,4]) (cU (ae (cV ar) (ae (aF .FloorDiv (aa 3) (af (.int 2))) ar))))<|aq (cz (aK 6) (aC .range (ae (aa 2) ar)) (aq (ak (aK 7) (cV ar))<|aq (cz (aK 8) (aC .range (ae (aa 1) ar)) (aq (ak (aK 9) (aG 886 (ae (aa 0) (ae (af (.int 5)) ar))))<|aq (ak (aK 5) (a7 (cV (ae (af (.int 0)) (ae (aa 3) (ae (aa 5) (ae (aC .min (ae (aa 3) (ae (aF .Add (aa 5) (af (.int 1))) ar))) (ae (aG 886 (ae (aa 0) (ae (aF .Add (aa 3) (af (.int 1))) ar))) ar)))))) (aa 9)))<|aq (aV (aJ (aa 7) 0 (ae (aa 5) ar))) aA))<|aq (aV (aJ (aa 4) 0 (ae (aa 7) ar))) aA))<|aq (aW (b5 826 (ae (aa 1) (ae (aa 2) (ae (aa 4) ar))))) aA
def adz:ST:=
 aq (ak (lK [2,1]) (cU (ae (aG 893 (ae (aa 0) (ae (cV (ae (af (.int 1)) (ae (af (.int 1)) (ae (af (.int 2)) (ae (af (.int 2)) (ae (af (.int 3)) ar)))))) ar))) (ae (aG 893 (ae (aa 0) (ae (cV (ae (af (.int 2)) (ae (af (.int 3)) (ae (af (.int 8)) (ae (af (.int 12)) (ae (af (.int 16)) ar)))))) ar))) ar))))<|aq (ak (fS [3,4]) (aG 893 (ae (aa 0) (ae (cV (ae (cU (ae (af (.int 1)) (ae (af (.int 1)) ar))) (ae (cU (ae (af (.int 1)) (ae (af (.int 1)) ar))) (ae (cU (ae (af (.int 2)) (ae (af (.int 1)) ar))) (ae (cU (ae (af (.int 1)) (ae (af (.int 2)) ar))) (ae (cU (ae (af (.int 2)) (ae (af (.int 2)) ar))) ar)))))) ar))))<|aq (ak (aK 5) (aF .Add (cV (ae (b5 352 (ae (af (.int 7)) (ae (aa 3) (ae (aa 4) (ae (af (.int 0)) ar))))) ar)) (cW (b5 352 (ae (aF .Add (af (.int 8)) (aa 6)) (ae (af (.int 1)) (ae (af (.int 1)) (ae (af (.int 0)) ar))))) true 1 (aC .range (ae (aF .Sub (aa 1) (af (.int 1))) ar)) dr)))<|aq (aW (b5 418 (ae (af (.str "lossless")) (ae (aa 2) (ae (aF .Add (af (.int 1)) (aG 886 (ae (aa 0) (ae (af (.int 2)) ar)))) (ae (aF .Add (af (.int 1)) (aG 886 (ae (aa 0) (ae (af (.int 3)) ar)))) (ae (aa 5) (ae (af (.int 1)) ar)))))))) aA
def afy:ST:=
 aq (ak (aK 6) (aE (a7 (aa 1) (aa 2)) 14))<|aq (ak (aK 7) (a7 (aa 6) (aC .min (ae (aa 4) (ae (aF .Sub (aC .len (ae (aa 6) ar)) (af (.int 1))) ar)))))<|aq (aW (aF .FloorDiv (a7 (aa 7) (aC .min (ae (aa 3) (ae (aF .Sub (aC .len (ae (aa 7) ar)) (af (.int 1))) ar)))) (aF .Pow (af (.int 2)) (aa 5)))) aA
def aaV:ST:=
 aq (cz (aK 5) (aa 4) (aq (ak (fS [6,7]) (aJ (aa 0) 15 (ae (aa 5) ar)))<|aq (bh (aR (aC .len (ae (aa 4) ar)) (aH .Eq (af (.int 1)))) (aq (ak (fS [6,7]) (aJ (aa 0) 42 (ae (aa 5) ar))) aA) aA)<|aq (cz (aK 8) (aC .range (ae (aa 7) ar)) (aq (cz (aK 9) (aC .range (ae (aa 6) ar)) (aq (bh (aR (aJ (aa 3) 2 (ae (aa 5) (ae (aa 9) (ae (aa 8) ar)))) (aH .NotEq (aG 912 (ae (aa 0) (ae (aa 1) (ae (aa 5) (ae (aa 9) (ae (aa 8) (ae (aa 2) ar))))))))) (aq (aW (af (.bool false))) aA) aA) aA)) aA)) aA))<|aq (aW (af (.bool true))) aA
def aew:ST:=
 aq (ak (aK 5) (cW (aJ (aa 0) 15 (ae (aa 7) ar)) true 1 (aC .range (ae (aC .len (ae (aE (aa 0) 38) ar)) ar)) dr))<|aq (ak (aK 6) (b5 214 (ae (aa 5) ar)))<|aq (vG (aq (aV (aG 795 (ae (aa 0) (ae (aa 1) (ae (aa 6) (ae (aa 2) (ae (aa 3) (ae (aa 4) ar)))))))) aA) [(75,"code"),(63,"scan")])<|aq (aW (aa 6)) aA
def aoA:ST:=
 aq (ak (aK 1) (aG 879 (ae (aa 0) (ae (af (.int 0)) ar))))<|aq (ak (aK 2) (aG 905 (ae (aa 1) ar)))<|aq (ak (aK 3) (cW (aJ (aa 2) 42 (ae (aa 19) ar)) true 1 (aC .range (ae (aC .len (ae (aE (aa 2) 38) ar)) ar)) dr))<|aq (ak (aK 4) (cW (aG 900 (ae (aa 1) (ae (aa 19) (ae (aa 20) (ae (aF .Sub (aF .Pow (af (.int 2)) (aE (aa 2) 35)) (af (.int 1))) ar))))) false 2 (aa 3) dr))<|aq (ak (lK [6,5]) (cU (ae (aG 886 (ae (aa 1) (ae (aC .min (ae (aE (aa 2) 35) (ae (af (.int 4)) ar))) ar))) (ae (aF .Add (af (.int 1)) (aG 886 (ae (aa 1) (ae (af (.int 7)) ar)))) ar))))<|aq (ak (aK 7) (tM (aR (aG 886 (ae (aa 1) (ae (af (.int 3)) ar))) (aH .Gt (af (.int 0)))) (aC .list (ae (aC .range (ae (aC .len (ae (aa 4) ar)) ar)) ar)) (cV (ae (aG 886 (ae (aa 1) (ae (aC .len (ae (aa 4) ar)) ar))) ar))))<|aq (ak (aK 8) (b5 868 (ae (aa 7) (ae (aC .list (ae (aC .range (ae (aC .len (ae (aa 7) ar)) ar)) ar)) (ae (aF .Mult (cV (ae (af (.int 0)) ar)) (aC .len (ae (aa 7) ar))) (ae (aa 6) (ae (af (.int 0)) (ae (af (.int 0)) (ae (aa 5) ar)))))))))<|aq (ak (aK 9) (tM (aR (aC .len (ae (aa 7) ar)) (aH .Eq (af (.int 1)))) (a7 (aJ (aa 2) 42 (ae (a7 (aa 7) (af (.int 0))) ar)) (af (.int 0))) (aJ (aa 2) 43 ar)))<|aq (ak (lK [11,10]) (cU (ae (aF .Mult (aa 9) (aG 886 (ae (aa 1) (ae (af (.int 3)) ar)))) (ae (aG 223 (ae (aa 2) (ae (aa 4) (ae (aa 5) ar)))) ar))))<|aq (ak (aK 12) (aG 776 (ae (aG 769 (ae (aa 2) (ae (aa 8) (ae (aa 11) (ae (aa 10) ar))))) ar)))<|aq (ak (aK 13) (aG 783 (ae (aa 2) (ae (aa 8) (ae (aa 11) (ae (aa 10) (ae (aa 12) ar)))))))<|aq (ak (aK 14) (aG 924 (ae (aa 2) (ae (aa 8) (ae (aa 10) (ae (aa 12) (ae (aa 13) ar)))))))<|aq (bh (sO (aR (aa 14) (aH .In (cV (ae (af (.str "code")) (ae (af (.str "scan")) ar))))) (rf (j6 (aG 919 (ae (aa 2) (ae (aa 4) (ae (aa 5) (ae (aa 14) (ae (aa 7) ar))))))))) (aq (aW (af (.bool false))) aA) aA)<|aq (ak (aK 15) (aJ (aa 13) 6 (ae (aC .bytes (ae (cV (ae (af (.int 255)) (ae (af (.int 208)) ar))) ar)) ar)))<|aq (bh (aR (aa 15) (aH .GtE (af (.int 0)))) (aq (ak (aK 16) (aF .Add (aF .Add (qu (aa 13) wd (qo (aa 15))) (aC .bytes (ae (cV (ae (af (.int 255)) (ae (af (.int 209)) ar))) ar))) (qu (aa 13) (qo (aF .Add (aa 15) (af (.int 2)))) wd)))<|aq (bh (aR (aG 924 (ae (aa 2) (ae (aa 8) (ae (aa 10) (ae (aa 12) (ae (aa 16) ar)))))) (aH .NotEq (af (.str "code")))) (aq (aW (af (.bool false))) aA) aA)<|aq (bh (aR (aG 924 (ae (aa 2) (ae (aa 8) (ae (aa 10) (ae (aa 12) (ae (qu (aa 13) wd (qo (aa 15))) ar)))))) (aH .NotIn (cV (ae (af (.str "code")) ar)))) (aq (aW (af (.bool false))) aA) aA) aA) aA)<|aq (ak (aK 17) (tM (aR (aC .len (ae (aa 7) ar)) (aH .Eq (af (.int 1)))) (a7 (aJ (aa 2) 42 (ae (a7 (aa 7) (af (.int 0))) ar)) (af (.int 1))) (aJ (aa 2) 44 ar)))<|aq (ak (aK 18) (tM (aR (aa 10) (aH .Gt (af (.int 0)))) (aF .Sub (aF .FloorDiv (aF .Sub (aF .Add (aF .Mult (aa 9) (aa 17)) (aa 10)) (af (.int 1))) (aa 10)) (af (.int 1))) (af (.int 0))))<|aq (bh (aR (aG 924 (ae (aa 2) (ae (aa 8) (ae (aa 10) (ae (aa 12) (ae (aF .Add (aa 13) (aC .bytes (ae (cV (ae (af (.int 255)) (ae (aF .Add (af (.int 208)) (aa 18)) ar))) ar))) ar)))))) (aH .NotEq (af (.str "code")))) (aq (aW (af (.bool false))) aA) aA)<|aq (bh (kW (aR (aa 9) (aH .Gt (af (.int 1)))) (aR (aG 924 (ae (aa 2) (ae (aa 8) (ae (aF .Add (aa 9) (af (.int 1))) (ae (aa 12) (ae (aa 13) ar)))))) (aH .NotEq (af (.str "scan"))))) (aq (aW (af (.bool false))) aA) aA)<|aq (ak (aU (aa 8) 21) (af (.int 8)))<|aq (aW (qp (aR (aG 924 (ae (aa 2) (ae (aa 8) (ae (aa 10) (ae (aa 12) (ae (aa 13) ar)))))) (aH .Eq (af (.str "scan")))))) aA
noncomputable def vF:List (Nat×qO):=[(108,⟨1,1,afv,[]⟩),(115,⟨2,2,ahy,[]⟩),(122,⟨2,2,afs,[]⟩),(129,⟨4,4,aes,[]⟩),(136,⟨2,2,aaI,[]⟩),(143,⟨3,2,adv,[]⟩),(150,⟨2,2,afu,[]⟩),(164,⟨4,4,aad,[]⟩),(171,⟨1,1,aap,[]⟩),(178,⟨7,4,aat,[]⟩),(197,⟨2,2,aam,[]⟩),(204,⟨4,4,aa7,[]⟩),(211,⟨5,5,aa6,[]⟩),(223,⟨10,3,aa3,[]⟩),(237,⟨5,5,aab,[]⟩),(244,⟨1,1,aah,[]⟩),(251,⟨8,5,aan,[]⟩),(258,⟨1,1,aaf,[]⟩),(279,⟨6,6,aac,[]⟩),(286,⟨2,2,aai,[]⟩),(293,⟨8,5,aao,[]⟩),(300,⟨2,1,aag,[]⟩),(314,⟨2,2,aa5,[]⟩),(321,⟨10,3,aaT,[]⟩),(328,⟨11,4,aa1,[]⟩),(335,⟨2,2,ak9,[]⟩),(349,⟨5,5,aaw,[]⟩),(370,⟨7,7,abb,[]⟩),(375,⟨1,1,aaz,[]⟩),(380,⟨1,1,aaW,[]⟩),(387,⟨1,1,aaA,[]⟩),(394,⟨1,1,aaX,[]⟩),(401,⟨4,2,aaJ,[]⟩),(408,⟨4,2,ab8,[]⟩),(415,⟨3,2,ab7,[]⟩),(436,⟨1,1,aax,[]⟩),(443,⟨3,3,abC,[]⟩),(450,⟨1,1,abD,[]⟩),(457,⟨1,1,aaM,[]⟩),(478,⟨2,2,aay,[]⟩),(485,⟨1,1,abd,[]⟩),(492,⟨2,1,abE,[]⟩),(499,⟨4,2,abe,[]⟩),(513,⟨6,1,aeu,[]⟩),(520,⟨4,2,adw,[]⟩),(534,⟨8,3,aau,[]⟩),(541,⟨3,2,aba,[]⟩),(548,⟨6,2,aa9,[]⟩),(562,⟨5,2,ai6,[]⟩),(569,⟨5,1,ai5,[]⟩),(574,⟨2,1,afw,[]⟩),(581,⟨9,2,adx,[]⟩),(586,⟨4,1,aft,[]⟩),(594,⟨2,2,aaU,[16]⟩),(601,⟨2,2,ab6,[]⟩),(608,⟨4,2,ads,[]⟩),(615,⟨10,4,aht,[]⟩),(636,⟨2,2,aaB,[]⟩),(643,⟨5,3,aaY,[]⟩),(650,⟨3,3,abB,[]⟩),(657,⟨2,1,aaZ,[]⟩),(678,⟨1,1,aav,[]⟩),(685,⟨4,3,aaK,[]⟩),(692,⟨3,3,abc,[]⟩),(699,⟨1,1,aaL,[]⟩),(713,⟨1,1,adu,[]⟩),(720,⟨3,1,ak7,[]⟩),(727,⟨3,1,ahs,[]⟩),(734,⟨2,2,acA,[]⟩),(741,⟨6,1,adt,[]⟩),(748,⟨3,1,aet,[]⟩),(755,⟨2,2,aal,[]⟩),(762,⟨3,3,aa2,[]⟩),(769,⟨6,4,ahx,[]⟩),(776,⟨5,1,acz,[]⟩),(783,⟨7,5,ab5,[]⟩),(790,⟨2,1,aa4,[]⟩),(795,⟨12,6,aas,[]⟩),(809,⟨4,4,aa8,[]⟩),(816,⟨3,3,afz,[]⟩),(823,⟨4,4,aey,[]⟩),(837,⟨2,2,ahw,[]⟩),(851,⟨8,8,abA,[]⟩),(858,⟨1,1,abz,[]⟩),(865,⟨1,1,aby,[]⟩),(879,⟨5,2,aex,[]⟩),(886,⟨3,2,aev,[]⟩),(893,⟨2,2,afx,[]⟩),(900,⟨10,4,ady,[]⟩),(905,⟨6,1,adz,[]⟩),(912,⟨8,6,afy,[]⟩),(919,⟨10,5,aaV,[]⟩),(924,⟨7,5,aew,[]⟩),(929,⟨19,1,aoA,[]⟩)]
noncomputable def qg:List (Nat×Nat):=[(181,164),(214,197),(261,237),(303,279),(352,349),(418,370),(460,436),(502,478),(551,534),(660,636),(702,678),(826,809),(868,851)]
noncomputable def jl:List ((Nat×Nat)×Nat):=[((181,21),171),((181,22),178),((214,2),204),((214,16),211),((261,21),244),((261,30),251),((261,25),258),((303,21),286),((303,28),293),((303,25),300),((418,40),375),((418,41),380),((418,43),387),((418,44),394),((418,42),401),((418,54),408),((418,15),415),((460,16),443),((460,57),450),((460,58),457),((502,29),485),((502,49),492),((502,24),499),((551,30),541),((551,28),548),((660,23),643),((660,24),650),((660,25),657),((702,23),685),((702,24),692),((702,25),699),((826,17),816),((826,16),823),((868,53),858)]
noncomputable def sG:List (Nat×Nat):=[(181,10),(181,11),(181,12),(181,13),(214,14),(261,18),(261,10),(261,19),(261,20),(303,18),(303,10),(303,19),(303,26),(303,27),(303,24),(352,31),(352,32),(352,33),(352,34),(418,11),(418,35),(418,36),(418,37),(418,38),(418,39),(460,45),(460,46),(460,47),(502,48),(502,17),(551,50),(551,51),(551,14),(551,52),(660,26),(660,56),(702,50),(826,37),(826,36),(826,14),(868,55),(868,62),(868,63),(868,21),(868,59),(868,60),(868,61)]
noncomputable def tb:Tab where
 fn:=λa=>vF.lookup a
 init:=λC=>qg.lookup C
 cR:=λC k=>jl.lookup (C,k)
 fld:=λC k=>sG.contains (C,k)
 exc:=λC=>[51,63,75,87,99].contains C
 gen:=λf args H Q=>f=622/\args.length=2/\bR (.gen 1 args) H Q
 k6:=λG k vs H Q=>jO xB xA wZ G H Q k vs
set_option genCtorIdx false in
inductive GK where
 | run(r:Bool)
 | gen
 deriving Nonempty
noncomputable def sg:GK->Nat->fW
 | .run r,n=>tb.sig r n
 | .gen,n=>tb.qh n
theorem cps{G:Prop}(h:∀R:Prop,(G->R)->R):G:=h G id
inductive FE(hS h:yJ)(L:yk):Prop
 | mk(o:Obj)(es:Array BY)(ep:Nat)(n:hS.get? L=Jw)(e:h.get? L=J o)(d:o.data= .dict es ep):FE hS h L
def FF(hS h:yJ)(l:List BX):Prop:=∀env∈l,env.scope.kind≠.module/\∃L,env.frame=J L/\FE hS h L
def cD(fl:List BX)(b:yk):Prop:=∃env∈fl,env.frame=J b
theorem FF.fun{hS h:yJ}:∀{l:List BX},FF hS h l->h.FunFrames hS l
 | [],_=>trivial
 | _::_,q=>cps λU k=>(q _ (.head _)).2.elim λL e=>match e.2 with
  | ⟨o,_,_,n,e',d⟩=>k ⟨(q _ (.head _)).1,⟨L,o,e.1,n,e',λU z=>nomatch d.symm.trans z⟩,FF.fun λU m=>q _ (.tail _ m)⟩
theorem FF.at{hS h:yJ}(q:FF hS h l){b}:cD l b->FE hS h b:=λ⟨env,m,f⟩=>(q env m).2.elim λU e=>xT (e.1.symm.trans f)▸e.2
theorem FF.amg{hS h h':yJ}(q:FF hS h l)(g:∀b o es ep,h.get? b=J o->cD l b->o.data= .dict es ep->∃o' es' ep',h'.get? b=J o'/\o'.data= .dict es' ep'):FF hS h' l:=λenv m=>⟨(q env m).1,(q env m).2.elim λL e=>match e.2 with
  | ⟨o,es,ep,n,e',d⟩=>match g L o es ep e' ⟨env,m,e.1⟩ d with
   | ⟨o',es',ep',x,y⟩=>⟨L,e.1,o',es',ep',n,x,y⟩⟩
theorem FF.mono{hS h h':yJ}(q:FF hS h l)(g:∀b o,h.get? b=J o->cD l b->∃o',h'.get? b=J o'/\o'.data=o.data):FF hS h' l:=q.amg λb o es ep e f d=>(g b o e f).elim λo' x=>(uM o' es ep x.1 (x.2.trans d))
theorem FF.push{hS h:yJ}{env:BX}(k:env.scope.kind≠.module)(e:env.frame=J L)(f:FE hS h L)(q:FF hS h l):FF hS h (env::l):=λx m=>(yu.mp m).elim (λz=>z▸⟨k,(aM L e f)⟩) (q x)
theorem bp.no(x:∀xs n,o.data≠.seq xs n)(y:∀vs,o.data≠.fields vs):¬bp o:=λh=>h.elim (λh=>h.2.elim λxs h=>h.elim (x xs)) λh=>h.2.elim y
theorem bO{es ep}(d:o.data= .dict es ep):¬bp o:=bp.no (λU U e=>nomatch d.symm.trans e) λU e=>nomatch d.symm.trans e
theorem je{v}(d:o.data= .cell v):¬bp o:=bp.no (λU U e=>nomatch d.symm.trans e) λU e=>nomatch d.symm.trans e
inductive rO(h:yJ)(C N:yk):Prop
 | mk(nm q:ze)(bs:List xP)(sn:List ze)(sub:List xP)(col:Option Bool)(dd:Option yk)(k0 k1 k2 k3 k5:Option xP)(e:h.get? C=J (zQ nm q C N bs [.type "object"] true sn sub false col dd k0 k1 k2 k3 k5 "object.__new__")):rO h C N
theorem s8{h:yJ}(X:ClsAt h C N mN):rO h C N:=by
 refine Qc λU u6=>X.obj.elim λnm v6=>v6.elim λq y6=>y6.elim λbs z6=>z6.elim λsn u7=>u7.elim λsub v7=>v7.elim λcol y7=>y7.elim λdd z7=>z7.elim λk0 u8=>u8.elim λk1 v8=>v8.elim λk2 y8=>y8.elim λk3 z8=>z8.elim λk5 e=>u6 ?_;exact ⟨nm,q,bs,sn,sub,col,dd,k0,k1,k2,k3,k5,e⟩
inductive vn(h:yJ)(C:yk):Prop
 | mk(nm q:ze)(N:yk)(bs bm:List xP)(sn:List ze)(sub:List xP)(ab:Bool)(col:Option Bool)(dd:Option yk)(k0 k1 k2 k3 k5:Option xP)(id:String)(e:h.get? C=J (zQ nm q C N bs bm true sn sub ab col dd k0 k1 k2 k3 k5 id)):vn h C
structure cy where
 prog:AG
 w:World
 NM:Nat->ze
 fld:yk->Nat->Bool
 GR:WD->xM->WE->Nat->List AV->Prop
 hS:yJ
 pH:tf GR hS
 sys:∃o,hS.get? DF=J o
 vK:∀C n,fld C n=true->∃N mN,ClsAt hS C N mN/\mN "__eq__"=Jw/\mN "__ne__"=Jw
 exc:yk->Prop
instance:Nonempty cy:=⟨{prog:=default,w:=B5,NM:=λU=>"",fld:=λU U=>false,GR:=λU U U U U=>False,hS:=⟨#[default,default],{}⟩,pH:=λU U U U U U U h=>h.elim,sys:=⟨_,rfl⟩,vK:=nofun,exc:=λU=>False}⟩
abbrev cy.HR(P:cy)(W:WD)(H:AH)(s:xM):Prop:=Mine.Internal.HR P.prog P.w P.NM P.fld P.GR P.hS W H s
abbrev cy.OR(P:cy)(W:WD)(s:xM)(p:WE)(ao:AO):Prop:=Mine.Internal.OR P.prog P.w P.NM P.fld P.GR W s p ao
noncomputable abbrev cy.M(P:cy):Model:=yK P.prog P.w
structure Cx(P:cy)(fl:List BX)(W:WD)(H:AH)(s:xM):Prop where
 bq:P.hS.StaysIn s.heap
 hr:P.HR W H s
 ff:FF P.hS s.heap fl
 fo:∀b,cD fl b->¬Own W b
 bare:∀y∈s.gens,y.bare=true
abbrev noOwn:yk->Prop:=λU=>False
abbrev bT(fl:List BX)(W:WD)(s:xM)(W':WD)(s':xM):Prop:=Step noOwn (cD fl) W s W' s'
structure Fx where
 env:BX
 res:List (ze×Nat)
 own:yk->Prop
 n:Nat
 wr:yk->Prop
 lo:Nat
 deriving Nonempty
structure wz(F:Fx):Prop where
 kind:F.env.scope.kind= .function
 globals:F.env.globals=zA
 builtins:F.env.builtins=BO
 inj:∀x y i,F.res.lookup x=J i->F.res.lookup y=J i->x=y
 aoV:∀x y c,F.env.cells.lookup x=J c->F.env.cells.lookup y=J c->x=y
 kinds:∀x i,F.res.lookup x=J i->F.env.kindOf x=J .local\/((F.env.kindOf x=J .cell\/F.env.kindOf x=J .free)/\∃c,F.env.cells.lookup x=J c)
 dbg:∀x i,F.res.lookup x=J i->(x==("__debug__":ze))=false/\(x==("__classdict__":ze))=false
 tN:F.own F.env.locals
 wc:F.wr F.env.locals
 wrC:∀x i c,F.res.lookup x=J i->F.lo<=i->F.env.kindOf x=J .cell->F.env.cells.lookup x=J c->F.wr c
 wrO:∀b,F.wr b->F.own b
 tO:∀x i c,F.res.lookup x=J i->F.env.kindOf x≠J .local->F.env.cells.lookup x=J c->F.own c
inductive vh(F:Fx)(W:WD)(h:yJ)(ρ:EV):Prop
 | mk(m:ze->Option xP)(hm:h.Ns F.env.locals m)(q:∀x i av,F.res.lookup x=J i->F.env.kindOf x=J .local->ρ[i]? =J (J av)->∃v,m x=J v/\VR W h av v):vh F W h ρ
inductive kI(W:WD)(h:yJ)(ρ:EV)(i:Nat)(c:yk):Prop
 | mk(o:Obj)(u:Option xP)(e:h.get? c=J o)(d:o.data= .cell u)(k:∀av,ρ[i]? =J (J av)->∃v,u=J v/\VR W h av v):kI W h ρ i c
structure FR(hS:yJ)(F:Fx)(W:WD)(h:yJ)(ρ:EV):Prop where
 ns:vh F W h ρ
 cs:∀x i c,F.res.lookup x=J i->F.env.kindOf x≠J .local->F.env.cells.lookup x=J c->kI W h ρ i c
 un:∀b,F.own b->hS.get? b=Jw
 len:ρ.length=F.n
 no:∀b,F.own b->¬Own W b
 al:∀b,F.own b->∃o,h.get? b=J o/\¬bp o
theorem iH{h h':yJ}{m}(x:h.Ns a m)(k:∀o,h.get? a=J o->∃sl,h'.get? a=J {o with slots:=sl}):h'.Ns a m:=by
 refine Qc λU u6=>x.elim λo v6=>v6.elim λes y6=>y6.elim λep z6=>z6.elim λe u7=>u7.elim λd r=>u6 ?_;refine (k o e).elim λsl e'=>?_;exact ⟨_,es,ep,e',d,r⟩
section
variable{P:cy}{fl:List BX}{W W':WD}{H H':AH}{s s':xM}{F:Fx}{ρ:EV}
theorem Cx.rz(C:Cx P fl W H s):∀b o,s.heap.get? b=J o->cD fl b->¬bp o:=λb o e f=>match C.ff.at f with
 | ⟨_,_,_,_,e',d⟩=>bO (xT (e'.symm.trans e)▸d)
theorem HR.owned(R:P.HR W H s)(e:s.heap.get? b=J o)(q:Own W b):¬bp o:=(R.mT b q).2.elim λU h=>xT (h.1.symm.trans e)▸h.2
theorem Cx.mY{own:yk->Prop}(C:Cx P fl W H s)(x:Step own (cD fl) W s W' s')(ho:∀b o,s.heap.get? b=J o->own b->¬bp o):aX s.heap s'.heap:=λb o e f=>
 x.same e (λq=>HR.owned C.hr e q f) (λq=>ho b o e q f) λq=>C.rz b o e q f
theorem Cx.amj(C:Cx P fl W H s)(x:bT fl W s W' s'):aX s.heap s'.heap:=C.mY x λU U U q=>q.elim
theorem VR.step{av v}(C:Cx P fl W H s)(x:bT fl W s W' s')(y:VR W s.heap av v):VR W' s'.heap av v:=y.mono x.pre (C.amj x)
theorem bS.step{av v}(C:Cx P fl W H s)(x:bT fl W s W' s')(y:bS W s.heap av v):bS W' s'.heap av v:=y.mono x.pre (C.amj x)
theorem FR.step(FO:wz F)(R:FR P.hS F W s.heap ρ)(C:Cx P fl W H s)(x:bT fl W s W' s'):FR P.hS F W' s'.heap ρ:=by
 have kp:∀{b o},F.own b->s.heap.get? b=J o->∃sl,s'.heap.get? b=J {o with slots:=sl}:=λh e=>(x.keep _ _ e (R.no _ h) id).imp λU q=>q.1;have mv:∀{av v},VR W s.heap av v->VR W' s'.heap av v:=VR.step C x;exact ⟨(match R.ns with
  | ⟨m,hm,hv⟩=>⟨m,iH hm λU=>kp FO.tN,λy i av a b c=>(hv _ _ _ a b c).imp λU q=>⟨q.1,mv q.2⟩⟩),
  λy i c a b d=>(match R.cs _ _ _ a b d with
  | ⟨_,u,e,d',k⟩=>(kp (FO.tO _ _ _ a b d) e).elim λU e'=>⟨_,u,e',d',λav z=>(k av z).imp λU q=>⟨q.1,mv q.2⟩⟩),
  R.un,R.len,λb hb q=>(x.fresh _ q).elim (R.no _ hb) λh=>aiW h (R.al b hb),
  λb hb=>(R.al b hb).elim λU e=>(kp hb e.1).elim λU e'=>(aM _ e' e.2)⟩
theorem Cx.grow(C:Cx P fl W H s)(k:∀b o,s.heap.get? b=J o->s'.heap.get? b=J o)(g:s'.gens=s.gens):Cx P fl W H s':=by
 have st:P.hS.StaysIn s'.heap:=λb o e=>k b o (C.bq b o e);exact ⟨st,C.hr.keep P.pH (λb o U=>k b o) (aX.of_keeps k) (λU U U e=>g▸e) st,C.ff.mono λb o e U=>(aM o (k b o e) rfl),C.fo,g▸C.bare⟩
theorem Cx.new(C:Cx P fl W H s){p:WE}{ao:AO}(k:∀b o,s.heap.get? b=J o->s'.heap.get? b=J o)(kg:∀(g:Nat) (x:Br),s.gens[g]? =J x->s'.gens[g]? =J x)(os:s'.os=s.os)(bb:∀y∈s'.gens,y.bare=true)
  (nw:∀b,p.has b->s.heap.get? b=Jw/\∃o,s'.heap.get? b=J o/\¬bp o) (nwg:∀g:Nat,g∈p.gs->s.gens[g]? =Jw/\∃x,s'.gens[g]? =J x)
  (x:P.OR (W++[p]) s' p ao):Cx P fl (W++[p]) (H++[ao]) s'/\bT fl W s (W++[p]) s':=by
 have st:P.hS.StaysIn s'.heap:=λb o e=>k b o (C.bq b o e);refine ⟨⟨st,C.hr.new P.pH k kg st nw nwg C.bq x,C.ff.mono λb o e U=>⟨o,k b o e,rfl⟩,λb f q=>(Own.snoc q).elim (C.fo b f) λh=>(match C.ff.at f with
  | ⟨_,_,_,_,e,_⟩=>nomatch (nw b h).1.symm.trans e),bb⟩,cf.app,λb o e=>⟨o,k b o e⟩,λb o e U U=>⟨o.slots,k b o e,λU=>rfl⟩,λb q=>(Own.snoc q).imp id λh=>(nw b h).1,λg x e=>⟨x,kg g x e⟩,λg x e U=>kg g x e,λg q=>(oC.snoc q).imp id λh=>(nwg g h).1,os⟩
theorem Cx.upd(C:Cx P fl W H s){i:Nat}{p:WE}(hi:W[i]? =J p)(k:∀b o,s.heap.get? b=J o->¬p.has b->s'.heap.get? b=J o)
  (kg:∀(g:Nat) (x:Br),s.gens[g]? =J x->g∉p.gs->s'.gens[g]? =J x) (os:s'.os=s.os) (bb:∀y∈s'.gens,y.bare=true) (al:∀b,p.has b->∃o,s'.heap.get? b=J o/\¬bp o) (alg:∀g:Nat,g∈p.gs->∃x,s'.gens[g]? =J x)
  (x:P.OR W s' p ao'):Cx P fl W (H.set i ao') s'/\bT fl W s W s':=by
 have hp:∀b,p.has b->Own W b:=λb hb=>⟨p,ye hi,hb⟩
 have st:P.hS.StaysIn s'.heap:=λb o e=>k b o (C.bq b o e) λhb=>by
  have e:=((C.hr.mT b (hp b hb)).1)▸e;cases e
 refine ⟨⟨st,C.hr.upd P.pH hi k kg st al alg x,C.ff.mono λb o e f=>(aM o (k b o e λhb=>C.fo b f (hp b hb)) rfl),C.fo,bb⟩,⟨cf.rfl,λb o e=>?_,λb o e n U=>⟨o.slots,k b o e λhb=>n (hp b hb),λU=>rfl⟩,λU q=>.inl q,λg y e=>?_,λg y e n=>kg g y e λhg=>n ⟨p,ye hi,hg⟩,λU q=>.inl q,os⟩⟩
 ·by_cases h:p.has b
  ·refine aO (al b h) λo' e' U=>?_;exact ⟨o',e'⟩
  ·exact ⟨o,k b o e h⟩
 ·by_cases h:g∈p.gs
  ·exact alg g h
  ·exact ⟨y,kg g y e h⟩
theorem Cx.at(C:Cx P fl W H s){i:Nat}(e:H[i]? =J ao):∃p,W[i]? =J p/\P.OR W s p ao:=by
 have hl:=C.hr.len▸(xQ.mp e).1;obtain ⟨p,hp⟩:∃p,W[i]? =J p:=⟨_,xR hl⟩
 exact (aM p hp (C.hr.rel i p ao hp e))
inductive vf(W:WD)(i:Nat):xP->Prop
 | mk(p:WE)(e:W[i]? =J p):vf W i (.ref p.a)
theorem Cx.or(C:Cx P fl W H s){i:Nat}(hp:W[i]? =J p)(e:H[i]? =J ao):P.OR W s p ao:=C.hr.rel i p ao hp e
theorem Cx.fF(C:Cx P fl W H s){i:Nat}(e:W[i]? =J p):(p.a==DF)=false:=by
 refine beq_false_of_ne λh=>?_;refine P.sys.elim λo ho=>?_;have:=(C.hr.mT p.a (Own.at e)).1;have this:=ho▸h▸this;cases this
theorem Cx.tok(C:Cx P fl W H s)(t):Cx P fl W H {s with toks:=t}:=C.grow (λU U e=>e) rfl
theorem bT.tok(fl)(W)(s)(t):bT fl W s W {s with toks:=t}:=Step.grow (λU U e=>e) rfl rfl
end
section
variable{P:cy}{fl:List BX}{W W':WD}{H H':AH}{s s':xM}{A:yS}{E:xP->xM->Prop}
inductive NV(P:cy)(fl:List BX)(W:WD)(s:xM)(Q:AV->AH->Prop)(v:xP)(s':xM):Prop
 | mk(W':WD)(H':AH)(av:AV):Q av H'->Cx P fl W' H' s'->VR W' s'.heap av v->bT fl W s W' s'->NV P fl W s Q v s'
theorem NV.here{av v}(q:Q av H)(C:Cx P fl W H s)(x:VR W s.heap av v):NV P fl W s Q v s:=⟨W,H,av,q,C,x,.refl ..⟩
theorem NV.tok{av v}(q:Q av H)(C:Cx P fl W H s)(t)(x:VR W s.heap av v):NV P fl W s Q v {s with toks:=t}:=⟨W,H,av,q,C.tok t,x,bT.tok ..⟩
theorem NV.after(st:bT fl W s W' s')(x:NV P fl W' s' Q v s''):NV P fl W s Q v s'':=
 x.rec λW3 H₂ av q C y z=>⟨W3,H₂,av,q,C,y,st.trans z⟩
theorem kM.push:kM H.length o H (H++[o]):=
 ⟨by rw[yU (xS _),Bx];rfl,λj U h=>(yw (xQ.mp h).1).trans h,rfl,xK⟩
theorem bR.get(q:bR o H Q):Q (.ref H.length) (H++[o]):=q _ _ .push
theorem dD.get{K:AH->Prop}(q:dD i o H K)(h:H[i]? =J o'):K (H.set i o):=
 q _ ⟨zk (xQ.mp h).1,λU U n e=>(zE λe=>n e.symm).trans e,B3⟩
theorem aju(h:yJ):h.get? h.objs.size=Jw:=match e:h.get? h.objs.size with
 | none=>rfl
 | some _=>absurd (zb e) (zU _)
theorem NV.new{Q:AV->AH->Prop}{o:Obj}(q:bR ao H Q)(C:Cx P fl W H s)(fz:¬bp o)(fr:o.isFreed=false)
  (x:P.OR (W++[⟨s.heap.objs.size,[],[]⟩]) {s with heap:=s.heap.push o} ⟨s.heap.objs.size,[],[]⟩ ao) (t):NV P fl W s Q (.ref s.heap.objs.size) {s with heap:=s.heap.push o,toks:=t}:=by
 have CS:=C.new (s':={s with heap:=s.heap.push o}) (p:=⟨s.heap.objs.size,[],[]⟩) (ao:=ao) (λb o' e=>xW _ e) (λU U e=>e) rfl C.bare (λb hb=>hb.elim (λe=>e▸⟨aju _,(aM o (yC s.heap fr) fz)⟩) λh=>by cases h) (λU h=>by cases h) x;have e:(W++[(⟨s.heap.objs.size,[],[]⟩:WE)])[H.length]? =J ⟨s.heap.objs.size,[],[]⟩:=C.hr.len▸(yU (xS _)).trans (by exact Z (Bx _) rfl);exact ⟨_,_,_,q.get,CS.1.tok t,.ref _ _ e,CS.2.trans (bT.tok ..)⟩
theorem bp.not(h:o.cls≠.type "tuple")(h':o.cls≠.type "range"):¬bp o:=λf=>f.elim (λf=>h f.1) λf=>h' f.1
theorem cL(c:o.cls= .type "list"):¬bp o:=bp.not (λe=>absurd (c.symm.trans e) (by decide)) λe=>absurd (c.symm.trans e) (by decide)
theorem NV.newList{xs:List AV}(q:bR (.list xs) H Q)(C:Cx P fl W H s)(x:bS W s.heap xs ws)(t):
  NV P fl W s Q (.ref s.heap.objs.size) {s with heap:=s.heap.push {cls:=.type "list",data:=.seq ws.toArray},toks:=t}:=
 NV.new q C (cL rfl) rfl (⟨rfl,rfl,ws,0,yC _ rfl,x.mono cf.app (aX.of_keeps λU U e=>xW _ e)⟩) t
theorem NV.aiY(q:Q (.tup xs) H)(C:Cx P fl W H s)(x:bS W s.heap xs ws)(t):
  NV P fl W s Q (.ref s.heap.objs.size) {s with heap:=s.heap.push {cls:=.type "tuple",data:=.seq ws.toArray},toks:=t}:=
 have k:∀b o,s.heap.get? b=J o->(s.heap.push {cls:=.type "tuple",data:=.seq ws.toArray}).get? b=J o:=λU U e=>xW _ e
 ⟨W,H,.tup xs,q,C.grow k rfl,.tup _ _ _ ⟨_,yC _ rfl,rfl,0,rfl⟩ (x.mono cf.rfl (aX.of_keeps k)),Step.grow k rfl rfl⟩
inductive vj(i:Int):xP->Prop
 | mk(t:Tok):vj i (.int i t)
inductive vb(i:ze):xP->Prop
 | mk(t:Tok):vb i (.str i t)
inductive qc(b:List UInt8):xP->Prop
 | mk(t:Tok):qc b (.bytes b.toArray t)
inductive uZ(W:WD)(h:yJ)(b:List AV):xP->Prop
 | mk(a:yk)(ws:List xP)(x:IsTup h a ws.toArray)(y:bS W h b ws):uZ W h b (.ref a)
inductive ve(h:yJ)(a b c:Int):xP->Prop
 | mk(r:yk)(x:oS h r a b c):ve h a b c (.ref r)
inductive apf(W:WD)(s:xM)(i:Nat)(xs:List AV):xP->Prop
 | mk(p:WE)(ws:List xP)(k:Nat)(hp:W[i]? =J p)(g:p.gs=[])(a:p.aux=[])(o:s.heap.get? p.a=J {cls:=.type "list",dict:=Jw,data:=.seq ws.toArray k,slots:= #[]})(v:bS W s.heap xs ws):apf W s i xs (.ref p.a)
def VI(W:WD)(h:yJ)(v:xP):AV->Prop
 | .none=>v= .none
 | .bool b=>v= .bool b
 | .int i=>vj i v
 | .str b=>vb b v
 | .bytes b=>qc b v
 | .tup b=>uZ W h b v
 | .ref i=>vf W i v
 | .gB a b c=>ve h a b c v
 | .raw _=>True
theorem VR.inv{h a v}(x:VR W h a v):VI W h v a:=by
 induction x with
 | none=>exact rfl
 | bool=>exact rfl
 | int i t=>exact .mk t
 | str i t=>exact .mk t
 | bytes b t=>exact .mk t
 | tupI a vs ws x l f _=>exact .mk a ws x (bZ.of l f)
 | ref i p e=>exact .mk p e
 | gB r a b c x=>exact .mk r x
 | raw=>trivial
theorem VR.uQ{h i v}(x:VR W h (.int i) v):vj i v:=x.inv
theorem VR.aoY{h b v}(x:VR W h (.bool b) v):v= .bool b:=x.inv
theorem VR.none_{h v}(x:VR W h .none v):v= .none:=x.inv
theorem VR.an5{h b v}(x:VR W h (.str b) v):vb b v:=x.inv
theorem VR.anE{h b v}(x:VR W h (.bytes b) v):qc b v:=x.inv
theorem VR.apl{h b v}(x:VR W h (.tup b) v):uZ W h b v:=x.inv
theorem VR.aoa{h i v}(x:VR W h (.ref i) v):vf W i v:=x.inv
theorem VR.apm{h a b c v}(x:VR W h (.gB a b c) v):ve h a b c v:=x.inv
section
variable{hp:yJ}{x x':AV}{v v':xP}{args:List AV}{vs:List xP}
@[elab_as_elim] theorem VR.amc{G:xP->Prop}(y:VR W hp .none v)(f:G .none):G v:=y.none_▸f
@[elab_as_elim] theorem VR.amw{G:xP->Prop}(y:VR W hp (.bool b) v)(f:G (.bool b)):G v:=y.aoY▸f
@[elab_as_elim] theorem VR.bY{G:xP->Prop}(y:VR W hp (.int i) v)(f:∀t,G (.int i t)):G v:=vj.rec f y.uQ
@[elab_as_elim] theorem VR.tC{G:xP->Prop}(y:VR W hp (.str i) v)(f:∀t,G (.str i t)):G v:=vb.rec f y.an5
@[elab_as_elim] theorem VR.eK{G:xP->Prop}(y:VR W hp (.bytes i) v)(f:∀t,G (.bytes i.toArray t)):G v:=qc.rec f y.anE
@[elab_as_elim] theorem VR.jy{G:xP->Prop}(y:VR W hp (.tup i) v)(f:∀a ws,IsTup hp a ws.toArray->bS W hp i ws->G (.ref a)):G v:=uZ.rec f y.apl
@[elab_as_elim] theorem VR.bG{G:xP->Prop}(y:VR W hp (.ref i) v)(f:∀p,W[i]? =J p->G (.ref p.a)):G v:=vf.rec f y.aoa
@[elab_as_elim] theorem VR.vJ{G:xP->Prop}{a b c:Int}(y:VR W hp (.gB a b c) v)(f:∀r,oS hp r a b c->G (.ref r)):G v:=ve.rec f y.apm
@[elab_as_elim] theorem cO.elim{k:Int->Prop}{G:xP->Prop}(h:cO x k)(y:VR W hp x v)(f:∀i t,k i->G (.int i t)):G v:=by
 cases x with
 | int i=>exact y.bY λt=>f i t h
 | _=>exact h.elim
@[elab_as_elim] theorem bH.elim{G:xP->xP->Prop}(h:bH x x' k)(y:VR W hp x v)(z:VR W hp x' v')(f:∀i t j u,k i j->G (.int i t) (.int j u)):G v v':=
 cO.elim (G:=λv=>G v v') h y λi t h=>cO.elim (G:=λu=>G (.int i t) u) h z λj u h=>f i t j u h
@[elab_as_elim] theorem onStr.elim{k:ze->Prop}{G:xP->Prop}(h:onStr x k)(y:VR W hp x v)(f:∀i t,k i->G (.str i t)):G v:=by
 cases x with
 | str i=>exact y.tC λt=>f i t h
 | _=>exact h.elim
@[elab_as_elim] theorem onBytes.elim{k:List UInt8->Prop}{G:xP->Prop}(h:onBytes x k)(y:VR W hp x v)(f:∀i t,k i->G (.bytes i.toArray t)):G v:=by
 cases x with
 | bytes i=>exact y.eK λt=>f i t h
 | _=>exact h.elim
@[elab_as_elim] theorem lN.elim{k:List AV->Prop}{G:xP->Prop}(h:lN x k)(y:VR W hp x v)(f:∀ks a ws,k ks->IsTup hp a ws.toArray->bS W hp ks ws->G (.ref a)):G v:=by
 cases x with
 | tup i=>exact y.jy λa ws p q=>f _ a ws h p q
 | _=>exact h.elim
@[elab_as_elim] theorem oK.elim{k:Nat->Prop}{G:xP->Prop}(h:oK x k)(y:VR W hp x v)(f:∀i p,k i->W[i]? =J p->VR W hp (.ref i) (.ref p.a)->G (.ref p.a)):G v:=by
 cases x with
 | ref i=>exact y.bG λp e=>f i p h e (.ref i p e)
 | _=>exact h.elim
@[elab_as_elim] theorem bZ.ro{G:List β->Prop}(y:bZ R [] bs)(f:G []):G bs:=by cases y;exact f
@[elab_as_elim] theorem bZ.nE{G:List β->Prop}(y:bZ R (a::as) bs)(f:∀b bs,R a b->bZ R as bs->G (b::bs)):G bs:=by cases y with | cons x y=>exact f _ _ x y
@[elab_as_elim] theorem bS.elim0{G:List xP->Prop}(y:bS W hp [] vs)(f:G []):G vs:=y.ro f
@[elab_as_elim] theorem bS.b6{G:List xP->Prop}(y:bS W hp [a] vs)(f:∀v,VR W hp a v->G [v]):G vs:=y.nE λv U x r=>r.ro (G:=λl=>G (v::l)) (f v x)
@[elab_as_elim] theorem bS.kz{G:List xP->Prop}(y:bS W hp [a,b] vs)(f:∀v u,VR W hp a v->VR W hp b u->G [v,u]):G vs:=y.nE λv U x r=>bS.b6 (G:=λl=>G (v::l)) r λu z=>f v u x z
end
theorem acQ(h:small i):i.natAbs.log2<200:=by
 rcases Nat.eq_zero_or_pos i.natAbs with h0 | hp
 ·refine Z h0 ?_;decide
 ·exact (IM (zH hp)).mpr h
theorem abS(h:small i):Cb i<=200:=by
 unfold Cb;split
 ·exact yI _
 ·exact acQ h
theorem aj5(hx:0<=x)(hy:0<=y):Builtin.bitOr x y=((x.toNat||| y.toNat:Nat):Int):=by
 refine Z (bitOr_and _ _) (Z (bitAnd_pp hx hy) ?_);refine Int.sub_eq_iff_eq_add.mpr (.trans ?_ (congrArg Ao (nat_or_add_and x.toNat y.toNat).symm));exact congr (congrArg _ (zx hx).symm) (zx hy).symm
theorem bS.replicate{W h x y}(v:VR W h x y):∀n,bS W h (yr n x) (yr n y)
 | 0=>.nil
 | n+1=>.cons v (bS.replicate v n)
theorem ac7(y):∀n (acc:Array xP),Jb (λx1 x2=>x1++x2) acc (yr n #[y])=acc++(yr n y).toArray
 | 0,acc=>Array.append_empty.symm
 | n+1,acc=>by
  rw[List.replicate_succ,DA,ac7 y n,Array.append_assoc];exact congrArg (acc++ ·) (FG [y] _)
theorem fits_of(h0:0<=n)(h1:n<=1000000):Builtin.List.listFitsIndex n=true:=xZ.mpr ⟨decide_eq_true (yG (by decide) h0),decide_eq_true (Bi h1 (by decide))⟩
theorem ai2(h:n+m<=1000000):n+m<=Bb:=xH h (by decide)
theorem alT{x y:AV}{v u:xP}(C:Cx P fl W H s)(hx:VR W s.heap x v)(hy:VR W s.heap y u)(h:ao8 x y H Q):xY P.M A (binaryOp .Add v u) (NV P fl W s Q) E s:=by
 cases x with
 | int a=>exact hx.bY λt=>cO.elim h hy λb t' h=>PyProof.Rows.add_int (NV.tok h C _ (.int _ _))
 | bytes a=>exact hx.eK λt=>onBytes.elim h hy λb t' h=>bytes_add_K (xH (show a.length+b.length<=_ from h.1) (by decide)) rfl λt' k=>NV.tok h.2 C k (.bytes _ _)
 | ref a=>
  refine hx.bG λp hp=>oK.elim h hy λb p' h hp' U=>gX h λxs ys h=>?_;refine bM.rec (λU U ws k o1 v1=>bM.rec (λU U ws' k' o2 v2=>?_) (C.or hp' h.2.1)) (C.or hp h.1);refine concat_meets ⟨_,o1,rfl⟩ ⟨_,o2,rfl⟩ noFill_list_add seq_list_add PySem.F.slot_list_add PySem.F.entry_list_add (PySem.F.args_list_add_2 _ _) (list_addW _ _ ws.toArray ws'.toArray k k' Jw Jw #[] #[] (show ws.length+ws'.length<=_ from v1.length▸v2.length▸ai2 h.2.2.1)) (bU o1 o2 ?_);exact Z (FG _ _) (NV.newList h.2.2.2 C (v1.append v2) _)
 | _=>exact h.elim
theorem ak3{x y:AV}{v u:xP}{Q:AV->AH->Prop}(C:Cx P fl W H s)(hx:VR W s.heap x v)(hy:VR W s.heap y u)(h:aos x y H Q):xY P.M A (binaryOp .Mult v u) (NV P fl W s Q) E s:=by
 cases x with
 | int a=>
  refine hx.bY λt=>cO.elim h hy λb t' h=>?_;exact PyProof.Rows.mul_int (NV.tok h.2 C _ (.int _ _)) h.1
 | ref a=>
  refine hx.bG λp hp=>cO.elim h hy λn t' h=>?_;refine h.elim λx h=>bM.rec (λU U ws k o1 v1=>bS.b6 (G:=λws=>s.heap.get? p.a=J {cls:=.type "list",dict:=Jw,data:=.seq ws.toArray k,slots:= #[]}->xY P.M A (binaryOp .Mult (.ref p.a) (.int n t')) (NV P fl W s Q) E s) v1 (λy y1 o1=>?_) o1) (C.or hp h.1);have ⟨h0,h1,h2⟩:=h.2;have h1n:=(CU n.toNat).symm▸Il.mpr h1;refine wpAny_binaryOp_repeat_ref (T:="list") (U:="int") (by decide) ⟨_,o1,rfl⟩ (λs'=>typeIs_int s' n t') noFill_list_mul PySem.F.fills_int_mul HC repeat_list PySem.F.slot_int_index.lookup
   (call_meets HC (typeIs_int s n t') PySem.F.entry_int_rmul (PySem.F.args_int_rmul_2 _ _) (int___rmul___int_list n t' _ #[y] k)
    (iu o1 rfl ⟨_,o1,rfl⟩ (call_meets PySem.F.slot_list_mul ⟨_,o1,rfl⟩ PySem.F.entry_list_mul (PySem.F.args_list_mul_2 _ _)
     (AutoListH.list___mul___list_int_3 _ #[y] k n t' (by exact Z (fits_of h0 h1) x8) (xX.mpr (xH h1n (by decide))) (λz=>absurd (of_decide_eq_true z) (xX.mpr (xH h1n (by decide))))) ⟨o1,?_⟩)))
  exact Z (show Jb (λx1 x2=>x1++x2) #[] (yr (if (#[y]:Array xP).isEmpty=true then 0 else n.toNat) #[y])=(yr n.toNat y).toArray from (ac7 y n.toNat #[]).trans Array.empty_append) (NV.newList h2 C (bS.replicate y1 _) _)
 | _=>exact h.elim
theorem am0{x y:AV}{Q:AV->AH->Prop}(C:Cx P fl W H s)(hx:VR W s.heap x v)(hy:VR W s.heap y u)(h:xu op x y H Q):
  xY P.M A (binaryOp op v u) (NV P fl W s Q) E s:=by
 cases op with
 | Add=>exact alT C hx hy h
 | Mult=>exact ak3 C hx hy h
 | Sub=>
  refine bH.elim h hx hy λa t b t' h=>?_;exact PyProof.Rows.sub_int' (NV.tok h C _ (.int _ _))
 | FloorDiv=>
  refine bH.elim h hx hy λa t b t' h=>?_;exact PyProof.Rows.floordiv_int h.1 (NV.tok h.2.2 C _ (.int _ _)) (.inl (PyProof.noPylong_of_log2 (yL (acQ h.2.1) (by decide))))
 | Mod=>
  refine bH.elim h hx hy λa t b t' h=>?_;exact PyProof.Rows.mod_int' h.1 (NV.tok h.2 C _ (.int _ _))
 | Pow=>
  refine bH.elim h hx hy λa t b t' h=>?_;exact PyProof.Rows.pow_int h.2.1 (yG (Int.mul_le_mul (c:=200) (d:=64) (yj.mpr (abS h.1)) h.2.2.1 h.2.1 (by decide)) (by decide)) (NV.tok h.2.2.2 C _ (.int _ _))
 | LShift=>
  refine bH.elim h hx hy λa t b t' h=>?_;exact PyProof.Rows.lshift_int h.2.1 (yG (Fv (yj.mpr (abS h.1)) h.2.2.1) (by decide)) (NV.tok h.2.2.2 C _ (.int _ _))
 | RShift=>
  refine bH.elim h hx hy λa t b t' h=>?_;exact PyProof.Rows.rshift_int h.1 (NV.tok h.2.2 C _ (.int _ _))
 | BitAnd=>
  refine bH.elim h hx hy λa t b t' h=>?_;exact PyProof.Rows.and_int (bitAnd_pp h.1 h.2.1▸NV.tok h.2.2 C _ (.int _ _))
 | BitOr=>
  refine bH.elim h hx hy λa t b t' h=>?_;exact PyProof.Rows.or_int (aj5 h.1 h.2.1▸NV.tok h.2.2 C _ (.int _ _))
 | _=>exact h.elim
end
set_option genCtorIdx false in
inductive b9:yF->Type
 | const(c:Const) (k pos):b9 (.Constant c k pos)
 | name(x:ze) (pos):b9 (.Name x pos)
 | bin (l op r pos):b9 (.BinOp l op r pos)
 | neg (x pos):b9 (.UnaryOp .USub x pos)
 | not (x pos):b9 (.UnaryOp .Not x pos)
 | rF (es pos):b9 (.BoolOp .And es pos)
 | gO (es pos):b9 (.BoolOp .Or es pos)
 | cmp (l ops cs pos):b9 (.Compare l ops cs pos)
 | uR (c x y pos):b9 (.IfExp c x y pos)
 | tup (es k pos):b9 (.Tuple es k pos)
 | lst (es pos):b9 (.List es pos)
 | nB (pos):b9 (.Dict [] [] pos)
 | attr (o m pos):b9 (.Attribute o m pos)
 | sub (o x pos):b9 (.Subscript o x pos)
 | tD (l u pos):b9 (.Slice l u Jw pos)
 | call (x p args pos):b9 (.Call (.Name x p) args [] pos)
 | cR (o m p args pos):b9 (.Call (.Attribute o m p) args [] pos)
 | lc (x g sc pos):b9 (.ListComp x [g] sc pos)
noncomputable def uG{β:yF->Type}(d:∀e,β e)(e:yF)(bo:∀o l p,β (.BoolOp o l p):=λU U U=>d _)(bi:∀l o r p,β (.BinOp l o r p):=λU U U U=>d _)(un:∀o x p,β (.UnaryOp o x p):=λU U U=>d _)(ie:∀c x y p,β (.IfExp c x y p):=λU U U U=>d _)(di:∀k v p,β (.Dict k v p):=λU U U=>d _)(lc:∀x g s p,β (.ListComp x g s p):=λU U U U=>d _)(cm:∀l o c p,β (.Compare l o c p):=λU U U U=>d _)(ca:∀f a k p,β (.Call f a k p):=λU U U U=>d _)(co:∀c k p,β (.Constant c k p):=λU U U=>d _)(ab:∀o m p,β (.Attribute o m p):=λU U U=>d _)(su:∀o x p,β (.Subscript o x p):=λU U U=>d _)(na:∀x p,β (.Name x p):=λU U=>d _)(li:∀l p,β (.List l p):=λU U=>d _)(tu:∀l k p,β (.Tuple l k p):=λU U U=>d _)(sl:∀l u s p,β (.Slice l u s p):=λU U U U=>d _):β e:=
 Expr.casesOn e bo (λU U U=>d _) bi un (λU U U U=>d _) ie di (λU U U=>d _) lc (λU U U U=>d _) (λU U U U U=>d _) (λU U U U=>d _) (λU U=>d _) (λU U=>d _) (λU U=>d _) cm ca (λU U U U=>d _) (λU U=>d _) co ab su (λU U=>d _) na li tu sl
noncomputable def shape(e:yF):Option (b9 e):=uG (β:=λe=>Option (b9 e)) (λU=>Jw) e
 (λo l p=>BoolOp.casesOn o (J (.rF l p)) (J (.gO l p))) (λl o r p=>J (.bin l o r p))
 (λo x p=>UnaryOp.casesOn o Jw (J (.not x p)) Jw (J (.neg x p))) (λc x y p=>J (.uR c x y p))
 (λk v p=>zW k (zW v (J (.nB p)) λU U=>Jw) λU U=>Jw)
 (λx g s p=>zW g Jw λg r=>zW r (J (.lc x g s p)) λU U=>Jw) (λl o c p=>J (.cmp l o c p))
 (λf a k p=>zW k (uG (β:=λf=>Option (b9 (.Call f a [] p))) (λU=>Jw) f (na:=λx q=>J (.call x q a p)) (ab:=λo m q=>J (.cR o m q a p))) λU U=>Jw)
 (λc k p=>J (.const c k p)) (λo m p=>J (.attr o m p)) (λo x p=>J (.sub o x p)) (λx p=>J (.name x p)) (λl p=>J (.lst l p)) (λl k p=>J (.tup l k p))
 λl u s p=>Ce s (J (.tD l u p)) λU=>Jw
noncomputable def noStar(e:yF):Bool:=(shape e).isSome
theorem noStar.tj{e:yF}(h:noStar e=true):Nonempty (b9 e):=match q:shape e with
 | some s=>⟨s⟩
 | none=>absurd (q▸h:(Jw:Option (b9 e)).isSome=true) x8
noncomputable def b9.on{β:Type}(d:β){e:yF}(s:b9 e)(const:Const->Nat->Pos->β:=λU U U=>d)(name:ze->Pos->β:=λU U=>d)(bin:yF->Operator->yF->Pos->β:=λU U U U=>d)
  (neg not:yF->Pos->β:=λU U=>d) (rF gO:List yF->Pos->β:=λU U=>d) (cmp:yF->List CmpOp->List yF->Pos->β:=λU U U U=>d) (uR:yF->yF->yF->Pos->β:=λU U U U=>d)
  (tup:List yF->Nat->Pos->β:=λU U U=>d) (lst:List yF->Pos->β:=λU U=>d) (nB:Pos->β:=λU=>d) (attr:yF->ze->Pos->β:=λU U U=>d) (sub:yF->yF->Pos->β:=λU U U=>d)
  (tD:Option yF->Option yF->Pos->β:=λU U U=>d) (call:ze->Pos->List yF->Pos->β:=λU U U U=>d) (cR:yF->ze->Pos->List yF->Pos->β:=λU U U U U=>d)
  (lc:yF->EP->Dm->Pos->β:=λU U U U=>d):β:=
 b9.rec (motive:=λU U=>β) const name bin neg not rF gO cmp uR tup lst nB attr sub tD call cR lc s
def b9.mu{e:yF}(s:b9 e):Bool:=s.on true (call:=λU U args U=>!args.isEmpty)
def b9.aoI{e:yF}(s:b9 e):Bool:=s.on false (tD:=λU U U=>true)
structure gQ(P:cy)(A:yS)(fl:List BX)(k:Nat):Prop where
 depth:A.depth+k<1000
 units:A.units+3*k<9900
 frames:(∃C,P.exc C)->A.frames=J fl
 handled:A.handled=Jw
theorem gQ.wI(h:gQ P A fl k):A.depth<Ek:=xN (x7 _ _) h.depth
theorem gQ.le(h:gQ P A fl k)(le:m<=k):gQ P A fl m:=
 ⟨xN (yf le _) h.depth,xN (yf (yD 3 le) _) h.units,h.frames,h.handled⟩
section
variable{P:cy}{fl:List BX}{W W':WD}{H H':AH}{s s':xM}{A:yS}{E:xP->xM->Prop}{n:Nat}
inductive NB(P:cy)(fl:List BX)(W:WD)(s:xM)(Q:Bool->AH->Prop)(v:xP)(s':xM):Prop
 | mk(W':WD)(H':AH)(b:Bool):v= .bool b->Q b H'->Cx P fl W' H' s'->bT fl W s W' s'->NB P fl W s Q v s'
inductive NU(P:cy)(fl:List BX)(W:WD)(s:xM)(Q:AH->Prop)(u:Unit)(s':xM):Prop
 | mk(W':WD)(H':AH):Q H'->Cx P fl W' H' s'->bT fl W s W' s'->NU P fl W s Q u s'
noncomputable def qI:BI->xP
 | .len=>.builtin "len" | .range=>.type "range" | .abs=>.builtin "abs" | .max=>.builtin "max" | .min=>.builtin "min" | .sum=>.builtin "sum" | .int=>.type "int"
 | .sorted=>.builtin "sorted" | .tuple=>.type "tuple" | .list=>.type "list" | .bytes=>.type "bytes" | .bytearray=>.type "bytearray" | .set=>.type "set" | .str=>.type "str" | .no _=>.none
def wu(W:WD)(h:yJ):Option AV->xP->Prop
 | none,v=>v= .none
 | some a,v=>VR W h a v
noncomputable def rI:BM->String
 | .b7=>"int.bit_length" | .find=>"bytes.find" | .append=>"list.append" | .add=>"set.add" | .bK=>"bytearray.append" | .dV=>"bytearray.extend" | .get=>"dict.get" | .pop=>"dict.pop" | .aY=>"dict.setdefault" | .no _=>""
structure pX(NM:Nat->ze):Prop where
 append:NM pA=("append":ze)
 add:NM aor=("add":ze)
 get:NM aoq=("get":ze)
 aY:NM iJ=("setdefault":ze)
 pop:NM aop=("pop":ze)
 extend:NM ago=("extend":ze)
 find:NM amf=("find":ze)
 b7:NM ab4=("bit_length":ze)
end
inductive amz(a:AV)(as:List AV)(is:List Int):Prop
 | mk(i:Int)(js:List Int)(e:a= .int i)(e':intsOf as=J js)(e2:is=i::js):amz a as is
theorem abt(e:intsOf (a::as)=J is):amz a as is:=by
 cases a with
 | int i=>exact (yh.mp e).elim λjs q=>⟨i,js,rfl,q.1,q.2.symm⟩
 | _=>exact (Cw _ e.symm).elim
theorem aeG{h:yJ}{ks:List AV}(y:bS W h ks vs):∀{is:List Int},intsOf ks=J is->ItemsAre (Ap prog w) is vs:=by
 induction y with
 | nil=>exact λe=>xT e▸.nil
 | cons x _ ih=>exact λe=>match abt e with
  | ⟨i,js,e1,e2,e3⟩=>by
   subst e1;subst e3;exact x.bY λt=>.cons (beq_self_eq_true i) (ih e2)
@[elab_as_elim] theorem jx.elim{h:yJ}{v:xP}{G:xP->Prop}(e:intsOf ks=J is)(y:VR W h (.tup ks) v)
  (f:∀a,(DE (Ap prog w)).is h is a->G (.ref a)):G v:=by
 refine y.jy λa ws x z=>?_;exact x.elim λo x=>x.2.2.elim λn hd=>f a ⟨o,ws.toArray,n,x.1,x.2.1,hd,aeG z e⟩
theorem gu(i)(t):(Ap prog w).is i (.int i t)=true:=beq_self_eq_true i
inductive jP{α β:Type}(R:α->β->Prop):Option α->Option β->Prop
 | none:jP R .none .none
 | some {a b} (r:R a b):jP R (.some a) (.some b)
theorem jP.none_(x:jP R .none o):o= .none:=match o,x with | _,.none=>rfl
theorem jP.lM(x:jP R (.some a) o):∃b,o= .some b/\R a b:=match o,x with | _,.some r=>(aM _ rfl r)
theorem jP.isSome(x:jP R a b):b.isSome=a.isSome:=by cases x <;> rfl
section
variable{K V:Type}[DecidableEq K]{R:AV->V->Prop}{es:List (K×AV)}{kvs:List (K×V)}
theorem getKey_cons{e:K×V}:getKey (e::kvs) k=if e.1=k then J e.2 else getKey kvs k:=by
 unfold getKey;rw[List.find?_cons];by_cases c:e.1=k
 ·exact Z (decide_eq_true c) (Z (if_pos c) rfl)
 ·exact Z (decide_eq_false c) (Z (if_neg c) rfl)
theorem kO.at(x:kO R es kvs)(k):jP R (getKey es k) (getKey kvs k):=by
 induction x with
 | nil=>exact .none
 | @cons k1 a v r r' y _ ih=>
  refine Z getKey_cons (Z getKey_cons ?_);by_cases c:k1=k
  ·exact Z (if_pos c) (Z (if_pos c) (.some y))
  ·exact Z (if_neg c) (Z (if_neg c) ih)
theorem acd(es:List (K×V))(k):bj es k=(getKey es k).isSome:=by
 induction es with
 | nil=>rfl
 | cons e r ih=>
  refine Z getKey_cons ?_;show (decide (e.1=k)||bj r k)=_;by_cases c:e.1=k
  ·exact Z (if_pos c) (Z (decide_eq_true c) rfl)
  ·exact Z (if_neg c) (Z (decide_eq_false c) ih)
theorem kO.isSome(x:kO R es kvs)(k):(getKey kvs k).isSome=bj es k:=(x.at k).isSome.trans (acd es k).symm
omit [DecidableEq K] in
theorem kO.len(x:kO R es kvs):es.length=kvs.length:=by
 induction x with
 | nil=>rfl
 | cons _ _ ih=>exact congrArg (· +1) ih
end
theorem acj{h:yJ}{ep:Nat}{W:WD}(x:h.DictAt (Ap prog w) a kvs ep)(y:om W h [] kvs):h.DictOfH (DE (Ap prog w)) a []:=by
 revert prog w h a kvs ep W;apply e7;intro U;apply(?Z:Tq U);intro prog w h a kvs ep W;intros;cases y;refine Qc λU u6=>x.elim λo v6=>v6.elim λes y6=>y6.elim λho z6=>z6.elim λhx u7=>u7.elim λhd v7=>v7.elim λU y7=>y7.elim λhp U=>u6 ?_;exact ⟨o,es,ep,ho,hx,hd,Dw hp.length,(λU h=>by cases h),List.nodup_nil⟩
section
variable{P:cy}{fl:List BX}{W W':WD}{H H':AH}{s s':xM}{A:yS}{E:xP->xM->Prop}{n:Nat}
theorem NB.tok(C:Cx P fl W H s)(q:Q b H)(t):NB P fl W s Q (.bool b) {s with toks:=t}:=⟨W,H,b,rfl,q,C.tok t,bT.tok ..⟩
theorem abJ(hx:s.heap.get? x=J o)(hd:o.data= .plain)(hq:Q .notImplemented s):
  xY (yK prog w) A (call (.builtin "str.__eq__") [.str b t,.ref x]) Q E s:=by
 refine Bk HQ (Ib s b t) PySem.F.entry_str_eq ?_ (PySem.F.args_str_eq_2 _ _);obtain ⟨hp,g,d,tk,os⟩:=s;obtain ⟨cls,dd,data,sl⟩:=o;simp only at hd;subst hd
 wp_walk using B8 hx
 exact (aM _ rfl hq)
theorem aho{M:Model}(hq:Q (.done (.ret .notImplemented)) s):xY M A (AJ.«object.__eq__» ⟨[.ref x,.str b t],[]⟩) Q E s:=by
 unfold AJ.«object.__eq__»
 repeat (first | with_reducible refine zI (rfl:isSame (.ref x) (.str b t)=pure false) ?_ | wp_step)
 exact hq
theorem acm{h:yJ}{os:ED}{nm q:ze}{sub:List xP}{k0 k1 k2 k3 k5:Option xP}{newId:String}{o:Obj}{Q:xP->xM->Prop}
  (FB:CmpFacts "object" bm) (hx:h.get? x=J o) (hc:o.cls= .ref C) (hC:h.get? C=J (zQ nm q C N bs bm hdct sn sub ab col dd k0 k1 k2 k3 k5 newId)) (hq:Q .notImplemented ⟨h,g,d,tk,os⟩):
  xY (yK prog w) A (call (.builtin "object.__eq__") [.ref x,.str b t]) Q E ⟨h,g,d,tk,os⟩:=
 Fj (FV FB.eq.plain PySem.F.cmpEntry_eq (wpAny_check_slot_inst PySem.F.cmpKind_eq PySem.F.cmpSplit_eq (PySem.F.cmpArgs_eq _ _) FB.hasObject hx hc hC (aho hq)))
theorem acG{o:Obj}{N:yk}{mN:ze->Option xP}(hu:A.units<cLine)(hx:s.heap.get? x=J o)(hc:o.cls= .ref C)(hd:o.data= .plain)(cl:ClsAt s.heap C N mN)(he:mN "__eq__"=Jw)(hn:mN "__ne__"=Jw):
  SeqAt.EqAt A s (.str b t) (.ref x) false:=by
 revert s A x C b t o N mN;apply e9;intro U;apply(?Z:Tq U);intro s A x C b t o N mN;intros;intro prog w E Q hq;obtain ⟨nm,q,bs,sn,sub,col,dd,k0,k1,k2,k3,k5,hC⟩:=s8 cl;unfold eqBool;refine zZ ?_;refine wpAny_ite_split (λhab=>absurd (eq_of_beq hab) (λh=>by cases h)) (λU=>?_);refine xI ?_;have hcon:(y0 C::[DO "object"]).contains (.type "str")=false:=by simp
 have hne:(DO "str" !=y0 C)=true:=by simp
 obtain ⟨hh,g,d,tk,os⟩:=s;simp only[richCompare,cmpInfo_Eq,(Ib ⟨hh,g,d,tk,os⟩ b t).oneThing_none];refine zZ ?_;refine xI (wpAny_cRoomFor_or (.inr hu) ?_);refine xI (Jd (Ib _ b t) ?_);refine xI ?_;simp only[Je];refine xI (B8 hx (xU ?_));refine Z hc ?_;simp only[hne,if_true];refine xI (zP hC ?_);refine Z hcon ?_;simp only[Bg,if_false,Bool.not_false,if_true];refine xI (m:=tryCompare (.str b t) _ (.ref x)) (wpAny_tryCompare_declines (Ib _ b t) HQ (abJ hx hd ⟨rfl,?_⟩));refine xI (m:=tryCompare (.ref x) _ (.str b t)) ?_
 ·simp only[tryCompare]
  refine xI (wpAny_callSpecialIfBound?_inst hx hc hC cl.ns he Fp.mro Fp.eq ?_);refine acm Fp hx hc hC (xU ?_);exact xI (C6 (xI (zI (rfl:isSame (.str b t) (.ref x)=pure false) (xU (G2 hq)))))
theorem gQ.room(hA:gQ P A fl (k+5)):A.units+1<cLine:=xO (xN (yf (by decide:1<=15) _) (xN (yf (yD 3 (zJ 5 k)) _) hA.units)) (by decide)
theorem oV:∀{ws:List xP},bS W hp (bs.map .str) ws->StrsAre ws bs:=by
 induction bs with
 | nil=>exact λy=>y.ro .nil
 | cons b bs ih=>exact λy=>bZ.nE (G:=λws=>StrsAre ws (b::bs)) (a:=AV.str b) (as:=bs.map .str) y λU U x r=>x.tC (G:=λv=>StrsAre (v::_) (b::bs)) λt=>.cons b t (ih r)
theorem StrsAre.strs(h:StrsAre ws bs):∀z∈ws,∃b u,z= .str b u:=by
 induction h with
 | nil=>exact λU h=>by cases h
 | cons b t r ih=>exact λz h=>(yu.mp h).elim (λe=>(jj b t e)) (ih z)
theorem ali{i:Nat}{m:Nat}{ws:List xP}{k:Nat}(C:Cx P fl W H s)(hA:gQ P A fl (n+5))(hp:W[i]? =J p)(e:H[i]? =J (.inst Ci ((m,u)::fs)))
  (hl:s.heap.get? l=J {cls:=.type "list",dict:=Jw,data:=.seq ws.toArray k,slots:= #[]}) (hs:∀y∈ws,∃b t,y= .str b t) (r:R (.bool false) s):xY P.M A (Cn .In (.ref p.a) (.ref l)) R E s:=by
 obtain ⟨_,dx,mA,_,I,_,hf⟩:=C.or hp e;refine o9 I.obj λox ex cx U dp=>?_;obtain ⟨N,mN,cl,h1,h2⟩:=P.vK Ci m (hf m u (by exact Z zo (Z (beq_self_eq_true _) rfl)));refine SeqRoads2.in_meets ⟨_,hl,rfl⟩ PySem.F.slot_list_contains PySem.F.entry_list_contains (PySem.F.args_list_contains_2 _ _) (SeqAt.list_containsAt l ws.toArray k Jw #[] (.ref p.a) λU=>false) (bU hl (λy hy=>?_) (aM _ rfl ?_))
 ·obtain ⟨b,t,rfl⟩:=hs y (Array.mem_toArray.mp hy)
  exact acG hA.room ex cx dp (cl.keeps C.bq) h1 h2
 ·exact Z List.any_toArray (Z (AS.mpr λU U=>x8) r)
structure apg(P:cy)(A:yS)(s:xM)(E:xP->xM->Prop)(x:AV)(v:xP)(u:xP)(b:Bool):Prop where
 yes:∀R:xP->xM->Prop,(∀t,R (.bool b) {s with toks:=t})->xY P.M A (Cn .In v u) R E s
 no:noRef x->∀R:xP->xM->Prop,(∀t,R (.bool !b) {s with toks:=t})->xY P.M A (Cn .NotIn v u) R E s
theorem ajo{x y:AV}{Q:Bool->Prop}(hA:gQ P A fl (n+5))(C:Cx P fl W H s)(hx:VR W s.heap x v)(hy:VR W s.heap y u)(h:vz H Q x y):∃b,Q b/\apg P A s E x v u b:=by
 revert P fl W H s A E n x y v u Q;apply hU;intro U;apply(?Z:Tq U);intro P fl W H s A E n x y v u;intros;induction h with
 | set h q=>
  refine hx.bY λt=>hy.bG λp hp=>qK.rec (λU U S=>?_) (C.or hp h);exact ⟨_,q,λR r=>wpAny_inSet_of (gu _ _) rfl S (r _),λU R r=>wpAny_notInSet_of (gu _ _) rfl S (r _)⟩
 | aP h q=>
  refine hx.bY λt=>hy.bG λp hp=>b3.rec (λU U kvs S bk=>?_) (C.or hp h);exact ⟨_,q,λR r=>wpAny_in_of (gu _ _) (C.fF hp) S.dictOf.mapOf (bk.isSome _▸r _),λU R r=>wpAny_notIn_of (gu _ _) (C.fF hp) S.dictOf.mapOf (bk.isSome _▸r _)⟩
 | @bD a es ks is h hk q=>
  refine hy.bG λp hp=>gh.rec (λU U kvs S bk=>jx.elim (prog:=P.prog) (w:=P.w) (G:=λv=>∃b,Q b/\apg P A s E (.tup ks) v (.ref p.a) b) hk hx λa key=>?_) (C.or hp h);exact ⟨_,q,λR r=>wpAny_in_heap hA.room key (C.fF hp) S (bk.isSome _▸r _),λU R r=>wpAny_notIn_heap hA.room key (C.fF hp) S (bk.isSome _▸r _)⟩
 | an6 h q=>
  refine hx.tC λt=>hy.bG λp hp=>bM.rec (λU U ws k hl vr=>?_) (C.or hp h);exact ⟨_,q,λR r=>in_list_strs ⟨_,hl,rfl,k,rfl⟩ (oV vr) (r s.toks),λU R r=>notin_list_strs ⟨_,hl,rfl,k,rfl⟩ (oV vr) (r s.toks)⟩
 | inst h hi q=>
  refine hx.bG λp' hp'=>hy.bG λp hp=>bM.rec (λU U ws k hl vr=>?_) (C.or hp h);exact ⟨_,q,λR r=>ali C hA hp' hi hl (StrsAre.strs (oV vr)) (r s.toks),λhn=>hn.elim⟩
theorem ahN{xs:List AV}{R:xP->xM->Prop}(hA:gQ P A fl (n+5))(o:P.OR W s p (.list xs))(o':P.OR W s p' (.list []))(h:R (.bool xs.isEmpty) s):
  xY P.M A (Cn .Eq (.ref p.a) (.ref p'.a)) R E s:=by
 revert P fl W s A E n p p' xs R;apply ub;intro U;apply(?Z:Tq U);intro P fl W s A E n p p' xs R;intros;refine bM.rec (λU U ws k o1 v1=>bM.rec (λU U ws' k' o2 v2=>v2.ro (G:=λws'=>s.heap.get? p'.a=J {cls:=.type "list",dict:=Jw,data:=.seq ws'.toArray k',slots:= #[]}->xY P.M A (Cn .Eq (.ref p.a) (.ref p'.a)) R E s) (λo2=>?_) o2) o') o;have hu:=Ed hA.room;show xY _ _ (richCompare .Eq _ _) _ _ _;cases v1 with
 | nil=>exact Jh ⟨_,o1,rfl⟩ ⟨_,o2,rfl⟩ HK HE (Ho _ _) (MeetsSeq3.list_eq _ _ #[] #[] k k' rfl (λU=>true) (λj h1 U=>absurd h1 (zT j))) (iu o1 o2 (λh=>by cases h) h) hu
 | cons y r=>exact Jh ⟨_,o1,rfl⟩ ⟨_,o2,rfl⟩ HK HE (Ho _ _) (AutoSeq1.list___eq___list_list_0 _ _ k _ _ k' rfl) (iu o1 o2 (λh=>by cases h) h) hu
theorem anr{R:xP->xM->Prop}(hA:gQ P A fl (n+5))(C:Cx P fl W H s)(hx:VR W s.heap x v)(hy:VR W s.heap y u)(h:eqP x y H Q)(r:∀b,Q b->R (.bool b) s):
  xY P.M A (Cn .Eq v u) R E s:=by
 cases x with
 | int i=>exact hx.bY λt=>cO.elim h hy λj t' h=>PyProof.Rows.eq_int (r _ h)
 | str i=>exact hx.tC λt=>onStr.elim h hy λj t' h=>PyProof.Rows.eq_str (r _ h)
 | ref a=>
  exact hx.bG λp hp=>oK.elim h hy λb p' h hp' U=>h.elim λxs h=>ahN hA (C.or hp h.1) (C.or hp' h.2.1) (r _ h.2.2)
 | _=>exact h.elim
theorem am2(hx:VR W s.heap x v)(hy:VR W s.heap y u)(h:neP x y Q)(r:∀b,Q b->R (.bool b) s):
  xY P.M A (Cn .NotEq v u) R E s:=by
 cases x with
 | int i=>exact hx.bY λt=>cO.elim h hy λj t' h=>PyProof.Rows.ne_int (r _ h)
 | str i=>exact hx.tC λt=>onStr.elim h hy λj t' h=>PyProof.Rows.ne_str (r _ h)
 | _=>exact h.elim
theorem ang(hx:VR W s.heap x v)(hy:VR W s.heap y u)(h:mS y (isP x Q))(r:∀b,Q b->R (.bool b) s):
  xY P.M A (Cn .Is v u) R E s:=by
 cases y with
 | none=>
  refine hy.amc ?_;cases x with
  | none=>exact hx.amc (wpAny_is_self rfl (r _ h))
  | tup a=>exact hx.jy λa ws U U=>wpAny_is_other rfl (λh=>by cases h) (r _ h)
  | _=>exact h.elim
 | _=>exact h.elim
theorem ajW{Q:Bool->Prop}{R:xP->xM->Prop}(hA:gQ P A fl (n+5))(C:Cx P fl W H s)(hx:VR W s.heap x v)(hy:VR W s.heap y u)(h:uc op x y H Q)(r:∀b t,Q b->R (.bool b) {s with toks:=t}):
  xY P.M A (Cn op v u) R E s:=by
 have r':∀b,Q b->R (.bool b) s:=λb=>r b s.toks;cases op with
 | Eq=>exact anr hA C hx hy h r'
 | NotEq=>exact am2 hx hy h r'
 | Lt=>exact bH.elim h hx hy λa t b t' h=>PyProof.Rows.lt_int (r' _ h)
 | LtE=>exact bH.elim h hx hy λa t b t' h=>PyProof.Rows.le_int (r' _ h)
 | Gt=>exact bH.elim h hx hy λa t b t' h=>PyProof.Rows.gt_int (r' _ h)
 | GtE=>exact bH.elim h hx hy λa t b t' h=>PyProof.Rows.ge_int (r' _ h)
 | Is=>exact ang hx hy h r'
 | In=>exact (ajo (E:=E) hA C hx hy h).elim λb q=>q.2.yes _ λt=>r b t q.1
 | NotIn=>exact (ajo (E:=E) hA C hx hy h.2).elim λb q=>q.2.no h.1 _ λt=>r _ t q.1
 | _=>exact h.elim
theorem alC{v u:xP}(hA:gQ P A fl (n+5))(C:Cx P fl W H s)(hx:VR W s.heap x v)(hy:VR W s.heap y u)(h:uc op x y H Q):
  xY P.M A (Cn op v u) (NB P fl W s λb H'=>H'=H/\Q b) E s:=ajW hA C hx hy h λU t q=>NB.tok C ⟨rfl,q⟩ t
end
def iS(e:yF):Prop:=∀o i,∃ops,subscripted e false o i=operate ops (getItem o i)
section
variable{prog:AG}{w:World}{A:yS}{E:xP->xM->Prop}{s:xM}
theorem fA{T id:String}{Q:xP->xM->Prop}(hs:iS slice)(hT:s.TypeIs o T)
  (hl:Av (.type T) "__getitem__"=pure (J (.builtin id))) (h:xY (yK prog w) A (getItem o i) Q E s):
  xY (yK prog w) A (BL value slice o i) Q E s:=by
 refine (hs o i).elim λops hs=>?_;unfold BL;refine xI ?_;refine Z (getitemInPython_of_ne hT.not_modules) ?_;refine xI (Cf hT hl (xU (xI ?_)));exact hs▸wpAny_operating (yO h (λr S9 h₃=>xI (wpAny_letTemporaryGo (xU h₃))) λU U x=>x)
end
theorem al2(h0:0<=k)(h1:k.toNat<n):seqIndex? k n=J k.toNat:=by
 unfold seqIndex?;exact Z (if_neg (zg.mpr h0)) (Z (if_pos (xZ.mpr ⟨decide_eq_true h0,decide_eq_true (zx h0▸x9.mpr h1)⟩)) rfl)
theorem rU{k:Int}(h:k<1000000):k<2^63:=DR h (by decide)
theorem ao4{k:Int}(h0:0<=k)(h1:k<1000000):Builtin.Bytes.fitsIndex k=true:=xZ.mpr ⟨decide_eq_true (yG (by decide) h0),decide_eq_true (rU h1)⟩
theorem ajQ(b:List α)(j:Nat):b.drop (min j b.length)=b.drop j:=by
 rcases Gm j b.length with h | h
 ·exact Z (Bt h) rfl
 ·exact Z (GF h) (Z Ex (Z (C4 h) rfl))
theorem adQ(b:List α)(j:Nat):b.take (min j b.length)=b.take j:=by
 rcases Gm j b.length with h | h
 ·exact Z (Bt h) rfl
 ·exact Z (GF h) (Z zc (Z (zV h) rfl))
theorem akT(b:List UInt8)(k:Nat):Hr b.toArray Jw (J k)=(b.take k).toArray:=by
 refine Z (HM _ _ _) ?_;show ((b.drop 0).take (Jk b.length k-0)).toArray=_;exact Z (Ih _ _) (congrArg _ (adQ b k))
theorem ahd(b:List UInt8)(j k:Nat):Hr b.toArray (J j) (J k)=((b.take k).drop j).toArray:=by
 refine Z (HM _ _ _) ?_;show ((b.drop (Jk b.length j)).take (Jk b.length k-Jk b.length j)).toArray=_;refine Z (Ih _ _) (Z (Ih _ _) (Ql List.drop_take (Z (adQ _ _) ?_)));rcases Gm j b.length with h | h
 ·exact Z (Bt h) rfl
 ·have l:(b.take k).length<=b.length:=Iy _ _
  exact Z (GF h) (Z (C4 l) (Z (C4 (xH l h)) rfl))
theorem pick_from(b:List UInt8)(j:Nat):Hr b.toArray (J j) Jw=(b.drop j).toArray:=by
 refine Z (HM _ _ _) ?_;show ((b.drop (Jk b.length j)).take (b.length-Jk b.length j)).toArray=_;rw[Ih,ajQ,zV];rw[Gw];rcases Gm j b.length with h | h
 ·rw[Bt h];exact xS _
 ·rw[Iw h];exact yI _
section
variable{P:cy}{fl:List BX}{W W':WD}{H H':AH}{s s':xM}{A:yS}{E:xP->xM->Prop}{n:Nat}
theorem af4{p:WE}{xs:List AV}{k:Int}{t:Tok}{Q:AV->AH->Prop}{e1 e2:yF}(he:iS e2)(C:Cx P fl W H s)(O:bM W s p xs)(h0:0<=k)(h1:k<1000000)(e:xs[k.toNat]? =J x)(q:Q x H):
  xY P.M A (BL e1 e2 (.ref p.a) (.int k t)) (NV P fl W s Q) E s:=
 bM.rec (λU U ws kk o1 v1=>(v1.get e).elim λz hz=>fA he ⟨_,o1,rfl⟩ slot_list_getitem.lookup (wpAny_getItem_list ⟨_,o1,rfl,_,rfl⟩ h0 (rU h1) (Ay.trans hz.1) (NV.here q C hz.2))) O
theorem akz{x y:AV}{v u:xP}{Q:AV->AH->Prop}{e1 e2:yF}(he:iS e2)(hA:gQ P A fl (n+5))(C:Cx P fl W H s)(hx:VR W s.heap x v)(hy:VR W s.heap y u)(h:fV H Q x y):
  xY P.M A (BL e1 e2 v u) (NV P fl W s Q) E s:=by
 induction h with
 | tup h0 h1 e q=>
  refine hx.jy λa ws ht vr=>hy.bY λt=>(vr.get e).elim λz hz=>?_;exact fA he ht.typeIs slot_tuple_getitem.lookup (getItem_tuple ht (yG (by decide) h0) (rU h1) (al2 h0 (xQ.mp hz.1).1) (Ay.trans hz.1) (NV.here q C hz.2))
 | bytes h0 h1 e q=>
  refine hx.eK λt'=>hy.bY λt=>?_;exact fA he (D2 s _ t') Ds.lookup (getItem_gives (D2 s _ t') (by decide) Ds IC (Ip _ _) (gives_bytes_getitem _ _ t' t _ (ao4 h0 h1) ((congrArg (Option.bind · _) (al2 h0 (xQ.mp e).1)).trans (Ay.trans e))) (NV.tok q C _ (.int _ _)))
 | list h h0 h1 e q=>
  exact hx.bG λp hp=>hy.bY λt=>af4 he C (C.or hp h) h0 h1 e q
 | old h h0 h1 e q=>exact hx.bG λp hp=>hy.bY λt=>af4 he C (n9.list (C.or hp h)) h0 h1 e q
 | @aP a es ep k v0 h e q=>
  refine hx.bG λp hp=>hy.bY λt=>b3.rec (λU U kvs S bk=>(jP.lM (e▸bk.at k)).elim λz hz=>?_) (C.or hp h);exact fA he S.dictOf.mapOf.typeIs slot_dict_getitem.lookup (wpAny_getItem_of (gu _ _) S.dictOf.mapOf hz.1 (NV.tok q C _ hz.2))
 | @bD a es ks is v0 h hk e q=>
  refine hx.bG λp hp=>gh.rec (λU U kvs S bk=>(jP.lM (e▸bk.at is)).elim λz hz=>?_) (C.or hp h);exact jx.elim (prog:=P.prog) (w:=P.w) (G:=λu=>xY P.M A (BL e1 e2 (.ref p.a) u) (NV P fl W s Q) E s) hk hy λa' key=>fA he S.typeIs slot_dict_getitem.lookup (wpAny_getItem_heap hA.room key S hz.1 (NV.tok q C _ hz.2))
theorem aiZ{vl vu:xP}(h:R (.ref s.heap.objs.size) {s with heap:=s.heap.push {cls:=.type "slice",data:=.fields #[vl,vu,.none]}}):xY P.M A (I5 "slice" [vl,vu,.none]) R E s:=by
 unfold I5;exact zG h (by size_fits)
noncomputable abbrev tD(h:yJ)(vl vu:xP):yJ:=h.push {cls:=.type "slice",data:=.fields #[vl,vu,.none]}
theorem abm:iS (.Slice l u Jw p):=λo i=>⟨[i,o],rfl⟩
theorem mh(C:Cx P fl W H s)(vl vu):Cx P fl W H {s with heap:=tD s.heap vl vu}/\bT fl W s W {s with heap:=tD s.heap vl vu}:=
 have kp:∀b o,s.heap.get? b=J o->(tD s.heap vl vu).get? b=J o:=λU U e=>xW _ e
 ⟨C.grow kp rfl,Step.grow kp rfl rfl⟩
theorem rE{b:List UInt8}{lo hi:Option Int}{vl vu:xP}{av:List UInt8}{Q:AV->AH->Prop}{e1:yF}{l u:Option yF}(C:Cx P fl W H s)(hz:b.length<=1000000)(pl:IsPart vl lo)(pu:IsPart vu hi)(e:Hr b.toArray lo hi=av.toArray)(q:Q (.bytes av) H):
  xY P.M A (BL e1 (.Slice l u Jw p) (.bytes b.toArray t) (.ref s.heap.objs.size)) (NV P fl W s Q) E {s with heap:=tD s.heap vl vu}:=by
 refine fA abm (D2 _ _ t) Ds.lookup (yO (getItem_meets (D2 _ _ _) (by decide) Ds IC (Ip _ _) (KBc.meets_slice2 _ t _ pl pu)
   (bU (GZ _ _ _ _) (xH (KBc.size_picked_le _ lo hi) (xH (show b.length<=_ from hz) (by decide))) (λt' k=>?_))) (λU U q=>NV.after (mh C vl vu).2 q) λU U q=>q)
 exact e▸NV.tok q (mh C vl vu).1 _ (.bytes _ _)
theorem toN{k:Int}(h:0<=k):∃m:Nat,k=m:=⟨_,(zx h).symm⟩
theorem akE{x:AV}{lo hi:Option AV}{v vl vu:xP}{e1 l u:_}{p:Pos}(C:Cx P fl W H s)(hx:VR W s.heap x v)(hl:wu W s.heap lo vl)(hu:wu W s.heap hi vu)(h:rM H Q x lo hi):
  xY P.M A (I5 "slice" [vl,vu,.none]) (λi s'=>xY P.M A (BL e1 (.Slice l u Jw p) v i) (NV P fl W s Q) E s') E s:=by
 refine aiZ ?_;induction h with
 | to z h0 h1 q=>
  obtain ⟨m,rfl⟩:=toN h0;obtain rfl:=hl;exact hx.eK λt=>VR.bY hu λt'=>rE C z .none (.int _ t') (akT _ m) q
 | «from» z h0 h1 q=>
  obtain ⟨m,rfl⟩:=toN h0;obtain rfl:=hu;exact hx.eK λt=>VR.bY hl λt'=>rE C z (.int _ t') .none (pick_from _ m) q
 | both z h0 hjk h1 q=>
  obtain ⟨k,rfl⟩:=toN (yG h0 hjk);obtain ⟨m,rfl⟩:=toN h0;exact hx.eK λt=>VR.bY hl λt'=>VR.bY hu λt''=>rE C z (.int _ t') (.int _ t'') (ahd _ m k) q
 | list h z h0 h1 q=>
  obtain ⟨m,rfl⟩:=toN h0;obtain rfl:=hl;refine hx.bG λp hp=>VR.bY hu λt'=>?_;have C1:=(mh C .none (.int m t')).1;refine bM.rec (λU U ws k o2 v2=>?_) (C1.or hp h);refine fA abm ⟨_,o2,rfl⟩ list_getitem_lookup (wpAny_getItem_list_slice (items:=ws.toArray) ⟨_,o2,rfl,_,rfl⟩ (GZ ..) .none (.int m t') .none (λh=>by cases h) ?_ (xH (show ws.length<=_ from v2.length▸z) (by decide)));exact Z (slicePick_upto' _ _) (NV.after (mh C .none (.int m t')).2 (NV.newList q C1 (v2.take m) _))
end
noncomputable abbrev rW(items:Array xP)(n:Nat):Obj:={cls:=.type "list",dict:=Jw,data:=.seq items n,slots:= #[]}
theorem akp{h:yJ}(f)(ho:h.get? l=J (rW items n)):∃n',(h.update l (CN f)).get? l=J (rW (f items) n'):=⟨_,Ad _ ho rfl⟩
section
variable{prog:AG}{w:World}{A:yS}{E:xP->xM->Prop}{s:xM}
theorem acy{t:Tok}{v:xP}{Q:Unit->xM->Prop}(ho:s.heap.get? l=J (rW items n))
  (h0:0<=k) (hfit:k<2^63) (hj:k.toNat<items.size)
  (hQ:∀n' h',h'.get? l=J (rW (items.setIfInBounds k.toNat v) n')->Ar l s.heap h'->Q () {s with heap:=h'}):
  xY (yK prog w) A (Jg (.ref l) (.int k t) v) Q E s:=by
 revert prog w A E s l items n k t v Q;apply hU;intro U;apply(?Z:Tq U);intro prog w A E s l items n k t v Q;intros;refine (akp (·.setIfInBounds k.toNat v) ho).elim λn' g=>?_;have fin:=hQ _ _ g (AI ..)
 clear hQ g
 have hl:s.heap.IsList l items:=⟨_,ho,rfl,_,rfl⟩
 unfold Jg
 try with_reducible refine zZ ?_
 refine xI (wpAny_sequenceKey hl.typeIs (by decide) ?_);refine xI (wpAny_callSpecial?_slot (name:=AK "__setitem__") hl.typeIs slot_list_setitem
  (Bk slot_list_setitem hl.typeIs entry_list_setitem ?_ (args_list_setitem _ _ _)))
 show xY _ _ (Builtin.List.listSubscript? (.int k t)>>=_) _ _ s;refine xI (wpAny_listSubscript_int (fitsIndex_of h0 hfit) ?_)
 clear hfit
 obtain ⟨j,rfl⟩:=HX h0;show xY _ _ ((seqItemAt l j>>=λr=>pure (r.map (j,·)))>>=_) _ _ s;refine xI (xI (wpAny_seqItemAt ho rfl (xU ?_)));rw[Bm (i:=j) hj];show xY _ _ (setSeqItemAt l j v>>=_) _ _ s;exact xI (wpAny_setSeqItemAt ho rfl (xU (aM (.none) rfl (xU fin))))
end
section
variable{K V:Type}[DecidableEq K]{R:AV->V->Prop}{es:List (K×AV)}{kvs:List (K×V)}{k:K}{av:AV}
omit [DecidableEq K] in
theorem kO.snoc(x:kO R es kvs)(y:R av v):kO R (es++[(k,av)]) (kvs++[(k,v)]):=by
 induction x with
 | nil=>exact .cons y .nil
 | cons z _ ih=>exact .cons z ih
theorem kO.aoy(x:kO R es kvs){f:V->V}(y:∀u,R av (f u)):kO R (es.map λe=>if e.1=k then (e.1,av) else e) (kvs.map λe=>if e.1=k then (e.1,f e.2) else e):=by
 induction x with
 | nil=>exact .nil
 | @cons k1 a u r r' z _ ih=>
  refine Z yP (Z yP ?_);by_cases c:k1=k
  ·exact Z (if_pos c) (Z (if_pos c) (.cons (y u) ih))
  ·exact Z (if_neg c) (Z (if_neg c) (.cons z ih))
theorem kO.del(x:kO R es kvs):kO R (jK es k) (jK kvs k):=by
 unfold jK;induction x with
 | nil=>exact .nil
 | @cons k1 a u r r' z _ ih=>
  refine Z List.filter_cons (Z List.filter_cons ?_);show kO R (if decide (k1≠k)=true then _ else _) (if decide (k1≠k)=true then _ else _);cases decide (k1≠k) with
  | true=>exact .cons z ih
  | false=>exact ih
theorem kO.put(x:kO R es kvs)(y:R av v):kO R (br es k av) (br kvs k v):=by
 have e:=(acd kvs k).trans (x.isSome k);show kO R (if bj es k=true then _ else _) (if bj kvs k=true then _ else _);refine Z e ?_;cases bj es k with
 | true=>exact x.aoy (f:=λU=>v) λU=>y
 | false=>exact x.snoc y
end
theorem gA.put{W:WD}{h:yJ}{k:List Int}{av:AV}{v:xP}(y:VR W h av v)(x:gA W h es kvs):gA W h (br es k av) (storedH kvs k a v):=by
 have e:=x.isSome k;show gA W h (if bj es k=true then _ else _) _;unfold storedH;refine Z e ?_;cases bj es k with
 | true=>exact x.aoy (f:=λu=>(u.1,v)) λU=>y
 | false=>exact x.snoc (v:=(a,v)) y
section
variable{P:cy}{fl:List BX}{W W':WD}{H H':AH}{s s':xM}{A:yS}{E:xP->xM->Prop}{n:Nat}
theorem Cx.wU(C:Cx P fl W H s){i:Nat}(hp:W[i]? =J p)(sb:Ar p.a s.heap h'):aX s.heap h':=λb o e f=>
 if c:b=p.a then absurd f (HR.owned C.hr e (c▸Own.at hp)) else (sb.2 b c).trans e
theorem akW{p:WE}(ha:p.aux=[])(h:p.has b):b=p.a:=h.elim id λq=>nomatch ha▸q
theorem Cx.qW(C:Cx P fl W H s){i:Nat}{ao':AO}{h':yJ}{o':Obj}(hi:W[i]? =J p)(ha:p.aux=[])(hg:p.gs=[])(sb:Ar p.a s.heap h')(e:h'.get? p.a=J o')(nf:¬bp o')(t)
  (x:aX s.heap h'->P.OR W {s with heap:=h',toks:=t} p ao'):Cx P fl W (H.set i ao') {s with heap:=h',toks:=t}/\bT fl W s W {s with heap:=h',toks:=t}:=
 C.upd hi (λb o e' hb=>(sb.2 b λq=>hb (.inl q)).trans e') (λU U e U=>e) rfl C.bare (λb hb=>(aM o' (akW ha hb▸e) nf)) (λg q=>nomatch hg▸q) (x (C.wU hi sb))
theorem Cx.uA(C:Cx P fl W H s){a:Nat}{p:WE}{es:List (List Int×AV)}{kvs:List (List Int×yk×xP)}{h':yJ}(hp:W[a]? =J p)(ha:p.aux=[])(hg:p.gs=[])(S:h'.DictOfH (DE (Ap P.prog P.w)) p.a kvs)(sb:Ar p.a s.heap h')(bk:gA W s.heap es kvs)(t):
   Cx P fl W (H.set a (.bD es)) {s with heap:=h',toks:=t}/\bT fl W s W {s with heap:=h',toks:=t}:=by
 exact cps λR k=>by
  refine Qc λU u6=>(id S).elim λo' v6=>v6.elim λes' y6=>y6.elim λep' z6=>z6.elim λe' u7=>u7.elim λU v7=>v7.elim λd' U=>u6 ?_;exact k (C.qW hp ha hg sb e' (bO d') t λkf=>⟨hg,ha,_,S,bk.mono λU U=>VR.mono cf.rfl kf⟩)
theorem Cx.anR(C:Cx P fl W H s)(hp:W[a]? =J p)(ha:p.aux=[])(hg:p.gs=[])(S:h'.DictOf (Ap P.prog P.w) p.a kvs)(sb:Ar p.a s.heap h')(bk:om W s.heap es kvs)(t):
  ∃ep,Cx P fl W (H.set a (.aP es ep)) {s with heap:=h',toks:=t}/\bT fl W s W {s with heap:=h',toks:=t}:=cps λR k=>by
 obtain ⟨ep,S'⟩:=S.dictAt;refine Qc λU u6=>(id S').elim λo' v6=>v6.elim λes' y6=>y6.elim λe' z6=>z6.elim λU u7=>u7.elim λd' U=>u6 ?_;exact k ⟨ep,C.qW hp ha hg sb e' (bO d') t λkf=>⟨hg,ha,_,S',bk.mono λU U=>VR.mono cf.rfl kf⟩⟩
theorem NU.upd(q:dD a o H Q)(e:H[a]? =J o')(x:Cx P fl W (H.set a o) s''/\bT fl W s W s''):NU P fl W s Q () s'':=⟨_,_,q.get e,x.1,x.2⟩
theorem NV.upd{av:AV}(q:dD a o H (Q av))(e:H[a]? =J o')(x:Cx P fl W (H.set a o) s''/\bT fl W s W s'')(y:VR W s''.heap av v):NV P fl W s Q v s'':=⟨_,_,_,q.get e,x.1,y,x.2⟩
theorem ag0{x i y:AV}{v u z:xP}(hA:gQ P A fl (n+5))(C:Cx P fl W H s)(hx:VR W s.heap x v)(hy:VR W s.heap i u)(hz:VR W s.heap y z)(h:n7 y H Q x i):
  xY P.M A (Jg v u z) (NU P fl W s Q) E s:=by
 induction h with
 | list h h0 h1 l q=>
  refine hx.bG λp hp=>hy.bY λt=>bM.rec (λhg ha ws kk o1 v1=>?_) (C.or hp h);exact acy o1 h0 (rU h1) (show _<ws.length from v1.length▸l) λn' h' e' sb=>NU.upd q h (C.qW hp ha hg sb e' (cL rfl) s.toks λkf=>⟨hg,ha,ws.set _ z,n',List.setIfInBounds_toArray .. ▸e',bS.mono cf.rfl kf (v1.set _ hz)⟩)
 | aP h l q=>
  refine hx.bG λp hp=>hy.bY λt=>b3.rec (λhg ha kvs S bk=>?_) (C.or hp h);exact wpAny_setItem_pairs (gu _ t) S.dictOf (λh' S' sb=>(C.anR hp ha hg S' sb (bk.put hz) _).elim λep x=>NU.upd (q ep) h x) (bk.len▸xH (ya l) (by decide))
 | @aii a ep ks is h hk q=>
  refine hx.bG λp hp=>b3.rec (λhg ha kvs S bk=>?_) (C.or hp h);refine jx.elim (prog:=P.prog) (w:=P.w) (G:=λu=>xY P.M A (Jg (.ref p.a) u z) (NU P fl W s Q) E s) hk hy λa' key=>?_;exact wpAny_setItem_heap hA.room key (acj S bk) (λh' S' sb=>NU.upd q h (C.uA hp ha hg S' sb (.cons hz .nil) _)) (yI _)
 | @bD a es ks is h hk l q=>
  refine hx.bG λp hp=>gh.rec (λhg ha kvs S bk=>?_) (C.or hp h);refine jx.elim (prog:=P.prog) (w:=P.w) (G:=λu=>xY P.M A (Jg (.ref p.a) u z) (NU P fl W s Q) E s) hk hy λa' key=>?_;exact wpAny_setItem_heap hA.room key S (λh' S' sb=>NU.upd q h (C.uA hp ha hg S' sb (gA.put hz bk) _)) (bk.len▸xH (ya l) (by decide))
end
namespace F
theorem aaa:PlainAttrs "bytearray":=
 ⟨(aM "bytearray.__getattribute__" (by rw[zL,zd];kernel_rfl) (by decide+kernel)),by rw[zL,zd];kernel_rfl⟩
theorem aar:Slot "bytearray" "append" "bytearray.append":=
 .of (owner:="bytearray") (n:="append") (by rw[zL,zd];kernel_rfl) (by decide+kernel) (by decide+kernel) (by decide+kernel)
  (by first | exact .inl (by decide+kernel) | exact .inr (by decide+kernel)) (by rw[Dk];kernel_rfl)
theorem abQ:Je (.builtin "bytearray.append")=pure (.type "method_descriptor"):=by show builtinType _=_;rw[Gg];kernel_rfl
theorem abI:En table "bytearray.append"=J AJ.«bytearray.append»:=EX (by kernel_rfl)
theorem acw(a b):FX "bytearray.append" ⟨[a,b],[]⟩:=by unfold FX;kernel_rfl
theorem aaq:Slot "bytearray" "extend" "bytearray.extend":=
 .of (owner:="bytearray") (n:="extend") (by rw[zL,zd];kernel_rfl) (by decide+kernel) (by decide+kernel) (by decide+kernel)
  (by first | exact .inl (by decide+kernel) | exact .inr (by decide+kernel)) (by rw[Dk];kernel_rfl)
theorem abP:Je (.builtin "bytearray.extend")=pure (.type "method_descriptor"):=by show builtinType _=_;rw[Gg];kernel_rfl
theorem abH:En table "bytearray.extend"=J AJ.«bytearray.extend»:=EX (by kernel_rfl)
theorem acv(a b):FX "bytearray.extend" ⟨[a,b],[]⟩:=by unfold FX;kernel_rfl
theorem aaj:Slot "bytes" "find" "bytes.find":=
 .of (owner:="bytes") (n:="find") (by rw[zL,zd];kernel_rfl) (by decide+kernel) (by decide+kernel) (by decide+kernel)
  (by first | exact .inl (by decide+kernel) | exact .inr (by decide+kernel)) (by rw[Dk];kernel_rfl)
theorem abw:Je (.builtin "bytes.find")=pure (.type "method_descriptor"):=by show builtinType _=_;rw[Gg];kernel_rfl
theorem abg:En table "bytes.find"=J AJ.«bytes.find»:=EX (by kernel_rfl)
theorem abL(a b):FX "bytes.find" ⟨[a,b],[]⟩:=by unfold FX;kernel_rfl
end F
section
variable{prog:AG}{w:World}{K:Type}[DecidableEq K]{knd:HeapKind prog w K}{A:yS}{E:xP->xM->Prop}{s:xM}{d a:yk}{k:K}{xs:List (K×yk×xP)}
theorem abx{dflt:xP}(hu:knd.room A)(hkey:knd.is s.heap k a)(hm:s.heap.DictOfH knd d xs)
  (h1:∀p,atKey xs k=J p->Q p.2 {s with toks:=s.toks+knd.draws k})
  (h2:atKey xs k=Jw->∀h',h'.DictOfH knd d (xs++[(k,a,dflt)])->Ar d s.heap h'->Q dflt {s with heap:=h',toks:=s.toks+knd.draws k})
  (hsz:xs.length<=Bb):xY (yK prog w) A (Ig d (.ref a) dflt) Q E s:=cps λR hR=>by
 refine Qc λU u6=>hm.elim λo v6=>v6.elim λes y6=>y6.elim λep z6=>z6.elim λho u7=>u7.elim λhc v7=>v7.elim λhd y7=>y7.elim λhe z7=>z7.elim λhis hn=>u6 ?_;refine hR ?_
 clear hR
 unfold Ig
 try with_reducible refine zZ ?_
 refine xI (knd.pyHash hu hkey ?_);refine xI (wpAny_dictFind_heap (s:={s with toks:=s.toks+knd.draws k}) hu hkey ho hd he his hn ?_ ?_)
 ·intro hno
  have hnot:=not_mem_keys_of_get hno;refine xI (C6 (xI (wpAny_updateDictKeys (hz:=xH (yQ (size_of_entries he)) hsz) (s:={s with toks:=s.toks+knd.draws k}) ho hd (xU (h2 (atKey_none_of_get hno) _ ⟨_,_,ep+1,Ad _ ho (Obj.isFreed_of_dict (II hd _)),
   hc.mapDictKeys _,II hd _,?_,λx hx=>(yz.mp hx).elim (λhx=>knd.keeps (his x hx) ho hd (AI ..)) λhx=>xV.mp hx▸knd.keeps hkey ho hd (AI ..),?_⟩ (AI ..))))))
  ·rw[Jc,he,yq];rfl
  ·rw[yq,B9]
   exact (bU hn (Bp.mpr ⟨(λh=>by cases h),List.nodup_nil⟩) (λx hx y hy e=>hnot (e.trans (xV.mp (show y∈[k] from hy))▸hx)))
 ·intro j p hj
  refine xI (G3 (s:={s with toks:=s.toks+knd.draws k}) ho hd ?_);rw[entry_at he j,hj];exact xI (C6 (xU (h1 p (atKey_of_get hn hj))))
theorem cw(hd:(d==DF)=false)(dflt):
  MeetsIn prog w (AJ.«dict.setdefault» ⟨[.ref d,.ref a,dflt],[]⟩) (λA R s=>knd.room A.in1/\∃k xs,knd.is s.heap k a/\s.heap.DictOfH knd d xs/\xs.length<=Bb/\
   (∀p,atKey xs k=J p->R (.ok (.ret p.2)) {s with toks:=s.toks+knd.draws k})/\
   (atKey xs k=Jw->∀h',h'.DictOfH knd d (xs++[(k,a,dflt)])->Ar d s.heap h'->R (.ok (.ret dflt)) {s with heap:=h',toks:=s.toks+knd.draws k})):=
 .of_wp λA R s h=>gX h.2 λk xs q=>by
  unfold AJ.«dict.setdefault»;refine xI ?_;unfold Builtin.Dict.keyAndDefault;refine xI (wpAny_notOrdered_dict q.2.1.typeIs ?_);show xY _ _ (pure (d,y0 a,J dflt)) _ _ s;refine xU ?_;show xY _ _ (if (d==DF)=true then _ else (Ig d (.ref a) dflt>>=_)) _ _ s;refine Z (if_neg (by rw[hd];exact x8)) ?_;exact xI (abx h.1 q.1 q.2.1 (λp hp=>xU (aM p.2 rfl (q.2.2.2.1 p hp))) (λhn h' hm' hs'=>xU (aM dflt rfl (q.2.2.2.2 hn h' hm' hs'))) q.2.2.1)
end
theorem alG(i):((Cb i:Nat):Int)=if i=0 then 0 else (i.natAbs.log2:Int)+1:=by
 unfold Cb;by_cases c:i=0
 ·subst c;rfl
 ·exact Z (if_neg c) (Z (if_neg λe=>c (beq_iff_eq.mp e)) rfl)
theorem acJ(xs)(i:Int):(λk=>xs.contains k||decide (k=i))=λk=>(xs++[i]).contains k:=by
 funext k
 exact Z HG (Z HG (Z List.any_append (congrArg (_|| ·) (Ei _).symm)))
section
variable{P:cy}{fl:List BX}{W W':WD}{H H':AH}{s s':xM}{A:yS}{E:xP->xM->Prop}{n a:Nat}{Q:AV->AH->Prop}{p:WE}{u:xP}
theorem anb(C:Cx P fl W H s)(q:Q (.int (if i=0 then 0 else i.natAbs.log2+1)) H):xY P.M A (call (.builtin "int.bit_length") [.int i t]) (NV P fl W s Q) E s:=
 call_int_bit_length (alG i▸NV.tok q C _ (.int _ _))
theorem ai7{z:AV}(C:Cx P fl W H s)(hp:W[a]? =J p)(y:VR W s.heap z u)(h:H[a]? =J (.list xs))(l:xs.length<1000000)(q:dD a (.list (xs++[z])) H (Q .none)):
  xY P.M A (call (.builtin "list.append") [.ref p.a,u]) (NV P fl W s Q) E s:=by
 refine bM.rec (λhg ha ws k o1 v1=>?_) (C.or hp h);exact PySem.wpAny_list_append_plain ⟨k,o1⟩ (λh' e' sb=>e'.elim λn' e'=>NV.upd q h (C.qW hp ha hg sb e' (cL rfl) s.toks λkf=>⟨hg,ha,ws++[u],n',Jq .. ▸e',bS.mono cf.rfl kf (v1.append (.cons y .nil))⟩) .none) (xH (show ws.length<=_ from v1.length▸ya l) (by decide))
theorem aoB{i:Int}{t:Tok}(C:Cx P fl W H s)(hp:W[a]? =J p)(h:H[a]? =J (.set xs))(hn:i∉xs)(l:xs.length<1000)(q:dD a (.set (xs++[i])) H (Q .none)):
  xY P.M A (call (.builtin "set.add") [.ref p.a,.int i t]) (NV P fl W s Q) E s:=by
 revert P fl W H s A E a Q p xs i t;apply hU;intro U;apply(?Z:Tq U);intro P fl W H s A E a Q p xs i;intros;refine qK.rec (λhg ha S=>?_) (C.or hp h);refine call_set_add (gu i t) rfl S (yL (Dp l) (by decide)) λh' sb S'=>?_;rw[acJ,if_neg λe=>hn (zv.mp e)] at S';have S':h'.SetOf (Ap P.prog P.w) p.a (λk=>(xs++[i]).contains k) (xs++[i]).length:=by exact Z xK S'
 refine cps λR k=>?_;refine Qc λU u6=>(id S').elim λo' v6=>v6.elim λU y6=>y6.elim λU z6=>z6.elim λU u7=>u7.elim λe' v7=>v7.elim λc' U=>u6 ?_;exact k (NV.upd q h (C.qW hp ha hg sb e' (bp.not (λe=>absurd (c'.1.symm.trans e) (by decide)) λe=>absurd (c'.1.symm.trans e) (by decide)) (s.toks+1) λU=>⟨hg,ha,S'⟩) .none)
theorem agC{i:Int}(C:Cx P fl W H s)(bk:om W s.heap es kvs)(y:VR W s.heap d u)(q:Q ((getKey es i).getD d) H):NV P fl W s Q ((getKey kvs i).getD u) {s with toks:=t}:=
 NV.tok q C t (jP.rec (motive:=λa b U=>VR W s.heap (a.getD d) (b.getD u)) y (λr=>r) (bk.at i))
theorem ana{ep:Nat}{t:Tok}(C:Cx P fl W H s)(hp:W[a]? =J p)(h:H[a]? =J (.aP es ep))(q:Q ((getKey es i).getD .none) H):
  xY P.M A (call (.builtin "dict.get") [.ref p.a,.int i t]) (NV P fl W s Q) E s:=
 b3.rec (λU U kvs S bk=>D3 EA S.dictOf.typeIs Hn (PySem.F.args_dict_get_2 _ _) (meets_dict_get _ _ (gu i t) (C.fF hp)) (aM _ S.dictOf.mapOf (agC C bk .none q))) (C.or hp h)
theorem am9{ep:Nat}{t:Tok}(C:Cx P fl W H s)(hp:W[a]? =J p)(y:VR W s.heap d u)(h:H[a]? =J (.aP es ep))(q:Q ((getKey es i).getD d) H):
  xY P.M A (call (.builtin "dict.get") [.ref p.a,.int i t,u]) (NV P fl W s Q) E s:=
 b3.rec (λU U kvs S bk=>D3 EA S.dictOf.typeIs Hn (PySem.F.args_dict_get_3 _ _ _) (meets_dict_get_default _ _ (gu i t) (C.fF hp) _) (aM _ S.dictOf.mapOf (agC C bk y q))) (C.or hp h)
theorem aoz{ep:Nat}{z:AV}(C:Cx P fl W H s)(hp:W[a]? =J p)(h:H[a]? =J (.aP es ep))(l:es.length<=1000)(e:getKey es i=J z)(q:∀ep',dD a (.aP (jK es i) ep') H (Q z)):
  xY P.M A (call (.builtin "dict.pop") [.ref p.a,.int i t]) (NV P fl W s Q) E s:=by
 refine b3.rec (λhg ha kvs S bk=>(jP.lM (e▸bk.at i)).elim λu hu=>?_) (C.or hp h);exact D3 HD S.dictOf.typeIs PySem.F.entry_dict_pop (PySem.F.args_dict_pop_2 _ _) (meets_dict_pop_there _ _ (gu i t) [] (.inl rfl) rfl) (mZ _ u S.dictOf (bk.len▸xH l (by decide)) hu.1 (λh' S' sb=>
  (C.anR hp ha hg S' sb bk.del _).elim λep x=>NV.upd (q ep) h x (hu.2.mono cf.rfl (C.wU hp sb))))
theorem acT{h:yJ}(bk:gA W h es kvs)(l:es.length<1000):kvs.length<=Bb:=bk.len▸xH (ya l) (by decide)
theorem ak8{a':Nat}{ep:Nat}(hA:gQ P A fl (n+5))(C:Cx P fl W H s)(hp:W[a]? =J p)(h:H[a]? =J (.aP [] ep))(key:(DE (Ap P.prog P.w)).is s.heap is a')(y:VR W s.heap d u)(q:dD a (.bD [(is,d)]) H (Q d)):
  xY P.M A (call (.builtin "dict.setdefault") [.ref p.a,.ref a',u]) (NV P fl W s Q) E s:=by
 refine b3.rec (λhg ha kvs S bk=>?_) (C.or hp h);have S':=acj S bk;exact D3 AQ S'.typeIs Dg (Dd _ _ _) (cw (C.fF hp) _) ⟨hA.room,(oy is _ key S' (yI _) (λU e=>(Cw _ (show (Jw:Option (yk×xP))=J _ from e).symm).elim) (λU h' S2 sb=>NV.upd q h (C.uA hp ha hg S2 sb (.cons y .nil) _) (y.mono cf.rfl (C.wU hp sb))))⟩
theorem ahu{a':Nat}{es:List (List Int×AV)}{z:AV}(hA:gQ P A fl (n+5))(C:Cx P fl W H s)(hp:W[a]? =J p)(h:H[a]? =J (.bD es))(key:(DE (Ap P.prog P.w)).is s.heap is a')(l:es.length<1000)(e:getKey es is=J z)(q:Q z H):
  xY P.M A (call (.builtin "dict.setdefault") [.ref p.a,.ref a',u]) (NV P fl W s Q) E s:=by
 refine gh.rec (λU U kvs S bk=>(jP.lM (e▸bk.at is)).elim λu hu=>?_) (C.or hp h);exact D3 AQ S.typeIs Dg (Dd _ _ _) (cw (C.fF hp) _) ⟨hA.room,(oy is _ key S (acT bk l) (λw ew=>xT (hu.1.symm.trans ew)▸NV.tok q C _ hu.2) (λen=>(Cw _ (hu.1.symm.trans en)).elim))⟩
theorem ahv{a':Nat}{es:List (List Int×AV)}{d:AV}(hA:gQ P A fl (n+5))(C:Cx P fl W H s)(hp:W[a]? =J p)(h:H[a]? =J (.bD es))(key:(DE (Ap P.prog P.w)).is s.heap is a')(y:VR W s.heap d u)(l:es.length<1000)(e:getKey es is=Jw)(q:dD a (.bD (br es is d)) H (Q d)):
  xY P.M A (call (.builtin "dict.setdefault") [.ref p.a,.ref a',u]) (NV P fl W s Q) E s:=by
 refine gh.rec (λhg ha kvs S bk=>?_) (C.or hp h);have en:=jP.none_ (e▸bk.at is);exact D3 AQ S.typeIs Dg (Dd _ _ _) (cw (C.fF hp) _) ⟨hA.room,(oy is _ key S (acT bk l) (λw ew=>(nomatch en.symm.trans ew)) (λU h' S2 sb=>
  NV.upd q h (C.uA (kvs:=storedH kvs is a' u) hp ha hg (by exact Z (storedH_new en _ _) S2) sb (gA.put y bk) _) (y.mono cf.rfl (C.wU hp sb))))⟩
end
theorem aeh(x y:List UInt8)(i)(hy:y.length=2):(x.toArray.extract i (i+y.toArray.size)==y.toArray)=y.isPrefixOf (x.drop i):=by
 have e:x.toArray.extract i (i+y.toArray.size)=((x.drop i).take 2).toArray:=by
  exact Z List.extract_toArray (Z List.extract_eq_drop_take (Z zC (Z hy (Z (HT _ _) rfl))))
 rw[e,DC,beq_iff_eq,Hd,List.prefix_iff_eq_take,hy];exact ⟨λh=>(congrArg Array.toList h).symm,λh=>congrArg HU h.symm⟩
theorem pb(y:List UInt8)(hy:y.length=2)(x)(hx:x.length<2):y.isPrefixOf x=false:=Bv.mpr λh=>absurd (hy▸(Hd.mp h).length_le) (AD.mpr hx)
theorem abv(y:List UInt8)(hy:y.length=2):∀x,findB x y x.length=(((yH (x.length-1)).find? λi=>y.isPrefixOf (x.drop i)).map Ao).getD (-1)
 | []=>by
  show (if y.isPrefixOf []=true then (0:Int) else-1)=_;exact Z (pb y hy _ (by decide)) rfl
 | [a]=>by
  show (if y.isPrefixOf [a]=true then (0:Int) else if (if y.isPrefixOf []=true then (0:Int) else-1)<0 then-1 else _)=_;exact Z (pb y hy [a] (yM 1)) (Z (pb y hy [] (by decide)) rfl)
 | a::b::r=>by
  have ih:findB (b::r) y (b::r).length=(((yH r.length).find? λi=>y.isPrefixOf ((b::r).drop i)).map Ao).getD (-1):=abv y hy (b::r);show (if y.isPrefixOf (a::b::r)=true then (0:Int) else if findB (b::r) y (b::r).length<0 then-1 else findB (b::r) y (b::r).length+1)=(((yH (r.length+1)).find? λi=>y.isPrefixOf ((a::b::r).drop i)).map Ao).getD (-1);rw[ih,HV,List.find?_cons,BJ];show _=(Iv Ao (match y.isPrefixOf (a::b::r) with | true=>J 0 | false=>((yH r.length).find? λi=>y.isPrefixOf ((b::r).drop i)).map Nat.succ)).getD (-1);cases y.isPrefixOf (a::b::r) with
  | true=>rfl
  | false=>
   cases (yH r.length).find? λi=>y.isPrefixOf ((b::r).drop i) with
   | none=>rfl
   | some k=>exact if_neg (t:=(-1:Int)) (zg.mpr (CQ k))
theorem find_eq(x y:List UInt8)(hy:y.length=2):(if x.toArray.size<y.toArray.size then (-1:Int) else ((B6 x.toArray y.toArray 0 x.toArray.size).map Ao).getD (-1))=findB x y x.length:=by
 rw[abv y hy];have e:B6 x.toArray y.toArray 0 x.toArray.size=(yH (x.length-1)).find? λi=>y.isPrefixOf (x.drop i):=by
  unfold B6;have e1:x.toArray.size+1-(0+y.toArray.size)=x.length-1:=by rw[zC,zC,hy];rfl
  have e2:=funext λi=>aeh x y i hy;rw[e1,e2];simp
 by_cases c:x.toArray.size<y.toArray.size
 ·rw[if_pos c]
  rw[zC,zC,hy] at c;rw[Iw (yb c)];rfl
 ·rw[if_neg c,e]
section
variable{prog:AG}{w:World}{A:yS}{E:xP->xM->Prop}{s:xM}
theorem abK{Q:xP->xM->Prop}(h:∀t k,Q (.int (if x.size<y.size then-1 else ((B6 x y 0 x.size).map Ao).getD (-1)) t) {s with toks:=k}):
  xY (yK prog w) A (call (.builtin "bytes.find") [.bytes x t,.bytes y u]) Q E s:=by
 revert prog w A E s x y t u Q;apply rD;intro U;apply(?Z:Tq U);intro prog w A E s x y t u Q;intros;refine Bk F.aaj (D2 s x t) F.abg ?_ (F.abL _ _);show xY _ _ (Gz .bytes "find" false false ⟨[.bytes x t,.bytes y u],[]⟩) _ _ _;unfold Gz;refine xI ?_;unfold Builtin.Bytes.searchArgs;refine xI (m:=selfAndSome _ _ _ _ _) (zI (a:=(.bytes x t,[.bytes y u])) (by kernel_rfl) ?_);refine xI (m:=GO _) (zI (a:=Jw) rfl ?_);refine xI (m:=GO _) (zI (a:=Jw) rfl ?_);show xY _ _ (BE _ (.bytes y u)>>=λr=>_) _ _ _;refine xI (zI KBy.buffer_eq ?_);refine xI (xU ?_);refine xI (m:=CI _) (zI (a:=x) rfl ?_);have hw:GN x.size Jw Jw=(0,(x.size:Int)):=by
  simp[GN,zg.mpr (CQ x.size)]
 refine Z hw ?_;refine xU ?_;by_cases hy:x.size<y.size
 ·have h:=(if_pos hy)▸h
  have hc:(x.size:Int)-0<(y.size:Int):=(EN _).symm▸x9.mpr hy;refine Z (if_pos hc) ?_;simp only[Option.bind_none];exact xI (C6 (xI (wpAny_mkInt (xU (aM _ rfl (h _ _))))))
 ·have h:=(if_neg hy)▸h
  have hc:¬((x.size:Int)-0<(y.size:Int)):=(EN _).symm▸λq=>hy (x9.mp q);refine Z (if_neg hc) ?_;simp only[Ga,Gn,Int.toNat_zero,Bg,if_false];cases hf:B6 x y 0 x.size with
  | some i=>
   have h:=hf▸h;exact xI (wpAny_mkInt (xU (aM _ rfl (h _ _))))
  | none=>
   have h:=hf▸h;exact xI (C6 (xI (wpAny_mkInt (xU (aM _ rfl (h _ _))))))
end
section
variable{P:cy}{fl:List BX}{W W':WD}{H H':AH}{s s':xM}{A:yS}{E:xP->xM->Prop}{n:Nat}
theorem m_find{b c:List UInt8}{Q:AV->AH->Prop}(C:Cx P fl W H s)(hc:c.length=2)(q:Q (.int (findB b c b.length)) H):xY P.M A (call (.builtin "bytes.find") [.bytes b.toArray t,.bytes c.toArray t']) (NV P fl W s Q) E s:=
 abK λt k=>find_eq b c hc▸NV.tok q C _ (.int _ _)
inductive vc(P:cy)(A:yS)(s:xM)(E:xP->xM->Prop)(G:fW)(H:AH)(n:Nat)(x:AV)(v:xP)(k:Sel->Prop):Prop
 | fn{i C f:Nat}{fs:List (Nat×AV)}(e:x= .ref i)(h:H[i]? =J (.inst C fs))(l:fs.lookup n=Jw)(m:G.cR C n=J f)(q:k (.fn f)):vc P A s E G H n x v k
 | bi(b:BM)(q:k (.bi b))(g:∀{pl:Sem Bool} {Q:xP×List xP->xM->Prop},Q (.builtin (rI b),[v]) s->xY P.M A (D7 v (P.NM n) pl) Q E s):vc P A s E G H n x v k
theorem amM(N:pX P.NM)(C:Cx P fl W H s)(hv:VR W s.heap x v)(h:iR G H k n x):vc P A s E G H n x v k:=by
 induction h with
 | fn h l m q=>exact .fn rfl h l m q
 | b7 q=>exact hv.bY λt=>.bi _ q λhQ=>N.b7▸getMethod_int_bit_length hQ
 | find q=>exact hv.eK λt=>.bi _ q λhQ=>N.find▸Bd (D2 s _ t) FB.plainAttrs_bytes F.aaj F.abw (λU e=>by cases e) hQ
 | append h q=>exact hv.bG λp hp=>bM.rec (λU U ws kk o1 U=>.bi _ q λhQ=>N.append▸Bd ⟨_,o1,rfl⟩ PySem.F.plainAttrs_list PySem.F.slot_list_append PySem.F.type_list_append (λb e=>DP e▸(aM _ o1 rfl)) hQ) (C.or hp h)
 | add h q=>exact hv.bG λp hp=>qK.rec (λU U S=>.bi _ q λhQ=>N.add▸getMethod_set_add S hQ) (C.or hp h)
 | bK h q=>exact hv.bG λp hp=>jQ.rec (λU U o eo ec ed U=>.bi _ q λhQ=>N.append▸Bd ⟨_,eo,ec⟩ F.aaa F.aar F.abQ (λb e=>DP e▸(aM _ eo ed)) hQ) (C.or hp h)
 | dV h q=>exact hv.bG λp hp=>jQ.rec (λU U o eo ec ed U=>.bi _ q λhQ=>N.extend▸Bd ⟨_,eo,ec⟩ F.aaa F.aaq F.abP (λb e=>DP e▸(aM _ eo ed)) hQ) (C.or hp h)
 | get h q=>exact hv.bG λp hp=>b3.rec (λU U kvs S U=>.bi _ q λhQ=>N.get▸Bd S.dictOf.typeIs CH EA PySem.F.type_dict_get S.dictOf.mapOf.noDict hQ) (C.or hp h)
 | pop h q=>exact hv.bG λp hp=>b3.rec (λU U kvs S U=>.bi _ q λhQ=>N.pop▸Bd S.dictOf.typeIs CH HD PySem.F.type_dict_pop S.dictOf.mapOf.noDict hQ) (C.or hp h)
 | al5 h q=>exact hv.bG λp hp=>b3.rec (λU U kvs S U=>.bi _ q λhQ=>N.aY▸Bd S.dictOf.typeIs CH AQ Gh S.dictOf.mapOf.noDict hQ) (C.or hp h)
 | al4 h q=>exact hv.bG λp hp=>gh.rec (λU U kvs S U=>.bi _ q λhQ=>N.aY▸Bd S.typeIs CH AQ Gh (dictOfH_noDict S) hQ) (C.or hp h)
end
section
variable{P:cy}{fl:List BX}{W W':WD}{H H':AH}{s s':xM}{A:yS}{E:xP->xM->Prop}{n a:Nat}{Q:AV->AH->Prop}{p:WE}{v:xP}
theorem NV.keeps{av v}(q:Q av H)(C:Cx P fl W H s)(k:∀b o,s.heap.get? b=J o->h'.get? b=J o)(y:VR W h' av v):NV P fl W s Q v {s with heap:=h',toks:=tk}:=
 ⟨W,H,av,q,C.grow k rfl,y,Step.grow k rfl rfl⟩
theorem agq(e:n=m)(l:n<=1000000):(m:Int)<2^63:=e▸Bi (yj.mpr l) (by decide)
theorem agS(C:Cx P fl W H s)(O:bM W s p xs)(l:xs.length<=1000000)(q:Q (.int xs.length) H):xY P.M A (call (.builtin "len") [.ref p.a]) (NV P fl W s Q) E s:=
 bM.rec (λU U ws k o1 v1=>len_list ⟨_,o1,rfl,_,rfl⟩ (agq v1.length l) (NV.tok (show Q (.int (ws.length:Nat)) H from v1.length▸q) C _ (.int _ _))) O
theorem alP{x:List UInt8}(C:Cx P fl W H s)(l:x.length<=1000000)(q:Q (.int x.length) H):xY P.M A (call (.builtin "len") [.bytes x.toArray t]) (NV P fl W s Q) E s:=
 len_bytes (xH (show x.length<=_ from l) (by decide)) (NV.tok q C _ (.int _ _))
theorem alO{ws:List xP}(C:Cx P fl W H s)(ht:IsTup s.heap a ws.toArray)(vr:bS W s.heap xs ws)(l:xs.length<=1000000)(q:Q (.int xs.length) H):xY P.M A (call (.builtin "len") [.ref a]) (NV P fl W s Q) E s:=
 len_tuple ht (agq vr.length l) (NV.tok (show Q (.int (ws.length:Nat)) H from vr.length▸q) C _ (.int _ _))
theorem abs_eq(i):(if i<0 then-i else i)=(i.natAbs:Int):=by
 by_cases c:i<0
 ·exact Z (if_pos c) ((Int.ofNat_natAbs_of_nonpos (zY c)).symm)
 ·exact Z (if_neg c) ((IZ (zg.mp c)).symm)
theorem anH(C:Cx P fl W H s)(q:Q (.int i.natAbs) H):xY P.M A (call (.builtin "abs") [.int i t]) (NV P fl W s Q) E s:=
 call_abs_int λu tk=>abs_eq i▸NV.tok q C _ (.int _ _)
theorem o7(C:Cx P fl W H s)(q:Q (.gB i j k) H)(tk):NV P fl W s Q (.ref s.heap.objs.size) {s with heap:=s.heap.push {cls:=.type "range",data:=.fields #[.int i t,.int j u,.int k w]},toks:=tk}:=
 NV.keeps q C (λb o' e=>xW _ e) (.gB _ _ _ _ ⟨_,_,_,IsRange.new ..⟩)
theorem alU{k:Int}(h0:0<k)(h1:k<=1000000):k.natAbs<1073741824:=by
 obtain ⟨m,rfl⟩:=toN (zY h0);exact xN (yj.mp h1:m<=1000000) (by decide)
theorem ah1{i j k:Int}(C:Cx P fl W H s)(h0:0<k)(h1:k<=1000000)(q:Q (.gB i j k) H):xY P.M A (call (.type "range") [.int i t,.int j u,.int k w]) (NV P fl W s Q) E s:=
 call_range_3 (Int.ne_of_gt h0) (o7 C q _) (.inl (PyProof.noPylong_small (alU h0 h1)))
theorem anG(C:Cx P fl W H s)(q:bR (.set []) H Q):xY P.M A (call (.type "set") []) (NV P fl W s Q) E s:=
 call_set_0 λled=>NV.new q C (bp.not (λe=>absurd (show DO "set"= .type "tuple" from e) (by decide)) λe=>absurd (show DO "set"= .type "range" from e) (by decide)) rfl ⟨rfl,rfl,(setObjOf_fresh (knd:=Ap P.prog P.w) led).setOf (h:=s.heap.push {cls:=.type "set",dict:=Jw,data:=.set #[] 0 (.fresh 0 0 led)}) (a:=s.heap.objs.size) (yC _ rfl) (by decide)⟩ s.toks
theorem alM{a b:Int}(hA:gQ P A fl (n+5))(C:Cx P fl W H s)(q:Q (.int (if a<b then b else a)) H):xY P.M A (call (.builtin "max") [.int a t,.int b u]) (NV P fl W s Q) E s:=by
 refine max_two_ints hA.handled λh' tk k=>?_;by_cases c:a<b
 ·rw[if_pos c] at q;exact Z (if_pos (show b>a from c)) (NV.keeps q C k (.int _ _))
 ·rw[if_neg c] at q;exact Z (if_neg (show ¬b>a from c)) (NV.keeps q C k (.int _ _))
theorem alK{a b:Int}(hA:gQ P A fl (n+5))(C:Cx P fl W H s)(q:Q (.int (if b<a then b else a)) H):xY P.M A (call (.builtin "min") [.int a t,.int b u]) (NV P fl W s Q) E s:=by
 refine min_two_ints hA.handled λh' tk k=>?_;by_cases c:b<a
 ·rw[if_pos c] at q ⊢;exact NV.keeps q C k (.int _ _)
 ·rw[if_neg c] at q ⊢;exact NV.keeps q C k (.int _ _)
end
inductive qL(ws:List xP)(is:List Int):Prop
 | mk(ys:List (Int×Tok))(e1:ws.toArray=DN ys.toArray)(e2:ys.map (·.1)=is):qL ws is
theorem afD{h:yJ}(y:bS W h xs ws):∀{is:List Int},intsOf xs=J is->∃ys:List (Int×Tok),ws=ys.map (λp=>.int p.1 p.2)/\ys.map (·.1)=is:=by
 induction y with
 | nil=>exact λe=>⟨[],rfl,xT e⟩
 | cons x _ ih=>exact λe=>match abt e with
  | ⟨i,js,e1,e2,e3⟩=>(ih e2).elim λys q=>by
   subst e1;subst e3;exact x.bY (G:=λv=>∃ys,v::_=ys.map (λp=>.int p.1 p.2)/\ys.map (·.1)=i::js) λt=>(aM ((i,t)::ys) (congrArg _ q.1) (congrArg _ q.2))
theorem tY{h:yJ}{is:List Int}(y:bS W h xs ws)(e:intsOf xs=J is):qL ws is:=(afD y e).elim λys q=>⟨ys,q.1▸(List.map_toArray ..).symm,q.2⟩
section
variable{prog:AG}{w:World}{A:yS}{E:xP->xM->Prop}{s:xM}{l:yk}{xs:Array (Int×Tok)}
theorem abq(hl:s.heap.IsTuple l (DN xs))
  (h:∀S8,S8={s with heap:=s.heap.push {cls:=.type "tuple_iterator",data:=.fields #[.ref l,.int 0 0]}}->
   (S8.heap.IsTupleIter s.heap.objs.size l 0/\S8.heap.IsTuple l (DN xs))->(∀b∈[s.heap.objs.size,l],b<S8.heap.objs.size)->l≠s.heap.objs.size->Q (.ref s.heap.objs.size) S8):
  xY (yK prog w) A (El (.ref l)) Q E s:=by
 have hlt:=hl.elim λU e=>zb e.1;refine wpAny_pyIter_tuple hl (h _ rfl ⟨⟨_,yC _ rfl,rfl,rfl⟩,hl.push _⟩ (λb hb=>?_) (zt hlt));show b<(s.heap.push _).objs.size;exact Z (BK _ _) ((yu.mp hb).elim (λe=>e▸yM _) λhb=>xV.mp hb▸AZ hlt)
theorem aeE{h':yJ}(hk:∀b o,b∉[s.heap.objs.size]->(s.heap.push O0).get? b=J o->h'.get? b=J o):
  ∀b o,s.heap.get? b=J o->h'.get? b=J o:=λb o e=>
 hk b o (λhm=>absurd (xV.mp hm▸zb e) (zU _)) (xW _ e)
theorem items_size:(DN xs).size=xs.size:=Array.size_map
theorem ak5(hh:A.handled=Jw)(hl:s.heap.IsTuple l (DN xs))(hne:0<xs.size)
  (h:∀v h' tk,(DN xs)[argBest (λi j=>decide (numAt xs i<numAt xs j)) (xs.size-1)]? =J v->(∀b o,s.heap.get? b=J o->h'.get? b=J o)->Q v {s with heap:=h',toks:=tk}):
  xY (yK prog w) A (call (.builtin "min") [.ref l]) Q E s:=by
 revert prog w A E s l xs Q;apply e8;intro U;apply(?Z:Tq U);intro prog w A E s l xs Q;intros;refine call_min_walk (abq hl λS8 e st hfp hlI=>?_);subst e;refine ⟨_,_,_,_,_,_,_,rfl,Walks.tuple (A:=A.in1) hh _ l hlI (DN xs),st,hfp,by simpa[DN] using hne,CmpOf.ints_lt (numAt xs) (λU U=>Hz),λv h' tk hP hk=>?_⟩;rw[items_size] at hP;exact h v h' tk hP (aeE hk)
theorem akx(hh:A.handled=Jw)(hl:s.heap.IsTuple l (DN xs))(hfit:∀j,j<xs.size->InLong (numAt xs j)/\InLong (preSum (numAt xs) (j+1)))
  (h:∀h' tk t',(∀b o,s.heap.get? b=J o->h'.get? b=J o)->Q (.int (preSum (numAt xs) xs.size) t') {s with heap:=h',toks:=tk}):
  xY (yK prog w) A (call (.builtin "sum") [.ref l]) Q E s:=by
 revert prog w A E s l xs Q;apply e8;intro U;apply(?Z:Tq U);intro prog w A E s l xs Q;intros;refine call_sum_walk (abq hl λS8 e st hfp hlI=>?_);subst e;refine ⟨_,_,_,_,_,_,numAt xs,rfl,Walks.tuple (A:=A.in1) hh _ l hlI (DN xs),st,hfp,(λU U=>Hz),(λj hj=>hfit j (items_size▸hj)),λh' tk t' hk=>?_⟩;exact items_size (xs:=xs)▸h h' tk t' (aeE hk)
end
theorem am7{l:List Int}(h:l.max? =J m){M:Int}(h1:M∈l)(h2:∀a∈l,a<=M):M=m:=
 have:=List.max?_eq_some_iff.mp h
 EU (this.2 M h1) (h2 m this.1)
theorem am5{l:List Int}(h:l.min? =J m){M:Int}(h1:M∈l)(h2:∀a∈l,M<=a):M=m:=
 have:=List.min?_eq_some_iff.mp h
 EU (h2 m this.1) (this.2 M h1)
section
variable{ys:List (Int×Tok)}
theorem rk(j):numAt ys.toArray j=(ys.map (·.1)).getD j 0:=numAt_eq _ _
theorem agl(hn:0<ys.length)(h:j<=ys.length-1):numAt ys.toArray j∈ys.map (·.1):=rk j▸getD_mem ((xJ _).symm▸Nat.lt_of_le_pred hn h)
theorem agm{P:Int->Prop}(h:∀j,j<=ys.length-1->P (numAt ys.toArray j)):∀a∈ys.map (·.1),P a:=λa ha=>(mem_getD ha).elim λj hj=>hj.2▸rk j▸h j (Nat.le_pred_of_lt (xJ (as:=ys) (·.1)▸hj.1))
theorem ah7(h:(ys.map (·.1)).max? =J m\/(ys.map (·.1)).min? =J m):0<ys.length:=by
 cases ys with
 | nil=>exact h.elim (λh=>by cases h) (λh=>by cases h)
 | cons=>exact Af _
end
theorem sum_bound:∀{l:List Int},(∀i∈l,0<=i/\i<=1000000)->0<=l.sum/\l.sum<=1000000*l.length
 | [],_=>⟨Dy _,Dy _⟩
 | a::r,h=>by
  have ih:=sum_bound (l:=r) λi hi=>h i (.tail _ hi);have h:=h a (.head _);exact Z zB ⟨Ht h.1 ih.1,yG (Fv h.2 ih.2) (Int.le_of_eq (by refine Z Ak (Z (Int.natCast_succ _) (Z (Int.mul_add _ _ _) (Z (De _ _) ?_)));rfl))⟩
section
variable{P:cy}{fl:List BX}{W W':WD}{H H':AH}{s s':xM}{A:yS}{E:xP->xM->Prop}{n a:Nat}{Q:AV->AH->Prop}{p:WE}{v:xP}
theorem alL{xs:List AV}{is:List Int}(hA:gQ P A fl (n+5))(C:Cx P fl W H s)(hp:W[a]? =J p)(h:H[a]? =J (.list xs))(ei:intsOf xs=J is)(em:is.max? =J m)(q:Q (.int m) H):
  xY P.M A (call (.builtin "max") [.ref p.a]) (NV P fl W s Q) E s:=by
 refine bM.rec (λU U ws k o1 v1=>qL.rec (λys e1 e2=>?_) (tY v1 ei)) (C.or hp h);rw[e1] at o1;subst e2;have hne:=ah7 (.inl em);refine max_intList hA.handled ⟨_,o1,rfl,_,rfl⟩ hne λv h' tk hv hk=>(Hz hv).elim λt e=>?_;have h:=argBest_gt (numAt ys.toArray) (ys.length-1);exact e▸NV.keeps (am7 em (agl hne h.1) (agm h.2)▸q) C hk (.int _ _)
theorem alJ{xs:List AV}{ws:List xP}{is:List Int}(hA:gQ P A fl (n+5))(C:Cx P fl W H s)(ht:IsTup s.heap a ws.toArray)(v1:bS W s.heap xs ws)(ei:intsOf xs=J is)(em:is.min? =J m)(q:Q (.int m) H):
  xY P.M A (call (.builtin "min") [.ref a]) (NV P fl W s Q) E s:=by
 refine qL.rec (λys e1 e2=>?_) (tY v1 ei);rw[e1] at ht;subst e2;have hne:=ah7 (.inr em);refine ak5 hA.handled ht hne λv h' tk hv hk=>(Hz hv).elim λt e=>?_;have h:=argBest_lt (numAt ys.toArray) (ys.length-1);exact e▸NV.keeps (am5 em (agl hne h.1) (agm h.2)▸q) C hk (.int _ _)
theorem alI{is:List Int}(hA:gQ P A fl (n+5))(C:Cx P fl W H s)(ht:IsTup s.heap a ws.toArray)(v1:bS W s.heap xs ws)(ei:intsOf xs=J is)(hl:is.length<=1000)(hb:∀i∈is,0<=i/\i<=1000000)(q:Q (.int is.sum) H):
  xY P.M A (call (.builtin "sum") [.ref a]) (NV P fl W s Q) E s:=by
 refine qL.rec (λys e1 e2=>?_) (tY v1 ei);rw[e1] at ht;subst e2;refine akx hA.handled ht (λj hj=>?_) λh' tk t' hk=>?_
 ·rw[rk,preSum_eq]
  have h1:=hb _ (getD_mem (l:=ys.map (·.1)) ((xJ _).symm▸(show j<ys.length from hj)));have h2:=sum_bound (l:=(ys.map (·.1)).take (j+1)) λi hi=>hb i (zD hi);have h3:(((ys.map (·.1)).take (j+1)).length:Int)<=1000:=yj.mpr (xH (Iy _ _) hl);exact ⟨⟨yG (by decide) h1.1,Bi h1.2 (by decide)⟩,yG (by decide) h2.1,Bi (yG h2.2 (Int.mul_le_mul_of_nonneg_left h3 (by decide))) (by decide)⟩
 ·have e:preSum (numAt ys.toArray) ys.toArray.size=(ys.map (·.1)).sum:=(preSum_eq _ _).trans (congrArg List.sum (zV (yQ (xJ _))))
  exact NV.keeps (e▸q) C hk (.int _ _)
end
inductive ape(a:AV)(as:List AV)(bs:List UInt8):Prop
 | mk(i:Int)(js:List UInt8)(e:a= .int i)(h:0<=i/\i<256)(e':octets as=J js)(e2:bs=Gu i.toNat::js):ape a as bs
theorem ael(e:octets (a::as)=J bs):ape a as bs:=by
 cases a with
 | int i=>
  by_cases c:0<=i/\i<256
  ·exact (yh.mp ((if_pos c).symm.trans e)).elim λjs q=>⟨i,js,rfl,c,q.1,q.2.symm⟩
  ·exact (Cw _ (e.symm.trans (if_neg c))).elim
 | _=>exact (Cw _ e.symm).elim
theorem afq{h:yJ}(y:bS W h xs ws):∀{bs:List UInt8},octets xs=J bs->∃ns,IntsAre ws ns/\(∀n∈ns,0<=n/\n<256)/\ns.map (λn=>n.toNat.toUInt8)=bs:=by
 induction y with
 | nil=>exact λe=>⟨[],.nil,(λU h=>by cases h),xT e⟩
 | cons x _ ih=>exact λe=>match ael e with
  | ⟨i,js,e1,h,e2,e3⟩=>(ih e2).elim λns q=>by
   subst e1;subst e3;exact x.bY (G:=λv=>∃ns,IntsAre (v::_) ns/\(∀n∈ns,0<=n/\n<256)/\ns.map (λn=>n.toNat.toUInt8)=Gu i.toNat::js) λt=>(bJ (i::ns) (.cons i t q.1) (λn hn=>(yu.mp hn).elim (λe=>e▸h) (q.2.1 n)) (congrArg _ q.2.2))
section
variable{P:cy}{fl:List BX}{W W':WD}{H H':AH}{s s':xM}{A:yS}{E:xP->xM->Prop}{n a:Nat}{Q:AV->AH->Prop}{p:WE}{v:xP}
theorem alH(C:Cx P fl W H s)(hp:W[a]? =J p)(h:H[a]? =J (.list xs))(l:xs.length<=1000000)(q:Q (.tup xs) H):
  xY P.M A (call (.type "tuple") [.ref p.a]) (NV P fl W s Q) E s:=
 bM.rec (λU U ws k o1 v1=>call_tuple_list ⟨_,o1,rfl,_,rfl⟩ (λh' hk=>NV.after (s':={s with heap:=h'}) (Step.grow hk rfl rfl) (NV.aiY (s:={s with heap:=h'}) q (C.grow hk rfl) (bS.mono cf.rfl (aX.of_keeps hk) v1) s.toks)) (xH (show ws.length<=_ from v1.length▸l) (by decide))) (C.or hp h)
theorem ah2(hA:gQ P A fl (n+5))(C:Cx P fl W H s)(hp:W[a]? =J p)(h:H[a]? =J (.list xs))(eo:octets xs=J bs)(hl:bs.length<=1000000)(q:Q (.bytes bs) H):
  xY P.M A (call (.type "bytes") [.ref p.a]) (NV P fl W s Q) E s:=by
 refine bM.rec (λU U ws k o1 v1=>(afq v1 eo).elim λns o=>?_) (C.or hp h);have hn:=o.2.2▸(xJ _).symm;refine call_bytes_ints ⟨_,o1,rfl,_,rfl⟩ o.1 o.2.1 (xH (show ws.length<=_ from o.1.length▸hn▸hl) (by decide)) hA.handled λh' t k hk=>?_;exact Z (show byteArr ns=bs.toArray from congrArg HU o.2.2) (NV.keeps q C hk (.bytes _ _))
end
theorem gW{a b c:Int}(h1:sm a)(h2:sm b)(h3:0<c):0<=yV a b c/\yV a b c<=2000001:=by
 unfold yV;refine Z (if_pos h3) ?_;by_cases d:a<b
 ·refine Z (if_pos d) ?_
  have h5:=Ct (Eg d);have h4:=Int.ediv_nonneg h5 (zY h3);have h6:b-a-1<=2000000:=yG (Bu _ (by decide)) (Int.sub_le_sub h2.2 h1.1);exact ⟨Ht h4 (by decide),Fu (yG (Int.ediv_le_self _ h5) h6) 1⟩
 ·exact Z (if_neg d) ⟨Dy _,by decide⟩
theorem tI(h: -3000000<=i)(h':i<=3000000):FH i=true:=xZ.mpr ⟨decide_eq_true (yG (by decide) h),decide_eq_true (Bi h' (by decide))⟩
theorem iC{a b c:Int}(h1:sm a)(h2:sm b)(h3:0<c)(h4:c<=1000000):G0 a b c=true:=by
 have z:=gW h1 h2 h3;have w:∀{i:Int},sm i->FH i=true:=λh=>tI (yG (by decide) h.1) (yG h.2 (by decide));have c1:=Ct h3;unfold G0;exact Z (w h1) (Z (w h2) (Z (w ⟨yG (by decide) (zY h3),h4⟩) (Z (tI (yG (by decide) z.1) (yG z.2 (by decide))) (Z (if_pos h3) (Z (tI (yG (by decide) (Fv h2.1 c1)) (yG (Fv h2.2 (yG (Bu _ (by decide)) h4)) (by decide))) (Z (EH _) rfl))))))
theorem aiB{h:yJ}{a c:Int}(x:ItemsOf (λi v=>∃t,v= .int (a+i*c) t) acc n):bS W h (((yH n).map λ(i:Nat)=>a+c*i).map .int) acc.toList:=by
 revert W h a c acc n;apply e6;intro U;apply(?Z:Tq U);intro W h a c acc n;intros;refine bZ.of (by rw[xJ,xJ,zM];exact x.1.symm) λi y v e1 e2=>?_;rw[yA,yA] at e1;obtain ⟨z,e3,rfl⟩:=yh.mp e1;obtain ⟨k,e4,rfl⟩:=yh.mp e3;obtain ⟨_,rfl⟩:=xQ.mp e4;rw[List.getElem_range];obtain ⟨t,rfl⟩:=x.2 i v (Df▸e2);rw[Int.mul_comm];exact .int _ _
section
variable{P:cy}{fl:List BX}{W W':WD}{H H':AH}{s s':xM}{A:yS}{E:xP->xM->Prop}{n a:Nat}{Q:AV->AH->Prop}{p:WE}{v:xP}
theorem NV.at(q:bR ao H Q)(C:Cx P fl W H s)(hk:∀b o,s.heap.get? b=J o->h'.get? b=J o)(g:h'.get? s.heap.objs.size=J o)(fz:¬bp o)
  (x:P.OR (W++[⟨s.heap.objs.size,[],[]⟩]) {s with heap:=h',toks:=tk} ⟨s.heap.objs.size,[],[]⟩ ao):NV P fl W s Q (.ref s.heap.objs.size) {s with heap:=h',toks:=tk}:=
 have C2:=C.new (s':={s with heap:=h',toks:=tk}) (p:=⟨s.heap.objs.size,[],[]⟩) (ao:=ao) hk (λU U e=>e) rfl C.bare (λb hb=>hb.elim (λe=>e▸⟨aju _,(aM _ g fz)⟩) λh=>by cases h) (λU h=>by cases h) x;have e:(W++[(⟨s.heap.objs.size,[],[]⟩:WE)])[H.length]? =J ⟨s.heap.objs.size,[],[]⟩:=C.hr.len▸(yU (xS _)).trans (by exact Z (Bx _) rfl)
 ⟨_,_,_,q.get,C2.1,.ref _ _ e,C2.2⟩
theorem alN{x y z:Int}{r:yk}(hA:gQ P A fl (n+5))(C:Cx P fl W H s)(hr:oS s.heap r x y z)(h1:sm x)(h2:sm y)(h3:0<z)(h4:z<=1000000)(q:bR (.list ((bX x y z).map .int)) H Q):
  xY P.M A (call (.type "list") [.ref r]) (NV P fl W s Q) E s:=
 have zz:=gW h1 h2 h3
 hr.elim λt hr=>hr.elim λu hr=>hr.elim λv hr=>
  call_list_range hA.handled hr (iC h1 h2 h3 h4) (zx zz.1).symm (xH (Il.mpr zz.2) (by decide)) λh' tk acc' c' hk hS' hacc=>
   NV.at q C hk hS' (cL rfl) ⟨rfl,rfl,acc'.toList,c',hS',aiB hacc⟩
end
def bL{α:Type}(n:Nat)(le:Nat->Nat->Bool):KasT α->(α->Prop)->Prop
 | .ret a,P=>P a
 | .ask i j k,P=>i<n/\j<n/\bL n le (k (le i j)) P
structure Ord(n:Nat)(le:Nat->Nat->Bool):Prop where
 trans:∀a b c,a<n->b<n->c<n->le a b=true->le b c=true->le a c=true
 total:∀a b,a<n->b<n->a≠b->le a b=false->le b a=true
 apz:∀a b,a<n->b<n->le a b=true->le b a=false
structure kG(n:Nat)(p:Array Nat):Prop where
 perm:p.toList.Perm (yH n)
section
variable{α β:Type}{n:Nat}{le:Nat->Nat->Bool}
theorem bL.mono(h:∀a,P a->P' a):∀{t:KasT α},bL n le t P->bL n le t P'
 | .ret _,x=>h _ x
 | .ask _ _ _,⟨a,b,c⟩=>⟨a,b,bL.mono h c⟩
theorem bL.bind:∀{t:KasT α},bL n le t (λa=>bL n le (f a) P)->bL n le (t.bind f) P
 | .ret _,x=>x
 | .ask _ _ k,⟨a,b,c⟩=>⟨a,b,bL.bind c⟩
theorem bL.run{Good:xM->Prop}
  (hc:∀i j K s,i<n->j<n->Good s->(∀s',Good s'->K (le i j) s')->cmp i j K s) (hq:∀a s,P a->Good s->Q a s):∀{t:KasT α} {s:xM},Good s->bL n le t P->t.kasWp cmp Q s
 | .ret _,_,g,x=>hq _ _ x g
 | .ask _ _ _,_,g,⟨a,b,c⟩=>hc _ _ _ _ a b g λU g'=>bL.run hc hq g' c
theorem kG.size(h:kG n p):p.size=n:=h.perm.length_eq.trans zM
theorem kG.get(h:kG n p)(ha:a<n):p[a]? =J (p.getD a 0):=by
 have hl:=h.size.symm▸ha;rw[Array.getD_eq_getD_getElem?,Bm hl];rfl
theorem kG.less(h:kG n p)(ha:a<n):p.getD a 0<n:=y5.mp (h.perm.mem_iff.mp (Array.mem_toList_iff.mpr (Array.mem_of_getElem? (h.get ha))))
theorem kG.ne(h:kG n p)(ha:a<n)(hb:b<n)(hab:a≠b):p.getD a 0≠p.getD b 0:=λe=>by
 have h1:=h.get ha;have h2:=h.get hb;rw[<-Df] at h1 h2;rw[e] at h1;exact hab ((Jr (by exact Z Fy (Z h.size ha)) (h.perm.nodup_iff.mpr List.nodup_range)).mp (h1.trans h2.symm))
def Up(le:Nat->Nat->Bool)(p:Array Nat)(m:Nat):Prop:=∀a b,a<b->b<m->le (p.getD a 0) (p.getD b 0)=true
def Down(le:Nat->Nat->Bool)(p:Array Nat)(m:Nat):Prop:=∀a b,a<b->b<m->le (p.getD b 0) (p.getD a 0)=true
theorem cA(h:m<n):m-1<n:=xN (zR _ _) h
theorem aen(h:1<=m):m≠m-1:=zH (AB h CR)
theorem pE(h:m+(f+1)<=n):m<n:=xO (BQ (Af f)) h
theorem Up.next(O:Ord n le){p:Array Nat}(hp:kG n p)(hm:m<n)(u:Up le p m)(h1:1<=m)(h:le (p.getD m 0) (p.getD (m-1) 0)=false):Up le p (m+1):=λa b hab hb=>by
 have ht:=O.total _ _ (hp.less hm) (hp.less (cA hm)) (hp.ne hm (cA hm) (aen h1)) h;rcases yN (yb hb) with q | rfl
 ·exact u a b hab q
 ·rcases yN (AR hab) with c | rfl
  ·exact O.trans _ _ _ (hp.less (yL hab hm)) (hp.less (cA hm)) (hp.less hm) (u a _ c (AB h1 CR)) ht
  ·exact ht
theorem Down.next(O:Ord n le){p:Array Nat}(hp:kG n p)(hm:m<n)(u:Down le p m)(h1:1<=m)(h:le (p.getD m 0) (p.getD (m-1) 0)=true):Down le p (m+1):=λa b hab hb=>by
 rcases yN (yb hb) with q | rfl
 ·exact u a b hab q
 ·rcases yN (AR hab) with c | rfl
  ·exact O.trans _ _ _ (hp.less hm) (hp.less (cA hm)) (hp.less (yL hab hm)) h (u a _ c (AB h1 CR))
  ·exact h
structure Asc(le:Nat->Nat->Bool)(p:Array Nat)(m M r:Nat):Prop where
 lo:m<=r
 hi:r<=M
 up:Up le p r
 stop:r<M->le (p.getD r 0) (p.getD (r-1) 0)=true
theorem pT(O:Ord n le)(hp:kG n p):∀(f m:Nat),1<=m->m+f<=n->Up le p m->bL n le (kas_asc p f m) (Asc le p m (m+f))
 | 0,m,h1,h2,u=>⟨xS _,xS _,u,λh=>absurd h (zU _)⟩
 | f+1,m,h1,h2,u=>by
  have hm:=pE h2;refine ⟨hp.less hm,hp.less (cA hm),?_⟩;cases c:le (p.getD m 0) (p.getD (m-1) 0) with
  | true=>exact ⟨xS _,x7 _ _,u,λU=>c⟩
  | false=>exact (pT O hp f (m+1) (Af _) (AL m f▸h2) (u.next O hp hm h1 c)).mono λr x=>⟨A0 x.lo,AL m f▸x.hi,x.up,AL m f▸x.stop⟩
structure Dsc(le:Nat->Nat->Bool)(p:Array Nat)(m M:Nat)(r:Array Nat×Nat×Nat):Prop where
 e:r.1=p
 lo:m<=r.2.1
 hi:r.2.1<=M
 z:r.2.2=0
 dn:Down le p r.2.1
theorem aeV(O:Ord n le)(hp:kG n p):∀(f m:Nat),1<=m->m+f<=n->Down le p m->bL n le (kas_desc f p m 0) (Dsc le p m (m+f))
 | 0,m,h1,h2,u=>⟨rfl,xS _,xS _,rfl,u⟩
 | f+1,m,h1,h2,u=>by
  have hm:=pE h2;refine ⟨hp.less hm,hp.less (cA hm),?_⟩;cases c:le (p.getD m 0) (p.getD (m-1) 0) with
  | true=>exact (aeV O hp f (m+1) (Af _) (AL m f▸h2) (u.next O hp hm h1 c)).mono λr x=>⟨x.e,A0 x.lo,AL m f▸x.hi,x.z,x.dn⟩
  | false=>
   refine ⟨hp.less (cA hm),hp.less hm,?_⟩;exact Z (O.total _ _ (hp.less hm) (hp.less (cA hm)) (hp.ne hm (cA hm) (aen h1)) c) ⟨rfl,xS _,x7 _ _,rfl,u⟩
theorem o8(hp:kG n p)(m):kG n (kas_rev p 0 m):=⟨(Hb.mp (mirror_perm p 0 m _)).trans hp.perm⟩
theorem agf(hp:kG n p)(hm:m<=n)(hk:k<m):(kas_rev p 0 m).getD k 0=p.getD (m-1-k) 0:=by
 have e:=getElem?_mirror_all (xs:=p) (i:=0) (j:=m) (hp.size.symm▸hm) k;rw[show mirror p 0 m ((m-0) / 2)=kas_rev p 0 m from rfl,(o8 hp m).get (xO hk hm),if_pos ⟨yI _,hk⟩,zj,hp.get (xO (xN (zR _ _) (AB (D8 hk) CR)) hm)] at e;exact xT e
theorem Down.rev(hp:kG n p)(hm:m<=n)(d:Down le p m):Up le (kas_rev p 0 m) m:=λa b hab hb=>by
 have ha:=yL hab hb;exact Z (agf hp hm ha) (Z (agf hp hm hb) (d _ _ (FN (xO hab (AR hb)) hab) (xN (zR _ _) (AB (D8 ha) CR))))
structure Cnt(le:Nat->Nat->Bool)(n:Nat)(r:Nat×Array Nat):Prop where
 lo:1<=r.1
 hi:r.1<=n
 p:kG n r.2
 up:Up le r.2 r.1
theorem ahS(O:Ord n le)(h2:2<=n){p:Array Nat}(hp:kG n p):bL n le (kas_count n p) (Cnt le n):=by
 have h1n:=Aa (A0 h2);have h2n:=Aa h2;refine bL.bind ((pT O hp (n-1) 1 (xS _) (yQ h1n) λa b h h'=>absurd (xN (yI a) h) (xX.mpr (yb h'))).mono λr x=>?_);obtain ⟨lo,hi,up,st⟩:=x;rw[h1n] at hi st;by_cases c:r=n
 ·subst c
  exact Z (if_pos (beq_self_eq_true _)) ⟨lo,xS _,hp,up⟩
 ·have rn:=DZ hi c
  refine Z (if_neg λq=>c (beq_iff_eq.mp q)) ?_;by_cases c1:r>1
  ·refine Z (if_pos c1) ?_
   refine ⟨hp.less (xO IJ h2),hp.less (cA rn),?_⟩;exact Z (up 0 (r-1) (Gk c1) (AB lo CR)) ⟨lo,hi,hp,up⟩
  ·refine Z (if_neg c1) ?_
   obtain rfl:r=1:=yW (xX.mp c1) lo;refine bL.bind ((aeV O hp (n-2) 2 (by decide) (yQ h2n) λa b hab hb=>?_).mono λr y=>?_)
   ·obtain rfl:b=1:=yW (yb hb) (xN (yI a) hab)
    obtain rfl:a=0:=Hp.mp hab;exact st rn
   ·obtain ⟨e,l,h,z,d⟩:=y
    have h:=h2n▸h;refine Z (if_neg (z▸zU 0)) (Z e ?_);have hrn:=Aa h;refine bL.bind ((pT O (o8 hp r.2.1) (n-r.2.1) r.2.1 (A0 l) (yQ hrn) (d.rev hp h)).mono λm x=>?_);exact ⟨xH (A0 l) x.lo,hrn▸x.hi,o8 hp _,x.up⟩
structure At(le:Nat->Nat->Bool)(p:Array Nat)(k x:Nat):Prop where
 hi:x<=k
 lo:∀a,a<x->le (p.getD a 0) (p.getD k 0)=true
 up:∀a,x<=a->a<k->le (p.getD k 0) (p.getD a 0)=true
theorem kU(O:Ord n le){p:Array Nat}(hp:kG n p){k:Nat}(hk:k<n)(u:Up le p k):∀(f l r:Nat),l<=r->r<=k->r-l<=f->(∀a,a<l->le (p.getD a 0) (p.getD k 0)=true)->(∀a,r<=a->a<k->le (p.getD k 0) (p.getD a 0)=true)->
  bL n le (kas_place p k f l r) (At le p k)
 | 0,l,r,h1,h2,h3,x,y=>⟨xH h1 h2,x,yW h1 (EK.mp (IP.mp h3))▸y⟩
 | f+1,l,r,h1,h2,h3,x,y=>by
  unfold kas_place;by_cases c:l>=r
  ·exact Z (if_pos c) ⟨xH h1 h2,x,yW h1 c▸y⟩
  ·refine Z (if_neg c) ?_
   have c:=AD.mp c;have mr:=(Nat.div_lt_iff_lt_mul IJ).mpr (Eb r▸IT c r);have lm:=(Fc IJ).mpr (Eb l▸yf h1 l);generalize (l+r) / 2=m at*;have hm:=xO mr h2;have hmn:=yL hm hk;refine ⟨hp.less hk,hp.less hmn,?_⟩;cases q:le (p.getD k 0) (p.getD m 0) with
   | true=>
    refine kU O hp hk u f l m lm (ya hm) (yb (xO (Nat.sub_lt_sub_right lm mr) h3)) x λa ha hak=>?_;rcases yN ha with e | rfl
    ·exact O.trans _ _ _ (hp.less hk) (hp.less hmn) (hp.less (yL hak hk)) q (u _ _ e hak)
    ·exact q
   | false=>
    have qt:=O.total _ _ (hp.less hk) (hp.less hmn) (hp.ne hk hmn (zH hm)) q;refine kU O hp hk u f (m+1) r mr h2 (yb (xO (FN c (As lm)) h3)) (λa ha=>?_) y;rcases yN (yb ha) with e | rfl
    ·exact O.trans _ _ _ (hp.less (yL e hmn)) (hp.less hmn) (hp.less hk) (u _ _ e hm) qt
    ·exact qt
theorem aco(hp:kG n p)(k d):kG n (bubble p k d):=⟨(Hb.mp (bubble_perm p k d)).trans hp.perm⟩
noncomputable def td(k l j:Nat):Nat:=if j=l then k else if l<j/\j<=k then j-1 else j
theorem adf(hp:kG n p){k l:Nat}(hk:k<n)(hl:l<=k){j:Nat}(hj:j<=k):(bubble p k (k-l)).getD j 0=p.getD (td k l j) 0:=by
 have hjn:=xN hj hk;have e:=getElem?_bubble (xs:=p) (src:=k) (hp.size.symm▸hk) (k-l) (zR _ _) j;rw[(aco hp k (k-l)).get hjn,Nat.sub_sub_self hl] at e;unfold td;by_cases c:j=l
 ·rw[if_pos c,hp.get hk] at e
  exact Z (if_pos c) (xT e)
 ·rw[if_neg c] at e ⊢
  by_cases c':l<j/\j<=k
  ·rw[if_pos c',hp.get (cA hjn)] at e
   exact Z (if_pos c') (xT e)
  ·rw[if_neg c',hp.get hjn] at e
   exact Z (if_neg c') (xT e)
theorem agO(h:j<l):td k l j=j:=(if_neg (zt h)).trans (if_neg λq=>absurd q.1 (Nat.lt_asymm h))
theorem mB(h:l<j)(hj:j<=k):td k l j=j-1:=(if_neg (zH h)).trans (if_pos ⟨h,hj⟩)
theorem ahX(hp:kG n p)(hk:k<n)(u:Up le p k)(h:At le p k l):Up le (bubble p k (k-l)) (k+1):=λa b hab hb=>by
 have hb:=yb hb;refine Z (adf hp hk h.hi (xH (ya hab) hb)) (Z (adf hp hk h.hi hb) ?_);have bk:l<b->b-1<k:=λq=>xO (AB (D8 q) CR) hb;rcases Ec a l with ca | rfl | ca
 ·refine Z (agO ca) ?_
  rcases Ec b l with cb | rfl | cb
  ·exact Z (agO cb) (u _ _ hab (xO cb h.hi))
  ·exact Z (show td k b b=k from if_pos rfl) (h.lo _ ca)
  ·exact Z (mB cb hb) (u _ _ (xO ca (AR cb)) (bk cb))
 ·exact Z (show td k a a=k from if_pos rfl) (Z (mB hab hb) (h.up _ (AR hab) (bk hab)))
 ·have cb:=yL ca hab
  exact Z (mB ca (xH (ya hab) hb)) (Z (mB cb hb) (u _ _ (Nat.pred_lt_pred (zH (D8 ca)) hab) (bk cb)))
theorem agR(O:Ord n le):∀f (p:Array Nat) (k:Nat),kG n p->k+f=n->Up le p k->bL n le (kas_bin f p k) λr=>kG n r/\Up le r n
 | 0,p,k,hp,h,u=>⟨hp,h▸u⟩
 | f+1,p,k,hp,h,u=>by
  have hk:=pE (yQ h);refine bL.bind ((kU O hp hk u k 0 k (yI _) (xS _) (zR _ _) (λa ha=>absurd ha (zT a)) λa h1 h2=>absurd h2 (xX.mpr h1)).mono λl x=>?_);exact agR O f _ (k+1) (aco hp _ _) (AL k f▸h) (ahX hp hk u x)
theorem aiu(O:Ord n le)(h2:2<=n):bL n le (kas_sort n) λr=>kG n r/\Up le r n:=by
 refine bL.bind ((ahS O h2 ⟨.refl _⟩).mono λr x=>?_);obtain ⟨a,b,c,d⟩:=x;by_cases e:r.1<n
 ·exact Z (if_pos e) (Z (Nat.max_eq_left a) (agR O _ _ _ c (Aa b) d))
 ·exact Z (if_neg e) ⟨c,yW b (xX.mp e)▸d⟩
end
section
variable{prog:AG}{w:World}{A:yS}{E:xP->xM->Prop}{s:xM}{W:WD}
@[elab_as_elim] theorem pairE{h:yJ}{G:xP->Prop}(y:VR W h (cN p) v)(f:∀a o n t u,h.get? a=J o->o.cls= .type "tuple"->o.data= .seq #[.int p.1 t,.int p.2 u] n->G (.ref a)):G v:=
 VR.jy (G:=G) (i:=[.int p.1,.int p.2]) y λa U x z=>x.elim λo x=>x.2.2.elim λn d=>bS.kz (G:=λws=>o.data= .seq ws.toArray n->G (.ref a)) z (λU U y1 y2=>
  y1.bY (G:=λv1=>o.data= .seq #[v1,_] n->G (.ref a)) λt=>y2.bY (G:=λv2=>o.data= .seq #[.int p.1 t,v2] n->G (.ref a)) λu=>f a o n t u x.1 x.2.1) d
structure pZ(h:yJ)(vs fs:List xP):Prop where
 anU:KatTups h vs fs
 len:fs.length=vs.length
 uQ:∀v∈fs,∃i t,v= .int i t
theorem aaS{h:yJ}:∀{ps:List (Int×Int)} {vs:List xP},bS W h (ps.map cN) vs->∃fs,pZ h vs fs
 | [],_,y=>bZ.ro (G:=λvs=>∃fs,pZ h vs fs) y ⟨[],KatTups.nil,rfl,λU h=>by cases h⟩
 | p::ps,_,y=>bZ.nE (a:=cN p) (as:=ps.map cN) (G:=λvs=>∃fs,pZ h vs fs) y λU vs y r=>(aaS r).elim λfs q=>
  pairE (G:=λv=>∃fs,pZ h (v::vs) fs) y λa o n t u e c d=>⟨.int p.1 t::fs,KatTups.cons e c d rfl q.anU,congrArg (· +1) q.len,λv hv=>(yu.mp hv).elim (λe=>(jj _ _ e)) (q.uQ v)⟩
noncomputable def ltB(a b:Int×Int):Bool:= @decide (ltPair a b) (inferInstanceAs (Decidable (a.1<b.1\/(a.1=b.1/\a.2<b.2))))
theorem ltB_iff:ltB a b=true↔ltPair a b:= @decide_eq_true_iff (ltPair a b) (inferInstanceAs (Decidable (a.1<b.1\/(a.1=b.1/\a.2<b.2))))
theorem rt{c:Prop}[Decidable c](h:ltPair a b↔c):ltB a b=decide c:=DC.mpr (ltB_iff.trans (h.trans decide_eq_true_iff.symm))
theorem ltPair.trans{a b c:Int×Int}(x:ltPair a b)(y:ltPair b c):ltPair a c:=by
 rcases x with x | ⟨x,x'⟩
 ·exact .inl (y.elim (DR x) λy=>y.1▸x)
 ·exact y.elim (λy=>.inl (x▸y)) λy=>.inr ⟨x.trans y.1,DR x' y.2⟩
theorem ltPair.asymm(x:ltPair a b):¬ltPair b a:=λy=>x.elim (λx=>y.elim (λy=>CK _ (DR x y)) λy=>CK a.1 (y.1▸x)) λx=>y.elim (λy=>CK b.1 (x.1▸y)) λy=>CK _ (DR x.2 y.2)
theorem ltPair.total(h:a≠b)(q:¬ltPair a b):ltPair b a:=by
 rcases Int.lt_trichotomy a.1 b.1 with c | c | c
 ·exact absurd (.inl c) q
 ·rcases Int.lt_trichotomy a.2 b.2 with d | d | d
  ·exact absurd (.inr ⟨c,d⟩) q
  ·exact absurd (Prod.ext c d) h
  ·exact .inr ⟨c.symm,d⟩
 ·exact .inl c
noncomputable def uK(ps:List (Int×Int))(i j:Nat):Bool:=ltB (ps.getD i (0,0)) (ps.getD j (0,0))
theorem getD_some{l:List α}(h:i<l.length):l[i]? =J (l.getD i d):=by
 rw[zq,xR h];rfl
theorem ajb{ps:List (Int×Int)}(hn:ps.Nodup):Ord ps.length (uK ps):=
 ⟨λa b c U U U h1 h2=>ltB_iff.mpr ((ltB_iff.mp h1).trans (ltB_iff.mp h2)),
  λa b ha hb hab h=>ltB_iff.mpr (ltPair.total (λe=>hab ((Jr ha hn).mp ((getD_some ha).trans ((congrArg J e).trans (getD_some hb).symm)))) λq=>x8 (h.symm.trans (ltB_iff.mpr q))),
  λa b U U h=>Bv.mpr λc=>(ltB_iff.mp h).asymm (ltB_iff.mp c)⟩
theorem ahg{v u:xP}{Q:Bool->xM->Prop}(y:VR W s.heap (cN p) v)(z:VR W s.heap (cN q) u)(h:Q (ltB p q) s):xY (yK prog w) A (keyLt' (tuples' true) v u) Q E s:=by
 refine pairE y λa o n t t' e c d=>pairE z λa2 o2 n2 t2 t2' e2 c2 d2=>?_;refine kat_lt e d e2 d2 (kat_cons (wpAny_eqBool_int ?_));refine kat_go (λh1=>kat_yes (kat_cons (wpAny_eqBool_int ?_))) λh1=>kat_no (oneLt_int ?_)
 ·have h1:=beq_iff_eq.mp h1
  refine kat_go (λh2=>kat_yes (kat_nil ?_)) λh2=>kat_no (kat_one _ _ (lt_int ?_))
  ·have h2:=beq_iff_eq.mp h2
   rw[rt (c:=(2:Nat)<2) ⟨λl=>l.elim (λl=>absurd h1 (Im l)) λl=>absurd h2 (Im l.2),λl=>absurd l (zU 2)⟩] at h;exact h
  ·rw[rt (c:=p.2<q.2) ⟨λl=>l.elim (λl=>absurd h1 (Im l)) λl=>l.2,λl=>.inr ⟨h1,l⟩⟩] at h
   exact h
 ·have h1:=beq_eq_false_iff_ne.mp h1
  rw[rt (c:=p.1<q.1) ⟨λl=>l.elim id λl=>absurd l.1 h1,.inl⟩] at h;exact h
theorem bS.getD{h:yJ}(y:bS W h as vs)(e:as[i]? =J a):VR W h a (vs.getD i zK):=
 (y.get e).elim λv q=>by rw[zq,q.1];exact q.2
theorem mR{ps:List (Int×Int)}(h:i<ps.length):(ps.map cN)[i]? =J (cN (ps.getD i (0,0))):=by rw[yA,getD_some h];rfl
theorem ahe{ps:List (Int×Int)}{p:List Nat}(hp:p.Perm (yH ps.length)):(p.map λi=>ps.getD i (0,0)).Perm ps:=by
 refine (hp.map _).trans (List.Perm.of_eq (D5 λi=>?_));rw[yA];by_cases c:i<ps.length
 ·rw[FC c,getD_some c];rfl
 ·rw[Az (zM▸xX.mp c),Az (xX.mp c)];rfl
theorem agd{h:yJ}{ps:List (Int×Int)}(y:bS W h (ps.map cN) vs):∀{l:List Nat},(∀i∈l,i<ps.length)->bS W h ((l.map λi=>ps.getD i (0,0)).map cN) (l.map λi=>vs.getD i zK)
 | [],_=>.nil
 | i::_,hl=>.cons (y.getD (mR (hl i (.head _)))) (agd y λj hj=>hl j (.tail _ hj))
theorem adZ{ps:List (Int×Int)}(pp:kG n p)(up:Up (uK ps) p n):(p.toList.map λi=>ps.getD i (0,0)).Pairwise ltPair:=by
 rw[List.pairwise_map,List.pairwise_iff_getElem];have e:∀{k:Nat} (hk:k<p.toList.length),p.toList[k]=p.getD k 0:=λ{k} hk=>xT ((xR hk).symm.trans (Df.trans (pp.get (pp.size▸hk))));intro i j hi hj hij;exact Z (e hi) (Z (e hj) (ltB_iff.mp (up i j hij (pp.size▸hj))))
theorem ab3{ps:List (Int×Int)}(h:ps.length<2):ps.Pairwise ltPair:=match ps,h with
 | [],_=>.nil
 | [_],_=>CO ..
 | _::_::_,h=>absurd h (xX.mpr (zJ 2 _))
theorem uV(h:n<64):n<=Bb:=xH (ya h) (by decide)
theorem akh{vs:List xP}:(arrOf (SortSt.mk' general' (vs.toArray.zip vs.toArray) #[] 7 Jw)).map (·.2)=vs.toArray:=by
 show (vs.toArray.zip vs.toArray).map (·.2)=vs.toArray;apply Array.toList_inj.mp;simp[List.map_snd_zip]
theorem aez{a:yk}{vs:List xP}{n:Nat}{ps:List (Int×Int)}{P:Ep->xM->Prop}(ho:s.heap.get? a=J (BN "list" vs.toArray n))(y:bS W s.heap (ps.map cN) vs)(hn:ps.Nodup)(h64:vs.length<64)
  (h:∀out (ps':List (Int×Int)),bS W s.heap (ps'.map cN) out.toList->ps'.Perm ps->ps'.Pairwise ltPair->P (.done (.ret .none)) {s with heap:=sortedHeap s.heap a vs out}):
  xY (yK prog w) A (AJ.«list.sort» ⟨[.ref a],[]⟩) P E s:=by
 revert prog w A E s W a vs n ps P;apply ub;intro U;apply(?Z:Tq U);intro prog w A E s W a vs n ps P;intros;have hlen:=(xJ _).symm.trans y.length;refine Z (list_sort_plain _) ?_;have ha:=zb ho;refine xI (listItems_at ho rfl (xI (IG ho rfl ?_ (uV h64))));obtain ⟨e1,ho1⟩:∃e1,(s.heap.update a (CN λU=> #[])).get? a=J (BN "list" #[] e1):=⟨_,get?_update_seq ho (λU=> #[])⟩
 refine xI (seqEpoch_at ho1 rfl (xI (wpAny_newTuple (xI (wpAny_newList (zZ ?_))) (uV h64))));have keep:∀b o,b≠a->s.heap.get? b=J o->(((s.heap.update a (CN λU=> #[])).push (BN "tuple" vs.toArray 0)).push (BN "list" #[] 0)).get? b=J o:=λb o hb e=>
  xW _ (xW _ (by rw[DJ _ _ _ _ hb];exact e))
 have ho6:(((s.heap.update a (CN λU=> #[])).push (BN "tuple" vs.toArray 0)).push (BN "list" #[] 0)).get? a=J (BN "list" #[] e1):=
  xW _ (xW _ ho1)
 show xY (yK prog w) A _ P E {s with heap:=((s.heap.update a (CN λU=> #[])).push (BN "tuple" vs.toArray 0)).push (BN "list" #[] 0)};dsimp only;have hsz:vs.toArray.size=vs.length:=by simp
 have y6:=bS.mono cf.rfl (λb o e f=>keep b o (λq=>cL rfl ((xT (ho.symm.trans (q▸e)))▸f)) e) y;by_cases h2:vs.toArray.size<2
 ·refine Z (if_pos h2) (Z (if_pos h2) ?_)
  refine xI (xU ?_);refine Z (StateT.run_pure _ _) ?_;refine xI (xU ?_);dsimp only;refine xI (seqEpoch_at ho6 rfl ?_);refine Z akh ?_;refine xI (IG ho6 rfl ?_ (hsz2:=Ab (uV h64)));simp only[bne_self_eq_false,Bg,if_false];exact xU (h vs.toArray ps y (List.Perm.refl _) (ab3 (hlen▸h2)))
 ·refine Z (if_neg h2) (Z (if_neg h2) ?_)
  refine (aaS y6).elim λfs f=>xI (kat_kind (T:=.type "int") f.anU (f.len▸xO Nat.zero_lt_two (xX.mp h2)) (λv hv=>gX (f.uQ v hv) λi t e=>e▸Hq rfl) (by decide) ?_);refine xI (yO (kat_run (ks:=vs) (vs:=vs) (κ:=tuples' true) (G:=λp s'=>(kG vs.length p/\Up (uK ps) p vs.length)/\s'={s with heap:=((s.heap.update a (CN λU=> #[])).push (BN "tuple" vs.toArray 0)).push (BN "list" #[] 0)})
   (Q:=λst' s'=>s'={s with heap:=((s.heap.update a (CN λU=> #[])).push (BN "tuple" vs.toArray 0)).push (BN "list" #[] 0)}/\failedOf st'=Jw/\∃p,(kG vs.length p/\Up (uK ps) p vs.length)/\(arrOf st').map (·.2)=HU (p.toList.map λi=>vs.getD i zK)) rfl (xX.mp h2) h64 (λp st' s' h1 h3 h4 u6=>u6.elim λg e=>(bU e h4 (aM p g (kat_snds rfl h3)))) ?_) (λr s' hr=>?_) λU U x=>x)
  ·have O:=ajb hn
   have O:=hlen▸O;refine bL.run (Good:=λs'=>s'={s with heap:=((s.heap.update a (CN λU=> #[])).push (BN "tuple" vs.toArray 0)).push (BN "list" #[] 0)}) (λi j K s' hi hj g k=>?_) (λp s' x g=>⟨x,g⟩) rfl (aiu O (xX.mp h2));subst g;refine ahg (p:=ps.getD i (0,0)) (q:=ps.getD j (0,0)) (y6.getD (mR (hlen.symm▸hi))) (y6.getD (mR (hlen.symm▸hj))) (k _ rfl)
  ·obtain ⟨⟨⟩,st'⟩:=r
   have e:=hr.1;subst e;refine hr.2.2.elim λp q=>?_;have hf:=hr.2.1;have hm:=q.2;have pp:=q.1.1;dsimp only at hf hm ⊢;refine xI (seqEpoch_at ho6 rfl ?_);refine Z hm ?_;refine xI (IG ho6 rfl ?_ (hsz2:=Ab (by exact Z zC (Z (xJ _) (Z Fy (Z pp.size (uV h64)))))));refine Z hf ?_;simp only[bne_self_eq_false,Bg,if_false];exact xU (h _ (p.toList.map λi=>ps.getD i (0,0)) (agd y λi hi=>hlen▸y5.mp (pp.perm.mem_iff.mp hi)) (ahe (hlen▸pp.perm)) (adZ pp q.1.2))
end
def fq(h:yJ)(d:yk)(es:Array BY)(ep:Nat):Prop:=∃o,h.get? d=J o/\o.ExactDict/\o.data= .dict es ep
theorem fq.typeIs{s:xM}{es ep}(x:fq s.heap d es ep):s.TypeIs (.ref d) "dict":=x.elim λo u6=>u6.elim λho v6=>v6.elim λhc U=>⟨o,ho,hc.1⟩
theorem fq.at{h h':yJ}{es ep}(x:fq h d es ep)(k:∀o,h.get? d=J o->h'.get? d=J o):fq h' d es ep:=x.elim λo u6=>u6.elim λho r=>⟨o,k o ho,r⟩
section
variable{prog:AG}{w:World}{A:yS}{E:xP->xM->Prop}{s:xM}
theorem aiF{es:Array BY}{ep:Nat}(hd:(d==DF)=false)(hm:fq s.heap d es ep)
  (hQ:Q (.ref s.heap.objs.size) {s with heap:=s.heap.push {cls:=.type "dict_keyiterator",data:=.fields #[.ref d,.int 0 0,.int es.size 0,.int ep 0]}}):xY (yK prog w) A (El (.ref d)) Q E s:=by
 refine Qc λU u6=>(id hm).elim λo v6=>v6.elim λho y6=>y6.elim λhc hdat=>u6 ?_;refine wpAny_pyIter_slot hm.typeIs Hm (Bk Hm hm.typeIs PySem.F.entry_dict_iter ?_ (PySem.F.args_dict_iter_1 _));unfold AJ.«dict.__iter__»;refine xI (m:=F7 _ _) ?_;unfold F7;refine xI (wpAny_notOrdered_dict hm.typeIs (xU ?_));show xY _ _ (GL d>>=_) _ _ s;unfold GL;refine Z (if_neg (by rw[hd];exact x8)) ?_;refine xI (xU (xI (G3 ho hdat (xI (wpAny_dictEpoch ho hdat ?_)))));exact xI (zG (xU (aM _ rfl (k4 "dict_keyiterator" _ ⟨_,yC _ rfl,rfl⟩ CG.lookup (by simpa[Bz] using hQ)))))
theorem aeg{ep:Nat}{Q:Option xP->xM->Prop}(hh:A.handled=Jw)(hit:s.heap.IsKeyIter it d i es.size ep)(hm:fq s.heap d es ep)
  (item:∀e h',es[i]? =J e->h'.IsKeyIter it d (i+1) es.size ep->Ar it s.heap h'->Q (J e.key) {s with heap:=h'})
  (fin:es[i]? =Jw->∀h',Heap.ExtBut it s.heap h'->Q Jw {s with heap:=h'}):xY (yK prog w) A (C7 (.ref it)) Q E s:=by
 revert prog w A E s it d i es ep Q;apply ub;intro U;apply(?Z:Tq U);intro prog w A E s it d i es ep Q;intros;refine Qc λU u6=>(id hit).elim λo v6=>v6.elim λho y6=>y6.elim λhc hd=>u6 ?_;refine Qc λU z6=>(id hm).elim λod u7=>u7.elim λhod v7=>v7.elim λhcd hdd=>z6 ?_;unfold C7;refine xI (IE (wpAny_callSpecial?_slot (name:=AK "__next__") hit.typeIs CG
  (Bk CG hit.typeIs PySem.F.entry_dict_keyiterator_next ?_ (PySem.F.args_dict_keyiterator_next_1 _))))
 refine xI (xU (xI (xI ?_)))
 first | refine xI (DM hit.typeIs (xU ?_)) | refine xI (EI hit.typeIs (xU ?_))
 refine xI (wpAny_fieldsOf ho hd ?_);show xY _ _ (if (y0 d==zK)=true then _ else _) _ _ s;refine Z (if_neg (show ¬((y0 d==zK)=true) from x8)) ?_;refine xI (xU (xI (G3 hod hdd ?_)));refine Z (if_neg (λh=>absurd rfl (bne_iff_ne.mp h))) ?_;refine xI (xU (xI (wpAny_dictEpoch hod hdd ?_)));refine Z (if_neg (λh=>absurd rfl (bne_iff_ne.mp h))) ?_;refine xU ?_;have h0:=zg.mpr (CQ i);show xY _ _ (match (if (i:Int)<0 then Jw else es[i]? :Option BY) with | some e=>_ | none=>_) _ _ s;refine Z (if_neg h0) ?_;cases he:es[i]? with
 | some e=>
  refine xI ?_
  first | refine xI (DM hit.typeIs (xU ?_)) | refine xI (EI hit.typeIs (xU ?_))
  refine xI (wpAny_isOneOf_keyiter hit.typeIs ?_);show xY _ _ (setField (.ref it) 1 (Bz ((i:Int)+1))>>=_) _ _ s;refine xI (Ej ho hd (by simp) ?_);have hit':(s.heap.update it (Aq (·.setIfInBounds 1 (Bz ((i:Int)+1))))).IsKeyIter it d (i+1) es.size ep:=
   ⟨_,Ad _ ho (Fb (DW hd _)),(Gi ..).trans hc,by refine Z (DW hd _) ?_;simp[Bz]⟩
  refine xI (zZ (xI (wpAny_isOneOf_keyiter (s:={s with heap:=s.heap.update it (Aq (·.setIfInBounds 1 (Bz ((i:Int)+1))))}) hit'.typeIs ?_)));show xY _ _ (pure e.key) _ _ _;exact xU (xU (aM _ rfl (xU (item e _ he hit' (AI ..)))))
 | none=>
  refine xI ?_
  first | refine xI (DM hit.typeIs (xU ?_)) | refine xI (EI hit.typeIs (xU ?_))
  show xY _ _ (setField (.ref it) 0 .none>>=_) _ _ s;refine xI (Ej ho hd (by simp) ?_);show xY _ _ (Ji (.type "StopIteration") []>>=_) _ _ _;refine xI ?_;simp only[Ji,newTuple];refine xI (zG ?_ (by size_fits));refine xI (m:=Dl _ _) (zI (a:=zK) (by first | rfl | (simp only[Dl];rfl)) ?_);refine zG ?_ (by size_fits);unfold raiseNew;refine xI (ID ?_);refine Z (show A.in1.handled=Jw from hh) ?_;refine xI (xU (Hw ?_));refine xI (DD (T:="StopIteration") (b:=true) ⟨_,yC _ rfl,rfl⟩ Ie ?_);exact xU (fin he _ (((AI ..).extBut.push _).push _))
theorem ag7(hh:A.handled=Jw)(I d:yk)(hne:d≠I)(es)(ep:Nat):
  Walks prog w A I [I,d] [I] es.size (λi v=>∃e,es[i]? =J e/\e.key=v) (λi h=>h.IsKeyIter I d i es.size ep/\fq h d es ep) where
 sub:=λb hb=>by simp at hb;simp[hb]
 frame:=λU U U st hk=>⟨st.1.at λo e=>hk I (by simp) o e,st.2.at λo e=>hk d (by simp) o e⟩
 item:=λi s Q E hi st hQ=>aeg hh st.1 st.2 (λe h' he hit hs=>hQ e.key h' s.toks (aM e he rfl) ⟨hit,st.2.at λo q=>hs.extBut d o hne q⟩ λb o hb q=>hs.extBut b o (λh=>hb (by simp[h])) q)
  λhe=>by rw[Bm hi] at he;cases he
 done:=λs Q E st hQ=>aeg hh st.1 st.2 (λe h' he U U=>by simp at he) λU h' he=>hQ h' s.toks λb o hb q=>he b o (λh=>hb (by simp[h])) q
 self:=λU U U U st hQ=>wpAny_pyIter_keyiter st.1 hQ
theorem akP{es:Array BY}{ep:Nat}(lo:(d==DF)=false):KdlSrc prog w "dict" d d es.size (λi v=>∃e,es[i]? =J e/\e.key=v) (λh=>fq h d es ep):=by
 exact {
  type:=λU hm=>hm.typeIs
  there:=λU hm=>⟨hm.elim λU y6=>y6.elim λho U=>zb ho,hm.elim λU z6=>z6.elim λho U=>zb ho⟩
  keep:=λU U hm hk=>hm.at λo e=>hk d (.inl rfl) o e
  notList:=by decide
  notTuple:=by decide
  hint:=λU U U U hm hq=>kdl_hint_dict hm.typeIs hq
  iter:=λU s hh hm=>⟨_,_,(λU U hq=>aiF lo hm hq),ag7 hh _ d (by
   refine Qc λU u6=>(id hm).elim λo v6=>v6.elim λho U=>u6 ?_;exact zt (zb ho)) es ep,⟨⟨_,yC _ rfl,rfl,rfl⟩,hm.at λo e=>xW _ e⟩⟩}
end
section
variable{P:cy}{fl:List BX}{W W':WD}{H H':AH}{s s':xM}{A:yS}{E:xP->xM->Prop}{n:Nat}
theorem abR{ps:List (Int×Int)}{Q:AV->AH->Prop}{l:List xP}{h1:yJ}{t1:Nat}(C:Cx P fl W H s)(k:∀b o,s.heap.get? b=J o->h1.get? b=J o)(y:bS W h1 (ps.map cN) l)(h:j4 ps H Q):
  xY P.M A.in1 (do let r<-newList l;let _<-CY [r] (call (.builtin "list.sort") [r]);ret r) (λfin s'=>∃v,fin= .done (.ret v)/\NV P fl W s Q v s') E {s with heap:=h1,toks:=t1}:=by
 revert P fl W H s A E ps Q l h1 t1;apply hU;intro U;apply(?Z:Tq U);intro P fl W H s A E ps Q l h1 t1;intros;have hlen:=(xJ _).symm.trans y.length;have h64:=hlen▸h.2.1;have C1:=(C.grow (s':={s with heap:=h1}) k rfl).tok t1;have hoL:(h1.push (BN "list" l.toArray 0)).get? h1.objs.size=J (BN "list" l.toArray 0):=yC _ rfl;have kp:∀b o,h1.get? b=J o->(h1.push (BN "list" l.toArray 0)).get? b=J o:=λb o e=>xW _ e;have old:∀out b,b≠h1.objs.size->∀o,(h1.push (BN "list" l.toArray 0)).get? b=J o->(sortedHeap (h1.push (BN "list" l.toArray 0)) h1.objs.size l out).get? b=J o:=λout b c o eb=>by
  exact Z (sortedHeap_old c (zb eb)) eb
 refine xI (wpAny_newList (s:={s with heap:=h1,toks:=t1}) ?_ (uV h64));refine xI (zZ (Bk (s:={s with heap:=h1.push (BN "list" l.toArray 0),toks:=t1}) slot_list_sort ⟨_,hoL,rfl⟩ entry_list_sort (aez (W:=W) (ps:=ps) hoL (bS.mono cf.rfl (aX.of_keeps kp) y) h.1 h64 λout ps' yo hp hs=>(aM _ rfl (xU (aM _ rfl ?_)))) (args_list_sort _)));have yl:=bS.mono cf.rfl (λb o eb f=>old out b (λc=>cL rfl ((xT (hoL.symm.trans (c▸eb)))▸f)) o eb) yo;exact (sortedHeap_at (h:=h1.push (BN "list" l.toArray 0)) (vs:=l) (out:=out) hoL).elim λe he=>NV.after (s':={s with heap:=h1,toks:=t1}) (Step.grow k rfl rfl) (NV.at (s:={s with heap:=h1,toks:=t1}) (h.2.2 ps' hp hs) C1 (λb o eb=>old out b (zt (zb eb)) o (kp b o eb)) he (cL rfl) ⟨rfl,rfl,out.toList,e,he,bS.mono cf.app (aX.of_keeps λU U e=>e) yl⟩)
end
theorem ajm{G:List xP->Prop}(h:ItemsAre (Ap prog w) (k::ks) l)(f:∀t vs,ItemsAre (Ap prog w) ks vs->G (.int k t::vs)):G l:=by
 cases h with | cons a b=>exact (I7 a).elim λt e=>e▸f t _ b
theorem alh{G:List xP->Prop}(h:ItemsAre (Ap prog w) [] l)(f:G []):G l:=by cases h;exact f
theorem ajl{h:yJ}{p:Int×Int}{a:yk}(k:GH (Ap prog w) h (ql p) a):VR W h (cN p) (.ref a):=cps λR q=>
 k.elim λot k=>k.elim λitems k=>k.elim λnt k=>ajm (G:=λl=>ot.data= .seq l.toArray nt->R) k.2.2.2 (λt1 U r=>ajm (G:=λl=>ot.data= .seq (.int p.1 t1::l).toArray nt->R) r λt2 U r=>alh (G:=λl=>ot.data= .seq (.int p.1 t1::.int p.2 t2::l).toArray nt->R) r λdt=>q (.tup _ _ _ ⟨ot,k.1,k.2.1,nt,dt⟩ (.cons (.int _ _) (.cons (.int _ _) .nil)))) k.2.2.1
theorem afA{h:yJ}(B:gA W h es kvs):(∀x∈kvs,GH (Ap prog w) h x.1 x.2.1)->∀{ps:List (Int×Int)},es.map (·.1)=ps.map ql->bS W h (ps.map cN) (kvs.map λx=>y0 x.2.1):=by
 induction B with
 | nil=>exact λU ps e=>(FA.mp e.symm)▸.nil
 | @cons k a v r r' y _ ih=>exact λhk ps e=>match ps,e with
  | p::ps,e=>have e1:k=ql p:=(Bl e).1
   .cons (ajl (e1▸(hk _ (.head _):GH (Ap prog w) h k v.1))) (ih (λx hx=>hk x (.tail _ hx)) (Bl e).2)
section
variable{P:cy}{fl:List BX}{W W':WD}{H H':AH}{s s':xM}{A:yS}{E:xP->xM->Prop}{n a:Nat}{Q:AV->AH->Prop}{p:WE}
theorem afR{ps:List (Int×Int)}(C:Cx P fl W H s)(hp:W[a]? =J p)(e:H[a]? =J (.list (ps.map cN)))(h:j4 ps H Q):xY P.M A (call (.builtin "sorted") [.ref p.a]) (NV P fl W s Q) E s:=by
 refine bM.rec (λU U ws k o1 v1=>?_) (C.or hp e);refine Hf kind_sorted plain_sorted entry_sorted (args_sorted1 _) ?_;unfold AJ.«sorted»;refine xI (m:=checkCount "sorted" 1 1 _) (xU ?_);have kp:∀b o,s.heap.get? b=J o->((s.heap.push (BN "list" #[] 0)).update s.heap.objs.size (CN (· ++ws.toArray))).get? b=J o:=λb o eb=>by
  rw[DJ _ _ _ _ (zt (zb eb))];exact xW _ eb
 exact xI (collect_list ⟨_,o1,rfl,k,rfl⟩ (abR C kp (bS.mono cf.rfl (aX.of_keeps kp) v1) h) (uV (show ws.length<64 from v1.length▸(xJ (as:=ps) cN).symm▸h.2.1)))
theorem afS{ps:List (Int×Int)}(hA:gQ P A fl (n+5))(C:Cx P fl W H s)(hp:W[a]? =J p)(e:H[a]? =J (.bD es))(ex:es.map (·.1)=ps.map ql)(h:j4 ps H Q):xY P.M A (call (.builtin "sorted") [.ref p.a]) (NV P fl W s Q) E s:=by
 revert P fl W H s A E n a Q p es ps;apply hU;intro U;apply(?Z:Tq U);intro P fl W H s A E n a Q p es;intros;exact cps λR z=>by
  obtain ⟨_,_,kvs,⟨o,des,ep,ho,hc,hd,hes,his,wW⟩,B⟩:=C.or hp e;refine z ?_;refine Hf kind_sorted plain_sorted entry_sorted (args_sorted1 _) ?_;unfold AJ.«sorted»;refine xI (m:=checkCount "sorted" 1 1 _) (xU ?_);have hl:=B.len.symm.trans ((xJ _).symm.trans ((congrArg Al ex).trans (xJ _)));have hsz:=size_of_entries hes;refine xI (kdu_collect (akP (es:=des) (ep:=ep) (C.fF hp)) hA.handled ⟨o,ho,hc,hd⟩ (uV (hsz.trans hl▸h.2.1)) λh' tk acc kp hacc=>abR C kp ?_ h);refine (show kvs.map (λx=>y0 x.2.1)=acc.toList from ?_)▸bS.mono cf.rfl (aX.of_keeps kp) (afA B his ex);refine D5 λi=>?_;rw[Df (xs:=acc),yA];by_cases c:i<kvs.length
  ·have ha:i<acc.size:=by exact Z hacc.1 (Z hsz c)
   refine (hacc.2 i acc[i] (Bm ha)).elim λen q=>?_;rw[Bm ha,xR c,<-q.2];have e1:=q.1;rw[entry_at hes i,xR c] at e1;exact xT e1▸rfl
  ·rw[Array.getElem?_eq_none (by exact Z hacc.1 (Z hsz (xX.mp c))),Az (xX.mp c)];rfl
end
namespace F
theorem q5:isSubtype (.type "bytearray") (.type "bytearray")=pure true:=by rw[Dk];kernel_rfl
theorem abF:Av (.type "bytearray") "__release_buffer__"=pure (J (.builtin "bytearray.__release_buffer__")):=by rw[zL,zd];kernel_rfl
theorem fH:Av (.type "bytearray") "__buffer__"=pure (J (.builtin "bytearray.__buffer__")):=by rw[zL,zd];kernel_rfl
theorem acD:Av (.type "bytearray") "__bytes__"=pure Jw:=by rw[zL,zd];kernel_rfl
theorem acC:Av (.type "bytearray") "__index__"=pure Jw:=by rw[zL,zd];kernel_rfl
end F
section
variable{prog:AG}{w:World}{A:yS}{E:xP->xM->Prop}{s:xM}
theorem aiQ{name:String}{id:String}(hT:s.TypeIs (.ref a) "bytearray")(hl:Av (.type "bytearray") name=pure (J (.builtin id)))(he:id.endsWith ("."++name)=true)(hd:id.dropRight (name.length+1)="bytearray")(h:Q true s):
  xY (yK prog w) A (Gd (.ref a) name) Q E s:=by
 unfold Gd;refine xI (Cf hT hl ?_);dsimp only;refine Z he ?_;simp only[Bool.not_true,Bg,if_false];exact Z hd (DD (T:="bytearray") (b:=true) hT F.q5 h)
theorem abY{Q:Bool->xM->Prop}(hT:s.TypeIs (.ref a) "bytearray")(h:Q false s):xY (yK prog w) A (Dz (.ref a)) Q E s:=by
 unfold Dz;exact xI (aiQ hT F.abF (by decide+kernel) (by decide+kernel) (xU h))
theorem ahW{o:Obj}{b:Array UInt8}{id:String}{full:Bool}{Q:Option (Array UInt8)->xM->Prop}(ho:s.heap.get? a=J o)(hc:o.cls= .type "bytearray")(hd:o.data= .bytearray b 0)(h:Q (J b) s):
  xY (yK prog w) A (BE id (.ref a) full) Q E s:=by
 revert prog w A E s a o b id full Q;apply ub;intro U;apply(?Z:Tq U);intro prog w A E s a o b id full Q;intros;have hT:s.TypeIs (.ref a) "bytearray":=⟨o,ho,hc⟩
 unfold BE;refine xI (Cf hT F.fH ?_);refine xI (aiQ hT F.fH (by decide+kernel) (by decide+kernel) ?_);refine Z (if_neg (by decide)) ?_;refine xI (Cf hT F.fH ?_);refine xI (abY hT ?_);refine Z (if_neg (by decide)) ?_;refine xI ?_;unfold CI;refine xI ?_;unfold Gq;refine xI (B8 ho ?_);exact Z hd (xU (xU (xU h)))
theorem adq{o:Obj}{b:Array UInt8}{Q:xP->xM->Prop}(ho:s.heap.get? a=J o)(hc:o.cls= .type "bytearray")(hd:o.data= .bytearray b 0)(hz:b.size<=Bb)
  (hQ:∀t k,Q (.bytes b t) {s with toks:=k}):F8 (yK prog w) A (.call (.builtin "bytes.__new__") ⟨[.type "bytes",.ref a],[]⟩) (wants Q E) s:=by
 revert prog w A E s a o b Q;apply e9;intro U;apply(?Z:Tq U);intro prog w A E s a o b Q;intros;refine HJ ?_;show xY _ A.in1 (do zN "bytes.__new__" ⟨[.type "bytes",.ref a],[]⟩;again (.builtin "bytes.__new__" ⟨[.type "bytes",.ref a],[]⟩)) _ _ s;refine xI (zI (PySem.F.bm_newCall _) (xU ⟨IF IH _,codeAny_builtin PySem.F.bm_entry ?_⟩));refine Z (EW IH _) ?_;have hT:s.TypeIs (.ref a) "bytearray":=⟨o,ho,hc⟩
 unfold AJ.«bytes.__new__»;refine xI (zI (a:=true) rfl ?_);refine HA rfl ?_;refine xI (zI PySem.F.bm_sub ?_);refine HA rfl ?_;refine xI (zI (PySem.F.bm_bind _) ?_);refine xI (zI (a:=()) rfl ?_);refine xI (zI (a:=()) rfl ?_);refine HA rfl ?_;refine xI (Cf hT F.acD ?_);refine xI (xI ?_);show xY _ _ (load a>>=_) _ _ _;refine xI (B8 ho ?_);refine Z hd ?_;refine xU (xU ?_);refine HA rfl ?_;refine xI (Cf hT F.acC ?_);refine bm_if_true rfl ?_
 first
  | show xY _ _ (BE "bytes.__new__" (.ref a) true>>=_) _ _ _
  | (refine xI ?_;show xY _ _ (BE "bytes.__new__" (.ref a) true>>=_) _ _ _)
 refine xI (ahW ho hc hd ?_);show xY _ _ (rule "bytes.__new__.bytes-like">>=λU=>mkBytes b>>=λv=>_) _ _ _;refine xI (C6 (xI ?_));unfold mkBytes;refine Z (if_neg (xX.mpr hz)) ?_;refine xI (wpAny_fresh (xU ?_));exact xU (hQ _ _)
section
variable{P:cy}{fl:List BX}{W W':WD}{H H':AH}{A:yS}{n:Nat}{s s':xM}{E:xP->xM->Prop}
theorem ah3{a:Nat}(C:Cx P fl W H s)(hp:W[a]? =J p)(e:H[a]? =J (.fU bs))(hl:bs.length<=1000000)(q:Q (.bytes bs) H):
  xY P.M A (call (.type "bytes") [.ref p.a]) (NV P fl W s Q) E s:=
 jQ.rec (λU U o ho hc U hd=>callType_codes (Q₁:=λobj S5=>S5.TypeIs obj "bytes"/\NV P fl W s Q obj S5) FK (PySem.F.bm_typeCall _) PySem.F.entry_object_init
  (adq ho hc hd (xH (show bs.length<=_ from hl) (by decide)) λt k=>⟨PySem.W.typeIs_bytes _ _ _,NV.keeps q C (λU U e=>e) (.bytes _ _)⟩) λobj S5 h₁=>
  (bU h₁.1 (PySem.F.args_object_init_2 obj _) (object_init_meets FK.init.lookup FK.made (by decide) P.prog P.w A.in1 _ S5 (bU h₁.1 rfl h₁.2)))) (C.or hp e)
end
end
section
variable{P:cy}{fl:List BX}{W W':WD}{H H':AH}{s s':xM}{A:yS}{E:xP->xM->Prop}{n:Nat}{Q:AV->AH->Prop}{G:fW}{args:List AV}{vs:List xP}
inductive xh(P:cy)(fl:List BX)(W:WD)(H:AH)(s:xM)(A:yS)(E:xP->xM->Prop)(G:fW)(Q:AV->AH->Prop)(vs:List xP):BI->Prop
 | any{b:BI}(h:xY P.M A (call (qI b) vs) (NV P fl W s Q) E s):xh P fl W H s A E G Q vs b
 | road(e:vs=[])(r:G.road=true)(q:bR (.fU []) H Q):xh P fl W H s A E G Q vs .bytearray
theorem ao3(hA:gQ P A fl (n+5))(C:Cx P fl W H s)(hx:bS W s.heap args vs)(h:lH G H Q b args):xh P fl W H s A E G Q vs b:=by
 induction h with
 | dO h l q=>exact hx.b6 λv y=>y.bG λp hp=>.any (agS C (C.or hp h) l q)
 | aoE h l q=>exact hx.b6 λv y=>y.bG λp hp=>.any (agS C (n9.list (C.or hp h)) l q)
 | kY l q=>exact hx.b6 λv y=>y.eK λt=>.any (alP C l q)
 | tV l q=>exact hx.b6 λv y=>y.jy λa ws ht vr=>.any (alO C ht vr l q)
 | bQ q=>exact hx.b6 λv y=>y.bY λt=>.any (call_range_1 (o7 C q _))
 | q9 q=>exact hx.kz λv u y z=>y.bY λt=>z.bY λt'=>.any (call_range_2 (o7 C q _))
 | aiG h0 h1 q=>exact bZ.nE hx λv U y r=>bS.kz (G:=λl=>xh P fl W H s A E G Q (v::l) .range) r λu w z z'=>y.bY λt=>z.bY λt'=>z'.bY λt''=>.any (ah1 C h0 h1 q)
 | abs q=>exact hx.b6 λv y=>y.bY λt=>.any (anH C q)
 | aox h hi hm q=>exact hx.b6 λv y=>y.bG λp hp=>.any (alL hA C hp h hi hm q)
 | max2 q=>exact hx.kz λv u y z=>y.bY λt=>z.bY λt'=>.any (alM hA C q)
 | aow hi hm q=>exact hx.b6 λv y=>y.jy λa ws ht vr=>.any (alJ hA C ht vr hi hm q)
 | min2 q=>exact hx.kz λv u y z=>y.bY λt=>z.bY λt'=>.any (alK hA C q)
 | an3 hi l hb q=>exact hx.b6 λv y=>y.jy λa ws ht vr=>.any (alI hA C ht vr hi l hb q)
 | pD q=>exact hx.b6 λv y=>y.bY λt=>.any (call_int_int (NV.here q C (.int _ _)))
 | aoJ q=>exact hx.b6 λv y=>y.amw (.any (call_int_bool (NV.tok q C _ (.int _ _))))
 | oX h q=>exact hx.b6 λv y=>y.bG λp hp=>.any (afR C hp h q)
 | af7 h e q=>exact hx.b6 λv y=>y.bG λp hp=>.any (afS hA C hp h e q)
 | vD q=>exact hx.b6 λv y=>y.jy λa ws ht vr=>.any (call_tuple_tup ht (NV.here q C (.tup a _ ws ht vr)))
 | vE h l q=>exact hx.b6 λv y=>y.bG λp hp=>.any (alH C hp h l q)
 | tU ha hb h0 h1 q=>exact hx.b6 λv y=>y.vJ λr hr=>.any (alN hA C hr ha hb h0 h1 q)
 | nH h l q=>exact hx.b6 λv y=>y.bG λp hp=>.any (ah3 C hp h l q)
 | pO h e l q=>exact hx.b6 λv y=>y.bG λp hp=>.any (ah2 hA C hp h e l q)
 | set q=>exact hx.elim0 (.any (anG C q))
 | bytearray r q=>exact hx.elim0 (.road rfl r q)
inductive wb(P:cy)(fl:List BX)(W:WD)(H:AH)(s:xM)(A:yS)(E:xP->xM->Prop)(G:fW)(Q:AV->AH->Prop)(v:xP)(vs:List xP):BM->Prop
 | any{b:BM}(h:xY P.M A (call (.builtin (rI b)) (v::vs)) (NV P fl W s Q) E s):wb P fl W H s A E G Q v vs b
 | append{a:Nat}{p:WE}{bs:List UInt8}{i:Int}{t:Tok}(r:G.road=true)(hp:W[a]? =J p)(e:v= .ref p.a)(e':vs=[.int i t])(h:H[a]? =J (.fU bs))(h0:0<=i)(h1:i<256)(l:bs.length<1000000)(q:dD a (.fU (bs++[i.toNat.toUInt8])) H (Q .none)):wb P fl W H s A E G Q v vs .bK
 | extend{a:Nat}{p:WE}{bs z:List UInt8}{t:Tok}(r:G.road=true)(hp:W[a]? =J p)(e:v= .ref p.a)(e':vs=[.bytes z.toArray t])(h:H[a]? =J (.fU bs))(l:bs.length+z.length<=1000000)(q:dD a (.fU (bs++z)) H (Q .none)):wb P fl W H s A E G Q v vs .dV
theorem aoZ(hA:gQ P A fl (n+5))(C:Cx P fl W H s)(hv:VR W s.heap x v)(hx:bS W s.heap args vs)(h:rQ G H Q b x args):wb P fl W H s A E G Q v vs b:=by
 induction h with
 | b7 h q=>exact hx.elim0 (hv.bY λt=>.any (anb C q))
 | find hc l q=>exact hx.b6 λu y=>hv.eK λt=>y.eK λt'=>.any (m_find C hc q)
 | append h l q=>exact hx.b6 λu y=>hv.bG λp hp=>.any (ai7 C hp y h l q)
 | add h n l q=>exact hx.b6 λu y=>hv.bG λp hp=>y.bY λt=>.any (aoB C hp h n l q)
 | aoK h q=>exact hx.b6 λu y=>hv.bG λp hp=>y.bY λt=>.any (ana C hp h q)
 | vR h q=>exact hx.kz λu w y z=>hv.bG λp hp=>y.bY λt=>.any (am9 C hp z h q)
 | pop h l e q=>exact hx.b6 λu y=>hv.bG λp hp=>y.bY λt=>.any (aoz C hp h l e q)
 | al6 h hk q=>exact hx.kz λu w y z=>hv.bG λp hp=>jx.elim (prog:=P.prog) (w:=P.w) (G:=λu=>wb P fl W H s A E G Q (.ref p.a) [u,w] .aY) hk y λa' key=>.any (ak8 hA C hp h key z q)
 | agb h hk l e q=>exact hx.kz λu w y z=>hv.bG λp hp=>jx.elim (prog:=P.prog) (w:=P.w) (G:=λu=>wb P fl W H s A E G Q (.ref p.a) [u,w] .aY) hk y λa' key=>.any (ahu hA C hp h key l e q)
 | agc h hk l e q=>exact hx.kz λu w y z=>hv.bG λp hp=>jx.elim (prog:=P.prog) (w:=P.w) (G:=λu=>wb P fl W H s A E G Q (.ref p.a) [u,w] .aY) hk y λa' key=>.any (ahv hA C hp h key z l e q)
 | bK r h h0 h1 l q=>exact hx.b6 λu y=>hv.bG λp hp=>y.bY λt=>.append r hp rfl rfl h h0 h1 l q
 | dV r h l q=>exact hx.b6 λu y=>hv.bG λp hp=>y.eK λt=>.extend r hp rfl rfl h l q
end
noncomputable def iG:List String:=["claim.caller","type.__call__","bytearray.append","bytearray.extend","bytearray.__init__"]
@[elab_as_elim] theorem iG.elim{G:String->Prop}{id:String}(h:iG.contains id=true)(h1:G "claim.caller")(h2:G "type.__call__")(h3:G "bytearray.append")(h4:G "bytearray.extend")(h5:G "bytearray.__init__"):G id:=
 (yu.mp (zv.mp h)).elim (λe=>e▸h1) λh=>(yu.mp h).elim (λe=>e▸h2) λh=>(yu.mp h).elim (λe=>e▸h3) λh=>(yu.mp h).elim (λe=>e▸h4) λh=>xV.mp h▸h5
noncomputable def qD:Code->Bool
 | .builtin id _=>iG.contains id
 | _=>true
def qa(l:List (Code×Pos)):Prop:=∀x∈l,qD x.1=true
def aB{α:Type}(r:Bool)(M:Model)(A:yS)(t:Sem α)(Q:α->xM->Prop)(E:xP->xM->Prop)(s:xM):Prop:=
 ∀Γ p,Γ.In A->(r=true->qD Γ.code=true/\qa Γ.below)->Sem.wp M Γ t (λa U s'=>Q a s') (λe U s'=>E e s') p s
def aZ(r:Bool)(M:Model)(A:yS)(c:Code)(R:GC->xM->Prop)(s:xM):Prop:=
 ∀Γ p,Γ.code=c->Γ.Below A->(r=true->qa Γ.below)->wpCode M Γ R p s
section
variable{α β:Type}{r:Bool}{M:Model}{A:yS}{E:xP->xM->Prop}{s:xM}
theorem aB.of(h:xY M A t Q E s):aB r M A t Q E s:=λΓ p hΓ U=>h Γ p hΓ
theorem aB.any(h:aB false M A t Q E s):xY M A t Q E s:=λΓ p hΓ=>h Γ p hΓ (λh=>by cases h)
theorem aZ.any{c:Code}(h:aZ false M A c R s):F8 M A c R s:=λΓ p hc hΓ=>h Γ p hc hΓ (λh=>by cases h)
theorem aZ.of{c:Code}(h:F8 M A c R s):aZ r M A c R s:=λΓ p hc hΓ U=>h Γ p hc hΓ
theorem aB.pure(h:Q a s):aB r M A (BF a) Q E s:=λU U U U=>h
theorem aB.mono(h:aB r M A t Q E s)(hQ:∀a s,Q a s->Q' a s)(hE:∀e s,E e s->E' e s):aB r M A t Q' E' s:=
 λΓ p a b=>Fo M Γ t (λx U s=>hQ x s) (λe U s=>hE e s) p s (h Γ p a b)
theorem aB.bind(h:aB r M A m (λa s'=>aB r M A (f a) Q E s') E s):aB r M A (m>>=f) Q E s:=λΓ p a b=>by
 rw[Sem.wp_bind'];exact Fo M Γ m (λx p' s' h'=>h' Γ p' a b) (λU U U h'=>h') p s (h Γ p a b)
theorem aB.onRaise(h:aB r M A m Q (λe s'=>aB r M A (k e) (λU s''=>E e s'') E s') s):aB r M A (m.onRaise k) Q E s:=λΓ p a b=>by
 rw[Sem.wp_onRaise];exact Fo M Γ m (λU U U h'=>h') (λx p' s' h'=>h' Γ p' a b) p s (h Γ p a b)
theorem aB.attempt{Q:Except xP α->xM->Prop}(h:aB r M A m (λa=>Q (.ok a)) (λe=>Q (.error e)) s):aB r M A m.attempt Q E s:=λΓ p a b=>by
 rw[Sem.wp_attempt];exact h Γ p a b
theorem aB.holding(h:aB r M A m Q E s):aB r M A (Hl vs m) Q E s:=λΓ p a b=>by
 rw[Sem.wp_holding];exact h Γ p a b
theorem aB.keep(h:aB r M A m Q E s):aB r M A (m.keep vs) Q E s:=λΓ p a b=>by
 rw[Sem.wp_keep];exact h Γ p a b
theorem aB.standAt(h:Q () s):aB r M A (BZ pos) Q E s:=λU U U U=>h
theorem aB.point(h:Q () s):aB r M A PySem.point Q E s:=λU U U U=>h
theorem aB.operate(h:aB r M A m Q E s):aB r M A (PySem.operate vs m) Q E s:=λΓ p a b=>by
 rw[Sem.wp_operate];exact h Γ p a b
theorem aB.eq{Q:α->xM->Prop}(e:t=BF a)(h:Q a s):aB r M A t Q E s:=e▸aB.pure h
theorem aB.no{c:Prop}[Decidable c](h:¬c)(k:aB r M A t' Q E s):aB r M A (if c then t else t') Q E s:=(if_neg h).symm▸k
theorem aZ.mono{c:Code}(h:aZ r M A c R s)(hR:∀r s,R r s->R' r s):aZ r M A c R' s:=λΓ p a b d=>wpCode_mono hR (h Γ p a b d)
theorem qa.enter{Γ:Ctx}(a:qD Γ.code=true)(b:qa Γ.below):qa ((Γ.code,p)::Γ.below):=λx hx=>by
 rcases yu.mp hx with rfl | h
 ·exact a
 ·exact b x h
theorem aB.run{c:Code}(hc:aZ r M A c (λr s'=>match r with | .ok f=>Q f s' | .error e=>E e s') s):aB r M A (PySem.run c Jw) Q E s:=λΓ p a b=>by
 rw[Sem.wp_run];exact hc _ p rfl (a.enter c Jw p (by intro x;cases x)) λe=>qa.enter (b e).1 (b e).2
theorem aB.runValue{c:Code}(hc:aZ r M A c (λr s'=>match r with | .ok (.ret v)=>Q v s' | .ok _=>False | .error e=>E e s') s):aB r M A (PySem.runValue c) Q E s:=λΓ p a b=>by
 rw[Sem.wp_runValue];exact hc _ p rfl (a.enter c Jw p (by intro x;cases x)) λe=>qa.enter (b e).1 (b e).2
theorem aB.call{pos:List xP}
  (hc:aZ r M A (.call f ⟨pos,kw⟩) (λr s'=>match r with | .ok (.ret v)=>Q v s' | .ok _=>False | .error e=>E e s') s):aB r M A (G6 f pos kw) Q E s:=aB.runValue hc
theorem aZ.tree{c:Code}(he:qD c=true)
  (h:aB r M (A.under c) (M.den c) (λfin s'=>match fin with | .done f=>R (.ok f) s' | .again c'=>c'.quiet=true/\aZ r M A c' R s') (λe s'=>R (.error e) s') s):aZ r M A c R s:=λΓ p hc hΓ hb=>by
 rw[wpCode_iff_wp,hc];refine Fo M Γ _ (λfin p' s' h'=>?_) (λU U U h'=>h') p s (h Γ p (hc▸hΓ.in) λe=>⟨hc▸he,hb e⟩);cases fin with
 | done f=>exact h'
 | again c'=>exact ⟨h'.1,h'.2 (Γ.goto c') p' rfl (hΓ.goto c') hb⟩
theorem aB.stack(h:∀l,qa l->Q l s):aB true M A PySem.stack Q E s:=λΓ p U b=>h _ (qa.enter (b rfl).1 (b rfl).2)
theorem aB.cast(h:aB r M A t Q E s)(e:t'=t):aB r M A t' Q E s:=e▸h
end
theorem b9.base(h:b9 o)(n:h.mu=true)(attr)(env)(t):attributeBase o attr env t=t:=by
 induction h with
 | call x p args pos=>cases args with
  | nil=>exact absurd n x8
  | cons a r=>rfl
 | _=>rfl
theorem fC{e:yF}(h:noStar e=true)(rest)(env):CV (e::rest) env=(false,eval e env)::CV rest env:=(noStar.tj h).elim λs=>by induction s <;> rfl
def chainOk(ops:List CmpOp):List yF->Bool
 | [e]=>noStar e&&ops.length==1
 | [e,e']=>(noStar e&&noStar e')&&ops.length==2
 | _=>false
theorem b9.marks{e:yF}(h:b9 e)(op):behindInMarks op e=false:=by induction h <;> rfl
theorem aif(h:l.length=2):∃a b,l=[a,b]:=by
 obtain ⟨a,r,rfl⟩:=List.exists_cons_of_length_eq_add_one h;obtain ⟨b,rfl⟩:=C3.mp (AY h);exact (jj a b rfl)
theorem aak(ops:List CmpOp)(es)(h:chainOk ops es=true):lastMarks ops es=false:=by
 cases es with
 | nil=>exact absurd h x8
 | cons e es=>cases es with
  | nil=>
   have hl:=xZ.mp h;obtain ⟨o,rfl⟩:=C3.mp (beq_iff_eq.mp hl.2);exact (noStar.tj hl.1).elim λs=>s.marks _
  | cons e' es=>cases es with
   | nil=>
    have hl:=xZ.mp h;obtain ⟨o,o',rfl⟩:=aif (beq_iff_eq.mp hl.2);exact (noStar.tj (xZ.mp hl.1).2).elim λs=>s.marks _
   | cons _ _=>exact absurd h x8
section
variable{r:Bool}{M:Model}{A:yS}{E:xP->xM->Prop}{s:xM}{env:BX}
theorem aB.seq(h:aB r M A m Q E s)(k:∀a s',Q a s'->aB r M A (f a) Q' E s'):aB r M A (m>>=f) Q' E s:=
 aB.bind (h.mono (λa s' q=>k a s' q) λU U q=>q)
theorem aeS{st rest}(h:aB r M A (exec st env) (λf s'=>match f with | .next=>aB r M A (execs rest env) Q E s' | f=>Q f s') E s):aB r M A (execs (st::rest) env) Q E s:=by
 refine Z (execs_cons _ _ _) ?_;exact aB.seq h λf s' q=>match f,q with
  | .next,q=>q
  | .cont,q=>aB.pure q
  | .brk,q=>aB.pure q
  | .ret _,q=>aB.pure q
theorem akf{e pos}(h:aB r M A (eval e env) (λv=>Q (.ret v)) E s):aB r M A (exec (.Return (J e) pos) env) Q E s:=by
 exact Z (exec_Return_some _ _ _) (aB.bind (aB.standAt (aB.seq h λU U q=>aB.pure q)))
theorem apy{test body orelse pos}
  (h:aB r M A (Jj test env (eval test env)) (λb S8=>if b=true then aB r M A (execs body env) Q E S8 else aB r M A (execs orelse env) Q E S8) E s):aB r M A (exec (.If test body orelse pos) env) Q E s:=by
 rw[exec_If];exact aB.bind (aB.standAt (aB.seq h λb s' q=>match b,q with
  | true,q=>q
  | false,q=>q))
theorem adY{c:Code}(hc:aZ r M A c (λr s'=>match r with | .ok f=>Q f s' | .error e=>Fm M A env E e s') s):aB r M A (runOwn c env Jw) Q E s:=by
 unfold runOwn;refine aB.onRaise (aB.run (hc.mono λr s' q=>?_));cases r with
 | ok f=>exact q
 | error e=>exact aB.of q
theorem alV{test body orelse pos}(h:aZ r M A (.whileLoop test body orelse env) (λr s'=>match r with | .ok f=>Q f s' | .error e=>Fm M A env E e s') s):aB r M A (exec (.While test body orelse pos) env) Q E s:=by
 rw[exec_While];exact aB.bind (aB.standAt (adY h))
theorem aph{target iter body orelse pos}
  (h:aB r M A (eval iter env) (λx S5=>aB r M A (El x) (λit S8=>aZ r M A (.forLoop target it body orelse env) (λr s'=>match r with | .ok f=>Q f s' | .error e=>Fm M A env E e s') S8) E S5) E s)
  (hs:∀x,G5 iter env x=pure x):aB r M A (exec (.For target iter body orelse pos) env) Q E s:=by
 rw[exec_For];refine aB.bind (aB.standAt (aB.seq h λx S5 q=>aB.bind (aB.eq (hs x) (aB.bind (aB.standAt (aB.bind (aB.holding (q.mono (λit S8 Q1=>adY Q1) λU U q=>q))))))))
theorem pq(h:aB r M A m Q (DK M A env E) s):aB r M A (m.onRaise λx=>do DG x env;CW x) Q E s:=
 aB.onRaise (h.mono (λU U q=>q) λU U hx=>aB.bind ((aB.of hx).mono (λU U e=>aB.of (wpAny_theTreesLotGoes e)) λU U e=>e))
theorem anW{body:Sem Flow}
  (h:aB r M A body (λf S5=>match f with | .next=>aB r M A (execs [] env) Q E S5 | f=>Q f S5)
   (λe S5=>xY M A (DG e env) (λU S8=>xY M A (setFlight e Jw) (λU S9=>xY M A (handleBy e env (h₀::hs)) Q E S9) E S8) E S5) s):aB r M A (tryStmt false body (h₀::hs) (execs [] env) [] env) Q E s:=by
 revert r M A E s env body h₀ hs Q;apply rD;intro U;apply(?Z:Tq U);intro r M A E s env body h₀ hs Q;intros;unfold tryStmt;refine aB.bind (aB.attempt (h.mono (λf S5 q=>?_) λe S5 q=>?_))
 ·cases f <;> first | exact q | exact aB.pure q
 ·exact aB.of (xI (yO q (λU U Q1=>xI Q1) λU U x=>x))
theorem afJ(h:aB r M A (spliced ((false,x)::rest)) (λvs s'=>Q ⟨vs,[]⟩ s') E s):
  aB r M A (evalArgs f true ((false,x)::rest) []) Q E s:=by
 unfold evalArgs;show aB r M A (spliced ((false,x)::rest)>>=_) Q E s;refine aB.seq h λvs s' q=>aB.holding ?_;exact aB.bind (aB.pure (aB.bind (aB.pure (aB.pure q))))
theorem acn(hp:args.any (·.1)=false)
  (h:aB r M A (evalArgs f true args []) (λx S5=>xY M A (G4 f) (λU s'=>s'=S5) E S5/\aB r M A (call f (first++x.pos) x.kw) Q E S5) E s):
  aB r M A (EY pos f first args []) Q E s:=by
 unfold EY;refine aB.bind (aB.holding (h.mono (λx S5 q=>aB.bind (aB.standAt ?_)) λU U x=>x));refine Z hp ?_;refine aB.seq (aB.of q.1) λk s' e=>?_;subst e;have tail:∀{t:Sem xP},aB r M A t Q E s'->aB r M A (t>>=λr=>CY [r] point>>=λU=>pure r) Q E s':=λht=>
  aB.seq ht λr S8 qr=>aB.bind (aB.holding (aB.point (aB.pure qr)))
 have mark:∀{c:Prop} [Decidable c] {t t':Sem xP},aB r M A t Q E s'->aB r M A t' Q E s'->aB r M A (if c then t else t') Q E s':=λ{c _ t t'} x y=>by
  split
  ·exact x
  ·exact y
 cases k with
 | machine=>exact tail q.2
 | frame=>exact mark (tail q.2) (tail (aB.keep q.2))
 | boundFrame=>exact mark (tail q.2) (tail (aB.keep q.2))
 | _=>exact tail (aB.operate q.2)
theorem afb{Q:xP->xM->Prop}
  (h:aB r M A (eval o env) (λov S5=>aB r M A (D7 ov name pl) (λfx S8=>aB r M A (EY pos fx.1 fx.2 (FW pos (CV args env)) []) Q E S8) E S5) E s)
  (he:eval (.Call (.Attribute o name apos) args [] pos) env=(do
   let ov<-eval o env
   Jf apos.atName
   let (f,first)<-CY [ov] (D7 ov name pl)
   EY pos f first (FW pos (CV args env)) [])):aB r M A (eval (.Call (.Attribute o name apos) args [] pos) env) Q E s:=by
 exact Z he (aB.seq h λov S5 q=>aB.bind (aB.standAt (aB.bind (aB.holding (q.mono (λfx S8 Q1=>Q1) λU U x=>x)))))
theorem ah6{cs:List yF}{pos:Pos}(hm:chainOk ops cs=true)
  (h:aB r M A (eval l env) (λa S5=>aB r M A (Fl pos a ops (Em cs env)) Q E S5) E s):aB r M A (eval (.Compare l ops cs pos) env) Q E s:=by
 rw[arm_eval_Compare,markedEach_of_false _ _ _ (aak ops cs hm)];exact aB.bind h
theorem ajn{cs:List yF}{pos:Pos}(hm:chainOk ops cs=true)
  (h:aB r M A (eval l env) (λa S5=>aB r M A (I3 pos a ops (Em cs env)) Q E S5) E s):aB r M A (Jj (.Compare l ops cs pos) env t) Q E s:=by
 rw[arm_isTrue_Compare,markedEach_of_false _ _ _ (aak ops cs hm)];exact aB.bind h
end
section
variable{r:Bool}{prog:AG}{w:World}{A:yS}{E:xP->xM->Prop}{R:GC->xM->Prop}{s:xM}{env:BX}
theorem anO{e pos}(h:aB r (yK prog w) A (eval e env) (λU=>Q .next) E s)(hi:Hy env=false)(hs:swapsWith e Jw pos.line env=pure false):
  aB r (yK prog w) A (exec (.Expr e pos) env) Q E s:=by
 exact Z (exec_Expr env e pos hi hs) (aB.bind (aB.standAt (aB.seq h λv s' q=>aB.of (wpAny_dropValue q))))
theorem alF(h:aB r (yK prog w) A (execs stmts env) (λf s'=>R (.ok f) s') (DK (yK prog w) A env λe s'=>R (.error e) s') s):aZ r (yK prog w) A (.block stmts env) R s:=by
 refine aZ.tree rfl ?_;show aB r _ _ (do return Fin.done (<-(execs stmts env).onRaise (λx=>do DG x env;CW x))) _ _ s;exact aB.bind (pq (h.mono (λf s' q=>aB.pure q) λU U q=>q))
theorem anj{body env} (h:aB r (yK prog w) (A.deeper env) (execs body env) (λf s'=>R (.ok (.ret (match f with | .ret v=>v | _=>.none))) s')
   (λe s'=>xY (yK prog w) (A.deeper env) (HO env e) (λU s''=>R (.error e) s'') (λe' s''=>R (.error e') s'') s') s):aZ r (yK prog w) A (.func body env) R s:=by
 refine aZ.tree rfl ?_;show aB r _ (A.deeper env) (do point;match<-(execs body env).onRaise (HO env) with | .ret v=>ret v | _=>ret .none) _ _ s;refine aB.bind (aB.point (aB.bind (aB.onRaise (h.mono (λf s' q=>?_) λU U q=>aB.of q))));cases f <;> exact aB.pure q
theorem alD{o:Obj}{fd:Dr}{body:List CM}(hroom:A.depth<Ek)(ho:s.heap.get? a=J o)
  (hd:o.data= .func fd) (hco:fd.scope.isCoroutine=false) (hgen:fd.scope.isGenerator=false) (hbody:fd.body= .stmts body) (hcd:s.heap.CodeRec fd.code fd.qualname)
  (h:xY (yK prog w) A.in1 (bindArgs fd args) (λbinds S5=>xY (yK prog w) A.in1 (Ic fd.scope fd.globals fd.closure binds (fd.qualname++".<locals>.") (J a) fd.code Jw fd.builtins)
    (λenv S8=>S8.heap.NoLimit/\aZ r (yK prog w) A (.func body env) R S8) (λe s'=>R (.error e) s') S5) (λe s'=>R (.error e) s') s):
  aZ r (yK prog w) A (.call (.ref a) args) R s:=by
 revert r prog w A R s a args o fd body;apply ub;intro U;apply(?Z:Tq U);intro r prog w A R s a args o fd body;intros;refine aZ.tree rfl ?_;show aB r _ A.in1 (Jn (.ref a) args) _ _ s;refine aB.of ?_;refine cps λR' k=>?_;refine Qc λU u6=>hcd.elim λc v6=>v6.elim λoc y6=>y6.elim λvs z6=>z6.elim λtq u7=>u7.elim λhc v7=>v7.elim λhoc y7=>y7.elim λhdc hq=>u6 ?_;rw[hc] at h;refine k ?_;unfold Jn;refine xI (B8 ho ?_);refine Z hd ?_;show xY _ _ (callFunction a fd args) _ _ _;unfold callFunction;refine Z hbody (Z hc (Z hgen (Z hco ?_)));refine xI (m:=field (.ref c) 1) (Bj hoc hdc hq (xI (xU ?_)));refine xI (yO h (λbinds S5 q=>?_) λU U q=>q);refine xI (yO q (λenv S8 Q1=>?_) λU U q=>q);exact xI (wpAny_enterFrame Q1.1 hroom (xU ⟨rfl,Q1.2⟩))
def sk(r:Bool)(M:Model)(A:yS)(c:Code)(R:GC->xM->Prop)(f:Flow)(s:xM):Prop:=match f with
 | .next=>aZ r M A c R s
 | .cont=>aZ r M A c R s
 | .brk=>R (.ok .next) s
 | .ret v=>R (.ok (.ret v)) s
theorem akk{body:List CM}
  (h:aB r (yK prog w) A (Jj test env (eval test env)) (λb S8=>
    if b=true then aB r (yK prog w) A (execs body env) (sk r (yK prog w) A (.whileLoop test body [] env) R) (DK (yK prog w) A env λe s'=>R (.error e) s') S8
    else R (.ok .next) S8)
    (DK (yK prog w) A env λe s'=>R (.error e) s') s):aZ r (yK prog w) A (.whileLoop test body [] env) R s:=by
 revert r prog w A R s env test body;apply e9;intro U;apply(?Z:Tq U);intro r prog w A R s env test body;intros;refine aZ.tree rfl ?_;show aB r _ A ((whileTurn test body [] env).onRaise (λx=>do DG x env;CW x)) _ _ s;refine pq ?_;simp only[whileTurn];refine aB.seq h λb S8 q=>?_;cases b with
 | false=>exact aB.bind (aB.of (DV (aB.pure q)))
 | true=>
  refine aB.seq q λf S9 Q2=>?_;cases f with
  | next=>exact aB.pure ⟨rfl,Q2⟩
  | cont=>exact aB.pure ⟨rfl,Q2⟩
  | brk=>exact aB.pure Q2
  | ret v=>exact aB.pure Q2
theorem t8{it:xP}{body:List CM}
  (h:xY (yK prog w) A (C7 it) (λo S5=>match o with
   | none=>R (.ok .next) S5
   | some v=>xY (yK prog w) A (BB target it v) (λU S5=>aB r (yK prog w) A (C9 target env v) (λU S8=>aB r (yK prog w) A (execs body env) (sk r (yK prog w) A (.forLoop target it body [] env) R) (DK (yK prog w) A env λe s'=>R (.error e) s') S8) (DK (yK prog w) A env λe s'=>R (.error e) s') S5) (DK (yK prog w) A env λe s'=>R (.error e) s') S5)
    (DK (yK prog w) A env λe s'=>R (.error e) s') s):aZ r (yK prog w) A (.forLoop target it body [] env) R s:=by
 revert r prog w A R s env target it body;apply rD;intro U;apply(?Z:Tq U);intro r prog w A R s env target it body;intros;refine aZ.tree rfl ?_;show aB r _ _ ((forTurn target it body [] env).onRaise (λx=>do DG x env;CW x)) _ _ s;refine pq ?_;simp only[forTurn];refine aB.bind (aB.standAt (aB.bind (aB.onRaise ((aB.of h).mono (λo S5 q=>?_) λU U q=>aB.standAt q))));cases o with
 | none=>exact aB.pure ⟨rfl,alF (aB.of (DV q))⟩
 | some v=>
  refine aB.seq (aB.of q) λU s1' Q0=>aB.seq Q0 λU S8 Q1=>aB.seq Q1 λf S9 Q2=>?_;cases f with
  | next=>exact aB.pure ⟨rfl,Q2⟩
  | cont=>exact aB.pure ⟨rfl,Q2⟩
  | brk=>exact aB.pure Q2
  | ret v=>exact aB.pure Q2
end
section
variable{prog:AG}{w:World}{M:Model}{A:yS}{E:xP->xM->Prop}{s:xM}
theorem ach{Q:Bool->xM->Prop}(h:Q false s):aB true M A (CB self) Q E s:=by
 revert M A E s self Q;apply e6;intro U;apply(?Z:Tq U);intro M A E s self Q;intros;unfold CB;refine aB.bind (aB.stack λl hl=>aB.pure ?_);have key:∀b,b=false->Q b s:=λb e=>e▸h;refine key _ (AS.mpr λx hx=>?_);have hc:=hl _ hx;obtain ⟨c,p⟩:=x;cases c with
 | builtin id a=>
  obtain ⟨pos,kw⟩:=a;have hc:iG.contains id=true:=hc;cases pos with
  | nil=>exact iG.elim hc x8 x8 x8 x8 x8
  | cons v t=>
   have z:∀b,¬((b&&false)=true):=λb h=>x8 (xZ.mp h).2;exact iG.elim hc (z _) (z _) (z _) (z _) (z _)
 | _=>exact x8
theorem aaH(ho:s.heap.get? a=J o)(hd:o.data= .bytearray b 0)(h:Q () s):aB true M A (Du (.ref a)) Q E s:=by
 unfold Du;refine aB.bind ?_;show aB true M A (CB (.ref a)>>=λr=>_) _ E s;refine aB.bind (ach ?_);show aB true M A (Cq (.ref a)>>=λr=>_) _ E s;refine aB.of (xI ?_);unfold Cq;refine xI (B8 ho ?_);exact Z hd (xU (xU (aB.pure h)))
theorem pK{T:String}{id:String}(h:Slot T name id)(he:qD (.builtin id ⟨self::rest,[]⟩)=true)(hT:s.TypeIs self T)
  (hb:En table id=J b) (hc:aB true (yK prog w) A.in1 (b ⟨self::rest,[]⟩) (λfin s'=>∃v,fin= .done (.ret v)/\Q v s') E s) (ha:FX id ⟨self::rest,[]⟩):
  aB true (yK prog w) A (call (.builtin id) (self::rest)) Q E s:=by
 refine aB.call (aZ.tree rfl ?_);show aB true _ A.in1 (do zN id ⟨self::rest,[]⟩;again (.builtin id ⟨self::rest,[]⟩)) _ _ s;refine aB.bind (aB.of (h.check _ _ _ _ _ _ _ _ hT ha (aB.pure ⟨IF h.plain _,aZ.tree he ?_⟩)));show aB true _ _ (match En table id with | some b=>b ⟨self::rest,[]⟩ | none=>Hx ((withoutEnding? id "#data").getD id)) _ _ s;refine Z hb (Z (EW h.plain _) ?_);refine hc.mono (λfin s' q=>?_) λU U q=>q;obtain ⟨v,rfl,q⟩:=q;exact q
theorem ae6(hi:0<=i/\i<256)(h:Q i.toNat.toUInt8 s):xY M A (Ge (.int i t)) Q E s:=by
 unfold Ge;refine xI (zI (a:=i) rfl ?_);have e:(decide (i<0)||decide (i>=256))=false:=by
  rw[Bool.or_eq_false_iff];exact ⟨decide_eq_false (zg.mpr hi.1),decide_eq_false (Int.not_le.mpr hi.2)⟩
 show xY M A (if (decide (i<0)||decide (i>=256))=true then _ else _) Q E s;rw[e,if_neg x8];exact xU h
theorem oU(ho:s.heap.get? a=J o)(hd:o.data= .bytearray b 0)(hf:(f b).size<=Bb)
  (h:∀h',h'.get? a=J {o with data:=.bytearray (f b) 0}->Ar a s.heap h'->Q () {s with heap:=h'}):xY M A (C5 (.ref a) f) Q E s:=by
 obtain ⟨c,d,dt,sl⟩:=o;simp only at hd;subst hd;show xY M A (updateBytearray a f) Q E s;unfold updateBytearray;refine xI (B8 ho ?_);have hg:(s.heap.update a (Obj.mapBytearray f)).get? a=J ⟨c,d,.bytearray (f b) 0,sl⟩:=Ad _ ho rfl;refine xI (wpAny_update ho (wpAny_lookBehind (o:=⟨c,d,.bytearray (f b) 0,sl⟩) hg ?_ (h _ hg (AI ..))));show (if (f b).size>Bb then J "bytearray:memory" else Jw)=Jw;exact Z (if_neg (xX.mpr hf)) rfl
theorem akb{i:Int}{t:Tok}{Q:xP->xM->Prop}(ho:s.heap.get? a=J o)(hc:o.cls= .type "bytearray")(hd:o.data= .bytearray b 0)(hi:0<=i/\i<256)(hl:b.size<Bb)
  (h:∀h',h'.get? a=J {o with data:=.bytearray (b.push i.toNat.toUInt8) 0}->Ar a s.heap h'->Q .none {s with heap:=h'}):
  aB true (yK prog w) A (call (.builtin "bytearray.append") [.ref a,.int i t]) Q E s:=by
 refine pK F.aar (by show iG.contains "bytearray.append"=true;decide) ⟨o,ho,hc⟩ F.abI ?_ (F.acw _ _);unfold AJ.«bytearray.append»;refine aB.bind (m:=selfAndOne _ _) (aB.eq (a:=(.ref a,.int i t)) rfl ?_);refine aB.bind (aB.of (ae6 hi ?_));refine aB.bind (aaH ho hd ?_);refine aB.bind (aB.of (oU ho hd (xH (yQ (Array.size_push _)) hl) λh' e sb=>?_));exact aB.pure (aM (.none) rfl (h h' e sb))
theorem ahf(ho:s.heap.get? a=J o)(hd:o.data= .bytearray b 0)(h:Q b s):xY M A (CI (.ref a)) Q E s:=by
 unfold CI;refine xI ?_;unfold Gq;refine xI (B8 ho ?_);exact Z hd (xU (xU h))
theorem adl{id:String}:Ff id (.bytes x t) 0=BF (J (x,Jw)):=by
 unfold Ff Builtin.Bytes.takeBuffer?;refine Z (KBy.special_eq KBy.look_buffer) (Z KBy.own_buffer ?_);have e:((0:Int)==Builtin.Bytes.fullReadOnly)=false:=by decide
 refine Z e (Z KBy.buffer_eq ?_)
 kernel_rfl
theorem ajL{Q:xP->xM->Prop}(ho:s.heap.get? a=J o)(hc:o.cls= .type "bytearray")(hd:o.data= .bytearray b 0)(hl:b.size+x.size<=Bb)
  (h:∀h',h'.get? a=J {o with data:=.bytearray (b++x) 0}->Ar a s.heap h'->Q .none {s with heap:=h'}):
  aB true (yK prog w) A (call (.builtin "bytearray.extend") [.ref a,.bytes x t]) Q E s:=by
 revert prog w A E s a o b x t Q;apply ub;intro U;apply(?Z:Tq U);intro prog w A E s a o b x t Q;intros;refine pK F.aaq (by show iG.contains "bytearray.extend"=true;decide) ⟨o,ho,hc⟩ F.abH ?_ (F.acv _ _);unfold AJ.«bytearray.extend»;refine aB.bind (m:=selfAndOne _ _) (aB.eq (a:=(.ref a,.bytes x t)) rfl ?_);refine aB.bind (aB.eq (KBy.special_eq KBy.look_buffer) ?_);show aB true _ _ (rule "bytearray.extend.bytes-like">>=λU=>_) _ _ _;refine aB.bind (aB.of (C6 ?_));refine aB.bind (aB.of (ahf ho hd ?_));refine aB.bind (aB.eq adl ?_);have fin:aB true (yK prog w) A.in1 (do C5 (.ref a) (· ++x);ret .none) (λfin s'=>∃v,fin= .done (.ret v)/\Q v s') E s:=by
  refine aB.bind (aB.of (oU ho hd (by simpa using hl) λh' e sb=>?_));exact aB.pure (aM (.none) rfl (h h' e sb))
 show aB true _ _ (if (!x.isEmpty)=true then (Du (.ref a)>>=λU=>(do C5 (.ref a) (· ++x);ret .none)) else (do C5 (.ref a) (· ++x);ret .none)) _ _ _;cases hx:x.isEmpty with
 | true=>exact fin
 | false=>exact aB.bind (aaH ho hd fin)
end
section
variable{r:Bool}{prog:AG}{w:World}{A:yS}{E:xP->xM->Prop}{h:yJ}{g:Array Br}{d:Drawn}{t:Nat}{os:ED}
variable{nm q:ze}{C N:yk}{bs:List xP}{sn:List ze}{sub:List xP}{col:Option Bool}{dd:Option yk}{k0 k1 k2 k3 k5:Option xP}{newId:String}
theorem afd(F:ObjNewFacts newId){mN:ze->Option xP}{rest:List xP}{fI:yk}{oI:Obj}{Q:Ep->xM->Prop}
  (hC:h.get? C=J (zQ nm q C N bs [.type "object"] true sn sub false col dd k0 k1 k2 k3 k5 newId)) (hn:h.Ns N mN) (hi:mN "__init__"=J (.ref fI))
  (hfI:h.get? fI=J oI) (hfc:oI.cls= .type "function")
  (hq:∀h' x dx,HY h h' x dx C->(∀o,h'.get? x=J o->o.data= .plain)->
   aB r (yK prog w) A (call (.ref fI) (.ref x::rest)) (λv s'=>v= .none/\Q (.done (.ret (.ref x))) s') E ⟨h',g,d,t,os⟩):
  aB r (yK prog w) A (AJ.«type.__call__» ⟨.ref C::rest,[]⟩) Q E ⟨h,g,d,t,os⟩:=by
 revert r prog w A E h g d t os nm q C N bs sn sub col dd k0 k1 k2 k3 k5 newId mN rest fI oI Q;apply hU;intro U;apply(?Z:Tq U);intro r prog w A E h g d t os nm q;apply hU;intro U;apply(?Y:Tq U);intro C N bs sn sub col dd k0 k1 k2 k3 k5;apply e1;intro U;apply(?X:Tq U);intro newId;intro F;apply e5;intro U;apply(?W:Tq U);intro mN rest fI oI Q;intros;have hmro:mroOf (.type "object")=pure [.type "object"]:=by kernel_rfl
 have hlk:Av (.type "object") "__init__"=pure (J (.builtin "object.__init__")):=by refine Z (zL _ _) (Z zd ?_);kernel_rfl
 unfold AJ.«type.__call__»;refine aB.no (by simp) (aB.bind (aB.of ?_))
 repeat (first | with_reducible refine yT hC ?_ | wp_step)
 refine aB.no (by simp) (aB.bind (aB.of ?_))
 repeat (first | with_reducible refine Hg hC ?_ | wp_step)
 refine aB.bind (aB.pure ?_);refine aB.bind (aB.holding (aB.of ?_));refine Fj (It (CL _ F.quiet) (wpAny_check_obj_new F hC ?_));refine codeAny_obj_new F hC hn hi ?_;show aB r _ _ _ _ _ _;have hC1:=xW {cls:=.ref C,dict:=J h.objs.size,data:=.plain} (xW {cls:=.type "dict",data:=.dict #[]} hC);have hfI1:=xW {cls:=.ref C,dict:=J h.objs.size,data:=.plain} (xW {cls:=.type "dict",data:=.dict #[]} hfI);have hn1:((h.push {cls:=.type "dict",data:=.dict #[]}).push {cls:=.ref C,dict:=J h.objs.size,data:=.plain}).Ns N mN:=
  hn.keeps λU U e=>xW _ (xW _ e)
 have hget:((h.push {cls:=.type "dict",data:=.dict #[]}).push {cls:=.ref C,dict:=J h.objs.size,data:=.plain}).get? (h.objs.size+1)=J {cls:=.ref C,dict:=J h.objs.size,data:=.plain}:=by heap_get
 have hgd:((h.push {cls:=.type "dict",data:=.dict #[]}).push {cls:=.ref C,dict:=J h.objs.size,data:=.plain}).get? h.objs.size=J {cls:=.type "dict",data:=.dict #[]}:=
  xW _ (Ju rfl rfl)
 have hcC:(y0 C::[DO "object"]).contains (.ref C)=true:=by simp
 refine aB.bind (aB.of ?_);unfold isInstance
 repeat (first | with_reducible refine yT hget ?_ | (with_reducible refine zP hC1 ?_;rw[hcC]) | wp_step)
 refine aB.no (by decide) (aB.bind (aB.holding ?_));unfold Jm;refine aB.bind (aB.of ?_);unfold I4
 repeat (first | with_reducible refine yT hget ?_ | (with_reducible refine wpAny_typeLookup_exc hC1 hn1 hmro hlk ?_;rw[hi]) | wp_step)
 dsimp only;refine aB.holding (aB.bind (aB.of ?_));unfold bindSpecial;refine xI (Jd (T:="function") ⟨_,hfI1,hfc⟩ ?_);refine Z (if_pos (by decide)) ?_;refine xU ?_;dsimp only;refine aB.bind ((hq _ (h.objs.size+1) h.objs.size ⟨λb o hb=>xW _ (xW _ hb),zF (yY _),zF (xS _),
  ⟨_,hget,rfl,λc=>by simp,.inr (bJ h.objs.size rfl (zt (yM _)) (Io ⟨_,#[],_,hgd,rfl,λe he=>absurd he (by simp),λU=>rfl⟩))⟩,
  λo ho=>by obtain rfl:=xT (hget.symm.trans ho);rfl,by rw[BK,BK];exact xH (yY _) (yY _)⟩ (λo ho=>by obtain rfl:=xT (hget.symm.trans ho);rfl)).mono (λv s' hr=>?_) λU U x=>x)
 have e:=hr.1;subst e;exact aB.pure (aB.pure hr.2)
theorem ade{s:xM}{id:String}(he:qD (.builtin id args)=true)(hb:En table id=J b)
  (h:aB r (yK prog w) (A.under (.builtin id args)) (b args) (λfin s'=>match fin with | .done f=>R (.ok f) s' | .again c'=>c'.quiet=true/\aZ r (yK prog w) A c' R s') (λe s'=>R (.error e) s') s):
  aZ r (yK prog w) A (.builtin id args) R s:=by
 refine aZ.tree he ?_;show aB r _ _ (match En table id with | some b=>b args | none=>Hx ((withoutEnding? id "#data").getD id)) _ _ s;exact Z hb h
theorem alE{s:xM}{id:String}(hq:(EG id args).quiet=true)
  (h:xY (yK prog w) A.in1 (zN id args) (λU S5=>aZ r (yK prog w) A (.builtin id args) R S5) (λe s'=>R (.error e) s') s):
  aZ r (yK prog w) A (.call (.builtin id) args) R s:=by
 refine aZ.tree rfl (aB.of ?_);show xY _ A.in1 (do zN id args;again (.builtin id args)) _ _ s;exact xI (yO h (λU S5 h₁=>xU ⟨hq,h₁⟩) λU U q=>q)
theorem ai0(F:ObjNewFacts newId){fI:yk}{oI:Obj}
  (hC:h.get? C=J (zQ nm q C N bs [.type "object"] true sn sub false col dd k0 k1 k2 k3 k5 newId)) (hn:h.Ns N mN) (hi:mN "__init__"=J (.ref fI))
  (hfI:h.get? fI=J oI) (hfc:oI.cls= .type "function")
  (hq:∀h' x dx,HY h h' x dx C->(∀o,h'.get? x=J o->o.data= .plain)->
   aB r (yK prog w) (A.under (.builtin "type.__call__" ⟨.ref C::rest,[]⟩)) (call (.ref fI) (.ref x::rest)) (λv s'=>v= .none/\Q (.ref x) s') E ⟨h',g,d,t,os⟩):
  aB r (yK prog w) A (call (.ref C) rest) Q E ⟨h,g,d,t,os⟩:=by
 have f1:=tc_lookup;have f2:=tc_bind (.ref C);have hT:(⟨h,g,d,t,os⟩:xM).TypeIs (.ref C) "type":=⟨_,hC,rfl⟩
 refine aB.call (aZ.tree rfl (aB.of ?_));show xY _ _ (Jn (.ref C) _) _ _ _
 repeat (any_goals (first | assumption | with_reducible refine yT hC ?_ | wp_step))
 refine ⟨rfl,?_⟩;have q1:(EG "type.__call__" ⟨.ref C::rest,[]⟩).quiet=true:=CL _ (by decide+kernel);have q2:qD (EG "type.__call__" ⟨.ref C::rest,[]⟩)=true:=by show iG.contains "type.__call__"=true;decide
 exact alE q1 (Ir hC (ade q2 entry_typeCall (afd F hC hn hi hfI hfc λh' x dx hm hp=>hq h' x dx hm hp)))
theorem afB{s:xM}(X:vn h₀ C)(st:∀b o,h₀.get? b=J o->s.heap.get? b=J o):xY (yK prog w) A (G4 (.ref C)) (λU s'=>s'=s) E s:=by
 obtain ⟨hh,g,d,t,os⟩:=s;obtain ⟨nm,q',N,bs,bm,sn,sub,ab,col,dd,k0,k1,k2,k3,k5,id,hC⟩:=X;have hC:=st _ _ hC;have f1:=tc_lookup;have hT:(⟨hh,g,d,t,os⟩:xM).TypeIs (.ref C) "type":=⟨_,hC,rfl⟩
 unfold G4 I4
 repeat (any_goals (first | assumption | with_reducible refine yT hC ?_ | with_reducible refine wpAny_load' hC ?_ | wp_step))
 rfl
end
namespace F
theorem rq:mroOf (.type "bytearray")=pure [.type "bytearray",.type "object"]:=by rw[mroOf_type];kernel_rfl
theorem acB:Av (.type "bytearray") "__new__"=pure (J (.builtin "bytearray.__new__")):=by rw[zL,zd];kernel_rfl
theorem aaO:Slot "bytearray" "__init__" "bytearray.__init__":=
 .of (owner:="bytearray") (n:="__init__") (by rw[zL,zd];kernel_rfl) (by decide+kernel) (by decide+kernel) (by decide+kernel)
  (by first | exact .inl (by decide+kernel) | exact .inr (by decide+kernel)) (by rw[Dk];kernel_rfl)
theorem ahV:TypeCalled "bytearray" "bytearray.__new__" "bytearray.__init__":=
 ⟨by decide+kernel,by decide+kernel,(jj _ _ rq),madeBy_type rq acB (by decide+kernel),by decide+kernel,by rw[Dk];kernel_rfl,aaO⟩
theorem adO:checkTypeCall "bytearray" ⟨[],[]⟩=pure ():=by kernel_rfl
theorem afr:zN "bytearray.__new__" ⟨[.type "bytearray"],[]⟩=pure ():=by kernel_rfl
theorem adG:En table "bytearray.__new__"=J AJ.«list.__new__»:=entryFor_alias (id':="list.__new__") (by kernel_rfl) rfl (by decide+kernel) (by kernel_rfl)
theorem acH:En table "bytearray.__init__"=J AJ.«bytearray.__init__»:=EX (by kernel_rfl)
theorem adI(a):FX "bytearray.__init__" ⟨[a],[]⟩:=by unfold FX;kernel_rfl
theorem aaR:plainId "bytearray.__new__"=true:=by decide+kernel
theorem adp:("bytearray.__new__".splitOn ".__new__").headD ""="bytearray":=by rw[PySem.W.splitQ_eq];kernel_rfl
theorem adH:Builtin.Bytes.bindOptional "bytearray.__init__" "bytearray" ["source","encoding","errors"] [] []=pure [Jw,Jw,Jw]:=by kernel_rfl
end F
section
variable{prog:AG}{w:World}{A:yS}{E:xP->xM->Prop}{s:xM}
theorem ae1(h:Q₁ (.ref s.heap.objs.size) {s with heap:=s.heap.push {cls:=.type "bytearray",data:=.bytearray #[]}}):
  F8 (yK prog w) A (.call (.builtin "bytearray.__new__") ⟨[.type "bytearray"],[]⟩) (wants Q₁ E) s:=by
 refine HJ ?_;show xY _ A.in1 (do zN "bytearray.__new__" ⟨[.type "bytearray"],[]⟩;again (.builtin "bytearray.__new__" ⟨[.type "bytearray"],[]⟩)) _ _ s;refine xI (zI F.afr (xU ⟨IF F.aaR _,codeAny_builtin_stack F.adG rfl λp st=>?_⟩));refine Z (EW F.aaR _) ?_;have hsub:=F.q5;have hown:=F.adp;obtain ⟨hp,g,d,tk,os⟩:=s;simp only[hown]
 wp_walk
 exact h
theorem ahA(ho:s.heap.get? a=J o)(hc:o.cls= .type "bytearray")(hd:o.data= .bytearray #[] 0)
  (h:∀h',h'.get? a=J {o with data:=.bytearray #[] 0}->Ar a s.heap h'->Q (.done (.ret .none)) {s with heap:=h'}):
  aB true (yK prog w) A (AJ.«bytearray.__init__» ⟨[.ref a],[]⟩) Q E s:=by
 revert prog w A E s a o Q;apply e8;intro U;apply(?Z:Tq U);intro prog w A E s a o Q;intros;have hT:s.TypeIs (.ref a) "bytearray":=⟨o,ho,hc⟩
 refine aB.bind (m:=Dz (.ref a)) (aB.of (abY hT ?_));refine Z (if_neg (by decide)) ?_;refine aB.bind (aB.eq F.adH ?_);refine aB.bind (m:=FI _ _ _ _) (aB.eq (a:=()) rfl ?_);refine aB.bind (m:=FI _ _ _ _) (aB.eq (a:=()) rfl ?_);refine aB.bind ?_;show aB true _ A (CB (.ref a)>>=λr=>_) _ E s;refine aB.bind (ach ?_);show aB true _ A (Cq (.ref a)>>=λr=>_) _ E s;refine aB.of (xI ?_);unfold Cq;refine xI (B8 ho ?_);refine Z hd ?_;refine xU (xU ?_);refine Z (if_neg (by decide)) ?_;refine aB.bind (aB.of (oU ho hd (yI _) λh' e sb=>?_));exact aB.pure (h h' e sb)
theorem aiX(h:∀h',h'.get? s.heap.objs.size=J {cls:=.type "bytearray",data:=.bytearray #[] 0}->(∀b o,s.heap.get? b=J o->h'.get? b=J o)->Q (.ref s.heap.objs.size) {s with heap:=h'}):
  aB true (yK prog w) A (call (.type "bytearray") []) Q E s:=by
 revert prog w A E s Q;apply e6;intro U;apply(?Z:Tq U);intro prog w A E s Q;intros;have ft:=F.ahV;refine aB.call (aZ.tree rfl (aB.of ?_));show xY _ _ (Jn (.type "bytearray") _) _ _ _;have q1:(EG "type.__call__" ⟨[.type "bytearray"],[]⟩).quiet=true:=CL _ (by decide+kernel);have q2:qD (EG "type.__call__" ⟨[.type "bytearray"],[]⟩)=true:=by show iG.contains "type.__call__"=true;decide
 refine xU (And.intro q1 (ade q2 PySem.F.entry_type_call ?_));refine Z (Around.under_plain (weight_type_call_type "bytearray" [] []) rfl) ?_;unfold AJ.«type.__call__»;refine aB.no (by decide) (aB.no (by have:=ft.canCreate;refine Z this ?_;decide) (aB.bind (aB.eq F.adO (aB.bind (aB.eq F.rq (aB.no (by decide) (aB.bind (aB.eq ft.made ?_))))))));refine aB.bind (aB.pure (aB.bind (aB.holding (aB.of (Fj ?_)))));refine ae1 (A:=A.in1) (Q₁:=λv s'=>_) ?_;have hg:(s.heap.push {cls:=.type "bytearray",data:=.bytearray #[]}).get? s.heap.objs.size=J {cls:=.type "bytearray",data:=.bytearray #[] 0}:=yC _ rfl;have hT:({s with heap:=s.heap.push {cls:=.type "bytearray",data:=.bytearray #[]}}:xM).TypeIs (.ref s.heap.objs.size) "bytearray":=⟨_,hg,rfl⟩
 refine aB.bind (aB.of (DD (T:="bytearray") (b:=true) hT F.q5 ?_));refine Z (if_neg (by decide)) ?_;refine aB.bind (aB.holding ?_);unfold Jm;refine aB.bind (aB.of (Cf hT ft.init.lookup ?_));dsimp only;refine aB.holding (aB.bind (aB.eq (ft.init.bind _) ?_));dsimp only;refine aB.bind (pK F.aaO (by show iG.contains "bytearray.__init__"=true;decide) hT F.acH (ahA hg rfl rfl λh' e sb=>(aM (.none) rfl ?_)) (F.adI _));refine aB.pure (aB.pure (h h' e λb o eb=>?_));exact sb.extBut b o (zt (zb eb)) (xW _ eb)
end
structure CT where
 scope:Dm
 slots:List (ze×Nat)
 n:Nat
 lo:Nat
 fn:List (ze×yk)
 cls:List (ze×yk)
 bi:List (ze×BI)
 kv:List (ze×Int)
 vp:List (ze×Nat)
 deriving Nonempty
noncomputable def CT.kindOf(T:CT)(x:ze):Option Er:=T.scope.names.lookup x
noncomputable def CT.de(T:CT)(x:ze):Bool:=T.slots.lookup x==Jw&&T.kindOf x==J .globalImplicit&&x !=("__debug__":ze)
noncomputable def relabel(T:CT)(sc:Dm):Dm:=
 {sc with names:=sc.names.map λ(n,k)=>if k==.free&&T.scope.kind==.function&&T.kindOf n==J .cell then (n,.cell) else (n,k)}
noncomputable def dc{α β:Type}(d:β)(o:Option α)(k:α->β):β:=match o with | some a=>k a | none=>d
noncomputable def cQ{β:Type}(d:β)(b:Bool)(x:β):β:=match b with | true=>x | false=>d
def pU(e:yF):Option {q:ze×Pos // e= .Name q.1 q.2}:=uG (β:=λe=>Option {q:ze×Pos // e= .Name q.1 q.2}) (λU=>Jw) e (na:=λx p=>J ⟨(x,p),rfl⟩)
def asName(e:yF):Option ze:=(pU e).map (·.1.1)
def namesOf:List yF->Option (List ze)
 | []=>J []
 | e::r=>(asName e).bind λx=>(namesOf r).map (x:: ·)
def anL(e:yF):Option {q:List yF×Nat×Pos // e= .Tuple q.1 q.2.1 q.2.2}:=uG (β:=λe=>Option {q:List yF×Nat×Pos // e= .Tuple q.1 q.2.1 q.2.2}) (λU=>Jw) e (tu:=λl k p=>J ⟨(l,k,p),rfl⟩)
def iQ(e:yF):Option (List yF):=(anL e).map (·.1.1)
def targetNames(e:yF):Option (Bool×List ze):=match asName e with
 | some x=>J (true,[x])
 | none=>(iQ e).bind λes=>(namesOf es).map (false,·)
noncomputable def bP(T:CT)(sc:Dm)(ts:List ze):List (ze×Nat):=
 (ts.zipIdx.map λ(x,i)=>(x,T.n+i))++(sc.names.filter λ(x,k)=>k==.free).filterMap λ(x,_)=>(T.slots.lookup x).map λi=>(x,i)
noncomputable def CT.inComp(T:CT)(sc:Dm)(ts:List ze):CT:={T with scope:=relabel T sc,slots:=bP T sc ts,n:=T.n+ts.length,lo:=T.n}
noncomputable def distinct{α:Type}[BEq α]:List α->Bool
 | []=>true
 | a::r=>!r.contains a&&distinct r
noncomputable def rH(T:CT)(sc:Dm)(ts:List ze):Bool:=
 T.scope.kind==.function&&sc.kind==.function&&distinct (sc.names.map (·.1))&&decide ((sc.names.filter (·.2==.cell)).length<=1)&&
 (sc.names.all λ(x,k)=>k != .free||((T.slots.lookup x).isSome&&(T.kindOf x==J .cell||T.kindOf x==J .free)))&&
 distinct ((bP T sc ts).map (·.2))&&((bP T sc ts).all λ(x,i)=>x !=("__debug__":ze)&&x !=("__classdict__":ze)&&decide (i<T.n+ts.length)&&
  ((decide (T.n<=i)&&(sc.names.lookup x==J .local||sc.names.lookup x==J .cell))||(decide (i<T.n)&&T.slots.lookup x==J i&&sc.names.lookup x==J .free)))&&
 (ts.zipIdx.all λ(x,i)=>(bP T sc ts).lookup x==J (T.n+i))
abbrev XE:=CT->yF->PT AV×PT Bool
def eU(g:yF->PT AV):List yF->PL
 | []=>ar
 | e::r=>ae (g e) (eU g r)
def jM(g:yF->PT AV):List CmpOp->List yF->PC
 | op::ops,e::r=>match ops with
  | []=>aH op (g e)
  | _=>jt op (g e) (jM g ops r)
 | _,_=>λU=>cg
def dU(g:yF->PT Bool):List yF->PT Bool
 | []=>dr
 | e::r=>match r with
  | []=>g e
  | r=>kW (g e) (dU g r)
def rG(g:yF->PT Bool):List yF->PT Bool
 | []=>cg
 | e::r=>match r with
  | []=>g e
  | r=>sO (g e) (rG g r)
def qE(g:yF->PT AV):Option yF->PT (Option AV)
 | none=>wd
 | some e=>qo (g e)
def pM(T:CT)(x:ze)(l:PL):PT AV:=match T.fn.lookup x with
 | some a=>aG a l
 | none=>match T.cls.lookup x with
  | some C=>b5 C l
  | none=>dc cg (T.bi.lookup x) λb=>aC b l
def ada(c:Const):PT AV:=match c with
 | .none=>af .none
 | .bool b=>af (.bool b)
 | .int i=>af (.int i)
 | .str s=>af (.str s)
 | .bytes b=>af (.bytes b)
 | _=>cg
def nG(T:CT)(x:ze):PT AV:=match T.slots.lookup x with
 | some i=>aa i
 | none=>cQ cg (T.de x) (dc cg (T.kv.lookup x) λi=>af (.int i))
def baseOk(o:yF):Bool:=dc false (shape o) b9.mu
def b9.subs(g:yF->PT AV)(o:yF){x:yF}(s:b9 x):PT AV:=s.on (a7 (g o) (g x)) (tD:=λl u U=>qu (g o) (qE g l) (qE g u))
def agJ(g:yF->PT AV)(o x:yF):PT AV:=dc cg (shape x) (b9.subs g o)
def jL(T:CT)(rec:XE)(x:yF)(g:EP)(sc:Dm):PT AV:=
 dc cg (targetNames g.target) λ(one,ts)=>cQ cg (rH T sc ts&&noStar g.iter&&g.is_async==0)
  (cW (rec (T.inComp sc ts) x).1 one ts.length (rec T g.iter).1 (dU (λe=>(rec (T.inComp sc ts) e).2) g.ifs))
def b9.se(rec:XE)(T:CT){e:yF}(s:b9 e):PT AV:=s.on cg
 (const:=λc U U=>ada c)
 (name:=λx U=>nG T x)
 (bin:=λl op r U=>aF op (rec T l).1 (rec T r).1)
 (neg:=λx U=>tL (rec T x).1)
 (cmp:=λl ops cs U=>cQ cg (chainOk ops cs) (qp (aR (rec T l).1 (jM (λe=>(rec T e).1) ops cs))))
 (uR:=λc x y U=>tM (rec T c).2 (rec T x).1 (rec T y).1)
 (tup:=λes U U=>cQ cg (es.all noStar&&decide (es.length<1000)) (cU (eU (λe=>(rec T e).1) es)))
 (lst:=λes U=>cQ cg (es.all noStar&&decide (es.length<1000)) (cV (eU (λe=>(rec T e).1) es)))
 (nB:=λU=>gk)
 (attr:=λo m U=>dc cg (T.vp.lookup m) λk=>cQ cg (baseOk o&&m !=("__class__":ze)) (aE (rec T o).1 k))
 (sub:=λo x U=>agJ (λe=>(rec T e).1) o x)
 (call:=λx U args U=>cQ cg (args.all noStar&&decide (args.length<20)) (cQ cg (T.de x) (pM T x (eU (λe=>(rec T e).1) args))))
 (cR:=λo m ap args p=>cQ cg (args.all noStar&&decide (args.length<20)) (dc cg (T.vp.lookup m) λk=>cQ cg (baseOk o&&m !=("__class__":ze)&&ap.endLine==p.line) (aJ (rec T o).1 k (eU (λe=>(rec T e).1) args))))
 (lc:=λx g sc U=>jL T rec x g sc)
def b9.amu(rec:XE)(T:CT){e:yF}(s:b9 e):PT Bool:=s.on (j6 (s.se rec T))
 (not:=λx U=>rf (rec T x).2)
 (rF:=λes U=>dU (λe=>(rec T e).2) es)
 (gO:=λes U=>rG (λe=>(rec T e).2) es)
 (cmp:=λl ops cs U=>cQ cg (chainOk ops cs) (aR (rec T l).1 (jM (λe=>(rec T e).1) ops cs)))
 (uR:=λU U U U=>cg)
noncomputable def comp:Nat->XE
 | 0,_,_=>(cg,cg)
 | n+1,T,e=>(dc cg (shape e) (b9.se (comp n) T),dc cg (shape e) (b9.amu (comp n) T))
noncomputable def CT.gK(T:CT)(x:ze)(i:Nat):Bool:=T.slots.lookup x==J i&&decide (T.lo<=i)&&(T.kindOf x==J .local||T.kindOf x==J .cell)
def slotsOf(T:CT):List yF->Option (List Nat)
 | []=>J []
 | e::r=>(asName e).bind λx=>(T.slots.lookup x).bind λi=>cQ Jw (T.gK x i) ((slotsOf T r).map (i:: ·))
noncomputable def jz(T:CT):List ze->Option (List Nat)
 | []=>J []
 | x::r=>(T.slots.lookup x).bind λi=>cQ Jw (T.gK x i) ((jz T r).map (i:: ·))
def qZ(sc:Dm)(line:Nat)(e:yF):Option ze:=(pU e).bind λq=>if sc.names.lookup q.1.1==J .local&&q.1.2.line==line then J q.1.1 else Jw
def c7(sc:Dm)(ts:List yF):List ze:=ts.filterMap (qZ sc ((ts.head?.map (·.pos.line)).getD 0))
def j3(T:CT)(ts vs:List yF):Bool:=
 (ts.length==2||ts.length==3)&&vs.length==ts.length&&vs.all noStar&&(c7 T.scope ts).length==ts.length&&(c7 T.scope ts).eraseDups.length==(c7 T.scope ts).length&&!vs.all (constantsAlone 8)
def b9.kC(g:yF->PT AV)(T:CT){t:yF}(s:b9 t):TT:=s.on mI
 (name:=λx U=>dc mI (T.slots.lookup x) λi=>cQ mI (T.gK x i) (aK i))
 (tup:=λes U U=>dc mI (slotsOf T es) λl=>cQ mI (decide (l.length<1000)&&distinct l) (fS l))
 (attr:=λo m U=>dc mI (T.vp.lookup m) λk=>aU (g o) k)
 (sub:=λo x U=>dc mI (shape x) λs=>cQ mI (!s.aoI) (kR (g o) (g x)))
def kC(g:yF->PT AV)(T:CT)(t:yF):TT:=dc mI (shape t) (b9.kC g T)
def b9.lX{e:yF}(s:b9 e):Bool:=s.on true (lst:=λU U=>false)
def lX(e:yF):Bool:=dc false (shape e) b9.lX
def rK(re:XE)(T:CT)(tg x:yF):ST:=match asName tg with
 | some nm=>dc fa (T.slots.lookup nm) λi=>cQ fa (T.gK nm i) (ak (aK i) (re T x).1)
 | none=>ak (kC (λe=>(re T e).1) T tg) (re T x).1
def pS(re:XE)(T:CT)(tg x:yF)(ts vs:List yF):ST:=match vs.all (DL 8) with
 | true=>ak (kC (λe=>(re T e).1) T tg) (re T x).1
 | false=>cQ fa (j3 T ts vs) (dc fa (jz T (c7 T.scope ts).reverse) λl=>ak (lK l) (re T x).1)
def rJ(re:XE)(T:CT)(tg x:yF)(vs:List yF):ST:=match iQ tg with
 | none=>ak (kC (λe=>(re T e).1) T tg) (re T x).1
 | some ts=>pS re T tg x ts vs
def agL(re:XE)(T:CT)(tg x:yF):ST:=cQ fa (lX tg&&noStar x) (match iQ x with
 | none=>rK re T tg x
 | some vs=>rJ re T tg x vs)
set_option genCtorIdx false in
inductive vk:AU->Type
 | mk(x:ze)(np:Pos)(m:ze)(k:Nat)(mp rp hp:Pos):vk (.ExceptHandler (J (.Name x np)) Jw [.Return (J (.Constant (.str m) k mp)) rp] hp)
noncomputable def wK{β:CM->Type}(x:∀s,β s)(s:CM)(fd:∀a b c d e f g h i j,β (.FunctionDef a b c d e f g h i j):=λU U U U U U U U U U=>x _)(cd:∀a b c d e f g h i j k,β (.ClassDef a b c d e f g h i j k):=λU U U U U U U U U U U=>x _)(re:∀a b,β (.Return a b):=λU U=>x _)(as:∀a b c,β (.Assign a b c):=λU U U=>x _)(au:∀a b c d,β (.AugAssign a b c d):=λU U U U=>x _)(fo:∀a b c d e,β (.For a b c d e):=λU U U U U=>x _)(wh:∀a b c d,β (.While a b c d):=λU U U U=>x _)(ie:∀a b c d,β (.If a b c d):=λU U U U=>x _)(ra:∀a b c,β (.Raise a b c):=λU U U=>x _)(tr:∀a b c d e,β (.Try a b c d e):=λU U U U U=>x _)(ex:∀a b,β (.Expr a b):=λU U=>x _)(pa:∀a,β (.Pass a):=λU=>x _):β s:=
 Stmt.casesOn s fd (λU U U U U U U U U U=>x _) cd re (λU U=>x _) as (λU U U U U U U=>x _) au (λU U U U U=>x _) fo (λU U U U U=>x _) wh ie (λU U U=>x _) (λU U U=>x _) (λU U U=>x _) ra tr (λU U U U U=>x _) (λU U U=>x _) (λU U=>x _) (λU U U U=>x _) (λU U=>x _) (λU U=>x _) ex pa (λU=>x _) (λU=>x _)
def wW(h:AU):Option (vk h):=ExceptHandler.casesOn h λt n b p=>Ce t Jw λt=>
 uG (β:=λt=>Option (vk (.ExceptHandler (J t) n b p))) (λU=>Jw) t (na:=λx np=>Ce n (zW b Jw λs r=>zW r
  (wK (β:=λs=>Option (vk (.ExceptHandler (J (.Name x np)) Jw [s] p))) (λU=>Jw) s (re:=λv rp=>Ce v Jw λv=>
   uG (β:=λv=>Option (vk (.ExceptHandler (J (.Name x np)) Jw [.Return (J v) rp] p))) (λU=>Jw) v (co:=λc k mp=>
    Const.casesOn c Jw (λU=>Jw) (λU=>Jw) (λU=>Jw) (λU U=>Jw) (λm=>J (.mk x np m k mp rp p)) (λU=>Jw) Jw)))
  λU U=>Jw) λU=>Jw)
noncomputable def vk.nm{h:AU}:vk h->ze
 | .mk x .. =>x
noncomputable def vk.msg{h:AU}:vk h->ze
 | .mk _ _ m .. =>m
def qF(T:CT):List AU->Option (List (yk×ze))
 | []=>J []
 | h::r=>dc Jw (wW h) λs=>cQ Jw (T.de s.nm) ((T.cls.lookup s.nm).bind λD=>(qF T r).map ((D,s.msg):: ·))
def lQ(rec:CM->ST):List CM->ST
 | []=>aA
 | s::r=>aq (rec s) (lQ rec r)
set_option genCtorIdx false in
inductive gz:CM->Type
 | pass (pos):gz (.Pass pos)
 | expr (x pos):gz (.Expr x pos)
 | asg (tg x pos):gz (.Assign [tg] x pos)
 | aug (x np y pos):gz (.AugAssign (.Name x np) .Add y pos)
 | an9 (pos):gz (.Return Jw pos)
 | ret (x pos):gz (.Return (J x) pos)
 | ite (x b o pos):gz (.If x b o pos)
 | whl (x b pos):gz (.While x b [] pos)
 | aoN (tg it b pos):gz (.For tg it b [] pos)
 | anZ (b h hs pos):gz (.Try b (h::hs) [] [] pos)
 | raise (x np args cp pos):gz (.Raise (J (.Call (.Name x np) args [] cp)) Jw pos)
def amL(s:CM):Option (gz s):=wK (β:=λs=>Option (gz s)) (λU=>Jw) s
 (re:=λx p=>Ce x (J (.an9 p)) λx=>J (.ret x p))
 (as:=λl x p=>zW l Jw λt r=>zW r (J (.asg t x p)) λU U=>Jw)
 (au:=λt o y p=>uG (β:=λt=>Option (gz (.AugAssign t o y p))) (λU=>Jw) t (na:=λx q=>Operator.casesOn o (J (.aug x q y p)) Jw Jw Jw Jw Jw Jw Jw Jw Jw Jw Jw Jw))
 (fo:=λt i b o p=>zW o (J (.aoN t i b p)) λU U=>Jw)
 (wh:=λx b o p=>zW o (J (.whl x b p)) λU U=>Jw)
 (ie:=λx b o p=>J (.ite x b o p))
 (ra:=λx c p=>Ce c (Ce x Jw λx=>uG (β:=λx=>Option (gz (.Raise (J x) Jw p))) (λU=>Jw) x (ca:=λf a k q=>zW k
  (uG (β:=λf=>Option (gz (.Raise (J (.Call f a [] q)) Jw p))) (λU=>Jw) f (na:=λx n=>J (.raise x n a q p))) λU U=>Jw)) λU=>Jw)
 (tr:=λb h o f p=>zW h Jw λh l=>zW o (zW f (J (.anZ b h l p)) λU U=>Jw) λU U=>Jw)
 (ex:=λx p=>J (.expr x p)) (pa:=λp=>J (.pass p))
def b9.tX{e:yF}(s:b9 e):Bool:=s.on false (lc:=λU U U U=>true)
def gz.comp(re:XE)(rec:CM->ST)(T:CT){t:CM}(s:gz t):ST:=gz.rec (motive:=λU U=>ST)
 (λU=>aA)
 (λx U=>dc fa (shape x) λs=>cQ fa (!s.tX) (aV (re T x).1))
 (λtg x U=>agL re T tg x)
 (λx U y U=>dc fa (T.slots.lookup x) λi=>cQ fa (T.gK x i) (sH i (re T y).1))
 (λU=>aW (af .none))
 (λx U=>aW (re T x).1)
 (λx b o U=>bh (re T x).2 (lQ rec b) (lQ rec o))
 (λx b U=>gV (re T x).2 (lQ rec b))
 (λtg it b U=>cQ fa (noStar it) (cz (kC (λe=>(re T e).1) T tg) (re T it).1 (lQ rec b)))
 (λb h hs U=>dc fa (qF T (h::hs)) λl=>vG (lQ rec b) l)
 (λx U args U U=>cQ fa (T.de x&&args.all noStar&&decide (args.length<20)) (dc fa (T.cls.lookup x) λC=>bF C (eU (λe=>(re T e).1) args))) s
def stmt(re:XE):Nat->CT->CM->ST
 | 0=>λU U=>fa
 | n+1=>λT s=>dc fa (amL s) (gz.comp re (stmt re n T) T)
inductive wy where
 | new | out | held
 deriving Nonempty
inductive iw(s0:xM)(W:WD)(h:yJ)(a:yk)(vs:Array xP)(y:xP):Prop
 | mk(T:yk)(oT:Obj)(ts:Array xP)(e1:vs[1]? =J (.ref T))(n0:s0.heap.get? T=Jw)(nO:¬Own W T)(ne:T≠a)(ho:h.get? T=J oT)(hc:oT.cls= .type "traceback")(hd:oT.data= .fields ts)(e3:ts[3]? =J y):iw s0 W h a vs y
def sr(env:BX)(s0:xM)(W:WD)(h:yJ)(a:yk)(vs:Array xP):wy->Prop
 | .new=>vs[1]? =J .none
 | .out=>iw s0 W h a vs .none
 | .held=>∃L,env.frame=J L/\iw s0 W h a vs (Bz L)
inductive eX(env:BX)(s0:xM)(W:WD)(h:yJ)(a C:yk)(f:wy):Prop
 | mk(n0:s0.heap.get? a=Jw)(nO:¬Own W a)(oe:Obj)(vs:Array xP)(ho:h.get? a=J oe)(hc:oe.cls= .ref C)(hd:oe.data= .fields vs)(r:sr env s0 W h a vs f):eX env s0 W h a C f
theorem iw.back{h:yJ}(b:∀b,s1.heap.get? b=Jw->s0.heap.get? b=Jw):iw s1 W h a vs y->iw s0 W h a vs y
 | ⟨T,oT,ts,e1,n0,x1,x2,x3,x4,x5,x6⟩=>⟨T,oT,ts,e1,b _ n0,x1,x2,x3,x4,x5,x6⟩
theorem eX.back{env env':BX}{h:yJ}(b:∀b,s1.heap.get? b=Jw->s0.heap.get? b=Jw)(he:f≠.held\/env=env'):eX env s1 W h a C f->eX env' s0 W h a C f:=λh=>h.rec λn0 nO oe vs ho hc hd r=>⟨b _ n0,nO,oe,vs,ho,hc,hd,match f,he,r with
  | .new,_,r=>r
  | .out,_,r=>r.back b
  | .held,.inl n,_=>absurd rfl n
  | .held,.inr e,⟨L,e',r⟩=>⟨L,e▸e',r.back b⟩⟩
theorem Step.back{own fs:yk->Prop}{s s':xM}(st:Step own fs W s W' s')(b)(e:s'.heap.get? b=Jw):s.heap.get? b=Jw:=by
 cases q:s.heap.get? b with
 | none=>rfl
 | some o=>refine (st.there b o q).elim λo' e'=>?_;have e':=e▸e';cases e'
inductive XV(P:cy)(fl:List BX)(env:BX)(W:WD)(s:xM)(X:XF):xP->xM->Prop
 | mk(W':WD)(H':AH)(s':xM)(C a:yk)(x:P.exc C/\X C H')(c:Cx P fl W' H' s')(st:bT fl W s W' s')(nt:eX env s W' s'.heap a C .out):XV P fl env W s X (.ref a) s'
def dW(P:cy)(r:Bool)(n:Nat)(f:yk)(args:List AV)(H:AH)(Q:AV->AH->Prop)(X:XF):Prop:=
 ∀A fl env W s vs,gQ P A fl (20*n)->Cx P fl W H s->bS W s.heap args vs->
  aZ r P.M A (.call (.ref f) ⟨vs,[]⟩) (λr s'=>match r with
   | .ok (.ret v)=>NV P fl W s Q v s'
   | .ok _=>False
   | .error e=>XV P fl env W s X e s') s
@[elab_as_elim] theorem vS{A B:xP->Prop}{M:Except xP Flow->Prop}(r:Except xP Flow) (h:match r with
   | .ok (.ret v)=>A v
   | .ok _=>False
   | .error e=>B e) (f:∀v,A v->M (.ok (.ret v))) (g:∀e,B e->M (.error e)):M r:=by
 cases r with
 | error e=>exact g e h
 | ok x=>cases x with
  | ret v=>exact f v h
  | _=>exact yX h
inductive pY(hS:yJ)(C f:yk):Prop
 | mk(N:yk)(mN:ze->Option xP)(oF:Obj)(cl:ClsAt hS C N mN)(e:mN "__init__"=J (.ref f))(ho:hS.get? f=J oF)(hc:oF.cls= .type "function"):pY hS C f
inductive mD(hS:yJ)(x:ze)(C f:yk):Prop
 | mk(N:yk)(mN:ze->Option xP)(oF:Obj)(fd:Dr)(cl:ClsAt hS C N mN)(m1:mN x=J (.ref f))(ho:hS.get? f=J oF)(hc:oF.cls= .type "function")(hd:oF.data= .func fd)
  (m2:mN "__getattribute__"=Jw) (m3:mN "__getattr__"=Jw) (y:Option xP) (hy:Av (.type "object") x=pure y):mD hS x C f
inductive qN(hS:yJ)(x:ze)(C:yk):Prop
 | mk(N:yk)(mN:ze->Option xP)(cl:ClsAt hS C N mN)(n1:mN x=Jw)(n2:mN "__getattribute__"=Jw)(n3:mN "__setattr__"=Jw)(n4:Av (.type "object") x=pure Jw):qN hS x C
structure NmI(P:cy)(G:fW)(K:Nat):Prop where
 inj:∀i j,i<K->j<K->P.NM i=P.NM j->i=j
 fld:∀C k,P.fld C k=true->k<K
 cR:∀C k f,G.cR C k=J f->k<K
structure fN(P:cy)(r:Bool)(n:Nat)(G:fW):Prop where
 ip:∀f args H Q X,G.ip f args H Q X->dW P r n f args H Q X
 oP:∀f args H Q X,G.oP f args H Q X->dW P false n f args H Q X
 road:G.road=true->r=true
 init:∀C f,G.init C=J f->pY P.hS C f
 cR:∀C k f,G.cR C k=J f->mD P.hS (P.NM k) C f
 fld:∀C k,P.fld C k=true->qN P.hS (P.NM k) C
 exc:∀C,G.exc C=true->P.exc C
 qi:∀C k,G.fld C k=true->P.fld C k=true
 vL:∃K,NmI P G K
theorem fN.off(S:fN P r n G):fN P false n G.off:=
 ⟨S.oP,S.oP,(λh=>by cases h),S.init,S.cR,S.fld,S.exc,S.qi,let ⟨K,i,a,b⟩:=S.vL;⟨K,i,a,b⟩⟩
inductive Gl(P:cy)(T:CT):Prop
 | mk(mg mb:ze->Option xP)(hg:P.hS.Ns zA mg)(hb:P.hS.Ns BO mb)
  (fn:∀x a,T.fn.lookup x=J a->mg x=J (.ref a)/\∃o fd,P.hS.get? a=J o/\o.data= .func fd)
  (cls:∀x C,T.cls.lookup x=J C->mg x=J (.ref C)/\vn P.hS C)
  (bi:∀x b,T.bi.lookup x=J b->mg x=Jw/\mb x=J (qI b))
  (kv:∀x i,T.kv.lookup x=J i->∃t,mg x=J (.int i t)):Gl P T
structure jk(P:cy)(T:CT):Prop where
 lim:P.hS.NoLimit
 gl:Gl P T
 nm:∀x k,T.vp.lookup x=J k->P.NM k=x
structure d7(T:CT)(F:Fx):Prop where
 iN:wz F
 scope:F.env.scope=T.scope
 res:F.res=T.slots
 n:F.n=T.n
 lo:F.lo=T.lo
 bnd:∀x i,T.slots.lookup x=J i->i<T.n
structure Zx where
 P:cy
 r:Bool
 A:yS
 fl:List BX
 n:Nat
 G:fW
 T:CT
 F:Fx
 deriving Nonempty
structure d8(z:Zx):Prop where
 kF:gQ z.P z.A z.fl (20*z.n+15)
 sig:fN z.P z.r z.n z.G
 cH:jk z.P z.T
 ctx:d7 z.T z.F
 oo:pX z.P.NM
noncomputable abbrev Zx.M(z:Zx):Model:=z.P.M
noncomputable abbrev Zx.env(z:Zx):BX:=z.F.env
structure Pt(z:Zx)(ρ:EV) where
 W:WD
 H:AH
 s:xM
 C:Cx z.P z.fl W H s
 R:FR z.P.hS z.F W s.heap ρ
section
variable{z:Zx}{ρ ρ' ρ'':EV}
noncomputable abbrev Pt.h(p:Pt z ρ):yJ:=p.s.heap
def Le(p:Pt z ρ)(p':Pt z ρ'):Prop:=bT z.fl p.W p.s p'.W p'.s
def iV(p:Pt z ρ)(p':Pt z ρ'):Prop:=Step z.F.wr (cD z.fl) p.W p.s p'.W p'.s
theorem Step.up{own:yk->Prop}{s s':xM}(x:bT fl W s W' s'):Step own (cD fl) W s W' s':=x.weaken (λU U U h=>h.elim) λU U U h=>h
theorem Le.rfl:Le p p:=Step.refl ..
theorem iV.rfl:iV p p:=Step.refl ..
theorem Le.s(h:Le p p'):iV p p':=Step.up h
theorem Le.trans(h:Le p p')(h':Le p' p''):Le p p'':=Step.trans h h'
theorem iV.trans(h:iV p p')(h':iV p' p''):iV p p'':=Step.trans h h'
theorem Le.vr(h:Le p p'){a v}(y:VR p.W p.h a v):VR p'.W p'.h a v:=y.step p.C h
inductive XS(p:Pt z ρ)(X:XF):xP->xM->Prop
 | mk{ρ':EV}(p':Pt z ρ')(C a:yk)(f:wy)(x:z.P.exc C/\X C p'.H)(le:iV p p')(nt:eX z.env p.s p'.W p'.h a C f):XS p X (.ref a) p'.s
inductive Got(p:Pt z ρ){α β:Type}(Rl:WD->yJ->α->β->Prop)(Q:α->AH->Prop)(v:β):xM->Prop
 | mk(p':Pt z ρ)(a:α)(le:Le p p')(rl:Rl p'.W p'.h a v)(q:Q a p'.H):Got p Rl Q v p'.s
def Ev(p:Pt z ρ){α β:Type}(Rl:WD->yJ->α->β->Prop)(t:Sem β)(Q:α->AH->Prop)(X:XF):Prop:=aB z.r z.M z.A t (Got p Rl Q) (XS p X) p.s
theorem XS.up{P0:Pt z ρ'}(le:iV p P0){X:XF}{e:xP}{s:xM}:XS P0 X e s->XS p X e s:=λh=>h.rec λp' C a f x le' nt=>⟨p',C,a,f,x,le.trans le',nt.back (Step.back le) (.inr rfl)⟩
variable{α β γ δ:Type}{Rl:WD->yJ->α->β->Prop}{Rk:WD->yJ->γ->δ->Prop}{Q:α->AH->Prop}{Q':γ->AH->Prop}{X:XF}{p:Pt z ρ}
theorem Got.up{P0:Pt z ρ}(le:Le p P0){s:xM}:Got P0 Rl Q v s->Got p Rl Q v s:=λh=>h.rec λp' a le' rl q=>⟨p',a,le.trans le',rl,q⟩
theorem Ev.then{K:β->xM->Prop}(h:Ev p Rl t Q X)(k:∀(p':Pt z ρ) a v,Le p p'->Rl p'.W p'.h a v->Q a p'.H->K v p'.s):aB z.r z.M z.A t K (XS p X) p.s:=
 h.mono (λU U x=>x.rec λp' a le rl q=>k p' a _ le rl q) λU U x=>x
theorem Ev.up{P0:Pt z ρ}{t:Sem β}(le:Le p P0)(h:Ev P0 Rl t Q X):aB z.r z.M z.A t (Got p Rl Q) (XS p X) P0.s:=
 h.mono (λU U x=>x.up le) λU U x=>x.up le.s
theorem Ev.bind{f:β->Sem δ}(h:Ev p Rl t Q X)(k:∀(p':Pt z ρ) a v,Le p p'->Rl p'.W p'.h a v->Q a p'.H->Ev p' Rk (f v) Q' X):Ev p Rk (t>>=f) Q' X:=
 aB.bind (h.then λp' a v le rl q=>Ev.up le (k p' a v le rl q))
theorem Ev.pure(rl:Rl p.W p.h a v)(q:Q a p.H):Ev p Rl (pure v) Q X:=aB.pure ⟨p,a,.rfl,rl,q⟩
theorem Ev.standAt(h:Ev p Rl (f ()) Q X):Ev p Rl (BZ pos>>=f) Q X:=aB.bind (aB.standAt h)
theorem Ev.holding(h:Ev p Rl t Q X):Ev p Rl (Hl vs t) Q X:=aB.holding h
theorem Ev.eq(e:t'=t)(h:Ev p Rl t Q X):Ev p Rl t' Q X:=e▸h
theorem Ev.of(h:xY z.M z.A t (Got p Rl Q) (XS p X) p.s):Ev p Rl t Q X:=aB.of h
theorem Got.nv(K:d8 z){Q:AV->AH->Prop}:NV z.P z.fl p.W p.s Q v s'->Got p VR Q v s'
 | ⟨W',H',a,q,C,y,st⟩=>⟨⟨W',H',s',C,FR.step K.ctx.iN p.R p.C st⟩,a,st,y,q⟩
theorem Ev.nv(K:d8 z){Q:AV->AH->Prop}(h:xY z.M z.A t (NV z.P z.fl p.W p.s Q) (XS p X) p.s):Ev p VR t Q X:=
 aB.of (yO h (λU U x=>Got.nv K x) λU U x=>x)
theorem XS.xv(K:d8 z){e:xP}:XV z.P z.fl z.env p.W p.s X e s'->XS p X e s':=λh=>h.rec λW' H' s' C a x c st nt=>⟨⟨W',H',s',c,FR.step K.ctx.iN p.R p.C st⟩,C,a,.out,x,Step.up st,nt⟩
end
inductive amy(o:Option (Option AV))(k:AV->Prop):Prop
 | mk(v:AV)(e:o=J (J v))(q:k v):amy o k
theorem kX.get(h:kX o k):amy o k:=match o,h with | some (J v),h=>⟨v,rfl,h⟩
theorem dI.elim{G:Bool->Prop}(h:dI x y b)(t:x->G true)(f:y->G false):G b:=dI.rec (motive:=λb U=>G b) t f h
theorem dc.get{M:Prop}(h:dc cg o k G ρ H Q X)(t:∀a,o=J a->k a G ρ H Q X->M):M:=by cases o with | some a=>exact t a rfl h | none=>exact yX h
theorem cQ.get{M:Prop}(h:cQ cg b x G ρ H Q X)(t:b=true->x G ρ H Q X->M):M:=match b,h with | true,h=>t rfl h
section
variable{P:cy}{A:yS}{T:CT}{F:Fx}{W:WD}{ρ:EV}{s:xM}{E:xP->xM->Prop}{Q:xP->xM->Prop}{x:ze}{i:Nat}{pos:Pos}{av:AV}{v:xP}
theorem ags(ctx:d7 T F)(R:FR P.hS F W s.heap ρ)(hs:T.slots.lookup x=J i)(hv:ρ[i]? =J (J av))(h:∀v,VR W s.heap av v->Q v s):xY P.M A (loadName F.env x) Q E s:=by
 have hr:=ctx.res▸hs;have fk:=ctx.iN;rcases fk.kinds _ _ hr with k | ⟨k,c,hc⟩
 ·obtain ⟨m,hm,q⟩:=R.ns
  refine aO (q _ _ _ hr k hv) λv e y=>?_;exact wpAny_loadName_local fk.kind k hm e (h v y)
 ·have nl:F.env.kindOf x≠J .local:=by rcases k with k | k <;> rw[k] <;> simp
  obtain ⟨o,u,e,d,q⟩:=R.cs _ _ _ hr nl hc;obtain ⟨v,rfl,y⟩:=q _ hv;rcases k with k | k
  ·exact wpAny_loadName_cell fk.kind k hc ⟨o,e,d⟩ (h v y)
  ·exact wpAny_loadName_free fk.kind k hc ⟨o,e,d⟩ (h v y) (fk.dbg _ _ hr).2
theorem pz(ctx:d7 T F)(R:FR P.hS F W s.heap ρ)(hs:T.slots.lookup x=J i)(hv:ρ[i]? =J (J av))(h:∀v,VR W s.heap av v->Q v s):xY P.M A (eval (.Name x pos) F.env) Q E s:=
 wpAny_Name (ags ctx R hs hv h) (ctx.iN.dbg _ _ (ctx.res▸hs)).1
theorem abr(ctx:d7 T F)(h:T.de x=true):F.env.kindOf x=J .globalImplicit/\(x==("__debug__":ze))=false:=by
 simp only[CT.de,Am,beq_iff_eq,bne_iff_ne] at h;refine ⟨?_,by simpa using h.2⟩;have:=h.1.2;unfold CT.kindOf at this;unfold Dt;exact Z ctx.scope this
theorem agB(ctx:d7 T F)(st:P.hS.StaysIn s.heap)(h:T.de x=true)(hg:P.hS.Ns zA mg)(e:mg x=J v)(hQ:Q v s):xY P.M A (eval (.Name x pos) F.env) Q E s:=
 let ⟨k,d⟩:=abr ctx h
 Ha ctx.iN.kind k (Calls.loadGlobal_global (by exact Z ctx.iN.globals (hg.keeps st)) e hQ) d
theorem aeL(ctx:d7 T F)(st:P.hS.StaysIn s.heap)(h:T.de x=true)(hg:P.hS.Ns zA mg)(hb:P.hS.Ns BO mb)(n:mg x=Jw)(e:mb x=J v)(hQ:Q v s):xY P.M A (eval (.Name x pos) F.env) Q E s:=
 let ⟨k,d⟩:=abr ctx h
 Ha ctx.iN.kind k (Calls.loadGlobal_builtin (by exact Z ctx.iN.globals (hg.keeps st)) n (by exact Z ctx.iN.builtins (hb.keeps st)) e hQ) d
end
section
variable{z:Zx}{ρ:EV}{p:Pt z ρ}{X:XF}{Q:AV->AH->Prop}{E:xP->xM->Prop}
theorem ala(K:d8 z){x:ze}{av:AV}{Q:xP->xM->Prop}(hs:z.T.slots.lookup x=J i)(hv:ρ[i]? =J (J av))(h:∀v,VR p.W p.h av v->Q v p.s):xY z.M z.A (loadName z.env x) Q E p.s:=ags K.ctx p.R hs hv h
theorem ak2(K:d8 z){x:ze}{i:Nat}{pos:Pos}{av:AV}{Q:xP->xM->Prop}(hs:z.T.slots.lookup x=J i)(hv:ρ[i]? =J (J av))(h:∀v,VR p.W p.h av v->Q v p.s):xY z.M z.A (eval (.Name x pos) z.env) Q E p.s:=pz K.ctx p.R hs hv h
theorem my(K:d8 z){x:ze}{v:xP}{mg:ze->Option xP}{Q:xP->xM->Prop}(h:z.T.de x=true)(hg:z.P.hS.Ns zA mg)(e:mg x=J v)(hQ:Q v p.s):
  xY z.M z.A (eval (.Name x pos) z.env) Q E p.s:=agB K.ctx p.C.bq h hg e hQ
theorem ajt(K:d8 z){x:ze}{v:xP}{mg mb:ze->Option xP}{Q:xP->xM->Prop}(h:z.T.de x=true)(hg:z.P.hS.Ns zA mg)(hb:z.P.hS.Ns BO mb)(n:mg x=Jw)(e:mb x=J v)(hQ:Q v p.s):
  xY z.M z.A (eval (.Name x pos) z.env) Q E p.s:=aeL K.ctx p.C.bq h hg hb n e hQ
end
abbrev RB:WD->yJ->Bool->Bool->Prop:=λU U a b=>a=b
abbrev vY:WD->yJ->Bool->xP->Prop:=λU U b v=>v= .bool b
def cZ(z:Zx)(e:yF)(m:PT AV):Prop:=∀{ρ} {p:Pt z ρ} {Q X},m z.G ρ p.H Q X->Ev p VR (eval e z.env) Q X
def qV(z:Zx)(e:yF)(m:PT Bool):Prop:=∀{ρ} {p:Pt z ρ} {Q X},m z.G ρ p.H Q X->Ev p RB (Jj e z.env (eval e z.env)) Q X
section
variable{z:Zx}(K:d8 z)
include K
theorem alz{c:Const}:cZ z (.Constant c k pos) (ada c):=λ{ρ p Q X} h=>Ev.nv K (by
 cases c with
 | none=>exact Rows.Constant_none (NV.here h p.C .none)
 | bool b=>exact Rows.Constant_bool (NV.here h p.C (.bool _))
 | int i=>exact wpAny_Constant_int (NV.tok h p.C _ (.int _ _))
 | str s=>exact wpAny_Constant_str (NV.tok h p.C _ (.str _ _))
 | bytes b=>exact λU U U=>NV.tok h p.C _ (.bytes _ _)
 | _=>exact yX h)
theorem am4{x:ze}{pos:Pos}:cZ z (.Name x pos) (nG z.T x):=by
 exact λ{ρ p Q X} h=>by
  unfold nG at h;cases e:z.T.slots.lookup x with
  | some i=>
   rw[e] at h;obtain ⟨v,hv,q⟩:=kX.get h;exact Ev.nv K (ak2 K e hv λv y=>NV.here q p.C y)
  | none=>
   rw[e] at h;refine cQ.get h λhg h=>dc.get h λi hi h=>?_;obtain ⟨mg,mb,g,hb,fn,cls,bi,kv⟩:=K.cH.gl;refine (kv _ _ hi).elim λt e'=>?_;exact Ev.nv K (my K hg g e' (NV.here h p.C (.int _ _)))
theorem ao2(ha:cZ z l a)(hb:cZ z r b):cZ z (.BinOp l op r pos) (aF op a b):=λh=>
 Ev.bind (ha h) λU U U U Y0 Q0=>Ev.bind (Ev.holding (hb Q0)) λU U U le Y1 Q1=>Ev.standAt (aB.operate (Ev.nv K (am0 (Pt.C _) (le.vr Y0) Y1 Q1)))
theorem aoo(ha:cZ z x a):cZ z (.UnaryOp .USub x pos) (tL a):=λh=>
 Ev.bind (ha h) λP0 U U U Y0 Q0=>cO.elim Q0 Y0 λU U q=>Ev.standAt (Ev.holding (Ev.nv K (neg_int (NV.tok q P0.C _ (.int _ _)))))
theorem aps{c x y:yF}{a b:PT AV}(ht:qV z c t)(ha:cZ z x a)(hb:cZ z y b):cZ z (.IfExp c x y pos) (tM t a b):=λh=>
 Ev.bind (ht h) λU U v U Y0 Q0=>by
  subst Y0;exact dI.elim (G:=λv=>Ev _ VR (if v=true then eval x z.env else eval y z.env) _ _) Q0 (λq=>ha q) λq=>hb q
omit K in
theorem anQ{e:yF}{c:PT Bool}(h:∀{ρ} {p:Pt z ρ} {Q X},c z.G ρ p.H Q X->Ev p vY (eval e z.env) Q X):cZ z e (qp c):=λ{ρ p Q X} q=>
 (h q).mono (λU U u6=>u6.rec λp' b le rl q=>⟨p',.bool b,le,rl▸.bool b,q⟩) λU U x=>x
theorem uW(hg:∀e,cZ z e (g e)):∀{es:List yF},es.all noStar=true->∀{ρ} {p:Pt z ρ} {Q X},eU g es z.G ρ p.H Q X->
  Ev p bS (spliced (FW pos (CV es z.env))) (λas H=>as.length=es.length/\Q as H) X
 | [],_,_,_,_,_,h=>Ev.pure .nil ⟨rfl,h⟩
 | e::r,hn,_,p,_,_,h=>by
  have hn:=xZ.mp hn;refine Z (fC hn.1 _ _) ?_;exact Ev.bind (hg e h) λP0 x v U Y0 Q0=>Ev.bind (t:=BF [v]) (Rl:=λU U U a=>a=[v]) (Q:=λU H=>eU g r z.G _ H _ _) (Ev.pure (a:=()) rfl Q0) λP5 U U le e Q1=>by
   subst e;exact Ev.bind (Ev.holding (uW hg hn.2 Q1)) λP8 as vs le' ys q=>Ev.pure (.cons ((le.trans le').vr Y0) ys) ⟨congrArg (· +1) q.1,q.2⟩
omit K in
theorem hX{env:BX}(h:es.all noStar=true):(FW pos (CV es env)).any (·.1)=false:=by
 induction es with
 | nil=>rfl
 | cons e r ih=>
  have h:=xZ.mp h;exact Z (fC h.1 _ _) ((Bool.false_or _).trans (ih h.2))
abbrev RA:WD->yJ->List AV->Args->Prop:=λW h as a=>bS W h as a.pos/\a.kw=[]
theorem aka(hg:∀e,cZ z e (g e))(hn:es.all noStar=true){ρ}{p:Pt z ρ}{Q X}(h:eU g es z.G ρ p.H Q X):
  Ev p RA (evalArgs f true (FW pos (CV es z.env)) []) Q X:=by
 have h':=uW K hg (pos:=pos) hn h;cases es with
 | nil=>exact aB.of (Rows.evalArgs_none ⟨p,[],.rfl,⟨.nil,rfl⟩,h⟩)
 | cons e r=>
  have hn:=xZ.mp hn;rw[fC hn.1] at h' ⊢;exact afJ (h'.mono (λU U u6=>u6.rec λp' a le rl q=>⟨p',a,le,⟨rl,rfl⟩,q.2⟩) λU U x=>x)
omit K in
theorem bS.sizeLine{h:yJ}(x:bS W h as vs)(e:as.length=n)(l:n<1000):vs.toArray.size<=PySem.sizeLine:=
 zC▸x.length▸e▸xH (ya l) (by decide)
omit K in
theorem nY[Decidable p](h:(b&&decide p)=true):b=true/\p:=(xZ.mp h).imp id of_decide_eq_true
theorem anV(hg:∀e,cZ z e (g e)){es:List yF}{pos:Pos}:cZ z (.Tuple es k pos) (cQ cg (es.all noStar&&decide (es.length<1000)) (cU (eU g es))):=λh=>cQ.get h λe h=>
 Ev.standAt (Ev.bind (uW K hg (nY e).1 h) λP0 U U U ys q=>Ev.nv K (zG (NV.aiY q.2 P0.C ys _) (ys.sizeLine q.1 (nY e).2)))
theorem aoC(hg:∀e,cZ z e (g e)){es:List yF}:cZ z (.List es pos) (cQ cg (es.all noStar&&decide (es.length<1000)) (cV (eU g es))):=λh=>cQ.get h λe h=>
 Ev.standAt (Ev.bind (uW K hg (nY e).1 h) λP0 U U U ys q=>Ev.nv K (zG (NV.newList q.2 P0.C ys _) (ys.sizeLine q.1 (nY e).2)))
omit K in
theorem baseOk.plain(h:baseOk o=true)(attr)(env)(t):attributeBase o attr env t=t:=match q:shape o with
 | some s=>s.base (q▸h:dc false (J s) b9.mu=true) attr env t
 | none=>absurd (q▸h:dc false (Jw:Option (b9 o)) b9.mu=true) x8
omit K in
theorem afH(c:o.cls= .type "dict"):¬bp o:=bp.not (λe=>absurd (c.symm.trans e) (by decide)) λe=>absurd (c.symm.trans e) (by decide)
theorem alx:cZ z (.Dict [] [] pos) gk:=λ{ρ p Q X} h=>Ev.nv K (wpAny_Dict_empty
 (NV.new (ao:=.aP [] 0) h p.C (afH rfl) rfl ⟨rfl,rfl,[],⟨_,#[],yC _ rfl,⟨rfl,rfl,rfl⟩,rfl,λU h=>absurd h (Array.not_mem_empty _),.nil,.nil⟩,.nil⟩ p.s.toks))
omit K in
theorem VR.out{h:yJ}(y:VR W h a v):handedOut v=pure v:=by induction y <;> rfl
theorem alR{p:Pt z ρ}{x:xP}(hx:VR p.W p.h a x)(h:uq k p.H Q a):xY z.M z.A (getAttr x (z.P.NM k) true) (NV z.P z.fl p.W p.s Q) E p.s:=by
 induction h with
 | mk e hl q=>exact hx.bG λi hp=>n8.rec (λU dx mA U I Fd hf=>qN.rec (λN mN cl n1 n2 n3 n4=>(Fd.1 _ _ hl).elim λv hv=>rO.rec (λnm q' bs sn sub col dd k0 k1 k2 k3 k5 hC=>
   load_attr (h:=p.s.heap) (g:=p.s.gens) (os:=p.s.os) hC (cl.keeps p.C.bq).ns n2 n1 n4 I.inst hv.1 hv.2.out (NV.tok q p.C _ hv.2)) (s8 (cl.keeps p.C.bq))) (K.sig.fld _ k (hf _ _ hl))) (p.C.or hp e)
theorem anK{m:ze}{pos:Pos}{a:PT AV}(ha:cZ z o a):cZ z (.Attribute o m pos) (dc cg (z.T.vp.lookup m) λk=>cQ cg (baseOk o&&m !=("__class__":ze)) (aE a k)):=by
 exact λ{ρ p Q X} h=>
  dc.get h λk hk h'=>cQ.get h' λe h''=>by
   have e:=xZ.mp e;cases K.cH.nm _ _ hk;refine aB.cast (t:=eval o z.env>>=λov=>BZ pos.atName>>=λU=>Hl [ov] (getAttr ov (z.P.NM k) true)>>=λr=>letTemporaryGo o ov r>>=λU=>BF r) ?_ (by rw[arm_eval_Attribute,baseOk.plain e.1]);refine Ev.bind (ha h'') λP0 x v U Y0 Q0=>Ev.standAt (Ev.bind (Q:=λv H=>Q v H) (Ev.holding (Ev.nv K (alR K Y0 Q0))) λP5 r u le y q=>?_);exact aB.of (xI (wpAny_letTemporaryGo (xU ⟨P5,r,.rfl,y,q⟩)))
end
theorem ak1{NM:Nat->ze}{h:yJ}(Fd:iZ NM W h fs mA)(hl:fs.lookup k=Jw)(inj:∀j av,fs.lookup j=J av->NM j=NM k->j=k):mA (NM k)=Jw:=by
 cases q:mA (NM k) with
 | none=>rfl
 | some v=>
  refine kT (Fd.2 _ _ q) λj aj e1 e2=>?_;exact nomatch (inj j aj e1 e2▸e1).symm.trans hl
theorem kj(c:o.cls= .ref C):¬bp o:=bp.not (λe=>nomatch c.symm.trans e) λe=>nomatch c.symm.trans e
theorem pI(c:o.cls= .type "bytearray"):¬bp o:=bp.not (λe=>absurd (c.symm.trans e) (by decide)) λe=>absurd (c.symm.trans e) (by decide)
theorem ai3(h:n<=1000000):n<=Bb:=xH h (by decide)
section
variable{z:Zx}(K:d8 z)
include K
theorem aln{p:Pt z ρ}{k i C:Nat}{f:yk}{fs:List (Nat×AV)}(hx:VR p.W p.h (.ref i) x)
  (e:p.H[i]? =J (.inst C fs)) (hl:fs.lookup k=Jw) (hm:z.G.cR C k=J f)
  (hQ:∀oF fd,z.P.hS.get? f=J oF->oF.data= .func fd->Q (.ref f,[x]) p.s):xY z.M z.A (D7 x (z.P.NM k) pl) Q E p.s:=
 VR.bG (G:=λx=>(∀oF fd,z.P.hS.get? f=J oF->oF.data= .func fd->Q (.ref f,[x]) p.s)->xY z.M z.A (D7 x (z.P.NM k) pl) Q E p.s) hx (λq hp hQ=>n8.rec (λU dx mA U I Fd hf=>mD.rec (λN mN oF fd cl m1 ho hc hd m2 m3 y hy=>rO.rec (λnm q' bs sn sub col dd k0 k1 k2 k3 k5 hC=>
  method_of (h:=p.s.heap) (g:=p.s.gens) (os:=p.s.os) hC (cl.keeps p.C.bq).ns m2 m3 m1 (p.C.bq _ _ ho) hc hy I.inst
   (ak1 Fd hl λj av e1 e2=>K.sig.vL.elim λU i=>i.inj _ _ (i.fld _ _ (hf _ _ e1)) (i.cR _ _ _ hm) e2) (hQ oF fd ho hd)) (s8 (cl.keeps p.C.bq))) (K.sig.cR C k f hm)) (p.C.or hp e)) hQ
theorem fM(hg:∀e,cZ z e (g e))(hn:es.all noStar=true){ρ}{p:Pt z ρ}{Q Q' X}(h:eU g es z.G ρ p.H Q' X)
  (hk:∀{E:xP->xM->Prop} (P0:Pt z ρ),xY z.M z.A (G4 f) (λU s'=>s'=P0.s) E P0.s)
  (k:∀(P0:Pt z ρ) as vs,Le p P0->bS P0.W P0.h as vs->Q' as P0.H->Ev P0 VR (call f (first++vs)) Q X):Ev p VR (EY pos f first (FW pos' (CV es z.env)) []) Q X:=
 acn (hX hn) ((aka K hg hn h).then λP0 as a le ys q=>⟨hk P0,ys.2.symm▸Ev.up le (k P0 as a.pos le ys.1 q)⟩)
theorem al3{ρ}{p:Pt z ρ}{Q X}(ys:bS p.W p.h as vs)(h:z.G.ip f as p.H Q X):Ev p VR (call (.ref f) vs) Q X:=
 aB.call ((K.sig.ip _ _ _ _ _ h z.A z.fl z.env _ _ _ (K.kF.le (x7 ..)) p.C ys).mono λr U hr=>vS r hr (λU hr=>Got.nv K hr) λU hr=>XS.xv K hr)
omit K in
theorem ac3{ρ}{p:Pt z ρ}(ho:z.P.hS.get? f=J o)(hd:o.data= .func fd):xY z.M z.A (G4 (.ref f)) (λU s'=>s'=p.s) E p.s:=by
 unfold G4;refine xI (B8 (p.C.bq _ _ ho) ?_);exact Z hd (xU rfl)
theorem anF{x:AV}{ρ}{p:Pt z ρ}(hv:VR p.W p.h x v)(hx:bS p.W p.h args vs)(h:rQ z.G p.H Q b x args):Ev p VR (call (.builtin (rI b)) (v::vs)) Q X:=by
 replace h:=aoZ (A:=z.A) (E:=XS p X) (K.kF.le (yf (by decide) _)) p.C hv hx h
 induction h with
 | any h=>exact Ev.nv K h
 | append hr hp e e' h h0 h1 l q=>
  subst e;subst e';refine jQ.rec (λg ax o ho hc hd hb=>?_) (p.C.or hp h);show aB z.r _ _ _ _ _ _;exact Z (K.sig.road hr) (akb ho hc hb ⟨h0,h1⟩ (zC▸xO l (by decide)) λh' e' sb=>Got.nv K (NV.upd q h (p.C.qW hp ax g sb e' (pI hc) p.s.toks λkf=>⟨g,ax,_,e',hc,hd,congrArg (Data.bytearray · 0) (Jq ..)⟩) .none))
 | extend hr hp e e' h l q=>
  subst e;subst e';refine jQ.rec (λg ax o ho hc hd hb=>?_) (p.C.or hp h);show aB z.r _ _ _ _ _ _;exact Z (K.sig.road hr) (ajL ho hc hb (by refine Z zC (Z zC ?_);exact ai3 l) λh' e' sb=>Got.nv K (NV.upd q h (p.C.qW hp ax g sb e' (pI hc) p.s.toks λkf=>⟨g,ax,_,e',hc,hd,congrArg (Data.bytearray · 0) (FG ..)⟩) .none))
theorem anI{args:List AV}{ρ}{p:Pt z ρ}(hx:bS p.W p.h args vs)(h:lH z.G p.H Q b args):Ev p VR (call (qI b) vs) Q X:=by
 replace h:=ao3 (A:=z.A) (E:=XS p X) (K.kF.le (yf (by decide) _)) p.C hx h
 induction h with
 | any h=>exact Ev.nv K h
 | road e hr q=>
  subst e;show aB z.r _ _ _ _ _ _;exact Z (K.sig.road hr) (aiX λh' eg k=>Got.nv K (NV.at q p.C k eg (pI rfl) ⟨rfl,rfl,_,eg,rfl,rfl,rfl⟩))
omit K in
theorem VR.new{h:yJ}(e:W.length=n):VR (W++[p]) h (.ref n) (.ref p.a):=.ref _ p (e▸(yU (xS _)).trans (by exact Z (Bx _) rfl))
omit K in
theorem ak6{W:WD}{s:xM}{h':yJ}{x dx Ca:yk}(C:Cx P fl W H s)(m:HY s.heap h' x dx Ca)(mp:∀o,h'.get? x=J o->o.data= .plain):
  Cx P fl (W++[⟨x,[dx],[]⟩]) (H++[.inst Ca []]) {s with heap:=h'}/\bT fl W s (W++[⟨x,[dx],[]⟩]) {s with heap:=h'}:=by
 revert P fl W H s h' x dx Ca;apply e9;intro U;apply(?Z:Tq U);intro P fl W H s h' x dx Ca;intros;refine Qc λU u6=>m.inst.elim λo v6=>v6.elim λe y6=>y6.elim λc z6=>z6.elim λnc hd=>u6 ?_;have ed:=m.dict o e;refine hd.elim (λhd=>nomatch ed.symm.trans hd.1) λh=>h.elim λd h=>?_;cases ed.symm.trans h.1;refine ou h λU ne hn=>?_;refine Qc λU y7=>(id hn).elim λod z7=>z7.elim λes u8=>u8.elim λep v8=>v8.elim λe2 y8=>y8.elim λd2 U=>y7 ?_;exact C.new (s':={s with heap:=h'}) (p:=⟨x,[dx],[]⟩) (ao:=.inst Ca []) m.keeps (λU U e=>e) rfl C.bare (λb hb=>hb.elim (λhb=>hb▸⟨m.newX,(aM o e (kj c))⟩) λhb=>by cases xV.mp hb;exact ⟨m.newD,(aM od e2 (bO d2))⟩)
  (λU h=>by cases h) ⟨rfl,dx,λU=>Jw,rfl,⟨(oz o e c ed (mp o e)),hn,ne⟩,⟨λU U h=>(by cases h),λU U h=>(by cases h)⟩,λU U h=>(by cases h)⟩
omit K in
theorem mS.elim{h:yJ}(q:mS v k)(y:VR W h v x):x= .none/\k:=by
 cases v with
 | none=>exact ⟨y.none_,q⟩
 | _=>exact yX q
omit K in
theorem ah5(a:gQ P A fl (n+15)):gQ P (A.under (.builtin "type.__call__" ⟨.ref Ca::vs,[]⟩)) fl n:=
 ⟨xN ad6 a.depth,xN ad7 a.units,a.frames,a.handled⟩
theorem aon{ρ}{p:Pt z ρ}{vs:List xP}{Q X}(ys:bS p.W p.h as vs)(h:iT z.G Ca as p.H Q X):Ev p VR (call (.ref Ca) vs) Q X:=by
 refine iT.rec (λq=>?_) h;cases hi:z.G.init Ca with
 | none=>exact (hi▸q:aiR Jw _).elim
 | some f=>
  rw[hi] at q;refine pY.rec (λN mN oF cl hi' ho hc=>rO.rec (λnm q' bs sn sub col dd k0 k1 k2 k3 k5 hC=>?_) (s8 (cl.keeps p.C.bq))) (K.sig.init _ _ hi);refine ai0 (h:=p.s.heap) (g:=p.s.gens) (t:=p.s.toks) (os:=p.s.os) PySem.F.objNew hC (cl.keeps p.C.bq).ns hi' (p.C.bq _ _ ho) hc λh' x dx hm hpl=>?_;have M:=ak6 p.C hm hpl;exact aB.call ((K.sig.ip _ _ _ _ _ (q _ _ .push) _ z.fl z.env _ _ _ (ah5 K.kF) M.1 (.cons (VR.new p.C.hr.len) (ys.step p.C M.2))).mono λr s' hr=>vS r hr (λU hr=>hr.rec λW' H' av' q C' y' st'=>⟨(q.elim y').1,Got.nv K ⟨W',H',_,(q.elim y').2,C',(VR.new p.C.hr.len).step M.1 st',M.2.trans st'⟩⟩)
   λe hr=>(XS.xv (p:=⟨_,_,_,M.1,FR.step K.ctx.iN p.R p.C M.2⟩) K hr).up (p:=p) (Step.up M.2))
theorem apv{x:ze}{np pos:Pos}{args:List yF}{g:yF->PT AV}(hg:∀e,cZ z e (g e))(hn:args.all noStar=true)(hx:z.T.de x=true):cZ z (.Call (.Name x np) args [] pos) (pM z.T x (eU g args)):=by
 revert z x np pos args g;apply e1;intro U;apply(?Z:Tq U);intro z;intro K;apply e5;intro U;apply(?Y:Tq U);intro x np pos args g;intros;exact λ{ρ p Q X} h=>by
  refine Gl.rec (λmg mb gm gb fn cls bi kv=>?_) K.cH.gl;show Ev p VR (eval (.Name x np) z.env>>=λf=>EY pos f [] (FW pos (CV args z.env)) []) Q X;unfold pM at h;cases e1:z.T.fn.lookup x with
  | some f=>
   rw[e1] at h;exact (fn _ _ e1).2.elim λo w=>w.elim λfd w=>aB.bind (aB.of (my K hx gm (fn _ _ e1).1 (fM K hg hn h (λP0=>ac3 w.1 w.2) λP0 as vs U ys q=>al3 K ys q)))
  | none=>
   rw[e1] at h;cases e2:z.T.cls.lookup x with
   | some C=>
    rw[e2] at h;exact aB.bind (aB.of (my K hx gm (cls _ _ e2).1 (fM K hg hn h (λP0=>afB (cls _ _ e2).2 P0.C.bq) λP0 as vs U ys q=>aon K ys q)))
   | none=>
    rw[e2] at h;exact dc.get h λb e3 h=>aB.bind (aB.of (ajt K hx gm gb (bi _ _ e3).1 (bi _ _ e3).2 (fM K hg hn h (λP0=>by cases b <;> exact xU rfl) λP0 as vs U ys q=>anI K ys q)))
omit K in
theorem ahc{env:BX}(hn:args.all noStar=true)(hl:args.length<20):methodCallForm (args.length+([]:List Keyword).length) (FW pos (CV args env)) (backToKw pos (keywordEach [] env))=true:=
 xZ.mpr ⟨xZ.mpr ⟨yx.mpr λx hx=>congrArg not (Bv.mpr (AS.mp (hX (pos:=pos) (env:=env) hn) x hx)),rfl⟩,decide_eq_true (xO hl (by decide))⟩
omit K in
theorem aae{env:BX}(hf:methodCallForm n args kw=true)(he:(apos.endLine==pos.line)=true):
  methodCall o name apos pos env ov n args kw=(do
   let (f,first)<-CY [ov] (D7 ov name (do return (<-importBound o env).getD true))
   EY pos f first args kw):=by
 unfold methodCall calleeOf methodCallPos;exact Z hf (Z he rfl)
theorem anD{np:Pos}(hg:∀e,cZ z e (g e)):cZ z (.Call (.Name x np) args [] pos) (cQ cg (args.all noStar&&decide (args.length<20)) (cQ cg (z.T.de x) (pM z.T x (eU g args)))):=λ{ρ p Q X} h=>
 cQ.get h λe h=>cQ.get h λhx h=>apv K hg (nY e).1 hx h
theorem am6{o:yF}{m:ze}{ap:Pos}{args:List yF}{pos:Pos}{g:yF->PT AV}(hg:∀e,cZ z e (g e)):cZ z (.Call (.Attribute o m ap) args [] pos)
   (cQ cg (args.all noStar&&decide (args.length<20)) (dc cg (z.T.vp.lookup m) λk=>cQ cg (baseOk o&&m !=("__class__":ze)&&ap.endLine==pos.line) (aJ (g o) k (eU g args)))):=by
 revert z o m ap args pos g;apply e1;intro U;apply(?Z:Tq U);intro z;intro K;apply e6;intro U;apply(?Y:Tq U);intro o m ap args pos g;intros;exact λ{ρ p Q X} h=>
  cQ.get h λe h=>dc.get h λk hk h=>cQ.get h λe' h=>by
   have hn:=(nY e).1;have e':=xZ.mp e';have hm:=K.cH.nm _ _ hk;refine afb (pl:=do return (<-importBound o z.env).getD true) ((hg o h).then λP0 x v le Y0 Q0=>?_) ((arm_eval_Call ..).trans ((baseOk.plain (xZ.mp e'.1).1 ..).symm▸
    congrArg (eval o z.env>>= ·) (funext λov=>congrArg (BZ _>>= ·) (funext λU=>aae (ahc hn (nY e).2) e'.2))))
   refine Ql hm ?_;exact vc.rec (λex eh l hm q=>aB.of (aln K (ex▸Y0) eh l hm λoF fd ho hd=>Ev.up le (fM K hg hn q (λP0=>ac3 ho hd) λP5 as vs L1 ys q=>al3 K (.cons (L1.vr Y0) ys) q)))
    (λb q gm=>aB.of (gm (Ev.up le (fM K hg hn q (λU=>xU rfl) λP5 as vs L1 ys q=>anF K (L1.vr Y0) ys q)))) (amM (A:=z.A) (E:=XS _ _) K.oo P0.C Y0 Q0)
end
noncomputable def acX(e:yF)(t:Sem xP):Sem Bool:=do
 let v<-t
 Jf e.pos
 CY [v] (truthy v)
theorem Got.nb{z:Zx}(K:d8 z){ρ}{p:Pt z ρ}:NB z.P z.fl p.W p.s Q v s'->Got p vY Q v s'
 | ⟨W',H',a,e,q,C,st⟩=>⟨⟨W',H',s',C,FR.step K.ctx.iN p.R p.C st⟩,a,st,e,q⟩
theorem gH{M:Model}{s:xM}{vs keep:List xP}(h:Q () s):aB r M A (release vs keep) Q E s:=λΓ p U U=>by rw[Sem.wp_release];exact h
theorem b9.aiN{e:yF}(s:b9 e):iS e:=by induction s <;> exact λo i=>⟨_,rfl⟩
section
variable{z:Zx}(K:d8 z)
include K
theorem dX{o x:yF}(hs:b9 x)(ha:cZ z o a)(hi:cZ z x i):cZ z (.Subscript o x pos) (a7 a i):=λ{ρ p Q X} h=>
 Ev.bind (ha h) λU U U U Y0 Q0=>Ev.bind (Ev.holding (hi Q0)) λP5 U U le Y1 Q1=>Ev.standAt (show Ev P5 VR (BL o x _ _) Q X from Ev.nv K (akz hs.aiN (K.kF.le (yf (by decide) _)) P5.C (le.vr Y0) Y1 Q1))
omit K in
theorem wu.le{ρ}{p p':Pt z ρ}(le:Le p p')(y:wu p.W p.h a v):wu p'.W p'.h a v:=match a,y with | none,y=>y | some _,y=>le.vr y
omit K in
theorem ama(hg:∀e,cZ z e (g e)){ρ}{p:Pt z ρ}{Q X}(h:qE g o z.G ρ p.H Q X):Ev p wu (valueOrNone (evalOpt o z.env)) Q X:=by
 cases o with
 | none=>exact Ev.pure (a:=Jw) rfl h
 | some e=>exact (hg e h).mono (λU U u6=>u6.rec λp' a le rl q=>⟨p',J a,le,rl,q⟩) λU U x=>x
theorem an7{o:yF}{l u:Option yF}{sp pos:Pos}{a:PT AV}{g:yF->PT AV}(hg:∀e,cZ z e (g e))(ha:cZ z o a):cZ z (.Subscript o (.Slice l u Jw sp) pos) (qu a (qE g l) (qE g u)):=by
 exact λ{ρ p Q X} h=>
  Ev.bind (ha h) λP0 U v U Y0 Q0=>by
   refine aB.bind (aB.mono (Q:=λi s=>xY z.M z.A (BL o (.Slice l u Jw sp) v i) (Got P0 VR Q) (XS P0 X) s) (aB.holding ?_) (λi s x=>aB.bind (aB.standAt (aB.of x))) λU U x=>x);rw[arm_eval_Slice];refine aB.bind ((ama hg Q0).then λP5 U U L1 Y1 Q1=>aB.bind (aB.holding (aB.mono ((ama hg Q1).then (K:=λU s=>_) λP8 U U L2 Y2 Q2=>?_) (λU U x=>x) λU U x=>x.up L1.s)));exact aB.bind (aB.holding (aB.pure (aB.of (yO (akE (E:=XS P0 X) P8.C ((L1.trans L2).vr Y0) (Y1.le L2) Y2 Q2) (λU U x=>yO x (λU U x=>(Got.nv K x).up (L1.trans L2)) λU U x=>x) λU U x=>x))))
theorem amJ(hg:∀e,cZ z e (g e)):cZ z (.Subscript o x pos) (agJ g o x):=λ{ρ p Q X} h=>
 dc.get h λs U h=>b9.rec (motive:=λx s=>cZ z x (g x)->b9.subs g o s z.G ρ p.H Q X->Ev p VR (eval (.Subscript o x pos) z.env) Q X)
  (const:=λc k p h' h=>dX K (.const c k p) (hg o) h' h) (name:=λx p h' h=>dX K (.name x p) (hg o) h' h) (bin:=λl o' r p h' h=>dX K (.bin l o' r p) (hg o) h' h) (neg:=λx p h' h=>dX K (.neg x p) (hg o) h' h)
  (not:=λx p h' h=>dX K (.not x p) (hg o) h' h) (rF:=λx p h' h=>dX K (.rF x p) (hg o) h' h) (gO:=λx p h' h=>dX K (.gO x p) (hg o) h' h) (cmp:=λx a b p h' h=>dX K (.cmp x a b p) (hg o) h' h)
  (uR:=λx a b p h' h=>dX K (.uR x a b p) (hg o) h' h) (tup:=λx k p h' h=>dX K (.tup x k p) (hg o) h' h) (lst:=λx p h' h=>dX K (.lst x p) (hg o) h' h) (nB:=λp h' h=>dX K (.nB p) (hg o) h' h)
  (attr:=λx a p h' h=>dX K (.attr x a p) (hg o) h' h) (sub:=λx a p h' h=>dX K (.sub x a p) (hg o) h' h) (tD:=λl u p U h=>an7 K hg (hg o) h) (call:=λx a b p h' h=>dX K (.call x a b p) (hg o) h' h)
  (cR:=λx a b c p h' h=>dX K (.cR x a b c p) (hg o) h' h) (lc:=λx a b p h' h=>dX K (.lc x a b p) (hg o) h' h) s (hg x) h
theorem pC{e:yF}{a:PT AV}(ha:cZ z e a){ρ}{p:Pt z ρ}{X}{Qb:AV->Bool->AH->Prop}{F:xP->xP->Sem β}
  (wr:List xP->Sem xP->Sem xP) (hw:∀{vs t Q E s},aB z.r z.M z.A t Q E s->aB z.r z.M z.A (wr vs t) Q E s) (hx:VR p.W p.h x v) (h:a z.G ρ p.H (λy H₁=>uc op x y H₁ λb=>Qb y b H₁) X)
  (k:∀(p':Pt z ρ) y u b,Le p p'->VR p'.W p'.h y u->Qb y b p'.H->Ev p' Rk (F u (.bool b)) Q' X):Ev p Rk (CY [v] (eval e z.env)>>=λrv=>BZ pos>>=λU=>wr [v,rv] (Cn op v rv)>>=λc=>F rv c) Q' X:=
 Ev.bind (Ev.holding (ha h)) λP0 y u le Y0 Q0=>Ev.standAt (Ev.bind (Rl:=vY) (Q:=λb H'=>H'=P0.H/\Qb y b P0.H) (hw (aB.of (yO (alC (K.kF.le (yf (by decide) _)) P0.C (le.vr hx) Y0 Q0) (λU U x=>Got.nb K x) λU U x=>x)))
  λP5 b c L1 e q=>by subst e;exact k P5 y u b (le.trans L1) (L1.vr Y0) (q.1▸q.2))
omit K in
theorem mH{ρ}{p:Pt z ρ}{X}(h:Ev p Rk (F b) Q' X):Ev p Rk (CY vs (truthy (.bool b))>>=F) Q' X:=
 aB.bind (aB.holding (aB.of (G2 h)))
omit K in
theorem aoH{ρ}{p:Pt z ρ}(q:dI x y b)(hx:x->Ev p Rk t Q' X)(hy:y->Ev p Rk t' Q' X):Ev p Rk (if b=true then t else t') Q' X:=
 dI.elim (G:=λb=>Ev p Rk (if b=true then t else t') Q' X) q hx hy
section
variable{g:yF->PT AV}(hg:∀e,cZ z e (g e)){pos:Pos}{op op':CmpOp}{e e':yF}{x:AV}{v:xP}{ρ:EV}{p:Pt z ρ}{Q:Bool->AH->Prop}{X:XF}
include hg
theorem ajj(y:VR p.W p.h x v)(h:aH op (g e) x z.G ρ p.H Q X):Ev p vY (Fl pos v [op] (Em [e] z.env)) Q X:=
 aB.cast (t:=CY [v] (eval e z.env)>>=λrv=>BZ pos>>=λU=>operate [v,rv] (Cn op v rv)>>=λc=>BF c) (pC K (hg e) operate (λh=>aB.operate h) y h λp' U u b U U q=>Ev.pure (a:=b) rfl q) (by simp only[bind_pure];rfl)
theorem anS(y:VR p.W p.h x v)(h:jt op (g e) (aH op' (g e')) x z.G ρ p.H Q X):Ev p vY (Fl pos v [op,op'] (Em [e,e'] z.env)) Q X:=
 pC K (hg e) (λvs t=>CY vs t) (λh=>aB.holding h) y h λp' x' u b U y' q=>aB.bind (gH (mH (dI.rec (motive:=λb U=>Ev p' vY (if b=true then Fl pos u [op'] (Em [e'] z.env) else BF (.bool b)) Q X) (ajj K hg y') (λq=>Ev.pure (a:=false) rfl q) q)))
theorem agw(y:VR p.W p.h x v)(h:aH op (g e) x z.G ρ p.H Q X):Ev p RB (I3 pos v [op] (Em [e] z.env)) Q X:=
 pC K (hg e) operate (λh=>aB.operate h) y h λp' U u b U U q=>aB.cast (t:=CY [Value.bool b] (truthy (.bool b))>>=λc=>BF c) (mH (Ev.pure (a:=b) rfl q)) (bind_pure _).symm
theorem amD(y:VR p.W p.h x v)(h:jt op (g e) (aH op' (g e')) x z.G ρ p.H Q X):Ev p RB (I3 pos v [op,op'] (Em [e,e'] z.env)) Q X:=
 pC K (hg e) (λvs t=>CY vs t) (λh=>aB.holding h) y h λp' x' u b U y' q=>aB.bind (gH (mH (aoH q (agw K hg y') λq=>Ev.pure (a:=false) rfl q)))
end
omit K in
theorem chainOk.elim{G:List CmpOp->List yF->Prop}{cs:List yF}(h:chainOk ops cs=true)(a:∀op e,G [op] [e])(b:∀op op' e e',G [op,op'] [e,e']):G ops cs:=by
 cases cs with
 | nil=>exact absurd h x8
 | cons e es=>cases es with
  | nil=>obtain ⟨o,rfl⟩:=C3.mp (beq_iff_eq.mp (xZ.mp h).2);exact a o e
  | cons e' es=>cases es with
   | nil=>obtain ⟨o,o',rfl⟩:=aif (beq_iff_eq.mp (xZ.mp h).2);exact b o o' e e'
   | cons _ _=>exact absurd h x8
theorem aoU{g:yF->PT AV}(hg:∀e,cZ z e (g e)){l:yF}{ops:List CmpOp}{cs:List yF}{pos:Pos}:cZ z (.Compare l ops cs pos) (cQ cg (chainOk ops cs) (qp (aR (g l) (jM g ops cs)))):=λh=>cQ.get h λe h=>
 anQ (λ{ρ p Q X} h=>ah6 e ((hg l h).then λp' U v le y q=>Ev.up le (chainOk.elim (G:=λops cs=>jM g ops cs _ z.G ρ _ Q X->Ev p' vY (Fl pos v ops (Em cs z.env)) Q X) e (λU U=>ajj K hg y) (λU U U U=>anS K hg y) q))) h
theorem anv{g:yF->PT AV}(hg:∀e,cZ z e (g e)){l:yF}{ops:List CmpOp}{cs:List yF}{pos:Pos}:qV z (.Compare l ops cs pos) (cQ cg (chainOk ops cs) (aR (g l) (jM g ops cs))):=λ{ρ p Q X} h=>cQ.get h λe h=>
 ajn e ((hg l h).then λp' U v le y q=>Ev.up le (chainOk.elim (G:=λops cs=>jM g ops cs _ z.G ρ _ Q X->Ev p' RB (I3 pos v ops (Em cs z.env)) Q X) e (λU U=>agw K hg y) (λU U U U=>amD K hg y) q))
omit K in
theorem aoj{c:PT Bool}(hc:qV z x c):qV z (.UnaryOp .Not x pos) (rf c):=λh=>
 Ev.bind (hc h) λU b v U y q=>Ev.pure (a:=!b) (congrArg _ y) q
omit K in
theorem amx(hg:∀e,qV z e (g e)):∀{es:List yF} {ρ} {p:Pt z ρ} {Q X},dU g es z.G ρ p.H Q X->Ev p RB (allTrue .And es z.env) Q X
 | [],_,_,_,_,h=>Ev.pure (a:=true) rfl h
 | [e],_,_,_,_,h=>Ev.bind (hg e h) λp' b v U y q=>by
  subst y;cases b with
  | true=>exact Ev.pure (a:=true) rfl q
  | false=>exact Ev.pure (a:=false) rfl q
 | e::e'::r,_,_,_,_,h=>Ev.bind (hg e h) λp' b v U y q=>by
  subst y;induction q with
  | t q=>exact amx hg q
  | f q=>exact Ev.pure (a:=false) rfl q
omit K in
theorem aog(hg:∀e,qV z e (g e)):∀{es:List yF} {ρ} {p:Pt z ρ} {Q X},rG g es z.G ρ p.H Q X->Ev p RB (allTrue .Or es z.env) Q X
 | [],_,_,_,_,h=>yX h
 | [e],_,_,_,_,h=>Ev.bind (hg e h) λp' b v U y q=>by
  subst y;cases b with
  | true=>exact Ev.pure (a:=true) rfl q
  | false=>exact Ev.pure (a:=false) rfl q
 | e::e'::r,_,_,_,_,h=>Ev.bind (hg e h) λp' b v U y q=>by
  subst y;induction q with
  | t q=>exact Ev.pure (a:=true) rfl q
  | f q=>exact aog hg q
omit K in
theorem pj.elim{h:yJ}{G:xP->Prop}(q:pj x k)(y:VR W h x v)(f:∀b,k b->G (.bool b)):G v:=by
 cases x with
 | bool b=>exact y.amw (f b q)
 | _=>exact yX q
omit K in
theorem amF{e:yF}(ht:Jj e z.env (eval e z.env)=acX e (eval e z.env))(ha:cZ z e a):qV z e (j6 a):=λ{ρ p Q X} h=>aB.cast (t:=acX e (eval e z.env))
 (Ev.bind (ha h) λP0 x v U y q=>Ev.standAt (pj.elim (G:=λv=>Ev P0 RB (CY [v] (truthy v)) Q X) q y λb q=>aB.holding (aB.of (G2 ⟨P0,b,.rfl,rfl,q⟩)))) ht
end
section
variable{P:cy}{A:yS}{fl:List BX}{W W':WD}{H H':AH}{s s':xM}{E:xP->xM->Prop}{own:yk->Prop}
theorem Cx.but(C:Cx P fl W H s)(h1:∀b,own b->¬Own W b)(h2:∀b,own b->P.hS.get? b=Jw)(h3:∀b,own b->¬cD fl b)(h4:∀b o,own b->s.heap.get? b=J o->¬bp o)
  (k:∀b o,¬own b->s.heap.get? b=J o->s'.heap.get? b=J o) (g:s'.gens=s.gens):Cx P fl W H s':=
 have st:P.hS.StaysIn s'.heap:=λb o e=>k b o (λh=>nomatch (h2 b h).symm.trans e) (C.bq b o e)
 ⟨st,C.hr.keep P.pH (λb o hb e=>k b o (λh=>h1 b h hb) e) (λb o e f=>k b o (λh=>h4 b o h e f) e) (λU U U e=>g▸e) st,C.ff.mono λb o e f=>(aM o (k b o (λh=>h3 b h f) e) rfl),C.fo,g▸C.bare⟩
theorem Step.akq(st:Step own0 fs W0 s0 W s)(hn:∀b,own b->s0.heap.get? b=Jw)
  (k:∀b o,¬own b->s.heap.get? b=J o->s'.heap.get? b=J o) (g:s'.gens=s.gens) (os:s'.os=s.os):Step own0 fs W0 s0 W s':=
 have no:∀{b o},s0.heap.get? b=J o->¬own b:=λe h=>nomatch (hn _ h).symm.trans e
 ⟨st.pre,λb o e=>(st.there b o e).imp λo1 e1=>k b o1 (no e) e1,
  λb o e n1 n2=>(st.keep b o e n1 n2).imp λsl x=>⟨k b _ (no e) x.1,x.2⟩,st.fresh,λx y e=>g▸st.gj x y e,λx y e n=>g▸st.mX x y e n,st.iM,os.trans st.os⟩
end
inductive qe(h:yJ)(I:yk):Prop
 | mk(o:Obj)(T:String)(e:h.get? I=J o)(c:o.cls= .type T)(k:["enumerate","zip","dict_itemiterator","dict_reverseitemiterator","odict_iterator","itertools.zip_longest","itertools.pairwise"].contains T=false)(n:T≠"tuple")(n':T≠"range")
theorem qe.of{h:yJ}{T:String}{R:Obj->Prop}(x:∃o,h.get? I=J o/\o.cls= .type T/\R o)
  (k:["enumerate","zip","dict_itemiterator","dict_reverseitemiterator","odict_iterator","itertools.zip_longest","itertools.pairwise"].contains T=false) (n:T≠"tuple") (n':T≠"range"):qe h I:=x.elim λo w=>⟨o,T,w.1,w.2.1,k,n,n'⟩
theorem qe.nf{h:yJ}(x:qe h I):∀o,h.get? I=J o->¬bp o:=qe.rec (λU U e c U n n' U e'=>xT (e.symm.trans e')▸bp.not (λq=>n (Eu (c.symm.trans q))) λq=>n' (Eu (c.symm.trans q))) x
theorem rY{h h':yJ}{R:Obj->Prop}(x:∃o,h.get? I=J o/\R o)(k:∀o,h.get? I=J o->h'.get? I=J o):∃o,h'.get? I=J o/\R o:=x.imp λo w=>⟨k o w.1,w.2⟩
abbrev vB(I:yk)(h h':yJ):Prop:=∀b o,b≠I->h.get? b=J o->h'.get? b=J o
structure ix(P:cy)(A:yS)(fl:List BX)(items:List AV)(da:AH->Prop)(I:yk)(St:Nat->WD->yJ->Prop):Prop where
 frame:∀i W W' h h',St i W h->cf W W'->aX h h'->(∀o,h.get? I=J o->h'.get? I=J o)->St i W' h'
 at_:∀i W h,St i W h->qe h I
 self:∀i W (s:xM) (Q:xP->xM->Prop) (E:xP->xM->Prop),St i W s.heap->Q (.ref I) s->xY P.M A (El (.ref I)) Q E s
 item:∀i av W H s (Q:Option xP->xM->Prop) (E:xP->xM->Prop),Cx P fl W H s->da H->St i W s.heap->items[i]? =J av->
  (∀v h' t,VR W h' av v->St (i+1) W h'->vB I s.heap h'->Q (J v) {s with heap:=h',toks:=t})->xY P.M A (C7 (.ref I)) Q E s
 done:∀W H s (Q:Option xP->xM->Prop) (E:xP->xM->Prop),Cx P fl W H s->da H->St items.length W s.heap->
  (∀h' t,vB I s.heap h'->Q Jw {s with heap:=h',toks:=t})->xY P.M A (C7 (.ref I)) Q E s
theorem cK{h h':yJ}(k:vB I h h')(nf:∀o,h.get? I=J o->¬bp o):aX h h':=λb o e f=>(AW (b=I)).elim (λq=>absurd f (nf o (q▸e))) λq=>k b o q e
section
variable{P:cy}{A:yS}{fl:List BX}{W W':WD}{H H':AH}{s s':xM}{E:xP->xM->Prop}
theorem endOf{l:List α}(h:n=l.length):l[n]? =Jw:=Az (h▸xS _)
theorem rB{l:List α}(h:n=l.length):l.toArray[n]? =Jw:=(Ay ..).trans (endOf h)
inductive vx(I:yk)(a:Nat)(i:Nat)(W:WD)(h:yJ):Prop
 | mk(p:WE)(hp:W[a]? =J p)(st:h.IsListIter I p.a i)
theorem vx.c{a i:Nat}{h:yJ}(x:vx I a i W h):qe h I:=vx.rec (λp U st=>qe.of st (by decide) (by decide) (by decide)) x
theorem ix.list(hh:A.handled=Jw)(I:yk)(a:Nat)(xs:List AV):
  ix P A fl xs (λH'=>H'[a]? =J (.list xs)) I (vx I a) where
 frame:=λi W W' h h' x pr U k=>vx.rec (λp hp st=>(pr a p hp).elim λp' w=>⟨p',w.1,w.2.1▸rY st k⟩) x
 at_:=λi W h x=>x.c
 self:=λi W s Q E x hQ=>vx.rec (λp hp st=>wpAny_pyIter_listiter st hQ) x
 item:=λi av W H s Q E C hc x hi hQ=>vx.rec (λp hp st=>bM.rec (λU U ws k e v=>(v.get hi).elim λz y=>
  wpAny_pyNext_list_item st ⟨_,e,rfl,k,rfl⟩ ((Ay ..).trans y.1) λh' st' sb=>hQ z h' s.toks (y.2.mono cf.rfl (cK sb.extBut x.c.nf)) ⟨p,hp,st'⟩ sb.extBut) (C.or hp hc)) x
 done:=λW H s Q E C hc x hQ=>vx.rec (λp hp st=>bM.rec (λU U ws k e v=>
  wpAny_pyNext_list_end hh st ⟨_,e,rfl,k,rfl⟩ (rB v.length) λh' he=>hQ h' s.toks λb o hb e=>he b o hb e) (C.or hp hc)) x
inductive vw(I t:yk)(xs:List AV)(i:Nat)(W:WD)(h:yJ):Prop
 | mk(st:h.IsTupleIter I t i)(ws:List xP)(x:IsTup h t ws.toArray)(y:bS W h xs ws)
theorem vw.c{xs:List AV}{i:Nat}{h:yJ}(x:vw I t xs i W h):qe h I:=vw.rec (λst U U U=>qe.of st (by decide) (by decide) (by decide)) x
theorem ix.tup(hh:A.handled=Jw)(I t:yk)(xs:List AV)(da:AH->Prop):
  ix P A fl xs da I (vw I t xs) where
 frame:=λi W W' h h' x pr kf k=>vw.rec (λst ws x y=>⟨rY st k,ws,g9 kf x,y.mono pr kf⟩) x
 at_:=λi W h x=>x.c
 self:=λi W s Q E x hQ=>vw.rec (λst U U U=>wpAny_pyIter_tupleiter st hQ) x
 item:=λi av W H s Q E C hc x hi hQ=>vw.rec (λst ws e y=>(y.get hi).elim λz v=>
  wpAny_pyNext_tuple_item st e ((Ay ..).trans v.1) λh' st' sb=>
   have kf:=cK sb.extBut x.c.nf
   hQ z h' s.toks (v.2.mono cf.rfl kf) ⟨st',ws,g9 kf e,y.mono cf.rfl kf⟩ sb.extBut) x
 done:=λW H s Q E C hc x hQ=>vw.rec (λst ws e y=>wpAny_pyNext_tuple_end hh st e (rB y.length) λh' he=>hQ h' s.toks λb o hb e=>he b o hb e) x
theorem ix.bytes(hh:A.handled=Jw)(I:yk)(b:List UInt8)(t:Tok)(da):
  ix P A fl (b.map λx=>.int x.toNat) da I λi W h=>PySem.W.KBw.IsBytesIter h I b.toArray t i where
 frame:=λi W W' h h' x pr kf k=>rY x k
 at_:=λi W h x=>qe.of x (by decide) (by decide) (by decide)
 self:=λi W s Q E st hQ=>PySem.W.KBw.pyIter_self st hQ
 item:=λi av W H s Q E C hc st hi hQ=>(yh.mp ((yA ..).symm.trans hi)).elim λc w=>
  PySem.W.KBw.next_item st ((Ay ..).trans w.1) λh' st' sb=>hQ _ h' _ (w.2▸.int _ _) st' sb.extBut
 done:=λW H s Q E C hc st hQ=>PySem.W.KBw.next_end hh st (rB (xJ _)) λh' he=>hQ h' s.toks λb o hb e=>he b o hb e
theorem ad8{a b c:Int}{av:AV}(hi:((bX a b c).map AV.int)[i]? =J av):i<(yV a b c).toNat/\.int (a+c*i)=av:=by
 refine aO (yh.mp ((yA ..).symm.trans hi)) λx hx e=>?_;refine aO (yh.mp ((yA ..).symm.trans hx)) λj hj e'=>?_;have l:=(xQ.mp hj).1;have l':=zM▸l;have ej:=xT ((FC l').symm.trans hj);exact ⟨l',ej▸e'▸e⟩
theorem aiC(a c)(i):a+c*((i+1:Nat):Int)=a+c*(i:Int)+c:=by exact Z (G8 _ _) (Z (Int.mul_add _ _ _) (Z (Int.add_assoc _ _ _) (congrArg (λx=>a+(c*i+x)) (Int.mul_one c))))
theorem aiD(n)(i):n-((i+1:Nat):Int)=n-(i:Int)-1:=by exact Z (G8 _ _) (Z (Ft _ _ _) rfl)
theorem ix.gB(hh:A.handled=Jw)(I:yk)(a b c)(hc:0<c)(da):
  ix P A fl ((bX a b c).map .int) da I λi W h=>FZ h I (a+c*i) ((yV a b c).toNat-(i:Nat)) c where
 frame:=λi W W' h h' x pr kf k=>k _ x
 at_:=λi W h x=>⟨_,_,x,rfl,by decide,by decide,by decide⟩
 self:=λi W s Q E st hQ=>wpAny_pyIter_rangeiter st hQ
 item:=λi av W H s Q E C hc' st hi hQ=>I1 st (Eg (x9.mpr (ad8 hi).1)) λh' st' sb=>
  hQ _ h' _ ((ad8 hi).2▸.int _ _) ((aiC a c i).symm▸(aiD _ i).symm▸st') sb.extBut
 done:=λW H s Q E C hc' st hQ=>wpAny_pyNext_range_end hh st (IX (yj.mpr ((xJ _).trans ((xJ _).trans zM)▸xS _))) λh' he=>hQ h' s.toks λb o hb e=>he b o hb e
inductive ByV(W:WD)(h:yJ)(kvs:List (Int×xP))(i:Nat)(k:Int):Prop
 | mk(v:xP)(e:kvs[i]? =J (k,v))
theorem om.get{h:yJ}(x:om W h es kvs):∀{i:Nat} {e:Int×AV},es[i]? =J e->ByV W h kvs i e.1:=by
 induction x with
 | nil=>exact λh=>by cases h
 | cons y _ ih=>
  intro i e q;cases i with
  | zero=>exact xT q▸⟨_,rfl⟩
  | succ i=>exact (ih q).rec λv e=>⟨v,e⟩
inductive wA(I:yk)(a n ep:Nat)(i:Nat)(W:WD)(h:yJ):Prop
 | mk(p:WE)(hp:W[a]? =J p)(st:h.IsKeyIter I p.a i n ep)
theorem ix.dict(hh:A.handled=Jw)(I:yk)(a:Nat)(es:List (Int×AV))(ep):
  ix P A fl (es.map λe=>.int e.1) (λH'=>H'[a]? =J (.aP es ep)) I (wA I a es.length ep) where
 frame:=λi W W' h h' x pr U k=>wA.rec (λp hp st=>(pr a p hp).elim λp' w=>⟨p',w.1,w.2.1▸rY st k⟩) x
 at_:=λi W h x=>wA.rec (λp hp st=>qe.of st (by decide) (by decide) (by decide)) x
 self:=λi W s Q E x hQ=>wA.rec (λp hp st=>wpAny_pyIter_keyiter st hQ) x
 item:=λi av W H s Q E C hc x hi hQ=>wA.rec (λp hp st=>b3.rec (λU U kvs D B=>(yh.mp ((yA ..).symm.trans hi)).elim λk w=>ByV.rec (λv hv=>
  wpAny_pyNext_dict_item (B.len▸st) D hv λkey h' hkey st' sb=>(I7 hkey).elim λt e=>hQ _ h' s.toks (e▸w.2▸.int _ _) ⟨p,hp,B.len▸st'⟩ sb.extBut) (om.get B w.1)) (C.or hp hc)) x
 done:=λW H s Q E C hc x hQ=>wA.rec (λp hp st=>b3.rec (λU U kvs D B=>
  wpAny_pyNext_dict_end hh (B.len▸st) D (endOf ((xJ _).trans B.len)) λh' he=>hQ h' s.toks λb o hb e=>he b o hb e) (C.or hp hc)) x
theorem agy{k:List AV->(AH->Prop)->Prop}(hh:A.handled=Jw)(C:Cx P fl W H s)(hx:VR W s.heap x v)(h:fO H k x)
  (hQ:∀items da St h',k items da->ix P A fl items da s.heap.objs.size St->St 0 W h'->(∀b o,s.heap.get? b=J o->h'.get? b=J o)->Q (.ref s.heap.objs.size) {s with heap:=h'}):
  xY P.M A (El v) Q E s:=by
 have kp:∀{o:Obj},∀b o',s.heap.get? b=J o'->(s.heap.push o).get? b=J o':=λb o' e=>xW _ e;have at_:∀{o:Obj} {R:Obj->Prop},o.isFreed=false->R o->∃o',(s.heap.push o).get? s.heap.objs.size=J o'/\R o':=λf r=>(aM _ (yC _ f) r)
 induction h with
 | gB h1 h2 h3 h4 h5=>
  refine hx.vJ λr e=>e.elim λt e=>e.elim λu e=>e.elim λw e=>?_;refine wpAny_pyIter_range e (iC h1 h2 h3 h4) (hQ _ _ _ _ h5 (ix.gB hh _ _ _ _ h3 _) ?_ kp);show Heap.get? _ _=_;rw[yC _ rfl,zx (gW h1 h2 h3).1,Int.natCast_zero,Int.mul_zero,Gp,EN]
 | tup h=>exact hx.jy λa ws x y=>wpAny_pyIter_tuple x (hQ _ _ _ _ h (ix.tup hh _ a _ _) ⟨at_ rfl ⟨rfl,rfl⟩,ws,g9 (aX.of_keeps kp) x,y.mono cf.rfl (aX.of_keeps kp)⟩ kp)
 | bytes h=>exact hx.eK λt=>PySem.W.KBw.pyIter_bytes (hQ _ _ _ _ h (ix.bytes hh _ _ t _) (at_ rfl ⟨rfl,rfl⟩) kp)
 | list e l h=>exact hx.bG λp hp=>bM.rec (λU U ws kk o1 v1=>wpAny_pyIter_list ⟨_,o1,rfl,kk,rfl⟩ (hQ _ _ _ _ h (ix.list hh _ _ _) ⟨p,hp,at_ rfl ⟨rfl,rfl⟩⟩ kp)) (C.or hp e)
 | aP e h=>exact hx.bG λp hp=>b3.rec (λU U kvs D B=>wpAny_pyIter_dict (knd:=Ap P.prog P.w) (C.fF hp) D (hQ _ _ _ _ h (ix.dict hh _ _ _ _) ⟨p,hp,at_ rfl ⟨rfl,B.len▸rfl⟩⟩ kp)) (C.or hp e)
end
section
variable{P:cy}{A:yS}{fl:List BX}{W W':WD}{H H':AH}{s s':xM}{E:xP->xM->Prop}{F:Fx}{T:CT}{ρ:EV}{G:fW}{n:Nat}
theorem sj{p:yk->Prop}(h:p L)(k:∀b,b≠L->p b)(b):p b:=(AW (b=L)).elim (λq=>q▸h) (k b)
theorem Cx.wq(C:Cx P fl W H s){t:Nat}(h1:¬Own W L)(h2:P.hS.get? L=Jw)(h4:∀o,s.heap.get? L=J o->¬bp o)(sb:vB L s.heap h')
  (hd:∀o es ep,s.heap.get? L=J o->o.data= .dict es ep->∃o' es' ep',h'.get? L=J o'/\o'.data= .dict es' ep'):Cx P fl W H {s with heap:=h',toks:=t}:=
 have st:P.hS.StaysIn h':=λb o e=>sb b o (λh=>nomatch (h2.symm.trans (congrArg P.hS.get? h.symm)).trans e) (C.bq b o e)
 ⟨st,C.hr.keep P.pH (λb o hb e=>sb b o (λh=>h1 (h▸hb)) e) (λb o e f=>sb b o (λh=>h4 o (h▸e) f) e) (λU U U e=>e) st,
  C.ff.amg λb o es ep e f d=>sj (p:=λb=>s.heap.get? b=J o->∃o' es' ep',h'.get? b=J o'/\o'.data= .dict es' ep') (λe=>hd o es ep e d) (λb h e=>(uM o es ep (sb b o h e) d)) b e,C.fo,C.bare⟩
theorem Step.wq{own fs:yk->Prop}{L:yk}(ho:own L)(sb:vB L s.heap h')(th:∃o',h'.get? L=J o'):Step own fs W s W {s with heap:=h',toks:=t}:=
 ⟨cf.rfl,λb o=>sj (p:=λb=>s.heap.get? b=J o->∃o',h'.get? b=J o') (λU=>th) (λb h e=>⟨o,sb b o h e⟩) b,λb o e n1 n2=>⟨o.slots,sb b o (λh=>n2 (h▸ho)) e,λU=>rfl⟩,λU x=>.inl x,λU x e=>⟨x,e⟩,λU U e U=>e,λU x=>.inl x,rfl⟩
theorem mK(h:(ρ.set i (J a))[j]? =J (J b)):(i=j/\a=b)\/(i≠j/\ρ[j]? =J (J b)):=(AW (i=j)).elim
 (λe=>.inl ⟨e,xT (xT ((zk (B3▸e▸(xQ.mp h).1)).symm.trans (e▸h)))⟩) λe=>.inr ⟨e,(zE e).symm.trans h⟩
inductive vy(h:yJ)(b:yk):Prop
 | mk(o:Obj)(es:Array BY)(ep:Nat)(e:h.get? b=J o)(d:o.data= .dict es ep)
theorem NsD{h:yJ}{m}(x:h.Ns b m):vy h b:=x.elim λo x=>x.elim λes x=>x.elim λep x=>⟨o,es,ep,x.1,x.2.1⟩
theorem vy.nf{h:yJ}(x:vy h b):∀o,h.get? b=J o->¬bp o:=vy.rec (λo es ep e d o' e'=>bO (xT (e.symm.trans e')▸d)) x
theorem vy.cell{h:yJ}(x:vy h b)(e:h.get? b=J o)(d:o.data= .cell v):False:=vy.rec (λo' es ep e' d'=>nomatch (d.symm.trans (congrArg Obj.data (xT (e.symm.trans e')))).trans d') x
theorem FR.vO(R:FR P.hS F W s.heap ρ):vy s.heap F.env.locals:=vh.rec (λm hm U=>NsD hm) R.ns
theorem FR.agr(R:FR P.hS F W s.heap ρ):∀o,s.heap.get? F.env.locals=J o->¬bp o:=R.vO.nf
theorem kI.up{h h':yJ}{c:yk}(k:∀o,h.get? c=J o->h'.get? c=J o)(kf:aX h h')(e:∀av,ρ'[i]? =J (J av)->ρ[i]? =J (J av))(x:kI W h ρ i c):kI W h' ρ' i c:=
 kI.rec (λo u e' d q=>⟨o,u,k o e',d,λav z=>(q av (e av z)).imp λw y=>⟨y.1,y.2.mono cf.rfl kf⟩⟩) x
abbrev rL(P:cy)(fl:List BX)(F:Fx)(W:WD)(H:AH)(s:xM)(ρ:EV)(s':xM):Prop:=Cx P fl W H s'/\FR P.hS F W s'.heap ρ/\Step F.wr (cD fl) W s W s'
section
variable{x:ze}{i:Nat}{av:AV}{v:xP}
theorem akB(FO:wz F)(C:Cx P fl W H s)(R:FR P.hS F W s.heap ρ)(hr:F.res.lookup x=J i)(hk:F.env.kindOf x=J .local)(y:VR W s.heap av v){m:ze->Option xP}
  (hv:∀x i av,F.res.lookup x=J i->F.env.kindOf x=J .local->ρ[i]? =J (J av)->∃v,m x=J v/\VR W s.heap av v) {h':yJ}
  (hn':h'.Ns F.env.locals λz=>if z=x then J v else m z) (sb:vB F.env.locals s.heap h'):rL P fl F W H s (ρ.set i (J av)) {s with heap:=h',toks:=t}:=by
 have kf:=cK sb R.agr;have D:=NsD hn';refine (bU (C.wq (R.no _ FO.tN) (R.un _ FO.tN) R.agr sb λU U U U U=>D.rec λo' es' ep' e' d'=>(uM o' es' ep' e' d')) ⟨⟨_,hn',λz j az a b c=>?_⟩,λz j c a b d=>?_,R.un,B3.trans R.len,R.no,λb hb=>?_⟩ (Step.wq FO.wc sb (D.rec λo' U U e' U=>⟨o',e'⟩)))
 ·exact (mK c).elim (λw=>(aM v (if_pos (FO.inj _ _ _ (w.1▸a) hr)) (w.2▸y.mono cf.rfl kf))) λw=>(hv _ _ _ a b w.2).imp λu q=>⟨(if_neg λ(e:z=x)=>w.1 (xT (hr.symm.trans (e▸a)))).trans q.1,q.2.mono cf.rfl kf⟩
 ·exact (R.cs z j c a b d).up (λo e=>sb c o (λq=>kI.rec (λo u e d' U=>R.vO.cell ((congrArg s.heap.get? q.symm).trans e) d') (R.cs z j c a b d)) e) kf λaz q=>(mK q).elim (λw=>absurd (FO.inj _ _ _ (w.1▸a) hr▸hk) b) λw=>w.2
 ·exact sj (p:=λb=>F.own b->∃o,h'.get? b=J o/\¬bp o) (λU=>D.rec λo' U U e' d'=>(aM o' e' (bO d'))) (λb n hb=>(R.al b hb).imp λo q=>⟨sb _ _ n q.1,q.2⟩) b hb
theorem akC(FO:wz F)(C:Cx P fl W H s)(R:FR P.hS F W s.heap ρ)(hr:F.res.lookup x=J i)(hk:F.env.kindOf x=J .cell)(hlo:F.lo<=i)(y:VR W s.heap av v){c:yk}{o:Obj}{u:Option xP}(hc:F.env.cells.lookup x=J c)
  (e:s.heap.get? c=J o) (d:o.data= .cell u) {h':yJ} {t:Nat} (hc':∃o,h'.get? c=J o/\o.data= .cell (J v)) (sb:vB c s.heap h'):rL P fl F W H s (ρ.set i (J av)) {s with heap:=h',toks:=t}:=by
 have nl:F.env.kindOf x≠J .local:=λq=>nomatch hk.symm.trans q
 have nf:∀o',s.heap.get? c=J o'->¬bp o':=λo' e'=>je (xT (e.symm.trans e')▸d);have kf:=cK sb nf;have own:=FO.tO _ _ _ hr nl hc;have ne:F.env.locals≠c:=λq=>R.vO.cell ((congrArg s.heap.get? q).trans e) d;have hns:vh F W h' (ρ.set i (J av)):=vh.rec (λm hn hv=>⟨m,iH hn λo' e'=>⟨o'.slots,sb _ _ ne e'⟩,λz j az a b c'=>
  (mK c').elim (λw=>absurd (FO.inj _ _ _ (w.1▸a) hr▸b) nl) λw=>(hv _ _ _ a b w.2).imp λu q=>⟨q.1,q.2.mono cf.rfl kf⟩⟩) R.ns
 refine (bU (C.wq (R.no _ own) (R.un _ own) nf sb λo' es ep e' d'=>(nomatch (d.symm.trans (congrArg Obj.data (xT (e.symm.trans e')))).trans d')) ⟨hns,λz j c' a b d'=>?_,R.un,B3.trans R.len,R.no,λb hb=>?_⟩ (Step.wq (FO.wrC _ _ _ hr hlo hk hc) sb (hc'.imp λU q=>q.1)))
 ·refine (AW (z=x)).elim (λq=>?_) λq=>(R.cs z j c' a b d').up (λo e=>sb c' o (λq'=>q (FO.aoV _ _ _ d' (q'▸hc))) e) kf λaz w=>(mK w).elim (λw=>absurd (FO.inj _ _ _ (w.1▸a) hr) q) λw=>w.2
  cases q;cases hr.symm.trans a;cases hc.symm.trans d';exact hc'.elim λo' w=>⟨o',_,w.1,w.2,λaz q=>(aM v rfl ((mK q).elim (λw=>w.2▸y.mono cf.rfl kf) λw=>absurd rfl w.1))⟩
 ·exact sj (p:=λb=>F.own b->∃o,h'.get? b=J o/\¬bp o) (λU=>hc'.imp λo w=>⟨w.1,je w.2⟩) (λb n hb=>(R.al b hb).imp λo q=>⟨sb _ _ n q.1,q.2⟩) b hb
theorem air(K:d7 T F)(C:Cx P fl W H s)(R:FR P.hS F W s.heap ρ)(hm:T.gK x i=true)(y:VR W s.heap av v):xY P.M A (storeName F.env x v) (λU s'=>rL P fl F W H s (ρ.set i (J av)) s') E s:=by
 have hm:=xZ.mp hm;have t4:=xZ.mp hm.1;have hr:=K.res▸beq_iff_eq.mp t4.1;have ek:F.env.kindOf x=T.kindOf x:=show F.env.scope.names.lookup x=_ from K.scope▸rfl
 refine (FJ.mp hm.2).elim (λhk=>?_) λhk=>?_
 ·have hk:=ek.trans (beq_iff_eq.mp hk)
  exact vh.rec (λm hn hv=>wpAny_storeName_local hk hn (λh' hn' sb=>akB K.iN C R hr hk y hv hn' sb.extBut) (by exact Z K.iN.kind rfl)) R.ns
 ·have hk:=ek.trans (beq_iff_eq.mp hk)
  have nl:F.env.kindOf x≠J .local:=λq=>nomatch hk.symm.trans q
  exact (K.iN.kinds _ _ hr).elim (λq=>absurd q nl) λq=>q.2.elim λc hc=>kI.rec (λo u e d U=>wpAny_storeName_cell K.iN.kind hk hc ⟨o,e,d⟩ λh' hc' sb=>akC K.iN C R hr hk (K.lo▸of_decide_eq_true t4.2) y hc e d hc' sb.extBut) (R.cs _ _ _ hr nl hc)
end
end
theorem lookup_mem{α:Type}:∀{l:List (ze×α)} {n:ze} {c:α},l.lookup n=J c->(n,c)∈l:=λh=>Gr h
theorem aaF[BEq α][LawfulBEq α]{r:List α}(h:distinct (a::r)=true):a∉r/\distinct r=true:=
 (xZ.mp h).imp (λn m=>absurd (zv.mpr m) (ne_true_of_eq_false (AX _▸n))) id
theorem eG{l:List (ze×α)}{n:ze}{c:α}(hd:distinct (l.map (·.1))=true)(h:(n,c)∈l):l.lookup n=J c:=by
 induction l with
 | nil=>cases h
 | cons e r ih=>
  have d:=aaF hd;refine (zo ..).trans ((yu.mp h).elim (λq=>?_) λq=>?_)
  ·subst q;exact Z (beq_self_eq_true _) rfl
  ·refine Z (beq_false_of_ne λz=>d.1 (by show e.1∈_;rw[<-z];exact CD (f:=(·.1)) q)) ?_
   exact ih d.2 q
theorem du{l:List (ze×Nat)}{i:Nat}(hd:distinct (l.map (·.2))=true)(h:(a,i)∈l)(h':(b,i)∈l):a=b:=by
 induction l with
 | nil=>cases h
 | cons e r ih=>
  have d:=aaF hd;have no:∀{x},(x,e.2)∉r:=λh=>d.1 (CD (f:=(·.2)) h);exact (yu.mp h).elim (λq=>(yu.mp h').elim (λq'=>congrArg Bs (q.trans q'.symm)) λq'=>absurd ((show i=e.2 from congrArg BG q)▸q') no)
   λq=>(yu.mp h').elim (λq'=>absurd ((show i=e.2 from congrArg BG q')▸q) no) λq'=>ih d.2 q q'
theorem f6{s:xM}{E:xP->xM->Prop}{target:yF}{I:yk}{v:xP}{Q:Unit->xM->Prop}{M:Model}(sh:b9 target)(x:qe s.heap I)(hQ:Q () s):
  xY M A (BB target (.ref I) v) Q E s:=by
 revert A s E target I v Q M;apply e8;intro U;apply(?Z:Tq U);intro A s E target I v Q M;intros;have go:∀a,xY M A (do
   let o<-load I
   match o.cls,o.data with
   | .type n,.fields vs=>
    if ["enumerate","zip","dict_itemiterator","dict_reverseitemiterator","odict_iterator","itertools.zip_longest","itertools.pairwise"].contains n&&vs[0]? ==J (Bz a) then
     rule "for.unpacks-the-owned-tuple"
     updateField I 0 .none
   | _,_=>pure ()) Q E s:=λa=>qe.rec (λo K e c hn U U=>by
  refine xI (B8 e ?_);refine Z c ?_;cases hd:o.data with
  | fields vs=>dsimp only;exact Z hn (xU hQ)
  | _=>exact xU hQ) x
 unfold BB;induction sh with
 | tup=>cases v with
  | ref a=>exact go a
  | _=>exact xU hQ
 | lst=>cases v with
  | ref a=>exact go a
  | _=>exact xU hQ
 | _=>exact xU hQ
theorem FR.grow{h h':yJ}(R:FR hS F W h ρ)(k:∀b o,h.get? b=J o->h'.get? b=J o):FR hS F W h' ρ:=
 have kf:=aX.of_keeps k
 ⟨vh.rec (λm hn hv=>⟨m,hn.keeps k,λx i av a b c=>(hv x i av a b c).imp λv y=>⟨y.1,y.2.mono cf.rfl kf⟩⟩) R.ns,λx i c a b d=>(R.cs x i c a b d).up (λo e=>k c o e) kf λU e=>e,R.un,R.len,R.no,λb hb=>(R.al b hb).imp λo w=>⟨k _ _ w.1,w.2⟩⟩
section
variable{z:Zx}{ρ ρ' ρ'':EV}
theorem iV.mY(K:d8 z){p':Pt z ρ'}(x:iV p p'):aX p.h p'.h:=
 p.C.mY x λb o e h=>(p.R.al b (K.ctx.iN.wrO b h)).elim λo' w=>xT (w.1.symm.trans e)▸w.2
noncomputable def Pt.grow(p:Pt z ρ)(h':yJ)(k:∀b o,p.h.get? b=J o->h'.get? b=J o):Pt z ρ:=⟨p.W,p.H,{p.s with heap:=h'},p.C.grow k rfl,p.R.grow k⟩
theorem Le.grow:Le p (p.grow h' k):=Step.grow k (Et _) (Et _)
inductive fY(p:Pt z ρ)(K:EV->AH->Prop):xM->Prop
 | mk{ρ':EV}(p':Pt z ρ')(le:iV p p')(q:K ρ' p'.H):fY p K p'.s
theorem fY.up(le:iV p P0){K:EV->AH->Prop}{s:xM}:fY P0 K s->fY p K s:=λh=>h.rec λp' le' q=>⟨p',le.trans le',q⟩
omit ρ in
inductive rN(T:CT)(x:ze)(r:List yF)(i:Nat)(l:List Nat):yF->Prop
 | mk(pos:Pos)(hm:T.gK x i=true)(hl:slotsOf T r=J l):rN T x r i l (.Name x pos)
theorem jg{e:yF}(h:asName e=J x):∃pos,e= .Name x pos:=
 (yh.mp h).elim λq w=>⟨q.1.2,q.2.trans (w.2▸rfl)⟩
theorem abT{T:CT}{e:yF}{r:List yF}{l:List Nat}(h:slotsOf T (e::r)=J l):∃x i l',l=i::l'/\rN T x r i l' e:=by
 revert T e r l;apply e4;intro U;apply(?Z:Tq U);intro T e r l;intros;refine aO (zw.mp h) λx hx h=>?_;refine (jg hx).elim λpos e=>?_;refine aO (zw.mp h) λi hs hi=>?_;cases hm:T.gK x i with
 | false=>have hi:=hm▸hi;cases hi
 | true=>
  have hi:=hm▸hi;refine aO (yh.mp hi) λl' hl' e'=>?_;exact (uM x i l' e'.symm (e▸⟨pos,hm,hl'⟩))
theorem abi{T:CT}{env:BX}:∀{es:List yF} {l:List Nat},slotsOf T es=J l->(C8 es env).findIdx? (·.1)=Jw/\(C8 es env).length=l.length
 | [],l,he=>⟨rfl,congrArg Al (xT he)⟩
 | e::r,l,he=>(abT he).elim λx w=>w.elim λi w=>w.elim λl' w=>rN.rec (motive:=λe U=>(C8 (e::r) env).findIdx? (·.1)=Jw/\(C8 (e::r) env).length=l.length) (λpos hm hl'=>(abi (env:=env) hl').imp
  (λa=>by refine (List.findIdx?_cons ..).trans ?_;exact Z a rfl) λb=>w.1▸congrArg (· +1) b) w.2
theorem jC:∀{l:List Nat} {vs:List AV} {ρ:EV} {k:EV->Prop},iF (putAll l vs ρ) k->l.length=vs.length
 | [],[],_,_,_=>rfl
 | [],_::_,_,_,h=>yX h
 | _::_,[],_,_,h=>yX h
 | _::l,_::vs,ρ,k,h=>congrArg (· +1) (jC (l:=l) (vs:=vs) h)
variable(K:d8 z)
include K
theorem fZ{p:Pt z ρ}{av:AV}(hm:z.T.gK x i=true)(y:VR p.W p.h av v)(k:∀p':Pt z (ρ.set i (J av)),iV p p'->p'.H=p.H->p'.W=p.W->Q () p'.s):
  xY z.M z.A (storeName z.env x v) Q E p.s:=
 yO (air K.ctx p.C p.R hm y) (λU s' w=>k ⟨p.W,p.H,s',w.1,w.2.1⟩ w.2.2 rfl rfl) λU U x=>x
theorem agn{E:xP->xM->Prop}:∀{es:List yF} {l:List Nat} {vs:List AV} {ws:List xP} {ρ} {p:Pt z ρ},slotsOf z.T es=J l->iF (putAll l vs ρ) (λρ'=>Kt ρ' p.H)->bS p.W p.h vs ws->
  xY z.M z.A (Cp ((C8 es z.env).map (·.2)) ws) (λU s'=>fY p Kt s') E p.s
 | [],l,vs,ws,ρ,p,he,hp,y=>by
  cases he;cases vs with
  | nil=>exact bZ.ro (G:=λws=>xY z.M z.A (Cp ((C8 [] z.env).map (·.2)) ws) (λU s'=>fY p Kt s') E p.s) y (xU ⟨p,.rfl,hp⟩)
  | cons _ _=>exact yX hp
 | e::r,l,vs,ws,ρ,p,he,hp,y=>by
  obtain ⟨x,i,l',e2,w⟩:=abT he;subst e2;induction w with
  | mk pos hm hl'=>
   cases vs with
   | nil=>exact yX hp
   | cons v vs=>
    exact bZ.nE (G:=λws=>xY z.M z.A (Cp ((C8 (.Name x pos::r) z.env).map (·.2)) ws) (λU s'=>fY p Kt s') E p.s) y λU U y ys=>
     xI (zZ (Cv (fZ K hm y λp' le eH eW=>
      yO (agn (p:=p') hl' (eH▸hp) (bS.mono le.pre (le.mY K) ys)) (λU U x=>x.up le) λU U x=>x)))
theorem al0{es:List yF}{x1}{p:Pt z ρ}(hl:slotsOf z.T es=J l)(hp:iF (putAll l vs ρ) λρ'=>Kt ρ' p.H)(y:VR p.W p.h (.tup vs) v):
  xY z.M z.A (C9 (.Tuple es x1 pos) z.env v) (λU s'=>fY p Kt s') E p.s:=
 y.jy λa ws ht yv=>
  have h:=abi (env:=z.env) hl
  assign_Tuple_tuple K.kF.handled ht (h.2.trans ((jC hp).trans (yv.length.trans zC.symm))) h.1 λh' hb=>
   have k:∀b o,p.h.get? b=J o->h'.get? b=J o:=λb o e=>hb b o (zt (zb e)) e
   yO (agn K (p:=p.grow h' k) hl hp (yv.mono cf.rfl (aX.of_keeps k))) (λU U x=>x.up Le.grow.s) λU U x=>x
end
theorem abp(f:ze->Er->Er):∀(names:List (ze×Er)) x,(names.map λ(n,k)=>(n,f n k)).lookup x=(names.lookup x).map (f x)
 | [],_=>rfl
 | (n,k)::r,x=>by
  simp only[yP,zo];cases h:x==n with
  | true=>simp at h;subst h;rfl
  | false=>exact abp f r x
noncomputable def sP(T:CT)(x:ze)(k:Er):Er:=if k==.free&&T.scope.kind==.function&&T.kindOf x==J .cell then .cell else k
theorem aaD(T:CT)(sc)(x):(relabel T sc).names.lookup x=(sc.names.lookup x).map (sP T x):=by
 have:(relabel T sc).names=sc.names.map λ(n,k)=>(n,sP T n k):=by
  unfold relabel sP;refine BC λu6 U=>u6.rec λn k=>?_;dsimp only;split <;> rfl
 exact Z this (abp _ _ _)
theorem afi{T:CT}(K:d7 T F)(sc):Hk sc F.env=relabel T sc:=by
 unfold Hk relabel Dt CT.kindOf;exact Z K.scope rfl
noncomputable def cj(env:BX):List (ze×Er)->List (ze×yk)->List (ze×yk)
 | [],acc=>acc
 | (x,k)::r,acc=>cj env r (if k==.free then (x,(env.cells.lookup x).getD 0)::acc else acc)
theorem afO{env:BX}(h:∀x∈sc.names,x.2= .free->∃c,env.cells.lookup x.1=J c):closureFor sc env=pure (cj env sc.names []):=by
 have go:∀f
   (_:∀name kind cs,f (name,kind) cs=if kind==.free then (do let a<-cellOf env name;pure (.yield ((name,a)::cs))) else pure (.yield cs))
   (names:List (ze×Er)) (acc:List (ze×yk)),(∀x∈names,x.2= .free->∃c,env.cells.lookup x.1=J c)->forIn names acc f=pure (cj env names acc):=by
  intro f hf names;induction names with
  | nil=>intro acc _;exact Z Fh rfl
  | cons a r ih=>
   obtain ⟨x,k⟩:=a;intro acc hr;rw[GX,hf];unfold cj;by_cases hk:(k==.free)=true
   ·obtain ⟨c,hc⟩:=hr (x,k) (.head _) (by simpa using hk)
    have e:cellOf env x=pure c:=by unfold cellOf;exact Z hc rfl
    exact Z (if_pos hk) (Z (if_pos hk) (Z e (Z hc (ih _ λy hy=>hr y (.tail _ hy)))))
   ·exact Z (if_neg hk) (Z (if_neg hk) (ih _ λy hy=>hr y (.tail _ hy)))
 unfold closureFor;show (forIn sc.names [] _>>=λcs=>pure cs)=_;refine Z (go _ (λname kind cs=>by cases hk:kind==Fe <;> simp[hk]) sc.names [] h) ?_;rfl
theorem acg{env:BX}:∀{names:List (ze×Er)} {acc:List (ze×yk)} {x:ze},(∀x∈names,x.2= .free->∃c,env.cells.lookup x.1=J c)->
  ((∃c,env.cells.lookup x=J c/\(x,.free)∈names/\(cj env names acc).lookup x=J c)\/((cj env names acc).lookup x=acc.lookup x/\(x,Fe)∉names))
 | [],acc,x,_=>.inr ⟨rfl,by simp⟩
 | (y,k)::r,acc,x,h=>by
  have ih:= @acg env r;revert env y k r acc x;apply e6;intro U;apply(?Z:Tq U);intro env y k r acc x;intros;unfold cj;have hr:∀x∈r,x.2= .free->∃c,env.cells.lookup x.1=J c:=λz hz=>h z (.tail _ hz);rcases ih (acc:=if k==.free then (y,(env.cells.lookup y).getD 0)::acc else acc) (x:=x) hr with ⟨c,h1,h2,h3⟩ | ⟨h1,h2⟩
  ·exact .inl (bJ c h1 (.tail _ h2) h3)
  ·by_cases hk:(k==.free)=true
   ·rw[if_pos hk] at h1 ⊢
    have hk':k= .free:=by simpa using hk
    subst hk';by_cases hx:x=y
    ·subst hx
     obtain ⟨c,hc⟩:=h (x,.free) (.head _) rfl;refine .inl (bJ c hc (.head _) ?_);refine Z h1 (Z hc ?_);simp[zo]
    ·refine .inr ⟨?_,λq=>?_⟩
     ·refine Z h1 (Z zo ?_)
      have:=beq_false_of_ne hx;exact Z this rfl
     ·rcases yu.mp q with q | q
      ·cases q;exact hx rfl
      ·exact h2 q
   ·rw[if_neg hk] at h1 ⊢
    refine .inr ⟨h1,λq=>?_⟩;rcases yu.mp q with q | q
    ·cases q;exact hk rfl
    ·exact h2 q
theorem kD:∀names h n acc,(names.filter (·.2==.cell)).length<=1->
  ((∀x,(x,Bn)∉names)/\zO n names acc=acc/\D6 h names=h)\/
  ∃x,(∀y,(y,Bn)∈names↔y=x)/\zO n names acc=(x,n)::acc/\D6 h names=h.push {cls:=.type "cell",data:=.cell Jw}
 | [],h,n,acc,_=>.inl ⟨by simp,rfl,rfl⟩
 | (y,k)::r,h,n,acc,hl=>by
  have ih:=kD r;revert y k r h n acc;apply e6;intro U;apply(?Z:Tq U);intro y k r h n acc;intros;unfold zO D6;by_cases hk:(k==.cell)=true
  ·have hk':k= .cell:=by simpa using hk
   subst hk';have hr:(r.filter (·.2==.cell)).length<=0:=by simp at hl ⊢;exact hl
   refine Z (if_pos hk) (Z (if_pos hk) ?_);rcases ih (h.push {cls:=.type "cell",data:=.cell Jw}) (n+1) ((y,n)::acc) (Ab hr) with ⟨a,b,c⟩ | ⟨x,a,b,c⟩
   ·refine .inr (bJ y (λz=>⟨λq=>?_,λq=>q▸.head _⟩) b c)
    rcases yu.mp q with q | q
    ·cases q;rfl
    ·exact absurd q (a z)
   ·have:(x,Bn)∈r.filter (·.2==.cell):=B0.mpr ⟨(a x).mpr rfl,rfl⟩
    have this:=(Aj.mp (IP.mp hr))▸this;cases this
  ·have hr:(r.filter (·.2==.cell)).length<=1:=by
    have hkb:(k==Bn)=false:=by simpa using hk
    rw[List.filter_cons_of_neg (by simp[hkb])] at hl;exact hl
   refine Z (if_neg hk) (Z (if_neg hk) ?_);rcases ih h n acc hr with ⟨a,b,c⟩ | ⟨x,a,b,c⟩
   ·refine .inl (bU (λz q=>?_) b c)
    rcases yu.mp q with q | q
    ·cases q;exact hk rfl
    ·exact a z q
   ·refine .inr (bJ x (λz=>⟨λq=>?_,λq=>.tail _ ((a z).mpr q)⟩) b c)
    rcases yu.mp q with q | q
    ·cases q;exact absurd rfl hk
    ·exact (a z).mp q
section
variable{M:Model}{A:yS}{E:xP->xM->Prop}{s:xM}{env:BX}
theorem aeY
  (hQ:Q {scope:=sc,locals:=s.heap.objs.size,globals:=env.globals,cells:=zO (s.heap.objs.size+1) sc.names cl,qual:=env.qual,func:=Jw,code:=env.code,frame:=env.frame,builtins:=env.builtins}
   {s with heap:=D6 (s.heap.push {cls:=.type "dict",data:=.dict #[]}) sc.names}):
  xY M A (Ic sc env.globals cl [] env.qual Jw .none (J env)) Q E s:=by
 simp only[Ic,Option.isSome_some,if_true];refine xI (wpAny_alloc ?_);refine xI (wpAny_layCells _ (λname kind cells=>by cases hkc:kind==Bn <;> simp[hkc]) _ _ _ _ ?_);exact Z (show ({s with heap:=s.heap.push {cls:=.type "dict",data:=.dict #[]}}:xM).heap.objs.size=s.heap.objs.size+1 from BK ..) (xI (xU (xU hQ)))
end
def mw(sc:Dm):Prop:=∃x,(x,Bn)∈sc.names
noncomputable def gf(T:CT)(F:Fx)(sc:Dm)(ts:List ze)(C:yk):Fx where
 env:={scope:=relabel T sc,locals:=C,globals:=F.env.globals,cells:=zO (C+1) sc.names (cj F.env sc.names []),qual:=F.env.qual,func:=Jw,code:=F.env.code,frame:=F.env.frame,builtins:=F.env.builtins}
 res:=bP T sc ts
 own:=λb=>F.own b\/b=C\/(b=C+1/\mw sc)
 n:=T.n+ts.length
 wr:=λb=>b=C\/(b=C+1/\mw sc)
 lo:=T.n
structure dQ(T:CT)(sc:Dm)(ts:List ze):Prop where
 kind:T.scope.kind= .function
 ami:sc.kind= .function
 dist:distinct (sc.names.map (·.1))=true
 one:(sc.names.filter (·.2==.cell)).length<=1
 free:∀x,(x,Fe)∈sc.names->∃i,T.slots.lookup x=J i/\(T.kindOf x=J .cell\/T.kindOf x=J .free)
 s7:distinct ((bP T sc ts).map (·.2))=true
 all:∀x i,(x,i)∈bP T sc ts->(x==("__debug__":ze))=false/\(x==("__classdict__":ze))=false/\i<T.n+ts.length/\
  ((T.n<=i/\sc.names.lookup x=J .local)\/(T.n<=i/\sc.names.lookup x=J .cell)\/(i<T.n/\T.slots.lookup x=J i/\sc.names.lookup x=J .free))
 wH:∀x i,(x,i)∈ts.zipIdx->(bP T sc ts).lookup x=J (T.n+i)
theorem ahT{T:CT}(h:rH T sc ts=true):dQ T sc ts:=by
 revert T sc ts;apply e3;intro U;apply(?Z:Tq U);intro T sc ts;intros;unfold rH at h;simp only[Am,beq_iff_eq,decide_eq_true_eq,yx] at h;refine Qc λU u6=>h.elim λv6 e8=>v6.elim λy6 e7=>y6.elim λz6 e6=>z6.elim λu7 e5=>u7.elim λv7 e4=>v7.elim λy7 e3=>y7.elim λe1 e2=>u6 ?_;refine ⟨e1,e2,e3,e4,λx hx=>?_,e6,λx i hx=>?_,λx i hx=>e8 (x,i) hx⟩
 ·have:=e5 (x,.free) hx
  simp only[bne_self_eq_false,Bool.false_or,Am,G1,beq_iff_eq] at this;refine this.elim λa b=>?_;refine (CC.mp a).elim λi hi=>?_;exact (aM i hi b)
 ·have:=e7 (x,i) hx
  simp only[G1,Am,decide_eq_true_eq,beq_iff_eq,bne_iff_ne] at this;refine Qc λU z7=>this.elim λu8 d=>u8.elim λv8 c=>v8.elim λa b=>z7 ?_;refine (iu (by simpa using a) (by simpa using b) c ?_);rcases d with ⟨d1,d2 | d2⟩ | ⟨⟨d1,d2⟩,d3⟩
  ·exact .inl ⟨d1,d2⟩
  ·exact .inr (.inl ⟨d1,d2⟩)
  ·exact .inr (.inr (bU d1 d2 d3))
section
variable{P:cy}{A:yS}{fl:List BX}{W W':WD}{H H':AH}{s s':xM}{E:xP->xM->Prop}{F:Fx}{T:CT}{ρ:EV}{G:fW}{n:Nat}{sc:Dm}{ts:List ze}{C:yk}
theorem dQ.frees(O:dQ T sc ts)(K:d7 T F):∀x∈sc.names,x.2= .free->∃c,F.env.cells.lookup x.1=J c:=λ⟨x,k⟩ hx e=>by
 dsimp only at e;subst e;refine aO (O.free x hx) λi hi hk=>?_;have hr:=K.res▸hi;have ek:F.env.kindOf x=T.kindOf x:=by unfold Dt CT.kindOf;exact Z K.scope rfl
 rcases K.iN.kinds x i hr with q | ⟨_,q⟩
 ·have q:=ek▸q;rcases hk with h | h <;> rw[h] at q <;> cases q
 ·exact q
theorem lG(s:xM)(O:dQ T sc ts)(K:d7 T F)(x):(sc.names.lookup x=J .cell->(gf T F sc ts C).env.cells.lookup x=J (C+1)/\mw sc)/\
  (sc.names.lookup x=J .free->(gf T F sc ts C).env.cells.lookup x=F.env.cells.lookup x)/\
  (∀c,(gf T F sc ts C).env.cells.lookup x=J c->(c=C+1/\sc.names.lookup x=J .cell)\/(F.env.cells.lookup x=J c/\sc.names.lookup x=J .free)):=by
 have fr:=acg (acc:=[]) (x:=x) (O.frees K);have hfl:(x,Fe)∈sc.names↔sc.names.lookup x=J .free:=⟨eG O.dist,lookup_mem⟩
 have hcl:(x,Bn)∈sc.names↔sc.names.lookup x=J .cell:=⟨eG O.dist,lookup_mem⟩
 show (_->(zO (C+1) sc.names (cj F.env sc.names [])).lookup x=_/\_)/\(_->(zO (C+1) sc.names (cj F.env sc.names [])).lookup x=_)/\(∀c,(zO (C+1) sc.names (cj F.env sc.names [])).lookup x=J c->_);rcases kD sc.names s.heap (C+1) (cj F.env sc.names []) O.one with ⟨a,b,_⟩ | ⟨x0,a,b,_⟩
 ·refine Z b ?_
  refine (bU (λh=>absurd (hcl.mpr h) (a x)) (λh=>?_) (λc h=>?_))
  ·rcases fr with ⟨c,h1,_,h3⟩ | ⟨_,h2⟩
   ·exact Z h1 (Z h3 rfl)
   ·exact absurd (hfl.mpr h) h2
  ·rcases fr with ⟨c',h1,h2,h3⟩ | ⟨h1,_⟩
   ·have h:=h3▸h;cases h;exact .inr ⟨h1,hfl.mp h2⟩
   ·have h:=h1▸h;cases h
 ·refine Z b (Z zo ?_)
  by_cases hx:x=x0
  ·subst hx
   have hc:=(a x).mpr rfl;simp only[beq_self_eq_true];refine (bU (λU=>⟨by first | rfl | trivial,x,hc⟩) (λh=>?_) (λc h=>?_))
   ·have h:=(hcl.mp hc)▸h;cases h
   ·cases h;exact .inl ⟨rfl,hcl.mp hc⟩
  ·have:=beq_false_of_ne hx
   refine Z this ?_;refine (bU (λh=>absurd ((a x).mp (hcl.mpr h)) hx) (λh=>?_) (λc h=>?_))
   ·rcases fr with ⟨c,h1,_,h3⟩ | ⟨_,h2⟩
    ·exact Z h1 (Z h3 rfl)
    ·exact absurd (hfl.mpr h) h2
   ·rcases fr with ⟨c',h1,h2,h3⟩ | ⟨h1,_⟩
    ·have h:=h3▸h;cases h;exact .inr ⟨h1,hfl.mp h2⟩
    ·have h:=h1▸h;cases h
theorem iP(O:dQ T sc ts){x:ze}{i:Nat}(h:(bP T sc ts).lookup x=J i):
  (T.n<=i/\sc.names.lookup x=J .local/\(gf T F sc ts C).env.kindOf x=J .local)\/(T.n<=i/\sc.names.lookup x=J .cell/\(gf T F sc ts C).env.kindOf x=J .cell)\/
  (i<T.n/\T.slots.lookup x=J i/\sc.names.lookup x=J .free/\(T.kindOf x=J .cell\/T.kindOf x=J .free)/\((gf T F sc ts C).env.kindOf x=J .cell\/(gf T F sc ts C).env.kindOf x=J .free)):=by
 revert F T sc ts C x i;apply e5;intro U;refine(?Z:Tq U) _ _ _ _ _;intro F T sc ts C;intro O;apply e2;intro U;refine(?Y:Tq U) _ _;intro x i;intros;have e:(gf T F sc ts C).env.kindOf x=(sc.names.lookup x).map (sP T x):=aaD T sc x;refine Z e ?_;rcases (O.all x i (lookup_mem h)).2.2.2 with ⟨h1,h2⟩ | ⟨h1,h2⟩ | ⟨h1,h2,h3⟩
 ·exact .inl (bU h1 h2 (by exact Z h2 rfl))
 ·exact .inr (.inl (bU h1 h2 (by exact Z h2 rfl)))
 ·refine .inr (.inr ⟨h1,h2,h3,?_,?_⟩)
  ·refine aO (O.free x (lookup_mem h3)) λU U q=>?_;exact q
  ·refine Z h3 ?_
   simp only[Option.map_some,sP];split
   ·exact .inl rfl
   ·exact .inr rfl
theorem ahU(s:xM)(O:dQ T sc ts)(K:d7 T F)(hC:∀x i c,T.slots.lookup x=J i->F.env.kindOf x≠J .local->F.env.cells.lookup x=J c->c≠C+1):d7 (T.inComp sc ts) (gf T F sc ts C):=by
 have cc:=λx=>lG (C:=C) s O K x;have ek:∀x,F.env.kindOf x=T.kindOf x:=λx=>by unfold Dt CT.kindOf;exact Z K.scope rfl
 have nl:∀{x},(T.kindOf x=J .cell\/T.kindOf x=J .free)->F.env.kindOf x≠J .local:=λ{x} h=>by refine Z (ek _) ?_;rcases h with h | h <;> rw[h] <;> simp
 refine ⟨⟨O.ami,K.iN.globals,K.iN.builtins,λx y i hx hy=>du O.s7 (lookup_mem hx) (lookup_mem hy),λx y c hx hy=>?_,λx i h=>?_,λx i h=>?_,.inr (.inl rfl),.inl rfl,λx i c h hl hk hc=>?_,λb hb=>.inr hb,λx i c h hk hc=>?_⟩,rfl,rfl,rfl,rfl,λx i h=>(O.all x i (lookup_mem h)).2.2.1⟩
 ·rcases (cc x).2.2 c hx with ⟨e1,e2⟩ | ⟨e1,e2⟩ <;> rcases (cc y).2.2 c hy with ⟨e3,e4⟩ | ⟨e3,e4⟩
  ·rcases kD sc.names s.heap (C+1) (cj F.env sc.names []) O.one with ⟨a,_,_⟩ | ⟨x0,a,_,_⟩
   ·exact absurd (lookup_mem e2) (a x)
   ·exact Z ((a x).mp (lookup_mem e2)) (Z ((a y).mp (lookup_mem e4)) rfl)
  ·refine aO (O.free y (lookup_mem e4)) λi hi hk=>?_
   exact absurd e1 (hC y i c hi (nl hk) e3)
  ·refine aO (O.free x (lookup_mem e2)) λi hi hk=>?_
   exact absurd e3 (hC x i c hi (nl hk) e1)
  ·exact K.iN.aoV _ _ _ e1 e3
 ·rcases iP (F:=F) (C:=C) O h with ⟨_,_,q⟩ | ⟨_,a,q⟩ | ⟨_,a,b,k,q⟩
  ·exact .inl q
  ·exact .inr ⟨.inl q,_,((cc x).1 a).1⟩
  ·refine (O.frees K (x,.free) (lookup_mem b) rfl).elim λc hc=>?_
   exact .inr ⟨q,c,by exact Z ((cc x).2.1 b) hc⟩
 ·have:=O.all x i (lookup_mem h);exact ⟨this.1,this.2.1⟩
 ·rcases iP (F:=F) (C:=C) O h with ⟨_,_,q⟩ | ⟨_,a,q⟩ | ⟨h1,a,b,k,q⟩
  ·have hk:=q▸hk;cases hk
  ·have:=(cc x).1 a
   have hc:=this.1▸hc;cases hc;exact .inr ⟨rfl,this.2⟩
  ·exact absurd hl (AD.mpr h1)
 ·rcases iP (F:=F) (C:=C) O h with ⟨_,_,q⟩ | ⟨_,a,q⟩ | ⟨_,a,b,k,q⟩
  ·exact absurd q hk
  ·have:=(cc x).1 a
   have hc:=this.1▸hc;cases hc;exact .inr (.inr ⟨rfl,this.2⟩)
  ·have hc:=((cc x).2.1 b)▸hc
   exact .inl (K.iN.tO x i c (K.res▸a) (nl k) hc)
end
section
variable{P:cy}{A:yS}{fl:List BX}{W W':WD}{H H':AH}{s s':xM}{E:xP->xM->Prop}{F:Fx}{T:CT}{ρ:EV}{G:fW}{n:Nat}{sc:Dm}{ts:List ze}{C:yk}
theorem Step.nZ{own own' fs:yk->Prop}(st:Step own fs W0 s0 W s)(x:Step own' fs W s W' s')(hn:∀b,own' b->s0.heap.get? b=Jw\/own b):Step own fs W0 s0 W' s':=by
 have y:=(st.weaken (own':=λb=>own b\/own' b) (λU U U h=>.inl h) λU U U h=>h).trans (x.weaken (λU U U h=>.inr h) λU U U h=>h);exact y.weaken (λb o e h=>h.elim id λh=>(hn b h).elim (λq=>by have e:=q▸e;cases e) id) λU U U h=>h
theorem Cx.lg(C:Cx P fl W H s0)(h:s0.heap.get? b=Jw):P.hS.get? b=Jw/\¬cD fl b:=by
 refine ⟨?_,λf=>?_⟩
 ·cases q:P.hS.get? b with
  | none=>rfl
  | some o=>have:=C.bq b o q;have this:=h▸this;cases this
 ·obtain ⟨_,o,_,_,e,_⟩:=C.ff.at f
  have e:=h▸e;cases e
theorem Cx.adopt(C:Cx P fl W H s){a:yk}{o:Obj}{ao:AO}(e:s.heap.get? a=J o)(nf:¬bp o)(n1:¬Own W a)(n2:P.hS.get? a=Jw)(n3:¬cD fl a)
  (x:P.OR (W++[⟨a,[],[]⟩]) s ⟨a,[],[]⟩ ao):Cx P fl (W++[⟨a,[],[]⟩]) (H++[ao]) s:=by
 revert P fl W H s a o ao;apply e5;intro U;apply(?Z:Tq U);intro P fl W H s;intro C;apply e3;intro U;apply(?Y:Tq U);intro a o ao;intros;have R:=C.hr;have at_:∀{i:Nat} {q:WE},(W++[(⟨a,[],[]⟩:WE)])[i]? =J q->(W[i]? =J q/\i<W.length)\/(i=W.length/\q=⟨a,[],[]⟩):=λ{i q} e=>by
  by_cases h:i<W.length
  ·rw[yw h] at e;exact .inl ⟨e,h⟩
  ·rw[yU (CA h)] at e
   refine (xQ.mp e).elim λh1 h2=>?_;simp at h1 h2;exact .inr ⟨yW (EK.mp h1) (CA h),h2.symm⟩
 have has1:∀{b},(⟨a,[],[]⟩:WE).has b->b=a:=λ{b} h=>by
  rcases h with h | h
  ·exact h
  ·cases h
 have sp:∀{b},Own (W++[(⟨a,[],[]⟩:WE)]) b->Own W b\/b=a:=λ{b} ⟨q,hq,hb⟩=>by
  rcases yz.mp hq with h | h
  ·exact .inl ⟨q,h,hb⟩
  ·obtain rfl:=xV.mp h;exact .inr (has1 hb)
 refine ⟨C.bq,⟨by simp[R.len],λi q ao' hi hao=>?_,λi j q r hi hj ne=>?_,λb hb=>?_,λg hg=>?_⟩,C.ff,λb f hb=>?_,C.bare⟩
 ·rcases at_ hi with ⟨e,hl⟩ | ⟨rfl,rfl⟩
  ·rw[yw (R.len▸hl)] at hao
   exact (R.rel i q ao' e hao).mono P.pH cf.app (aX.refl _) (λU U U e=>e) (λU U U e=>e) C.bq
  ·rw[R.len] at hao
   simp at hao;subst hao;exact x
 ·rcases at_ hi with ⟨e1,hl⟩ | ⟨rfl,rfl⟩ <;> rcases at_ hj with ⟨e',hl'⟩ | ⟨e2,rfl⟩
  ·exact R.gO i j q r e1 e' ne
  ·exact ⟨λb h1 h2=>n1 ⟨q,ye e1,has1 h2▸h1⟩,λU U h=>by cases h⟩
  ·exact ⟨λb h1 h2=>n1 ⟨r,ye e',has1 h1▸h2⟩,λU h=>by cases h⟩
  ·exact absurd e2.symm ne
 ·rcases sp hb with h | rfl
  ·exact R.mT b h
  ·exact ⟨n2,(aM o e nf)⟩
 ·refine hg.elim λq u6=>u6.elim λhq hb=>?_
  rcases yz.mp hq with h | h
  ·exact R.jb g ⟨q,h,hb⟩
  ·obtain rfl:=xV.mp h;cases hb
 ·rcases sp hb with h | rfl
  ·exact C.fo b f h
  ·exact n3 f
theorem Step.adopt{own fs:yk->Prop}(st:Step own fs W0 s0 W s)(h:s0.heap.get? a=Jw):Step own fs W0 s0 (W++[⟨a,[],[]⟩]) s:=by
 refine ⟨st.pre.trans cf.app,st.there,st.keep,λb u6=>u6.elim λq v6=>v6.elim λhq hb=>?_,st.gj,st.mX,λg y6=>y6.elim λq z6=>z6.elim λhq hb=>?_,st.os⟩
 ·rcases yz.mp hq with h' | h'
  ·exact st.fresh b ⟨q,h',hb⟩
  ·obtain rfl:=xV.mp h'
   rcases hb with rfl | hb
   ·exact .inr h
   ·cases hb
 ·rcases yz.mp hq with h' | h'
  ·exact st.iM g ⟨q,h',hb⟩
  ·obtain rfl:=xV.mp h';cases hb
theorem FR.amk(FO:wz F)(R:FR P.hS F W s.heap ρ)(kf:aX s.heap h')(ko:∀b o,F.own b->s.heap.get? b=J o->h'.get? b=J o):FR P.hS F W h' ρ:=by
 obtain ⟨m,hn,hv⟩:=R.ns;refine ⟨⟨m,iH hn λo e=>⟨o.slots,ko _ _ FO.tN e⟩,λx i av a b c=>aO (hv x i av a b c) λv e y=>(aM v e (y.mono cf.rfl kf))⟩,λx i c a b d=>?_,
  R.un,R.len,R.no,λb hb=>aO (R.al b hb) λo e nf=>(aM o (ko _ _ hb e) nf)⟩
 obtain ⟨o,u,e,d',q⟩:=R.cs x i c a b d;exact ⟨o,u,ko _ _ (FO.tO _ _ _ a b d) e,d',λav z=>aO (q av z) λv e y=>(aM v e (y.mono cf.rfl kf))⟩
theorem aeX{s1:xM}(O:dQ T sc ts)(K:d7 T F)(C0:Cx P fl W H s)(R:FR P.hS F W s.heap ρ){k:Nat}(hk:k=ts.length)
  (hh:s1.heap=D6 (s.heap.push {cls:=.type "dict",data:=.dict #[]}) sc.names):
  FR P.hS (gf T F sc ts s.heap.objs.size) W s1.heap (ρ++yr k Jw)/\(∀b o,s.heap.get? b=J o->s1.heap.get? b=J o)/\d7 (T.inComp sc ts) (gf T F sc ts s.heap.objs.size)/\
   (∀b,(gf T F sc ts s.heap.objs.size).wr b->s.heap.get? b=Jw):=by
 revert P fl W H s F T ρ sc ts s1 k;apply ub;intro U;apply(?Z:Tq U);intro P fl W H s F T ρ sc ts s1;intro O K C0 R;apply e1;intro U;apply(?Y:Tq U);intro k;intros;have kp:∀b o,s.heap.get? b=J o->s1.heap.get? b=J o:=λb o e=>hh▸HH _ _ b o (xW _ e);have fr:∀b,s.heap.objs.size<=b->s.heap.get? b=Jw:=λb hb=>by
  cases q:s.heap.get? b with
  | none=>rfl
  | some o=>exact absurd (zb q) (xX.mpr hb)
 have ek:∀x,F.env.kindOf x=T.kindOf x:=λx=>by unfold Dt CT.kindOf;exact Z K.scope rfl
 have nl:∀{x},(T.kindOf x=J .cell\/T.kindOf x=J .free)->F.env.kindOf x≠J .local:=λ{x} h=>by refine Z (ek _) ?_;rcases h with h | h <;> rw[h] <;> simp
 have hlen:=R.len.trans K.n;have pad:∀i av,T.n<=i->(ρ++yr k (Jw:Option AV))[i]? ≠J (J av):=λi av h e=>by
  rw[yU (xH (yQ hlen) h),Ew] at e;split at e <;> cases e
 have cell:mw sc->s1.heap.get? (s.heap.objs.size+1)=J {cls:=.type "cell",data:=.cell Jw}:=λz6=>z6.elim λx hx=>by
  rcases kD sc.names (s.heap.push {cls:=.type "dict",data:=.dict #[]}) 0 [] O.one with ⟨a,_⟩ | ⟨x0,a,b,c⟩
  ·exact absurd hx (a x)
  ·exact Z hh (Z c (Z (show s.heap.objs.size+1=(s.heap.push {cls:=.type "dict",data:=.dict #[]}).objs.size from (BK ..).symm) (yC _ rfl)))
 have dict:=hh▸HH _ _ _ _ (yC _ rfl);have un:∀b,s.heap.objs.size<=b->P.hS.get? b=Jw/\¬Own W b:=λb hb=>by
  refine ⟨(C0.lg (fr b hb)).1,λq=>?_⟩;refine (C0.hr.mT b q).elim λU w1q=>aO w1q λo e U=>?_;have e:=(fr b hb)▸e;cases e
 have R1:=R.grow kp;refine (iu ⟨⟨λU=>Jw,?_,λx i av hl hk' hv=>?_⟩,λx i c hl hk' hc=>?_,λb hb=>?_,by simp[R.len,K.n,hk,gf],λb hb=>?_,λb hb=>?_⟩ kp (ahU s O K λx i c hi hk' hc e=>?_) (λb hb=>?_))
 ·show Heap.Ns s1.heap s.heap.objs.size _
  exact Z hh ((Heap.Ns.new s.heap (.type "dict")).keeps (HH _ _))
 ·rcases iP (F:=F) (C:=s.heap.objs.size) O hl with ⟨q,_⟩ | ⟨q,_⟩ | ⟨_,a,b,k',q⟩
  ·exact absurd hv (pad _ _ q)
  ·exact absurd hv (pad _ _ q)
  ·rcases q with q | q <;> rw[q] at hk' <;> cases hk'
 ·rcases iP (F:=F) (C:=s.heap.objs.size) O hl with ⟨_,_,q⟩ | ⟨h1,a,q⟩ | ⟨h1,a,b,k',q⟩
  ·exact absurd q hk'
  ·have:=(lG (C:=s.heap.objs.size) s O K x).1 a
   have hc:=this.1▸hc;cases hc;exact ⟨_,_,cell this.2,rfl,λav hv=>absurd hv (pad _ _ h1)⟩
  ·have hc:=((lG (C:=s.heap.objs.size) s O K x).2.1 b)▸hc
   obtain ⟨o,u,e,d,y⟩:=R1.cs x i c (K.res▸a) (nl k') hc;refine ⟨o,u,e,d,λav hv=>y av ?_⟩;rwa[yw (xO h1 (yQ hlen.symm))] at hv
 ·rcases hb with hb | rfl | ⟨rfl,_⟩
  ·exact R.un b hb
  ·exact (un _ (xS _)).1
  ·exact (un _ (yY _)).1
 ·rcases hb with hb | rfl | ⟨rfl,_⟩
  ·exact R.no b hb
  ·exact (un _ (xS _)).2
  ·exact (un _ (yY _)).2
 ·rcases hb with hb | rfl | ⟨rfl,q⟩
  ·exact R1.al b hb
  ·exact (aM _ dict (bO rfl))
  ·exact (aM _ (cell q) (je rfl))
 ·obtain ⟨o,u,e',_⟩:=R.cs x i c (K.res▸hi) hk' hc
  have h1:=zb e';have h2:=e;have h1:=h2▸h1;exact absurd h1 (xX.mpr (yY _))
 ·rcases hb with rfl | ⟨rfl,q⟩
  ·exact fr _ (xS _)
  ·exact fr _ (yY _)
end
noncomputable abbrev kq(env:BX)(c:yF)(r:Bool):Sem (ForInStep Bool):=if r=true then do let ok<-Jj c env (eval c env);pure (Eh ok) else pure (Eh r)
section
variable{z:Zx}
theorem abu{ρ}{p:Pt z ρ}:∀(es:List yF),Q false p.H->Ev p RB (forIn es false (kq z.env)) Q X
 | [],h=>by exact Z Fh (Ev.pure (a:=false) rfl h)
 | e::r,h=>by
  rw[GX];exact aB.bind (aB.pure (abu r h))
theorem agH{g:yF->PT Bool}(hg:∀e,qV z e (g e)):∀{es:List yF} {ρ} {p:Pt z ρ} {Q X},dU g es z.G ρ p.H Q X->Ev p RB (forIn es true (kq z.env)) Q X
 | [],_,_,_,_,h=>by rw[Fh];exact Ev.pure (a:=true) rfl h
 | e::r,ρ,p,Q,X,h=>by
  rw[GX];cases r with
  | nil=>
   exact Ev.bind (Rl:=λU U a b=>b=Eh a) (Q:=Q) (Ev.bind (hg e h) λp' b v U y q=>Ev.pure (a:=v) rfl (y▸q)) λp' b v U y q=>by
    subst y;show Ev p' RB (forIn [] b (kq z.env)) Q X;rw[Fh];exact Ev.pure (a:=b) rfl q
  | cons e' r=>
   exact Ev.bind (Rl:=λU U a b=>b=Eh a) (Q:=λb H'=>dI (dU g (e'::r) z.G _ H' _ _) (_) b) (Ev.bind (hg e h) λp' b v U y q=>Ev.pure (a:=v) rfl (y▸q)) λp' b v U y q=>by
    subst y;induction q with
    | t q=>exact agH hg q
    | f q=>exact abu _ q
theorem aaQ:∀{vs:List AV} {ρ1:EV},k (ρ1++vs.map J)->iF (putAll (Fg ρ1.length vs.length) vs (ρ1++yr vs.length Jw)) k
 | [],ρ1,h=>h
 | v::vs,ρ1,h=>by
  have e:(ρ1++Jw::yr vs.length (Jw:Option AV)).set ρ1.length (J v)=(ρ1++[J v])++yr vs.length Jw:=by simp
  show iF (putAll (Fg (ρ1.length+1) vs.length) vs ((ρ1++Jw::yr vs.length (Jw:Option AV)).set ρ1.length (J v))) k;refine Z e ?_;have:=aaQ (k:=k) (vs:=vs) (ρ1:=ρ1++[J v]) (by simpa using h);simpa using this
theorem adP{T:CT}(O:dQ T sc ts)(h0:(bP T sc ts).lookup x=J (T.n+j)):(T.inComp sc ts).gK x (T.n+j)=true:=by
 have k:(T.inComp sc ts).kindOf x=(sc.names.lookup x).map (sP T x):=aaD T sc x;unfold CT.gK;refine Z k ?_;show ((bP T sc ts).lookup x==J (T.n+j)&&decide (T.n<=T.n+j)&&_)=true;exact Z h0 (Z (beq_self_eq_true _) (Z (decide_eq_true (x7 _ _)) ((O.all x _ (lookup_mem h0)).2.2.2.elim (λq=>by refine Z q.2 ?_;rfl) λq=>q.elim (λq=>by refine Z q.2 ?_;rfl) λq=>absurd q.1 (xX.mpr (x7 _ _)))))
theorem abo{T:CT}(O:dQ T sc ts):∀{es:List yF} {us:List ze} {j:Nat},namesOf es=J us->(∀x i,(x,i)∈us.zipIdx j->(bP T sc ts).lookup x=J (T.n+i))->slotsOf (T.inComp sc ts) es=J (Fg (T.n+j) us.length)
 | [],us,j,h,_=>by cases h;rfl
 | e::r,us,j,h,hz=>by
  refine aO (zw.mp h) λx hx h=>?_;obtain ⟨us',hu,rfl⟩:=yh.mp h;have h0:=hz x j (.head _);have ih:=abo O (j:=j+1) hu λy i hy=>hz y i (.tail _ hy);show ((asName e).bind λx=>((bP T sc ts).lookup x).bind λi=>cQ Jw ((T.inComp sc ts).gK x i) ((slotsOf (T.inComp sc ts) r).map (i:: ·)))=_;exact Z hx (Z (Ga _ _) (Z h0 (Z (Ga _ _) (Z (adP O h0) (Z ih rfl)))))
theorem kE{e:yF}(h:iQ e=J es):∃k pos,e= .Tuple es k pos:=
 (yh.mp h).elim λq w=>(jj q.1.2.1 q.1.2.2 (q.2.trans (w.2▸rfl)))
theorem aix(h:ρ.length=n):(ρ++[(Jw:Option AV)]).set n (J a)=ρ++[J a]:=by subst h;exact Z (List.set_append_right _ _ (xS _)) (Z (Bx _) rfl)
theorem aha(hm:ρ.length=m)(hn:vs.length=n)(h:k (ρ++vs.map J)):iF (putAll (Fg m n) vs (ρ++yr n Jw)) k:=by
 subst hm;subst hn;exact aaQ h
inductive um(k:Nat)(l:List (Option AV)):AV->Prop
 | mk(vs:List AV)(hk:vs.length=k)(e:vs.map J=l):um k l (.tup vs)
theorem ao0{av:AV}(h:oQ false k av=J l):um k l av:=by
 cases av with
 | tup vs=>
  have h:(if vs.length=k then J (vs.map J) else Jw)=J l:=h;by_cases c:vs.length=k
  ·have h:=(if_pos c)▸h;exact ⟨vs,c,xT h⟩
  ·have h:=(if_neg c)▸h;cases h
 | _=>cases h
theorem aij{T:CT}{ts:List ze}(O:dQ T sc ts)(K:d8 z)(hT:z.T=T.inComp sc ts){tg:yF}{one:Bool}(ht:targetNames tg=J (one,ts)){q:Pt z (ρ++yr ts.length Jw)}(hρ:ρ.length=T.n){av:AV}
  (hb:(oQ one ts.length av).map (ρ++ ·)=J ρ') (y:VR q.W q.h av v):
  xY z.M z.A (C9 tg z.env v) (λU s'=>fY q (λρ'' H=>ρ''=ρ'/\H=q.H) s') E q.s:=by
 refine aO (yh.mp hb) λl hl e'=>?_;unfold targetNames at ht;cases hn:asName tg with
 | some x=>
  rw[hn] at ht;cases ht;obtain ⟨pos,rfl⟩:=jg hn;cases hl;exact Cv (fZ K (hT▸adP O (j:=0) (O.wH x 0 (.head _))) y λp' le eH U=>⟨p',le,(aix hρ).trans e',eH⟩)
 | none=>
  rw[hn] at ht;refine aO (zw.mp ht) λes hes ht=>?_;refine aO (yh.mp ht) λus hu e=>?_;cases e;obtain ⟨k,pos,rfl⟩:=kE hes;exact um.rec (motive:=λav U=>VR q.W q.h av v->xY z.M z.A (C9 (.Tuple es k pos) z.env v) (λU s'=>fY q (λρ'' H=>ρ''=ρ'/\H=q.H) s') E q.s) (λvs hk e y=>al0 K (hT▸abo O (j:=0) hu O.wH) (aha hρ hk ⟨(congrArg (ρ++ ·) e).trans e',rfl⟩) y) (ao0 hl) y
end
section
variable{z:Zx}{ρ ρ':EV}
theorem Pt.rm(p:Pt z ρ){b:yk}(h:p.h.get? b=Jw):¬Own p.W b:=λq=>(p.C.hr.mT b q).2.elim λU w=>nomatch h.symm.trans w.1
theorem Pt.akZ(p:Pt z ρ){b:yk}(h:p.h.get? b=Jw):¬z.F.own b:=λq=>(p.R.al b q).elim λU w=>nomatch h.symm.trans w.1
structure iy(z:Zx)(W:WD)(X:yk):Prop where
 nO:¬Own W X
 nS:z.P.hS.get? X=Jw
 nF:¬cD z.fl X
 nM:¬z.F.own X
theorem Pt.free(p:Pt z ρ){b:yk}(h:p.h.get? b=Jw):iy z p.W b:=⟨p.rm h,(p.C.lg h).1,(p.C.lg h).2,p.akZ h⟩
theorem iy.up(K:d8 z){p:Pt z ρ}{p':Pt z ρ'}{X:yk}(f:iy z p.W X)(le:iV p p')(e:∃o,p.h.get? X=J o):iy z p'.W X/\∀o,p.h.get? X=J o->p'.h.get? X=J o:=
 ⟨⟨λq=>(le.fresh _ q).elim f.nO λh=>e.elim λo e=>(nomatch (show p.h.get? X=Jw from h).symm.trans e),f.nS,f.nF,f.nM⟩,λo e=>Step.same le e f.nO (λq=>f.nM (K.ctx.iN.wrO _ q)) f.nF⟩
noncomputable def Pt.eN(K:d8 z)(p:Pt z ρ){X:yk}(f:iy z p.W X)(nf:∀o,p.h.get? X=J o->¬bp o)(h':yJ)(t:Nat)(k:∀b o,b≠X->p.h.get? b=J o->h'.get? b=J o):Pt z ρ:=
 ⟨p.W,p.H,{p.s with heap:=h',toks:=t},(p.C.but (s':={p.s with heap:=h'}) (own:=λb=>b=X) (λb e=>e▸f.nO) (λb e=>e▸f.nS) (λb e=>e▸f.nF) (λb o e e'=>nf o (e▸e')) k rfl).tok t,
  p.R.amk K.ctx.iN (cK k nf) λb o hb e=>k b o (λq=>f.nM (q▸hb)) e⟩
theorem Step.eN{own fs:yk->Prop}{W0 W:WD}{s0 s:xM}{X:yk}{h':yJ}{t:Nat}(st:Step own fs W0 s0 W s)(fX:s0.heap.get? X=Jw)(k:∀b o,b≠X->s.heap.get? b=J o->h'.get? b=J o):Step own fs W0 s0 W {s with heap:=h',toks:=t}:=
 Step.trans (Step.akq (s':={s with heap:=h'}) st (own:=λb=>b=X) (λb e=>e▸fX) k rfl rfl) (Step.grow (λU U e=>e) rfl rfl)
theorem FR.weak{hS:yJ}{F:Fx}{W:WD}{h:yJ}(R:FR hS F W h ρ)(hl:ρ'.length=ρ.length)(k:∀(i:Nat) av,ρ'[i]? =J (J av)->ρ[i]? =J (J av)):FR hS F W h ρ':=
 ⟨vh.rec (λm hn hv=>⟨m,hn,λx i av a b c=>hv x i av a b (k i av c)⟩) R.ns,λx i c a b d=>(R.cs x i c a b d).up (λU e=>e) (aX.refl _) (k i),R.un,hl.trans R.len,R.no,R.al⟩
end
theorem bS.afe{W:WD}{h:yJ}{as:List AV}{ws:Array xP}{a:AV}{v:xP}(x:bS W h as ws.toList)(y:VR W h a v):bS W h (as++[a]) (ws.push v).toList:=by
 exact Z Jc (x.append (.cons y .nil))
structure i0 where
 z:Zx
 ρ:EV
 T:CT
 sc:Dm
 ts:List ze
 g:yF->PT AV
 gc:yF->PT Bool
 x:yF
 iter:yF
 tg:yF
 ifs:List yF
 pos:Pos
 one:Bool
 items:List AV
 da:AH->Prop
 I:yk
 D:yk
 St:Nat->WD->yJ->Prop
 W0:WD
 s0:xM
 Kc:List AV->AH->Prop
 deriving Nonempty
noncomputable abbrev i0.ρ1(c:i0):EV:=c.ρ++yr c.ts.length Jw
abbrev i0.P1(c:i0):Type:=Pt c.z c.ρ1
noncomputable def i0.bind(c:i0)(v:AV):Option EV:=(oQ c.one c.ts.length v).map (c.ρ++ ·)
def i0.left(c:i0):List AV->AH->List AV->Prop:=λl H acc=>
 jr c.da c.bind (λρ' H' K=>dU c.gc c.ifs c.z.G ρ' H' K λU U=>False) (λρ' H' K=>c.g c.x c.z.G ρ' H' K λU U=>False) l H acc c.Kc
noncomputable abbrev i0.e(c:i0):yF:=.ListComp c.x [⟨c.tg,c.iter,c.ifs,0⟩] c.sc c.pos
structure i0.Ok(c:i0):Prop where
 K:d8 c.z
 r:c.z.r=false
 T:c.z.T=c.T.inComp c.sc c.ts
 O:dQ c.T c.sc c.ts
 g:∀e,cZ c.z e (c.g e)
 gc:∀e,qV c.z e (c.gc e)
 t:targetNames c.tg=J (c.one,c.ts)
 ρ:c.ρ.length=c.T.n
 it:ix c.z.P c.z.A c.z.fl c.items c.da c.I c.St
 fI:c.s0.heap.get? c.I=Jw
 fD:c.s0.heap.get? c.D=Jw
 ne:c.D≠c.I
 fw:∀b,c.z.F.wr b->c.s0.heap.get? b=Jw
 len:c.items.length<=1000000
structure ir(c:i0)(acc:List AV)(ws:Array xP){ρ:EV}(q:Pt c.z ρ):Prop where
 pl:q.h.PlainList c.D ws
 vr:bS q.W q.h acc ws.toList
 step:bT c.z.fl c.W0 c.s0 q.W q.s
 iI:iy c.z q.W c.I
 iD:iy c.z q.W c.D
inductive rP(c:i0)(m:Nat):xM->Prop
 | mk(i:Nat)(acc:List AV)(ws:Array xP)(q:c.P1)(e:m=c.items.length+1-i)(hi:i<=c.items.length)(ha:acc.length<=i)(B:ir c acc ws q)(S:c.St i q.W q.h)(l:c.left (c.items.drop i) q.H acc):rP c m q.s
abbrev uJ:xP->xM->Prop:=λU U=>False
theorem tE{M:Model}{A:yS}{α β:Type}{m:Sem α}{f:α->Sem β}{Q:α->xM->Prop}{Q':β->xM->Prop}{E:xP->xM->Prop}{s:xM}(h:xY M A m Q uJ s)(k:∀a s',Q a s'->xY M A (f a) Q' E s'):xY M A (m>>=f) Q' E s:=
 xI (yO h k λU U x=>x.elim)
def i0.next(c:i0)(n:Nat)(s:xM):Prop:=∃m,m<n/\rP c m s
def i0.elt(c:i0)(n:Nat)(b:Bool)(s:xM):Prop:=dI (xY c.z.M c.z.A (eval c.x c.z.env) (λv s=>xY c.z.M c.z.A (call (.builtin "list.append") [.ref c.D,v]) (λU=>c.next n) uJ s) uJ s) (c.next n s) b
def i0.wH(c:i0)(n:Nat)(v:xP)(s:xM):Prop:=xY c.z.M c.z.A (BB c.tg (.ref c.I) v) (λU s=>xY c.z.M c.z.A (C9 c.tg c.z.env v) (λU s=>xY c.z.M c.z.A (forIn c.ifs true (kq c.z.env)) (c.elt n) uJ s) uJ s) uJ s
def i0.got(c:i0)(R:GC->xM->Prop)(n:Nat)(o:Option xP)(s:xM):Prop:=match o with
 | none=>R (.ok .next) s
 | some v=>c.wH n v s
theorem XS.aol{z:Zx}{ρ:EV}{q:Pt z ρ}{e:xP}{s:xM}:XS q (λU U=>False) e s->False:=λh=>h.rec λU U U U x U U=>x.2
theorem targetNames.tj{e:yF}{x:Bool×List ze}(h:targetNames e=J x):Nonempty (b9 e):=by
 unfold targetNames at h;cases q:asName e with
 | some y=>obtain ⟨pos,rfl⟩:=jg q;exact ⟨.name _ _⟩
 | none=>
  have h:=q▸h;refine aO (zw.mp h) λes hes U=>?_;obtain ⟨k,pos,rfl⟩:=kE hes;exact ⟨.tup _ _ _⟩
section
variable{c:i0}(N:c.Ok){ρ ρ':EV}{acc:List AV}{ws:Array xP}
include N
theorem ir.up{q:Pt c.z ρ}{q':Pt c.z ρ'}{i:Nat}(B:ir c acc ws q)(S:c.St i q.W q.h)(le:iV q q'):ir c acc ws q'/\c.St i q'.W q'.h:=
 have I:=B.iI.up N.K le (qe.rec (λo U e U U U U=>⟨o,e⟩) (N.it.at_ _ _ _ S));have D:=B.iD.up N.K le (B.pl.elim λU e=>⟨_,e⟩);have kf:=le.mY N.K
 ⟨⟨B.pl.at D.2,B.vr.mono le.pre kf,B.step.nZ le λb hb=>.inl (N.fw b hb),I.1,D.1⟩,N.it.frame _ _ _ _ _ S le.pre kf I.2⟩
omit N in
theorem padded{x:EV}{k:Nat}{j:Nat}{a:AV}(ha:(ρ++yr k Jw)[j]? =J (J a)):(ρ++x)[j]? =J (J a):=by
 revert ρ x k j a;apply e5;intro U;apply(?Z:Tq U);intro ρ x k j a;intros;refine (Nat.lt_or_ge j ρ.length).elim (λhj=>(yw hj).trans ((yw hj).symm.trans ha)) λhj=>?_;rw[yU hj,Ew] at ha;split at ha <;> cases ha
omit N in
theorem ir.back{av:AV}(hb:c.bind av=J ρ')(q₀:c.P1)(q':Pt c.z ρ'){i:Nat}(B:ir c acc ws q')(S:c.St i q'.W q'.h){m:Nat}(e:m=c.items.length+1-i)(hi:i<=c.items.length)(ha:acc.length<=i)(l:c.left (c.items.drop i) q'.H acc):rP c m q'.s:=by
 refine aO (yh.mp hb) λx hl e'=>?_;exact .mk i acc ws ⟨q'.W,q'.H,q'.s,q'.C,q'.R.weak (q₀.R.len.trans q'.R.len.symm) λj a ha=>e'▸padded ha⟩ e hi ha ⟨B.pl,B.vr,B.step,B.iI,B.iD⟩ S l
theorem i0.toA{α:Type}{t:Sem α}{Q:α->xM->Prop}{E:xP->xM->Prop}{s:xM}(h:aB c.z.r c.z.M c.z.A t Q E s):xY c.z.M c.z.A t Q E s:=aB.any (N.r▸h)
theorem i0.add{q₀:c.P1}{av ax:AV}{xv:xP}(hb:c.bind av=J ρ'){q:Pt c.z ρ'}{i n:Nat}(lt:c.items.length+1-(i+1)<n)(hlt:i<c.items.length)(ha:acc.length<=i)(B:ir c acc ws q)(S:c.St (i+1) q.W q.h)(y:VR q.W q.h ax xv)
  (h:c.left (c.items.drop (i+1)) q.H (acc++[ax])):xY c.z.M c.z.A (call (.builtin "list.append") [.ref c.D,xv]) (λU=>c.next n) uJ q.s:=by
 have nfD:∀o,q.h.get? c.D=J o->¬bp o:=λo e=>B.pl.elim λU e'=>xT (e'.symm.trans e)▸cL rfl;refine wpAny_list_append_plain B.pl (λh5 l5 sb=>?_) ?_
 ·have kf5:=cK sb.extBut nfD
  exact ⟨_,lt,ir.back hb q₀ (q.eN N.K B.iD nfD h5 q.s.toks sb.extBut) ⟨l5,(B.vr.afe y).mono cf.rfl kf5,B.step.eN N.fD sb.extBut,B.iI,B.iD⟩
   (N.it.frame _ _ _ _ _ S cf.rfl kf5 λo e=>sb.extBut _ _ (DT N.ne) e) rfl hlt (xK▸Bf ha) h⟩
 ·exact ya<|xN (Fy▸B.vr.length▸ha) (xO hlt (xH N.len (show 1000000<=Bb by decide)))
theorem i0.body{q₀:c.P1}{av:AV}(hb:c.bind av=J ρ'){q:Pt c.z ρ'}{i n:Nat}(hn:n=c.items.length+1-i)(hlt:i<c.items.length)(ha:acc.length<=i)(B:ir c acc ws q)(S:c.St (i+1) q.W q.h)
  (h:dU c.gc c.ifs c.z.G ρ' q.H (λb H₁=>dI (c.g c.x c.z.G ρ' H₁ (λx H₂=>c.left (c.items.drop (i+1)) H₂ (acc++[x])) λU U=>False) (c.left (c.items.drop (i+1)) H₁ acc) b) λU U=>False):
  xY c.z.M c.z.A (forIn c.ifs true (kq c.z.env)) (c.elt n) uJ q.s:=by
 revert c ρ' acc ws av i n;apply e1;intro U;apply(?Z:Tq U);intro c;intro N;apply e3;intro U;apply(?Y:Tq U);intro ρ' acc ws;intros;have lt:=hn▸FN (AZ hlt) (yM i);refine i0.toA N ((agH N.gc h).mono (λb U h3=>?_) λe s3 x=>x.aol);cases h3 with | mk q3 b' le3 e3 h3=>
 subst e3;have Jx:=B.up N S le3.s;induction h3 with
 | f h3=>exact .f ⟨_,lt,Jx.1.back hb q₀ q3 Jx.2 rfl hlt (Ab ha) h3⟩
 | t h3=>
  refine .t (i0.toA N ((N.g c.x h3).mono (λxv U h4=>?_) λe s4 x=>x.aol));cases h4 with | mk q4 ax le4 y4 h4=>
  have U4:=Jx.1.up N Jx.2 le4.s;exact i0.add N (q₀:=q₀) hb lt hlt ha U4.1 U4.2 y4 h4
theorem i0.turn{R:GC->xM->Prop}(hR:∀(q:c.P1) acc ws,ir c acc ws q->c.Kc acc q.H->R (.ok .next) q.s){n:Nat}{s:xM}(h:rP c n s):
  xY c.z.M c.z.A (C7 (.ref c.I)) (c.got R n) uJ s:=by
 revert c R n s;apply e1;intro U;apply(?Z:Tq U);intro c;intro N;apply e1;intro U;apply(?Y:Tq U);intro R;intro hR;apply e2;intro U;apply(?X:Tq U);intro n s;intros;cases h with | mk i acc ws q e hi ha B S hL=>
 have nfI:=(N.it.at_ i q.W _ S).nf;have turned:∀{h':yJ} {t:Nat} (kp:vB c.I q.h h'),ir c acc ws (q.eN N.K B.iI nfI h' t kp):=λ{h' t} kp=>
  ⟨B.pl.at λo e=>kp _ o N.ne e,B.vr.mono cf.rfl (cK kp nfI),B.step.eN N.fI kp,B.iI,B.iD⟩
 cases hv:c.items[i]? with
 | none=>
  cases yW hi (List.getElem?_eq_none_iff.mp hv);have hL:=Ex▸hL;exact N.it.done q.W q.H q.s _ _ q.C hL.1 S λh' t kp=>hR _ _ _ (turned (t:=t) kp) hL.2
 | some av=>
  refine (xQ.mp hv).elim λhlt hv'=>?_;have hL:=hv'▸(Aw hlt)▸hL;have hL2:=hL.2;refine N.it.item i av q.W q.H q.s _ _ q.C hL.1 S hv λv h' t yv st' kp=>(targetNames.tj N.t).elim λsh=>?_;cases hb:c.bind av with
  | none=>exact (hb▸hL2:iF Jw _).elim
  | some ρ'=>
   have hL2:=hb▸hL2;refine f6 sh (N.it.at_ _ _ _ st') (yO (aij (q:=q.eN N.K B.iI nfI h' t kp) N.O N.K N.T N.t N.ρ hb yv) (λU U h2=>?_) λU U e=>e);cases h2 with | mk q2 le2 h2=>
   cases h2.1;have Jx:=(turned (t:=t) kp).up N st' le2;exact i0.body N (q₀:=q) hb e hlt ha Jx.1 Jx.2 ((show q2.H=q.H from h2.2)▸hL2)
theorem i0.loop{R:GC->xM->Prop}(hR:∀(q:c.P1) acc ws,ir c acc ws q->c.Kc acc q.H->R (.ok .next) q.s){n:Nat}{s:xM}(h:rP c n s):
  F8 c.z.M c.z.A (.compLoop c.e 0 (.ref c.I) (.ref c.D) c.z.env) R s:=by
 revert c R n s;apply e1;intro U;apply(?Z:Tq U);intro c;intro N;apply e1;intro U;apply(?Y:Tq U);intro R;intro hR;apply e2;intro U;apply(?X:Tq U);intro n s;intros;refine codeAny_loop rfl (rP c) (λn s h=>?_) n h;show xY c.z.M c.z.A ((compTurn c.e 0 (.ref c.I) (.ref c.D) c.z.env).onRaise (λx=>do DG x c.z.env;CW x)) _ _ s;refine wpAny_noted ?_;rw[compTurn_list];refine xI (Cj (tE (i0.turn N hR h) λo S5 h=>?_));cases o with
 | none=>exact xU h
 | some v=>
  refine tE h λU s h=>tE h λU s h=>tE h λb s h=>?_;induction h with
  | f h=>exact xU ⟨rfl,h⟩
  | t h=>exact xI (tE h λv s h=>xI (yO h (λU s h=>xU (xU ⟨rfl,h⟩)) λU U x=>x.elim))
end
theorem hJ(h:noStar iter=true)(env):∀x,G5 iter env x=pure x:=(noStar.tj h).elim λs=>by induction s <;> exact λU=>rfl
theorem jk.inComp{T:CT}(S:jk P T):jk P (T.inComp sc ts):=⟨S.lim,Gl.rec (λmg mb a b fn cls bi kv=>⟨mg,mb,a,b,fn,cls,bi,kv⟩) S.gl,S.nm⟩
noncomputable def Zx.wV(z:Zx)(sc:Dm)(ts:List ze)(C:yk):Zx:={z with T:=z.T.inComp sc ts,F:=gf z.T z.F sc ts C}
noncomputable def Zx.off(z:Zx):Zx:={z with r:=false,G:=z.G.off}
theorem d8.off{z:Zx}(K:d8 z):d8 z.off:=⟨K.kF,K.sig.off,K.cH,K.ctx,K.oo⟩
structure CompEnd{z:Zx}{ρ:EV}(p p':Pt z ρ)(B D:yk)(acc:List AV)(ws:Array xP):Prop where
 le:Le p p'
 pl:p'.h.PlainList D ws
 vr:bS p'.W p'.h acc ws.toList
 fD:iy z p'.W D
 fB:iy z p'.W B
 oD:p.h.get? D=Jw
 oB:p.h.get? B=Jw
 ne:D≠B
 ns:∃m,p'.h.Ns B m
section
variable{z:Zx}
theorem aeW(K:d8 z)(hr:z.r=false){sc:Dm}{ts:List ze}(O:dQ z.T sc ts){src:PT AV}{g:yF->PT AV}{gc:yF->PT Bool}{x iter tg:yF}{ifs:List yF}{pos pos':Pos}{one:Bool}(hs:noStar iter=true)(ht:targetNames tg=J (one,ts))
  (hsrc:cZ z iter src) (hg:∀C,d8 (z.wV sc ts C)->∀e,cZ (z.wV sc ts C) e (g e)/\qV (z.wV sc ts C) e (gc e))
  {use:Option (xP->Sem Unit)} {Qv:xP->xM->Prop} {E:xP->xM->Prop} {ρ:EV} {p:Pt z ρ} {X:XF} {Kc:List AV->AH->Prop} (hE:∀e s',XS p X e s'->E e s')
  (h:src z.G ρ p.H (λv H₁=>fO H₁ (λitems da=>items.length<=1000000/\jr da (λv=>(oQ one ts.length v).map (ρ++ ·)) (λρ' H' K=>dU gc ifs z.G ρ' H' K λU U=>False) (λρ' H' K=>g x z.G ρ' H' K λU U=>False) items H₁ [] Kc) v) X)
  (fin:∀(p':Pt z ρ) B D acc ws,CompEnd p p' B D acc ws->Kc acc p'.H->compPost z.M z.A E use Qv (.ref D) B (.ok .next) p'.s):
  xY z.M z.A (comprehension (.ListComp x [⟨tg,iter,ifs,0⟩] sc pos) sc z.env pos' (newList []) false (eval iter z.env) use) Qv E p.s:=by
 revert z sc ts src g gc x iter tg ifs pos pos' one use Qv E ρ X Kc;apply e1;intro U;apply(?Z:Tq U);intro z;intro K hr;apply e2;intro U;apply(?Y:Tq U);intro sc ts;intro O;apply rD;intro U;apply(?X:Tq U);intro src g gc x iter tg ifs pos pos' one;intro hs ht hsrc hg;apply e4;intro U;apply(?W:Tq U);intro use Qv E ρ;intros;refine wpAny_comprehension_free (cl:=cj z.env sc.names []) rfl (hJ hs _) (afO (O.frees K.ctx)) O.ami (λy hy e=>?_) ?_
 ·obtain ⟨a,b⟩:=y
  dsimp only at e;subst e;exact eG O.dist hy
 have h0:=hsrc h;unfold Ev at h0;rw[hr] at h0;refine yO h0.any (λv U h1=>?_) hE;cases h1 with | mk P0 av le1 Y0 Q0=>
 refine agy K.kF.handled P0.C Y0 Q0 λitems da St h' hL it st0 kp=>?_
 let P5:=P0.grow h' kp
 have fI:P0.h.get? P0.h.objs.size=Jw:=zF (xS _);obtain ⟨oI,TI,eI,cI,_,_,_⟩:=it.at_ _ _ _ st0;have hI:=zb eI;have fD:=zF (ya hI);have fB:=zF (ya (AZ hI));refine zG ?_;have kp3:∀b o,h'.get? b=J o->(h'.push {cls:=.type "list",dict:=Jw,data:=.seq ([]:List xP).toArray}).get? b=J o:=λb o e=>xW _ e;have pl:(h'.push {cls:=.type "list",dict:=Jw,data:=.seq ([]:List xP).toArray}).PlainList h'.objs.size #[]:=⟨0,yC _ rfl⟩
 have hB:(h'.push {cls:=.type "list",dict:=Jw,data:=.seq ([]:List xP).toArray}).objs.size=h'.objs.size+1:=BK ..;generalize h'.push {cls:=.type "list",dict:=Jw,data:=.seq ([]:List xP).toArray}=h3 at kp3 pl hB
 let P8:=P5.grow h3 kp3
 refine aeY ?_;show F8 _ _ (.compStart _ 0 _ _ {scope:=Hk sc z.env,locals:=h3.objs.size,globals:=z.env.globals,cells:=zO (h3.objs.size+1) sc.names (cj z.env sc.names []),qual:=z.env.qual,func:=Jw,code:=z.env.code,frame:=z.env.frame,builtins:=z.env.builtins}) _ {P0.s with heap:=D6 (h3.push {cls:=.type "dict",data:=.dict #[]}) sc.names};refine sM (aeX (s1:={P0.s with heap:=D6 (h3.push {cls:=.type "dict",data:=.dict #[]}) sc.names}) O K.ctx P8.C P8.R rfl rfl) λR3 kp4 ctx' fw=>?_;generalize D6 (h3.push {cls:=.type "dict",data:=.dict #[]}) sc.names=h4 at R3 kp4;have es:P8.s.heap.objs.size=h'.objs.size+1:=hB;refine Z (afi K.ctx _) (Z hB ?_);rw[es] at R3 ctx' fw;have k14:∀b o,P0.h.get? b=J o->h4.get? b=J o:=λb o e=>kp4 b o (kp3 b o (kp b o e))
 let zi:=z.wV sc ts (h'.objs.size+1)
 have Ki:d8 zi:=⟨K.kF,K.sig,K.cH.inComp,ctx',K.oo⟩
 let q:Pt zi (ρ++yr ts.length Jw):=⟨P0.W,P0.H,{P0.s with heap:=h4},P0.C.grow k14 rfl,R3⟩
 let c:i0:=⟨zi,ρ,z.T,sc,ts,g,gc,x,iter,tg,ifs,pos,one,items,da,P0.h.objs.size,h'.objs.size,St,P0.W,P0.s,Kc⟩
 have N:c.Ok:=⟨Ki,hr,rfl,O,λe=>(hg _ Ki e).1,λe=>(hg _ Ki e).2,ht,P0.R.len.trans K.ctx.n,it,fI,fD,zH hI,λb hb=>by
  rcases hb with rfl | ⟨rfl,_⟩
  ·exact fB
  ·exact zF (ya (AZ (AZ hI))),hL.1⟩
 have free:∀{b},P0.h.get? b=Jw->b<h'.objs.size+1->iy zi P0.W b:=λ{b} hb lt=>by
  have f:=P0.free hb;refine ⟨f.nO,f.nS,f.nF,λq=>?_⟩;rcases q with q | rfl | ⟨rfl,_⟩
  ·exact f.nM q
  ·exact absurd lt (zU _)
  ·exact absurd lt (xX.mpr (yY _))
 have S₀:=it.frame _ _ _ _ _ st0 cf.rfl (aX.of_keeps λb o e=>kp4 b o (kp3 b o e)) λo e=>kp4 _ _ (kp3 _ _ e);have loop:F8 z.M z.A (.compLoop c.e 0 (.ref P0.h.objs.size) (.ref h'.objs.size) zi.env) (compPost z.M z.A E use Qv (.ref h'.objs.size) (h'.objs.size+1)) q.s:=by
  refine i0.loop (c:=c) N (λq' acc ws Bq hk=>?_) (n:=items.length+1) (rP.mk (c:=c) 0 [] #[] q rfl (yI _) (xS _) ⟨pl.at λo e=>kp4 _ _ e,.nil,Step.grow k14 rfl rfl,free fI (AZ hI),free fD (yM _)⟩ S₀ hL.2)
  let p':Pt z ρ:=⟨q'.W,q'.H,q'.s,q'.C,FR.step K.ctx.iN P0.R P0.C Bq.step⟩
  have le':=Bq.step;obtain ⟨m,hm,_⟩:=q'.R.ns;have fOut:∀{b},P0.h.get? b=Jw->¬Own q'.W b->iy z q'.W b:=λhb nO=>⟨nO,(P0.free hb).nS,(P0.free hb).nF,(P0.free hb).nM⟩
  exact fin p' _ _ acc ws ⟨le1.trans le',Bq.pl,Bq.vr,fOut fD Bq.iD.nO,fOut fB (q'.R.no _ (.inr (.inl rfl))),Step.back le1 _ fD,Step.back le1 _ fB,zt (yM _),m,hm⟩ hk
 exact codeAny_compStart_list loop (it.self 0 P0.W q.s _ _ S₀ loop)
theorem CompEnd.adopt(K:d8 z){ρ:EV}{p p':Pt z ρ}{B D:yk}{acc:List AV}{ws:Array xP}(N:CompEnd p p' B D acc ws):
  ∃p'':Pt z ρ,p''.s=p'.s/\p''.H=p'.H++[.list acc]/\Le p p''/\VR p''.W p''.h (.ref p'.H.length) (.ref D)/\iy z p''.W B:=by
 refine N.pl.elim λk eD=>?_;have C2:=p'.C.adopt eD (cL rfl) N.fD.nO N.fD.nS N.fD.nF (ao:=.list acc) ⟨rfl,rfl,ws.toList,k,by simpa using eD,N.vr.mono cf.app (aX.refl _)⟩;have st2:=N.le.adopt N.oD;refine (uP ⟨_,_,p'.s,C2,FR.step K.ctx.iN p.R p.C st2⟩ rfl rfl st2 ?_ ⟨λu6=>u6.elim λq v6=>v6.elim λhq hb=>?_,N.fB.nS,N.fB.nF,N.fB.nM⟩)
 ·have e:(p'.W++[(⟨D,[],[]⟩:WE)])[p'.H.length]? =J ⟨D,[],[]⟩:=by
   refine Ql p'.C.hr.len ?_;simp
  exact .ref _ _ e
 ·rcases yz.mp hq with h' | h'
  ·exact N.fB.nO ⟨q,h',hb⟩
  ·obtain rfl:=xV.mp h'
   rcases hb with hb | hb
   ·exact N.ne hb.symm
   ·cases hb
theorem agt(K:d8 z){p':Pt z ρ}(f:iy z p'.W B)(hn:∃m,p'.h.Ns B m){Q:xM->Prop}
  (k:∀(p'':Pt z ρ) h'',p''.s={p'.s with heap:=h''}->p''.H=p'.H->p''.W=p'.W->aX p'.h p''.h->(∀{own fs:yk->Prop} {W0:WD} {s0:xM},s0.heap.get? B=Jw->Step own fs W0 s0 p'.W p'.s->Step own fs W0 s0 p''.W p''.s)->Q p''.s):
  ∃m,p'.s.heap.Ns B m/\∀h',Ar B p'.s.heap h'->Q {p'.s with heap:=h'}:=by
 obtain ⟨m,hm⟩:=hn;refine (aM m hm (λh'' sb=>?_));refine Qc λU u6=>hm.elim λo v6=>v6.elim λes y6=>y6.elim λep z6=>z6.elim λe u7=>u7.elim λd U=>u6 ?_;have nf:∀o,p'.h.get? B=J o->¬bp o:=λo' e'=>by have e':=e▸e';cases e';exact bO d
 exact k (p'.eN K f nf h'' p'.s.toks sb.extBut) h'' rfl rfl rfl (cK sb.extBut nf) λfB st=>st.eN fB sb.extBut
omit z in
theorem jL.get{T:CT}{M:EP->Prop}(h:jL T rec x gcp sc G ρ H Q X)
  (k:∀tg iter ifs one ts,targetNames tg=J (one,ts)->dQ T sc ts->noStar iter=true->cW (rec (T.inComp sc ts) x).1 one ts.length (rec T iter).1 (dU (λe=>(rec (T.inComp sc ts) e).2) ifs) G ρ H Q X->M ⟨tg,iter,ifs,0⟩):M gcp:=by
 cases gcp with | mk tg iter ifs asy=>
 refine dc.get h λot ht h=>cQ.get h λe h=>?_;have e:=xZ.mp e;have e1:=xZ.mp e.1;exact (beq_iff_eq.mp e.2:asy=0).symm▸k tg iter ifs ot.1 ot.2 ht (ahT e1.1) e1.2 h
noncomputable def Pt.off{ρ:EV}(p:Pt z ρ):Pt z.off ρ:=⟨p.W,p.H,p.s,p.C,p.R⟩
noncomputable def Pt.on{ρ:EV}(p:Pt z.off ρ):Pt z ρ:=⟨p.W,p.H,p.s,p.C,p.R⟩
theorem XS.on{e:xP}:XS p.off X e s'->XS p X e s':=λh=>h.rec λp' C a f x le nt=>XS.mk (p:=p) p'.on C a f x le nt
theorem apr(K:d8 z){gcp:EP}{pos:Pos}{rec:XE}(ih:∀z,d8 z->∀e,cZ z e (rec z.T e).1/\qV z e (rec z.T e).2):cZ z (.ListComp x [gcp] sc pos) (jL z.T rec x gcp sc):=λ{ρ p Q X} h=>
 jL.get (M:=λgcp=>Ev p VR (eval (.ListComp x [gcp] sc pos) z.env) Q X) h λtg iter ifs one ts ht O hs h=>Ev.eq (eval_ListComp ..) (Ev.of (aeW (z:=z.off) (g:=λe=>(rec (z.T.inComp sc ts) e).1) (gc:=λe=>(rec (z.T.inComp sc ts) e).2) (Kc:=λ(acc:List AV) H₂=>bR (.list acc) H₂ Q) K.off rfl O hs ht (ih _ K.off iter).1 (λC Ki e=>ih _ Ki e) (use:=Jw) (p:=p.off) (λU U x=>x.on) h λp' B D acc ws N q'=>by
  refine tK (N.adopt K.off) λP5 e2 eH le y fB=>?_;have hm:∃m,P5.s.heap.Ns B m:=by exact Z e2 N.ns
  have:=agt K.off fB hm (Q:=λs=>Got p VR Q (.ref D) s) λp'' h'' U eH2 eW kf st=>Got.mk (p:=p) p''.on (AV.ref p'.H.length) (st N.oB le) (by show VR p''.W p''.h _ _;exact Z eW (y.mono cf.rfl kf)) (by show Q _ p''.H;exact Z eH2 (Z eH q'.get));have this:=e2▸this;exact this))
end
def xF(rec:XE):Prop:=∀z,d8 z->∀e,cZ z e (rec z.T e).1/\qV z e (rec z.T e).2
section
variable{z:Zx}(K:d8 z){rec:XE}(ih:xF rec)
include K ih
theorem aeZ{e:yF}(s:b9 e):cZ z e (s.se rec z.T):=by
 have ie:∀e,cZ z e (rec z.T e).1:=λe=>(ih z K e).1;induction s with
 | const=>exact alz K
 | name=>exact am4 K
 | bin=>exact ao2 K (ie _) (ie _)
 | neg=>exact aoo K (ie _)
 | cmp=>exact aoU K ie
 | uR=>exact aps K (ih z K _).2 (ie _) (ie _)
 | tup=>exact anV K ie
 | lst=>exact aoC K ie
 | nB=>exact alx K
 | attr=>exact anK K (ie _)
 | sub=>exact amJ K ie
 | call=>exact anD K ie
 | cR=>exact am6 K ie
 | lc=>exact apr K ih
 | _=>exact λh=>yX h
theorem ajT{e:yF}(s:b9 e):qV z e (s.amu rec z.T):=by
 have ie:∀e,cZ z e (rec z.T e).1:=λe=>(ih z K e).1;have ic:∀e,qV z e (rec z.T e).2:=λe=>(ih z K e).2;have ok:cZ z e (s.se rec z.T):=aeZ K ih s;revert ok;induction s with
 | not=>intro _ ρ p Q X h;exact aoj (ic _) h
 | rF=>intro _ ρ p Q X h;exact amx ic h
 | gO=>intro _ ρ p Q X h;exact aog ic h
 | cmp=>intro _ ρ p Q X h;exact anv K ie h
 | uR=>intro _ ρ p Q X h;exact yX h
 | _=>intro ok ρ p Q X h;exact amF rfl ok h
end
theorem dz:∀n,xF (comp n)
 | 0,_,_,_=>⟨λh=>yX h,λh=>yX h⟩
 | n+1,_,K,e=>⟨λh=>dc.get h λs U=>aeZ K (dz n) s,λh=>dc.get h λs U=>ajT K (dz n) s⟩
theorem lookup_at{n:Nat}:((n,v)::r).lookup n=J v:=(zo ..).trans (by exact Z (beq_self_eq_true _) rfl)
theorem gL{n m:Nat}(h:n≠m):((m,v)::r).lookup n=r.lookup n:=(zo ..).trans (by exact Z (beq_false_of_ne h) rfl)
theorem agg(k)(v)(fs:List (Nat×AV)):(sN k v fs).lookup k=J v:=by
 induction fs with
 | nil=>exact lookup_at
 | cons e r ih=>
  refine (AW (e.1=k)).elim (λh=>?_) λh=>?_
  ·exact (congrArg (GG k) (if_pos h)).trans lookup_at
  ·exact (congrArg (GG k) (if_neg h)).trans ((gL (DT h)).trans ih)
theorem ml(v)(hn:n≠k)(fs):(sN k v fs).lookup n=fs.lookup n:=by
 induction fs with
 | nil=>exact gL hn
 | cons e r ih=>
  refine (AW (e.1=k)).elim (λh=>?_) λh=>?_
  ·exact (congrArg (GG n) (if_pos h)).trans ((gL hn).trans (gL (h▸hn)).symm)
  ·refine (congrArg (GG n) (if_neg h)).trans ?_
   exact Z zo (Z zo (Z ih rfl))
theorem aeA{l:List (Nat×α)}{n:Nat}{c:α}(h:l.lookup n=J c):(n,c)∈l:=by
 induction l with
 | nil=>cases h
 | cons e r ih=>exact (AW (n=e.1)).elim (λq=>by cases q;cases lookup_at.symm.trans h;exact .head _) λq=>.tail _ (ih ((gL q).symm.trans h))
theorem cQ.jH{K:KF}{M:Prop}(h:cQ fa b x G ρ H K X)(t:b=true->x G ρ H K X->M):M:=match b,h with | true,h=>t rfl h
theorem dc.jH{K:KF}{M:Prop}(h:dc fa o k G ρ H K X)(t:∀a,o=J a->k a G ρ H K X->M):M:=by cases o with | some a=>exact t a rfl h | none=>exact yX h
theorem cQ.kh{K:EV->AH->Prop}{M:Prop}(h:cQ mI b x v G ρ H K X)(t:b=true->x v G ρ H K X->M):M:=match b,h with | true,h=>t rfl h
theorem dc.kh{K:EV->AH->Prop}{M:Prop}(h:dc mI o k v G ρ H K X)(t:∀a,o=J a->k a v G ρ H K X->M):M:=by cases o with | some a=>exact t a rfl h | none=>exact yX h
inductive oi(W:WD)(h:yJ):FL->Flow->Prop
 | next:oi W h .next .next
 | cont:oi W h .cont .cont
 | brk:oi W h .brk .brk
 | ret{a:AV}{v:xP}(y:VR W h a v):oi W h (.ret a) (.ret v)
section
variable{z:Zx}{ρ ρ':EV}
inductive GS(p:Pt z ρ)(K:KF)(f:Flow):xM->Prop
 | mk{ρ':EV}(p':Pt z ρ')(l:FL)(le:iV p p')(rl:oi p'.W p'.h l f)(q:K l ρ' p'.H):GS p K f p'.s
def Es(p:Pt z ρ)(t:Sem Flow)(K:KF)(X:XF):Prop:=aB z.r z.M z.A t (GS p K) (XS p X) p.s
variable{p:Pt z ρ}{K:KF}{X:XF}
theorem GS.up(le:iV p P0){s:xM}:GS P0 K f s->GS p K f s:=λh=>h.rec λp' l le' rl q=>⟨p',l,le.trans le',rl,q⟩
theorem Es.up{t:Sem Flow}(le:iV p P0)(h:Es P0 t K X):aB z.r z.M z.A t (GS p K) (XS p X) P0.s:=
 h.mono (λU U x=>x.up le) λU U x=>x.up le
theorem Ev.ue{Q:α->AH->Prop}{t:Sem β}(h:Ev p Rl t Q X)(k:∀(p':Pt z ρ) a v,Le p p'->Rl p'.W p'.h a v->Q a p'.H->Es p' (f v) K X):Es p (t>>=f) K X:=
 aB.bind (h.then λp' a v le rl q=>Es.up le.s (k p' a v le rl q))
theorem Es.standAt(h:Es p (f ()) K X):Es p (BZ pos>>=f) K X:=aB.bind (aB.standAt h)
theorem Es.nx(q:K .next ρ p.H):Es p (pure .next) K X:=aB.pure ⟨p,.next,.rfl,.next,q⟩
def lS(z:Zx)(s:CM)(m:ST):Prop:=∀{ρ} {p:Pt z ρ} {K X},m z.G ρ p.H K X->Es p (exec s z.env) K X
def uz(z:Zx)(l:List CM)(m:ST):Prop:=∀{ρ} {p:Pt z ρ} {K X},m z.G ρ p.H K X->Es p (execs l z.env) K X
def u0(z:Zx)(tg:yF)(t:TT):Prop:=∀{ρ} {p:Pt z ρ} {av v Kt X},VR p.W p.h av v->t av z.G ρ p.H Kt X->aB z.r z.M z.A (C9 tg z.env v) (λU=>fY p Kt) (XS p X) p.s
end
theorem fP.up{h h':yJ}{x dx C:yk}{mA mA':ze->Option xP}(I:fP h x dx C mA)(I':h'.Inst x C mA')
  (hs:∀O4,h.get? x=J O4->∃O0,h'.get? x=J O0/\O0.cls=O4.cls/\O0.data=O4.data/\O0.slots=O4.slots/\∀dx,O4.dict=J dx->O0.dict=J dx):fP h' x dx C mA':=by
 refine Qc λU u6=>?_;refine o9 I.obj λox ex cx dox ncx=>?_;refine u6 ?_;refine Qc λU v6=>?_;refine tK (hs ox ex) λo1 e1 c1 d1 U dd1=>?_;refine v6 ?_;refine Qc λU y6=>?_;obtain ⟨o1',e1',_,_,hd⟩:=I';refine y6 ?_;cases xT (e1.symm.trans e1');have hd1:=dd1 dx dox;refine ⟨(oz o1 e1 (c1.trans cx) hd1 (d1.trans ncx)),?_,I.apart⟩;exact hd.elim (λq=>nomatch hd1.symm.trans q.1) λq=>q.elim λd q=>xT (q.1.symm.trans hd1)▸q.2.2
theorem fP.nf{h:yJ}(I:fP h x dx C mA)(hb:b=x\/b=dx):∃o,h.get? b=J o/\¬bp o:=
 hb.elim (λq=>q▸I.obj.imp λo w=>⟨w.1,kj w.2.1⟩) λq=>q▸I.ns.elim λo w=>w.elim λes w=>w.elim λep w=>(aM o w.1 (bO w.2.1))
theorem iZ.put{NM:Nat->ze}{h h':yJ}{mA:ze->Option xP}{av:AV}(Fd:iZ NM W h fs mA)(y:VR W h av v)(kf:aX h h')(inj:∀n av,fs.lookup n=J av->NM n=NM k->n=k):
  iZ NM W h' (sN k av fs) λy=>if y=NM k then J v else mA y:=
 ⟨λn a hm=>(AW (n=k)).elim (λe=>(aM v (if_pos (e▸rfl)) (xT ((agg k av fs).symm.trans (e▸hm))▸y.mono cf.rfl kf)))
   λe=>(Fd.1 _ _ ((ml av e fs).symm.trans hm)).imp λu w=>⟨(if_neg λq=>e (inj _ _ ((ml av e fs).symm.trans hm) q)).trans w.1,w.2.mono cf.rfl kf⟩,
  λy u hy=>(AW (y=NM k)).elim (λe=>(mc k av (agg k av fs) e.symm)) λe=>(Fd.2 _ _ ((if_neg e).symm.trans hy)).imp λm w=>w.imp λa w=>⟨(ml av (λq=>e (w.2.symm.trans (q▸rfl))) fs).trans w.1,w.2⟩⟩
section
variable{z:Zx}(K:d8 z)
include K
theorem ag1{p:Pt z ρ}{x v:xP}{a av:AV}{k:Nat}{Kt:EV->AH->Prop}{E:xP->xM->Prop}(hx:VR p.W p.h a x)(y:VR p.W p.h av v)(h:uo z.G k av p.H (λH'=>Kt ρ H') a):
  xY z.M z.A (setAttr x (z.P.NM k) v) (λU=>fY p Kt) E p.s:=by
 revert z ρ x v a av k Kt E;apply e1;intro U;apply(?Z:Tq U);intro z;intros;induction h with
 | @mk i Ci fs e hf hl q0=>
  refine hx.bG λw hp=>n8.rec (λhg dx mA ha I Fd hfl=>qN.rec (λN mN cl n1 n2 n3 n4=>rO.rec (λnm q' bs sn sub col dd k0 k1 k2 k3 k5 hC=>?_) (s8 (cl.keeps p.C.bq))) (K.sig.fld _ k (K.sig.qi _ _ hf))) (p.C.or hp e);have hxC:w.a≠_:=λq=>rO.rec (λU U U U U U U U U U U U hC0=>nomatch (p.C.hr.mT w.a (Own.at hp)).1.symm.trans ((congrArg z.P.hS.get? q).trans hC0)) (s8 cl);have has:∀b,w.has b->b=w.a\/b=dx:=λb hb=>hb.imp id λhb=>xV.mp (ha▸hb);refine store_attr (h:=p.s.heap) (g:=p.s.gens) (os:=p.s.os) PySem.F.store_object hC (cl.keeps p.C.bq).ns n3 n1 n4 hxC I.inst (ns:=fs.map λp=>z.P.NM p.1) (λh' tk' I' hk hsame=>?_) (λy hy=>?_) ((xJ (as:=fs) _).symm▸xH (ya hl) (show 1000<=Bb by decide))
  ·have I2:=I.up I' hsame
   have kp:∀b o,p.h.get? b=J o->¬w.has b->h'.get? b=J o:=λb o e' nb=>hk b o (λq=>nb (.inl q)) (λO4 dx' e0 d0 q=>nb (.inr (ha.symm▸xV.mpr (I.obj.elim λox w=>xT ((q▸d0).symm.trans (xT (w.1.symm.trans e0)▸w.2.2.1)))))) e';have kf:aX p.h h':=λb o e' f=>kp b o e' λhb=>(p.C.hr.mT b ⟨w,ye hp,hb⟩).2.elim λo' q=>q.2 (xT (q.1.symm.trans e')▸f);have Jx:=p.C.upd (s':={p.s with heap:=h',toks:=tk'}) (ao':=.inst _ (sN k av _)) hp kp (λU U e U=>e) rfl p.C.bare (λb hb=>I2.nf (has b hb)) (λgg hgg=>nomatch (hg▸hgg:gg∈[])) ⟨hg,dx,_,ha,I2,
    K.sig.vL.elim λU i=>Fd.put y kf λn a hm=>i.inj _ _ (i.fld _ _ (hfl _ _ hm)) (i.fld _ _ (K.sig.qi _ _ hf)),
    λm a hm=>(AW (m=k)).elim (λe=>e▸K.sig.qi _ _ hf) λe=>hfl m a ((ml av e _).symm.trans hm)⟩
   exact fY.mk (ρ':=ρ) ⟨_,_,_,Jx.1,FR.step K.ctx.iN p.R p.C Jx.2⟩ (Step.up Jx.2) (q0.get e)
  ·cases q:mA y with
   | none=>exact absurd q hy
   | some u=>exact gX (Fd.2 _ _ q) λm a w=>yg.mpr (aM (m,a) (aeA w.1) w.2)
theorem an4(ha:cZ z o a)(hi:cZ z x i):u0 z (.Subscript o x pos) (kR a i):=λ{ρ p av v Kt X} y h=>by
 rw[arm_assign_Subscript];refine aB.bind (aB.holding ((ha h).then λP0 ax xv le1 Y0 Q0=>aB.bind (aB.holding (aB.mono ((hi Q0).then (K:=λiv s=>aB z.r z.M z.A _ _ _ s) λP5 ai iv L1 Y1 Q1=>?_) (λU U x=>x) λU U x=>x.up le1.s))));refine aB.bind (aB.standAt (aB.bind (aB.holding (aB.of (yO (ag0 (E:=XS p X) (K.kF.le (yf (by decide) _)) P5.C (L1.vr Y0) Y1 ((le1.trans L1).vr y) Q1) (λU S9 h3=>gH ?_) λU U x=>x)))));exact NU.rec (λW5 H₃ Q2 C₃ Z0=>fY.mk (ρ':=ρ) ⟨W5,H₃,S9,C₃,FR.step K.ctx.iN P5.R P5.C Z0⟩ ((le1.trans L1).s.trans (Step.up Z0)) Q2) h3
theorem anJ(hk:z.T.vp.lookup m=J k)(ha:cZ z o a):u0 z (.Attribute o m pos) (aU a k):=λ{ρ p av v Kt X} y h=>by
 rw[arm_assign_Attribute,<-K.cH.nm _ _ hk];exact aB.bind (aB.holding ((ha h).then λP0 ax xv le1 Y0 Q0=>aB.bind (aB.standAt (aB.bind (aB.holding (aB.of (yO (ag1 K Y0 (le1.vr y) Q0) (λU U x=>gH (x.up le1.s)) λU U x=>x)))))))
omit K in
theorem lN.get{G:AV->Prop}(h:lN x k)(f:∀vs,k vs->G (.tup vs)):G x:=by
 cases x with
 | tup vs=>exact f vs h
 | _=>exact yX h
theorem amE{pos:Pos}(hl:slotsOf z.T es=J l):u0 z (.Tuple es k pos) (fS l):=λ{ρ p av v Kt X} y h=>
 lN.get (G:=λav=>VR p.W p.h av v->aB z.r z.M z.A (C9 (.Tuple es k pos) z.env v) (λU=>fY p Kt) (XS p X) p.s) h (λvs h y=>aB.of (al0 K hl h y)) y
theorem al1(hg:∀e,cZ z e (g e)):u0 z tg (kC g z.T tg):=by
 revert z g tg;apply e1;intro U;apply(?Z:Tq U);intro z;intros;exact λ{ρ p av v Kt X} y h=>dc.kh h λs U h=>by
  induction s with
  | name x pos=>exact dc.kh h λi U h=>cQ.kh h λhm h=>aB.of (Cv (fZ K hm y λp' le eH U=>⟨p',le,eH▸h⟩))
  | tup es k pos=>exact dc.kh h λl hl h=>cQ.kh h λU h=>amE K hl y h
  | attr o m pos=>exact dc.kh h λk hk h=>anJ K hk (hg o) y h
  | sub o x pos=>exact dc.kh h λU U h=>cQ.kh h λU h=>an4 K (hg o) (hg x) y h
  | _=>exact yX h
end
section
variable{M:Model}{A:yS}{E:xP->xM->Prop}{s:xM}
theorem ajP{base:yJ}{env:BX}{L e:yk}
  (hfr:A.frames=J (env::outer)) (hl:s.heap.FunFrames base (env::outer)) (hf:env.frame=J L)
  (he:s.heap.get? e=J oe) (hd:oe.data= .fields vs) (hsz:1<vs.size)
  (h:∀h' T,s.heap.get? T=Jw->T≠e->(∃oe',h'.get? e=J oe'/\oe'.cls=oe.cls/\oe'.data= .fields (vs.setIfInBounds 1 (.ref T)))->(∃oT ts,h'.get? T=J oT/\oT.cls= .type "traceback"/\oT.data= .fields ts/\ts[3]? =J (Bz L))->
   (∀b o,b≠e->s.heap.get? b=J o->∃sl,h'.get? b=J {o with slots:=sl}/\(b∉(env::outer).filterMap (·.frame)->sl=o.slots))->Q () {s with heap:=h'}):
  xY M A (do let a<-frameOf env;let pl<-entryPlaceOf L hadNext;let b<-EF head a .none (Bz L) .none pl;setField (.ref e) 1 b) Q E s:=by
 have hene:e∉(env::outer).filterMap (·.frame):=λhm=>by
  obtain ⟨_,o,ho,hnf⟩:=hl.mem hm;rw[he] at ho;injection ho with ho;subst ho;exact hnf vs hd
 refine xI (wpAny_frameOf_fun hfr hl hf λh₁ hs1=>?_);refine xI (wpAny_entryPlaceOf λpl hpl=>?_);unfold EF I5;refine xI (zG ?_ (hpl.sizeOk5 _ _ _ _ _));have he₁:=(hs1.2.1 e hene).trans he;generalize hob:({cls:=.type "traceback",dict:=Jw,data:=.fields ([head,.ref L,.none,Bz L,.none]++(if pl.isEmpty then yr 6 zK else pl)).toArray}:Obj)=ob;have hfr':ob.isFreed=false:=by exact Ql hob rfl
 have he₂:=xW (h:=h₁) ob he₁;refine Ej he₂ hd hsz ?_;have hTe:=zH (zb he₁);have hd₃:=DW hd (·.setIfInBounds 1 (y0 h₁.objs.size));have he3:=Ad (Aq (·.setIfInBounds 1 (y0 h₁.objs.size))) he₂ (Fb hd₃);have hT3:=(BU (h₁.push ob) (Aq (·.setIfInBounds 1 (y0 h₁.objs.size))) (DT hTe)).trans (yC h₁ hfr');have hnew:s.heap.get? h₁.objs.size=Jw:=by
  cases q:s.heap.get? h₁.objs.size with
  | none=>rfl
  | some o=>exact absurd (hs1.1▸zb q) (zU _)
 refine h _ h₁.objs.size hnew hTe (bJ _ he3 (Gi _ _) hd₃) (mZ ob _ hT3 (by exact Ql hob rfl) (by exact Ql hob rfl) ?_) λb o hbe hb=>?_
 ·first | (simp;done) | (rcases hpl with rfl | ⟨_,_,_,_,_,_,_,rfl⟩ <;> simp)
 ·obtain ⟨sl,hs⟩:=hs1.2.2 b o hb
  refine (aM sl ?_ (λhn=>?_))
  ·rw[BU _ _ (DT hbe)]
   exact xW _ hs
  ·have:=(hs1.2.1 b hn).trans hb
   rw[this] at hs;exact (congrArg Obj.slots (xT hs)).symm
end
section
variable{P:cy}{fl:List BX}{W:WD}{H:AH}{s s':xM}{F:Fx}{ρ:EV}
abbrev qJ(fl:List BX)(own:yk->Prop)(h h':yJ):Prop:=∀b o,¬own b->h.get? b=J o->∃sl,h'.get? b=J {o with slots:=sl}/\(¬cD fl b->sl=o.slots)
theorem Cx.slots(C:Cx P fl W H s){own:yk->Prop}(h1:∀b,own b->¬Own W b)(h2:∀b,own b->P.hS.get? b=Jw)(h3:∀b,own b->¬cD fl b)(h4:∀b o,own b->s.heap.get? b=J o->¬bp o)
  (k:qJ fl own s.heap s'.heap) (g:s'.gens=s.gens):Cx P fl W H s':=
 have kk:∀b o,¬own b->¬cD fl b->s.heap.get? b=J o->s'.heap.get? b=J o:=λb o n1 n2 e=>(k b o n1 e).elim λsl w=>w.1.trans (congrArg (λsl=>J {o with slots:=sl}) (w.2 n2));have st:P.hS.StaysIn s'.heap:=λb o e=>kk b o (λh=>nomatch (h2 b h).symm.trans e) (λh=>FE.rec (λU U U n U U=>nomatch n.symm.trans e) (C.ff.at h)) (C.bq b o e)
 ⟨st,C.hr.keep P.pH (λb o hb e=>kk b o (λh=>h1 b h hb) (λh=>C.fo b h hb) e) (λb o e f=>kk b o (λh=>h4 b o h e f) (λh=>C.rz b o e h f) e) (λU U U e=>g▸e) st,C.ff.mono λb o e f=>(k b o (λh=>h3 b h f) e).elim λU w=>(aM _ w.1 rfl),C.fo,g▸C.bare⟩
theorem Step.slots{own own0:yk->Prop}(st:Step own0 (cD fl) W0 s0 W s)(hn:∀b,own b->s0.heap.get? b=Jw)
  (k:qJ fl own s.heap s'.heap) (g:s'.gens=s.gens) (os:s'.os=s.os):Step own0 (cD fl) W0 s0 W s':=
 have nn:∀b o,s0.heap.get? b=J o->¬own b:=λb o e h=>nomatch (hn b h).symm.trans e
 ⟨st.pre,λb o e=>(st.there b o e).elim λo1 e1=>(k b o1 (nn b o e) e1).elim λsl w=>⟨_,w.1⟩,
  λb o e n1 n2=>(st.keep b o e n1 n2).elim λsl w=>(k b _ (nn b o e) w.1).imp λsl' w'=>⟨w'.1,λh=>(w'.2 h).trans (w.2 h)⟩,st.fresh,λx y e=>g▸st.gj x y e,λx y e n=>g▸st.mX x y e n,st.iM,os.trans st.os⟩
theorem FR.slots(FO:wz F)(R:FR P.hS F W s.heap ρ){own:yk->Prop}(ho:∀b,own b->¬F.own b)(kf:aX s.heap s'.heap)(k:qJ fl own s.heap s'.heap):FR P.hS F W s'.heap ρ:=
 ⟨vh.rec (λm hn hv=>⟨m,iH hn λo e=>(k _ o (λh=>ho _ h FO.tN) e).imp λU w=>w.1,λx i av a b c=>(hv x i av a b c).imp λv w=>⟨w.1,w.2.mono cf.rfl kf⟩⟩) R.ns,
  λx i c a b d=>kI.rec (λo u e d' q=>(k c o (λh=>ho _ h (FO.tO _ _ _ a b d)) e).elim λU w=>⟨_,u,w.1,d',λav z=>(q av z).imp λv w=>⟨w.1,w.2.mono cf.rfl kf⟩⟩) (R.cs x i c a b d),
  R.un,R.len,R.no,λb hb=>(R.al b hb).elim λo w=>(k b o (λh=>ho _ h hb) w.1).elim λU w'=>(aM _ w'.1 w.2)⟩
end
theorem alp(c:o.cls= .type "traceback"):¬bp o:=bp.not (λe=>absurd (c.symm.trans e) (by decide)) λe=>absurd (c.symm.trans e) (by decide)
structure Top(z:Zx):Prop where
 fr:(∃C,z.P.exc C)->z.A.frames=J z.fl
 top:(∃C,z.P.exc C)->∃outer,z.fl=z.env::outer
 frame:∃L,z.env.frame=J L
section
variable{z:Zx}{ρ ρ':EV}
theorem Pt.ajD(p:Pt z ρ){W:WD}(h:p.h.get? b=Jw)(nO:¬Own W b):iy z W b:=⟨nO,(p.free h).nS,(p.free h).nF,(p.free h).nM⟩
noncomputable def Pt.slots(K:d8 z)(p:Pt z ρ)(own:yk->Prop)(f:∀b,own b->iy z p.W b)(nf:∀b o,own b->p.h.get? b=J o->¬bp o)(s':xM)
  (k:qJ z.fl own p.h s'.heap) (g:s'.gens=p.s.gens):Pt z ρ:=
 ⟨p.W,p.H,s',p.C.slots (λb h=>(f b h).nO) (λb h=>(f b h).nS) (λb h=>(f b h).nF) nf k g,p.R.slots K.ctx.iN (own:=own) (λb h=>(f b h).nM) (λb o e fz=>
  (k b o (λh=>nf b o h e fz) e).elim λsl w=>w.1.trans (congrArg (λsl=>J {o with slots:=sl}) (w.2 λh=>p.C.rz b o e h fz))) k⟩
variable(K:d8 z){p:Pt z ρ}{p':Pt z ρ'}{E:xP->xM->Prop}{Q:Unit->xM->Prop}{a C:yk}
include K
omit K in
theorem iw.nf{T:yk}{oT:Obj}{h:yJ}(ho:h.get? T=J oT)(hc:oT.cls= .type "traceback"):∀o,h.get? T=J o->¬bp o:=λo e=>xT (ho.symm.trans e)▸alp hc
omit K in
theorem nX{vs:Array xP}(h:vs[i]? =J v):i<vs.size:=(Cg.mp h).1
omit K in
theorem sr.size{env:BX}{s0:xM}{h:yJ}{f:wy}(r:sr env s0 W h a vs f):1<vs.size:=by
 cases f with
 | new=>exact nX r
 | out=>exact iw.rec (λU U U e U U U U U U U=>nX e) r
 | held=>exact r.elim λU r=>iw.rec (λU U U e U U U U U U U=>nX e) r.2
omit K in
theorem af9{vs:Array xP}(h:i<vs.size):(vs.setIfInBounds i v)[i]? =J v:=Cd h
theorem aiT(tp:Top z)(hx:z.P.exc C)(le:iV p p'){oe:Obj}{vs:Array xP}(n0:p.s.heap.get? a=Jw)(nO:¬Own p'.W a)(hc:oe.cls= .ref C)(hd:oe.data= .fields vs)(sz:1<vs.size){L:yk}(hL:z.env.frame=J L)
  (k:∀p'':Pt z ρ',iV p p''->p''.H=p'.H->eX z.env p.s p''.W p''.h a C .held->Q () p''.s) (s1) (own:yk->Prop) (head:xP) (hn:Bool) (o1:∀b,own b->p.h.get? b=Jw/\¬Own p'.W b) (o2:∀b o,own b->p'.h.get? b=J o->¬bp o) (oa:own a)
  (g:s1.gens=p'.s.gens) (os:s1.os=p'.s.os) (kk0:∀b o,¬own b->p'.h.get? b=J o->s1.heap.get? b=J o) (ea:s1.heap.get? a=J oe):
  xY z.M z.A (do let a₁<-frameOf z.env;let pl<-entryPlaceOf L hn;let b<-EF head a₁ .none (Bz L) .none pl;setField (.ref a) 1 b) Q E s1:=by
 refine (tp.top ⟨C,hx⟩).elim λouter hfl=>?_;have fsm:∀b,¬cD z.fl b->b∉(z.env::outer).filterMap (·.frame):=λb n h=>n (List.mem_filterMap.mp (hfl.symm▸h));have fo:∀b,own b->iy z p'.W b:=λb h=>p.ajD (o1 b h).1 (o1 b h).2;have C1:Cx z.P z.fl p'.W p'.H s1:=(p'.slots K own fo o2 s1 (λb o n e=>(aM o.slots (kk0 b o n e) (λU=>rfl))) g).C;refine ajP (hfl▸tp.fr ⟨C,hx⟩) (hfl▸C1.ff.fun) hL ea hd sz λh' T hT hTa he' hT' kk=>?_;have kk':qJ z.fl own p'.h h':=λb o n1 e=>(kk b o (λq=>n1 (q▸oa)) (kk0 b o n1 e)).imp λsl q=>⟨q.1,λh=>q.2 (fsm b h)⟩
 refine he'.elim λoe' e=>gX hT' λoT ts q=>k (p'.slots K own fo o2 {s1 with heap:=h'} kk' g) (Step.slots (s':={s1 with heap:=h'}) le (λb h=>(o1 b h).1) kk' g os) rfl
  ⟨n0,nO,oe',_,e.1,e.2.1.trans hc,e.2.2,L,hL,T,oT,ts,af9 sz,?_,λw=>(C1.hr.mT T w).2.elim λU w=>(nomatch hT.symm.trans w.1),hTa,q.1,q.2.1,q.2.2.1,q.2.2.2⟩
 cases w:p.s.heap.get? T with
 | none=>rfl
 | some o=>exact (le.there T o w).elim λo' e'=>(AW (own T)).elim (λh=>nomatch (o1 T h).1.symm.trans w) λh=>nomatch hT.symm.trans (kk0 T o' h e')
omit K in
theorem mO{T:yk}:(y0 T !=zK)=true:=rfl
theorem pv{f:wy}(tp:Top z)(hx:z.P.exc C)(le:iV p p')(nt:eX z.env p.s p'.W p'.h a C f)(k:∀p'':Pt z ρ',iV p p''->p''.H=p'.H->eX z.env p.s p''.W p''.h a C .held->Q () p''.s):
  xY z.M z.A (DG (.ref a) z.env) Q E p'.s:=by
 revert z ρ ρ' E Q a C f;apply e3;intro U;apply(?Z:Tq U);intro z ρ ρ';intros;refine tp.frame.elim λL hL=>?_;have nt':=nt;refine eX.rec (λn0 nO oe vs h3 h4 h5 r=>?_) nt';have nfa:∀o,p'.h.get? a=J o->¬bp o:=λo e=>xT (h3.symm.trans e)▸kj h4;have fin:=aiT K (E:=E) tp hx le n0 nO h4 h5 r.size hL k;unfold DG;simp only[hL];cases f with
 | new=>
  refine xI (Bj h3 h5 r ?_);exact Z (if_neg (by decide)) (fin p'.s (λb=>b=a) _ _ (λb h=>h▸⟨n0,nO⟩) (λb o h e=>nfa o (h▸e)) rfl rfl rfl (λU U U e=>e) h3)
 | out=>
  refine iw.rec (λT oT ts r1 r2 r3 r4 r5 r6 r7 r8=>?_) r;refine xI (Bj h3 h5 r1 ?_);refine Z (if_pos mO) ?_;refine xI (Bj r5 r7 r8 ?_);refine Z (if_neg (show ¬((zK==Bz L)=true) from (λh=>by cases h))) ?_;refine xI (Ej r5 r7 (nX r8) ?_);have other:∀b,b≠T->(p'.h.update T (Aq (·.setIfInBounds 3 zK))).get? b=p'.h.get? b:=λb hb=>BU _ _ (DT hb);exact fin {p'.s with heap:=p'.h.update T (Aq (·.setIfInBounds 3 zK))} (λb=>b=a\/b=T) _ _ (λb h=>h.elim (λh=>h▸⟨n0,nO⟩) λh=>h▸⟨r2,r3⟩) (λb o h e=>h.elim (λh=>nfa o (h▸e)) λh=>iw.nf r5 r6 o (h▸e))
   (.inl rfl) rfl rfl (λb o h e=>(other b λq=>h (.inr q)).trans e) ((other a (DT r4)).trans h3)
 | held=>
  refine r.elim λL' r=>iw.rec (λT oT ts r1 r2 r3 r4 r5 r6 r7 r8=>?_) r.2;cases xT (hL.symm.trans r.1);refine xI (Bj h3 h5 r1 ?_);refine Z (if_pos mO) ?_;refine xI (Bj r5 r7 r8 ?_);exact Z (if_pos (show (Bz L==Bz L)=true from beq_self_eq_true _)) (xU (k p' le rfl nt))
theorem gN{A:yS}(le:iV p p')(nt:eX z.env p.s p'.W p'.h a C f)(hf:f≠.new){m:Option yk}{f':wy}(hm:∀{W:WD} {h:yJ} {vs:Array xP},iw p.s W h a vs (m.elim .none λf=>Bz f)->sr z.env p.s W h a vs f')
  (k:∀p'':Pt z ρ',iV p p''->p''.H=p'.H->eX z.env p.s p''.W p''.h a C f'->Q () p''.s):
  xY z.M A (setFlight (.ref a) m) Q E p'.s:=by
 refine eX.rec (λn0 nO oe vs h3 h4 h5 r=>?_) nt;have ⟨y,r⟩:∃y,iw p.s p'.W p'.h a vs y:=(match f,hf,r with
  | .new,hf,_=>absurd rfl hf
  | .out,_,r=>⟨_,r⟩
  | .held,_,r=>r.elim λU r=>⟨_,r.2⟩)
 refine iw.rec (λT oT ts r1 r2 r3 r4 r5 r6 r7 r8=>?_) r;have sz:=nX r8;unfold setFlight;refine xI (Bj h3 h5 r1 ?_);refine Z (if_pos mO) ?_;refine Ej r5 r7 sz ?_;generalize hg:(Aq (·.setIfInBounds 3 (m.elim zK λf=>Bz f)))=g;have other:∀b,b≠T->(p'.h.update T g).get? b=p'.h.get? b:=λb hb=>BU _ _ (DT hb);have hd:(g oT).data= .fields (ts.setIfInBounds 3 (m.elim zK λf=>Bz f)):=by exact Ql hg (DW r7 _)
 have hc:(g oT).cls= .type "traceback":=by exact Ql hg ((Gi _ _).trans r6)
 have hT:=Ad g r5 (Fb hd);have kk:∀b o,¬(b=T)->p'.h.get? b=J o->∃sl,(p'.h.update T g).get? b=J {o with slots:=sl}/\(¬cD z.fl b->sl=o.slots):=λb o h e=>(aM o.slots ((other b h).trans e) (λU=>rfl))
 exact k (p'.slots K (λb=>b=T) (λb h=>h▸p.ajD r2 r3) (λb o h e=>iw.nf r5 r6 o (h▸e)) {p'.s with heap:=p'.h.update T g} kk rfl) (Step.slots (s':={p'.s with heap:=p'.h.update T g}) (own:=λb=>b=T) le (λb h=>h▸r2) kk rfl rfl) rfl
  ⟨n0,nO,oe,vs,(other a (DT r4)).trans h3,h4,h5,hm ⟨T,_,_,r1,r2,r3,r4,hT,hc,hd,af9 sz⟩⟩
theorem XS.passes(tp:Top z){e:xP}{s:xM}(x:XS p X e s):DK z.M z.A z.env (Fm z.M z.A z.env (XS p X)) e s:=by
 revert z ρ X e s;apply e2;intro U;apply(?Z:Tq U);intro z ρ;intros;refine XS.rec (λp' C a f x le nt=>tp.frame.elim λL hL=>pv K tp x.1 le nt λP0 le1 eH nt1=>?_) x;have nt2:=nt1;refine eX.rec (λU U oe vs h3 U h5 r=>r.elim λU r=>iw.rec (λT oT ts r1 U U U U U U U=>?_) r.2) nt2;refine xI (Bj h3 h5 r1 ?_);exact Z (if_neg (show ¬((y0 T==zK)=true) from (λh=>by cases h))) (gN K (m:=z.env.frame) (f':=.held) le1 nt1 (λh=>by cases h) (λr=>⟨L,hL,(hL▸r:iw _ _ _ _ _ ((J L).elim .none λf=>Bz f))⟩) λP5 L1 eH₂ nt2=>XS.mk P5 C a .held (eH₂▸eH▸x) L1 nt2)
theorem XS.anc(tp:Top z){e:xP}{s:xM}(x:XS p X e s)(hQ:∀{ρ'} (p':Pt z ρ') C a,(z.P.exc C/\X C p'.H)->e= .ref a->iV p p'->eX z.env p.s p'.W p'.h a C .out->Q () p'.s):xY z.M z.A (HO z.env e) Q E s:=by
 induction x with | mk p' C a f x le nt=>
 unfold HO;exact xI (pv K tp x.1 le nt λP0 le1 eH nt1=>gN K (m:=Jw) (f':=.out) le1 nt1 nofun (λr=>r) λP5 L1 eH₂ nt2=>hQ P5 C a (eH₂▸eH▸x) rfl L1 nt2)
end
inductive qM(P:cy)(fl:List BX)(W:WD)(s:xM)(a:Nat)(Qa:Option (AV×Nat×List AV)->AH->Prop):Option xP->xM->Prop
 | done(W':WD)(H':AH)(s':xM):Qa Jw H'->Cx P fl W' (H'.set a (.gen 0 [])) s'->bT fl W s W' s'->qM P fl W s a Qa Jw s'
 | item(W':WD)(H':AH)(s':xM)(u:xP)(av:AV)(k':Nat)(vs':List AV):Qa (J (av,k',vs')) H'->VR W' s'.heap av u->Cx P fl W' (H'.set a (.gen k' vs')) s'->bT fl W s W' s'->qM P fl W s a Qa (J u) s'
structure eY(P:cy)(n:Nat)(G:fW):Prop where
 iter:∀{A:yS} {fl:List BX} {W:WD} {H:AH} {s:xM} {a k:Nat} {vs:List AV} {v:xP} {Q:xP->xM->Prop} {E:xP->xM->Prop},Cx P fl W H s->VR W s.heap (.ref a) v->H[a]? =J (.gen k vs)->Q v s->xY P.M A (El v) Q E s
 cls:∀{fl:List BX} {W:WD} {H:AH} {s:xM} {a k:Nat} {vs:List AV} {p:WE},Cx P fl W H s->W[a]? =J p->H[a]? =J (.gen k vs)->qe s.heap p.a
 next:∀{A:yS} {fl:List BX} {W:WD} {H:AH} {s:xM} {a k:Nat} {vs:List AV} {v:xP} {Qa:Option (AV×Nat×List AV)->AH->Prop} {E:xP->xM->Prop},gQ P A fl (20*n+5)->Cx P fl W H s->VR W s.heap (.ref a) v->H[a]? =J (.gen k vs)->
  (∀r H',Qa r H'->H'[a]? =J (.gen 3 []))->G.k6 k vs (H.set a (.gen 3 [])) Qa->xY P.M A (C7 v) (qM P fl W s a Qa) E s
section
variable{z:Zx}{ρ ρ':EV}{p:Pt z ρ}{Kf:KF}{X:XF}
theorem aom:uz z [] aA:=λh=>aB.of (DV ⟨_,.next,.rfl,oi.next,h⟩)
theorem anu{s:CM}(ha:lS z s a)(hb:uz z r b):uz z (s::r) (aq a b):=λh=>aeS ((ha h).mono (λf U h=>by
 cases h with | mk p' l le rl q=>
 induction rl with
 | next=>exact Es.up le (hb q)
 | cont=>exact ⟨p',.cont,le,.cont,q⟩
 | brk=>exact ⟨p',.brk,le,.brk,q⟩
 | ret y=>exact ⟨p',.ret _,le,.ret y,q⟩) λU U x=>x)
theorem pP(hg:∀s,lS z s (g s)):∀l,uz z l (lQ g l)
 | []=>aom
 | s::r=>anu (hg s) (pP hg r)
theorem adS(s:b9 x)(h:(!s.tX)=true)(t)(l)(env):swapsWith x t l env=pure false:=by
 induction s with
 | lc=>cases h
 | _=>rfl
theorem aeH{env:BX}(h:env.scope.kind= .function):Hy env=false:=by
 unfold Hy;exact Z h rfl
theorem pass_S:lS z (.Pass pos) aA:=λh=>Es.standAt (Es.nx h)
theorem amV:lS z (.Return Jw pos) (aW (af .none)):=λh=>aB.of (wpAny_Return_none ⟨_,.ret .none,.rfl,.ret VR.none,h⟩)
theorem an8(ha:cZ z x a):lS z (.Return (J x) pos) (aW a):=λh=>akf ((ha h).then λp' a v le y q=>⟨p',.ret a,le.s,.ret y,q⟩)
theorem ano(K:d8 z){x:yF}{pos:Pos}(ha:cZ z x a):lS z (.Expr x pos) (dc fa (shape x) λs=>cQ fa (!s.tX) (aV a)):=λh=>dc.jH h λs U h=>cQ.jH h λe h=>
 anO ((ha h).then λp' a v le y q=>⟨p',.next,le.s,.next,q⟩) (aeH K.ctx.iN.kind) (adS s e _ _ _)
theorem aoG{c:PT Bool}(hc:qV z x c)(ht:uz z bd t)(hf:uz z oe f):lS z (.If x bd oe pos) (bh c t f):=λh=>apy ((hc h).then λp' b v le y q=>by
 subst y;induction q with
 | t q=>exact Es.up le.s (ht q)
 | f q=>exact Es.up le.s (hf q))
theorem pd(ht:u0 z tg t)(ha:cZ z x a)(h1:Ck [tg] x pos.line z.env=pure false)(h2:Cm [tg] x z.env=pure Jw)(h3:(C8 [tg] z.env).map (·.2)=[C9 tg z.env]):lS z (.Assign [tg] x pos) (ak t a):=λ{ρ p Kf X} h=>by
 show Es p (exec (.Assign [tg] x pos) z.env) Kf X;refine Z (Fz _ _ _) (Z h1 (Z h2 (Z h3 ?_)));refine Es.standAt (aB.bind (aB.pure ?_));refine Z (if_neg x8) ?_;refine Ev.ue (ha h) λP0 av v le y q=>aB.bind (aB.pure ?_);show aB _ _ _ (C9 tg z.env v>>=λU=>BF Fw) _ _ _;exact aB.bind ((ht y q).mono (λU U h=>fY.rec (λP5 L1 Q1=>aB.pure ⟨P5,.next,L1,oi.next,Q1⟩) h) λU U x=>x)
noncomputable def Pt.tok(p:Pt z ρ)(t:Nat):Pt z ρ:=⟨p.W,p.H,{p.s with toks:=t},p.C.tok t,p.R⟩
theorem Le.tok:Le p (p.tok t):=Step.grow (λU U e=>e) (Et _) (Et _)
theorem ao5(K:d8 z){x:ze}{np pos:Pos}{y:yF}{a:PT AV}(ha:cZ z y a):lS z (.AugAssign (.Name x np) .Add y pos) (dc fa (z.T.slots.lookup x) λi=>cQ fa (z.T.gK x i) (sH i a)):=by
 exact λ{ρ p Kf X} h=>
  dc.jH h λi hs h=>cQ.jH h λhm h=>by
   obtain ⟨v,e,h⟩:=kX.get h;rw[arm_exec_AugAssign];refine Es.standAt (aB.bind (aB.of (ala K hs e λcv yc=>?_)));refine cO.elim h yc λc t h=>Ev.ue (Ev.holding (ha h)) λP0 av u le Y0 Q0=>Es.standAt ?_;refine cO.elim Q0 Y0 λb t' q=>?_;exact aB.bind (aB.operate (aB.of (PySem.AutoIntOps.iadd_0 (aB.bind (aB.standAt (aB.bind (aB.of (wpAny_bindName (fZ K (p:=P0.tok (P0.s.toks+1)) hm (.int _ _) λP8 L2 eH U=>aB.pure ⟨P8,.next,Le.tok.s.trans L2,.next,eH▸q⟩)))))))))
end
noncomputable def mJ(f:yF->Bool)(g:BX->Nat->yF->Option ze)(ts vs:List yF)(env:BX):Sem (Option (List ze)):=do
 if !(ts.length==2||ts.length==3)||vs.length !=ts.length||env.blockKind != .function then return Jw
 if vs.any f then return Jw
 let line:=(ts.head?.map (·.pos.line)).getD 0
 let names:=ts.filterMap (g env line)
 if names.length !=ts.length||names.eraseDups.length !=names.length then return Jw
 if vs.all (DL 8) then return Jw
 if vs.all (constantsAlone 8) then Hx "assign.tuple-of-constant-expressions:order-of-the-stores"
 return J names
noncomputable def agz(e:yF):Bool:=swappedStores.match_5 (λU=>Bool) e (λU U=>true) λU=>false
noncomputable def an2(env:BX)(line:Nat)(e:yF):Option ze:=swappedStores.match_8 (λU=>Option ze) e (λx np=>if (env.kindOf x==J .local&&np.line==line)=true then J x else Jw) λU=>Jw
theorem swap_eq(ts vs)(k k2)(pos p2)(env):Cm [.Tuple ts k pos] (.Tuple vs k2 p2) env=mJ agz an2 ts vs env:=rfl
theorem b9.ak0{e:yF}(s:b9 e):agz e=false:=by induction s <;> rfl
theorem agZ{env:BX}(h:vs.all (DL 8)=true):Cm [.Tuple ts k pos] (.Tuple vs k2 p2) env=pure Jw:=by
 rw[swap_eq];unfold mJ;refine Z h ?_;split
 ·rfl
 split
 ·rfl
 dsimp only;split
 ·rfl
 ·rfl
theorem adE{l:List α}(h:∀x∈l,f x=g x):l.filterMap f=l.filterMap g:=by
 induction l with
 | nil=>rfl
 | cons a r ih=>exact Z FD (Z FD (Z (h a (.head _)) (Z (ih λx hx=>h x (.tail _ hx)) rfl)))
theorem adU{e:yF}(h:(qZ sc l e).isSome=true):∃x np,e= .Name x np:=by
 revert sc l e;apply e3;intro U;apply(?Z:Tq U);intro sc l e;intros;unfold qZ at h;cases q:pU e with
 | none=>have h:=q▸h;cases h
 | some s=>exact (jj _ _ s.2)
theorem agY{T:CT}{ts vs:List yF}{k k2:Nat}{pos p2:Pos}{env:BX}(hb:env.blockKind= .function)(he:env.scope=T.scope)(h:j3 T ts vs=true)(hf:vs.all (DL 8)=false):Cm [.Tuple ts k pos] (.Tuple vs k2 p2) env=pure (J (c7 T.scope ts)):=by
 revert T ts vs k k2 pos p2 env;apply e8;intro U;apply(?Z:Tq U);intro T ts vs k k2 pos p2 env;intros;simp only[j3,Am,beq_iff_eq,AX] at h;refine Qc λU u6=>h.elim λv6 h6=>v6.elim λy6 h5=>y6.elim λz6 h4=>z6.elim λu7 h3=>u7.elim λh1 h2=>u6 ?_;have hv:=AS.mpr λx hx=>(noStar.tj (yx.mp h3 x hx)).elim λs=>ne_true_of_eq_false s.ak0;have hn:ts.filterMap (an2 env ((ts.head?.map (·.pos.line)).getD 0))=c7 T.scope ts:=adE λx hx=>by
  obtain ⟨y,np,rfl⟩:=adU (List.filterMap_length_eq_length.mp h4 x hx);show (if (env.scope.names.lookup y==_&&_)=true then _ else _)=_;exact Z he rfl
 have h45:((c7 T.scope ts).length !=ts.length||(c7 T.scope ts).eraseDups.length !=(c7 T.scope ts).length)=false:=by
  exact Z h4 (Z h5 (Z h4 (Z (bne_self_eq_false _) (Z (Ei _) rfl))))
 rw[swap_eq];unfold mJ;dsimp only;exact Z h1 (Z h2 (Z hb (Z hv (Z hn (Z hf (Z h6 (Z h45 (Z (bne_self_eq_false _) rfl))))))))
section
variable{z:Zx}{ρ:EV}
inductive w9(T:CT)(x:ze)(r:List ze):List Nat->Prop
 | mk(i:Nat)(l:List Nat)(hm:T.gK x i=true)(hl:jz T r=J l):w9 T x r (i::l)
theorem abj{T:CT}(h:jz T (x::r)=J l):w9 T x r l:=by
 refine aO (zw.mp h) λi U h=>?_;cases hm:T.gK x i with
 | false=>have h:=hm▸h;cases h
 | true=>
  have h:=hm▸h;refine aO (yh.mp h) λl' hl' e'=>?_;exact e'▸⟨i,l',hm,hl'⟩
theorem agQ(K:d8 z):∀{us:List ze} {l:List Nat} {vs:List AV} {ws:List xP} {ρ} {p:Pt z ρ},jz z.T us=J l->iF (putAll l vs ρ) (λρ'=>Kt ρ' p.H)->bS p.W p.h vs ws->
  xY z.M z.A (Cp (us.map λn=>Ij z.env n) ws) (λU s'=>fY p Kt s') E p.s
 | [],l,vs,ws,ρ,p,he,hp,y=>by
  refine Qc λU u6=>?_;cases he;refine u6 ?_;cases vs with
  | nil=>exact bZ.ro (G:=λws=>xY z.M z.A (Cp (([]:List ze).map λn=>Ij z.env n) ws) (λU s'=>fY p Kt s') E p.s) y (xU ⟨p,.rfl,hp⟩)
  | cons _ _=>exact yX hp
 | x::r,l,vs,ws,ρ,p,he,hp,y=>w9.rec (motive:=λl U=>iF (putAll l vs ρ) (λρ'=>Kt ρ' p.H)->xY z.M z.A (Cp ((x::r).map λn=>Ij z.env n) ws) (λU s'=>fY p Kt s') E p.s) (λi l' hm hl' hp=>by
   cases vs with
   | nil=>exact yX hp
   | cons v vs=>
    exact bZ.nE (G:=λws=>xY z.M z.A (Cp ((x::r).map λn=>Ij z.env n) ws) (λU s'=>fY p Kt s') E p.s) y λU U y ys=>
     xI (zZ (wpAny_bindName (fZ K hm y λp' le eH eW=>
      yO (agQ K (p:=p') hl' (eH▸hp) (bS.mono le.pre (le.mY K) ys)) (λU U x=>x.up le) λU U x=>x)))) (abj he) hp
theorem bS.rev{h:yJ}(y:bS W h as vs):bS W h as.reverse vs.reverse:=by
 induction y with
 | nil=>exact .nil
 | cons x _ ih=>exact Z Jp (Z Jp (bZ.append ih (.cons x .nil)))
theorem abU{T:CT}:∀{us:List ze} {l:List Nat},jz T us=J l->us.length=l.length
 | [],l,h=>by cases h;rfl
 | x::r,l,h=>w9.rec (motive:=λl U=>(x::r).length=l.length) (λi l' hm hl'=>congrArg (· +1) (abU hl')) (abj h)
theorem amH(K:d8 z){ts vs:List yF}{k k2:Nat}{p1 p2 pos:Pos}{a:PT AV}(ha:cZ z (.Tuple vs k2 p2) a)(hs:j3 z.T ts vs=true)(hf:vs.all (DL 8)=false){l:List Nat}(hl:jz z.T (c7 z.T.scope ts).reverse=J l):
   lS z (.Assign [.Tuple ts k p1] (.Tuple vs k2 p2) pos) (ak (lK l) a):=by
 revert z ts vs k k2 p1 p2 pos a l;apply e1;intro U;apply(?Z:Tq U);intro z;intro K;apply e8;intro U;apply(?Y:Tq U);intro ts vs k k2 p1 p2 pos a;intros;exact λ{ρ p Kf X} h=>by
  show Es p (exec (.Assign [.Tuple ts k p1] (.Tuple vs k2 p2) pos) z.env) Kf X;have hb:z.env.blockKind= .function:=by unfold Env.blockKind;exact Z K.ctx.iN.kind rfl
  rw[Fz,agY hb K.ctx.scope hs hf,show Ck [.Tuple ts k p1] (.Tuple vs k2 p2) pos.line z.env=pure false from rfl];refine Es.standAt (aB.bind (aB.pure ?_));rw[if_neg x8];refine Ev.ue (ha h) λP0 av v le y q=>aB.bind (aB.pure ?_);show aB _ _ _ (rule "assign.swapped-stores">>=λU=>unpackItems v (c7 z.T.scope ts).length Jw>>=λitems=>Cp ((c7 z.T.scope ts).reverse.map λn=>Ij z.env n) items.reverse>>=λU=>BF Fw) _ _ _;refine lN.elim q y λas b ws q htu yv=>?_;have hlen:=IU.symm.trans ((abU hl).trans ((jC q).trans (IU.trans (yv.length.trans zC.symm))));rw[hlen];refine aB.of (xI (C6 (xI (unpackItems_tuple K.kF.handled htu λh' hb=>?_))));have kp:∀b o,P0.h.get? b=J o->h'.get? b=J o:=λb o e=>hb b o (zt (zb e)) e;exact xI (yO (agQ K (p:=P0.grow h' kp) hl q (bS.rev (yv.mono cf.rfl (aX.of_keeps kp)))) (λU U x=>fY.rec (λP5 L1 Q1=>xU ⟨P5,.next,Le.grow.s.trans L1,.next,Q1⟩) x) λU U x=>x)
theorem ajc(K:d8 z){y:ze}{py:Pos}{i:Nat}{x:yF}{gcp:EP}{sc:Dm}{pc pos:Pos}{rec:XE}(ih:xF rec)(hm:z.T.gK y i=true)
   (hsw:Ck [.Name y py] (.ListComp x [gcp] sc pc) pos.line z.env=pure true):lS z (.Assign [.Name y py] (.ListComp x [gcp] sc pc) pos) (ak (aK i) (jL z.T rec x gcp sc)):=by
 exact λ{ρ p Kf X} h=>by
  refine jL.get (M:=λgcp=>Ck [.Name y py] (.ListComp x [gcp] sc pc) pos.line z.env=pure true->Es p (exec (.Assign [.Name y py] (.ListComp x [gcp] sc pc) pos) z.env) Kf X) h (λtg iter ifs one ts ht O hs h hsw=>?_) hsw;refine Z (Fz _ _ _) (Z hsw ?_);refine Es.standAt (aB.bind (aB.pure ?_));refine Z (if_pos rfl) ?_;show aB _ _ _ ((comprehension (.ListComp x [⟨tg,iter,ifs,0⟩] sc pc) sc z.env _ (newList []) false (eval iter z.env) (J (C9 (.Name y py) z.env))>>=λU=>BF ())>>=λU=>BF Fw) _ _ _;refine aB.of (xI (xI (yO (aeW (z:=z.off) (g:=λe=>(rec (z.T.inComp sc ts) e).1) (gc:=λe=>(rec (z.T.inComp sc ts) e).2) (Kc:=λacc H₂=>bR (.list acc) H₂ λv H₃=>Kf .next (ρ.set i (J v)) H₃) (Qv:=λU s'=>GS p Kf .next s') K.off rfl O hs ht (ih _ K.off iter).1 (λC Ki e=>ih _ Ki e) (p:=p.off) (λU U x=>x.on) h λp' B D acc ws N q'=>?_) (λU s' q=>xU (xU q)) λU U q=>q)));refine tK (N.adopt K.off) λP5 e2 eH le y2 fB=>?_;show xY z.M z.A (C9 (.Name y py) z.env (.ref D)) _ _ p'.s;refine Ql e2 ?_;refine Cv (fZ K.off hm y2 λP8 L2 eH3 U=>?_);have hn:∃m,P5.s.heap.Ns B m:=by exact Z e2 N.ns
  refine hn.elim λm hn=>hn.elim λoB hn=>hn.elim λes hn=>hn.elim λep hn=>?_;have Jx:=fB.up K.off L2 ⟨oB,hn.1⟩;exact agt K.off Jx.1 ⟨m,oB,es,ep,Jx.2 _ hn.1,hn.2⟩ (Q:=λs=>GS p Kf .next s) λp'' h'' U eH2 eW kf st=>GS.mk (p:=p) p''.on .next (st N.oB (Step.trans (Step.up le) L2)) .next (by show Kf .next _ p''.H;exact Z eH2 (Z eH3 (Z eH q'.get)))
theorem lX.tj(h:lX tg=true):∃s:b9 tg,s.lX=true:=match q:shape tg with
 | some s=>⟨s,(q▸h:dc false (J s) b9.lX=true)⟩
 | none=>absurd (q▸h:dc false (Jw:Option (b9 tg)) b9.lX=true) x8
theorem aff{env:BX}(s:b9 tg)(h:s.lX=true):(C8 [tg] env).map (·.2)=[C9 tg env]:=by
 induction s with
 | lst=>cases h
 | _=>rfl
theorem adT{env:BX}(s:b9 x)(h:iQ x=Jw):Cm [.Tuple ts k pos] x env=pure Jw:=by
 induction s with
 | tup=>cases h
 | _=>rfl
theorem gT{env:BX}(s:b9 tg)(h':s.lX=true)(sx:b9 x)(h:iQ tg=Jw\/iQ x=Jw):Cm [tg] x env=pure Jw:=by
 induction s with
 | tup=>exact h.elim (λh=>by cases h) (adT sx)
 | lst=>cases h'
 | _=>rfl
theorem aiV(b)(F)(h:∀sc,F sc=pure false):swapsWith.match_6 (λU=>Sem Bool) b F (λU=>pure false)=pure false:=by
 cases b with
 | none=>rfl
 | some sc=>exact h sc
theorem notName{env:BX}(s:b9 tg)(h:asName tg=Jw):Ck [tg] x l env=pure false:=by
 revert tg x l env;apply e4;intro U;apply(?Z:Tq U);intro tg x l env;intros;induction s with
 | name=>exact by cases h
 | _=>exact aiV _ _ λU=>rfl
theorem b9.lcE{G:yF->Prop}{e:yF}(s:b9 e)(h:s.tX=true)(f:∀y g sc pc,G (.ListComp y [g] sc pc)):G e:=by
 induction s with
 | lc y g sc pc=>exact f y g sc pc
 | _=>exact absurd h x8
theorem aoF(K:d8 z){nm:ze}(hm:z.T.gK nm i=true)(tv:u0 z (.Name nm py) (aK i)):lS z (.Assign [.Name nm py] (.ListComp y [g] sc pc) pos) (ak (aK i) (comp (n+1) z.T (.ListComp y [g] sc pc)).1):=by
 have ⟨b,hb⟩:∃b,Ck [.Name nm py] (.ListComp y [g] sc pc) pos.line z.env=pure b:=⟨_,rfl⟩
 intro ρ p Kf X h;cases b with
 | false=>exact pd tv (dz (n+1) z K _).1 hb rfl rfl h
 | true=>exact ajc K (dz n) hm hb h
theorem am3(K:d8 z){n:Nat}{nm:ze}{py pos:Pos}{x:yF}{i:Nat}(hm:z.T.gK nm i=true)(s:b9 x):lS z (.Assign [.Name nm py] x pos) (ak (aK i) (comp (n+1) z.T x).1):=by
 have tv:u0 z (.Name nm py) (aK i):=λy h=>aB.of (Cv (fZ K hm y λp' le eH U=>⟨p',le,eH▸h⟩));intro ρ p Kf X h;cases hl:s.tX with
 | false=>exact pd tv (dz (n+1) z K x).1 (adS s (congrArg not hl) (J (.Name nm py)) pos.line z.env) (gT (.name _ _) rfl s (.inl rfl)) rfl h
 | true=>exact s.lcE (G:=λx=>lS z (.Assign [.Name nm py] x pos) (ak (aK i) (comp (n+1) z.T x).1)) hl (λy g sc pc U U U U h=>aoF K hm tv h) h
section
variable(K:d8 z){n:Nat}{tg x:yF}{pos:Pos}(s:b9 tg)(hst:s.lX=true)(sx:b9 x)
include K hst sx
theorem t6(h1:Ck [tg] x pos.line z.env=pure false)(h2:Cm [tg] x z.env=pure Jw):lS z (.Assign [tg] x pos) (ak (kC (λe=>(comp (n+1) z.T e).1) z.T tg) (comp (n+1) z.T x).1):=
 pd (al1 K λe=>(dz (n+1) z K e).1) (dz (n+1) z K x).1 h1 h2 (aff s hst)
theorem aj8(hx:iQ x=Jw):lS z (.Assign [tg] x pos) (rK (comp (n+1)) z.T tg x):=by
 unfold rK;cases hn:asName tg with
 | none=>exact t6 K s hst sx (notName s hn) (gT s hst sx (.inr hx))
 | some nm=>
  obtain ⟨py,rfl⟩:=jg hn;intro ρ p Kf X h;exact dc.jH h λi hs h=>cQ.jH h λhm h=>am3 K hm sx h
theorem aj7{vs:List yF}(hx:iQ x=J vs):lS z (.Assign [tg] x pos) (rJ (comp (n+1)) z.T tg x vs):=by
 revert z n tg x pos vs;apply e1;intro U;apply(?Z:Tq U);intro z;intro K;apply e4;intro U;apply(?Y:Tq U);intro n tg x pos;intros;obtain ⟨k2,p2,rfl⟩:=kE hx;unfold rJ;cases ht:iQ tg with
 | none=>exact t6 K s hst sx rfl (gT s hst sx (.inl ht))
 | some ts=>
  obtain ⟨k,p1,rfl⟩:=kE ht;show lS z _ (pS _ _ _ _ _ _);unfold pS;cases hf:vs.all (DL 8) with
  | true=>exact t6 K s hst sx rfl (agZ hf)
  | false=>intro ρ p Kf X h;exact cQ.jH h λhs h=>dc.jH h λl hl h=>amH K (dz (n+1) z K _).1 hs hf hl h
end
theorem ao7(K:d8 z){n:Nat}{tg x:yF}{pos:Pos}:lS z (.Assign [tg] x pos) (agL (comp (n+1)) z.T tg x):=by
 exact λh=>cQ.jH h λe h=>by
  have e:=xZ.mp e;refine (lX.tj e.1).elim λs hst=>?_;refine (noStar.tj e.2).elim λsx=>?_;cases hx:iQ x with
  | none=>exact aj8 K s hst sx hx (hx▸h)
  | some vs=>exact aj7 K s hst sx hx (hx▸h)
end
section
variable{z:Zx}{ρ ρ':EV}
def dJ(p:Pt z ρ)(Kf:KF)(X:XF)(r:GC)(s:xM):Prop:=match r with
 | .ok f=>GS p Kf f s
 | .error e=>Fm z.M z.A z.env (XS p X) e s
theorem nJ{s:xM}{c:Code}(le:iV p P0)(x:GS P0 (bV Kf Pl) f s)
  (k:∀{ρ₂} (P5:Pt z ρ₂),iV P0 P5->Pl ρ₂ P5.H->aZ z.r z.M z.A c (dJ p Kf X) P5.s):sk z.r z.M z.A c (dJ p Kf X) f s:=by
 induction x with | mk P5 l L1 rl q=>
 induction rl with
 | next=>exact k P5 L1 q
 | cont=>exact k P5 L1 q
 | brk=>exact ⟨P5,.next,le.trans L1,.next,q⟩
 | ret y=>exact ⟨P5,.ret _,le.trans L1,.ret y,q⟩
theorem dJ.out{p:Pt z ρ}{c:Code}{s:xM}(h:aZ z.r z.M z.A c (dJ p Kf X) s):aZ z.r z.M z.A c (λr s'=>match r with | .ok f=>GS p Kf f s' | .error e=>Fm z.M z.A z.env (XS p X) e s') s:=h
theorem akl(K:d8 z)(tp:Top z){x:yF}{bd:List CM}{pos:Pos}{c:PT Bool}{b:ST}(hc:qV z x c)(hb:uz z bd b):lS z (.While x bd [] pos) (gV c b):=by
 revert z x bd pos c b;apply e1;intro U;apply(?Z:Tq U);intro z;intro K tp;apply e5;intro U;apply(?Y:Tq U);intro x bd pos c b;intros;exact λ{ρ p Kf X} h=>alV<|dJ.out<|
  h (λρ' H'=>∀p':Pt z ρ',p'.H=H'->iV p p'->aZ z.r z.M z.A (.whileLoop x bd [] z.env) (dJ p Kf X) p'.s) (λρ' H' hw p' eH le=>by
   subst eH;refine akk ((hc hw).mono (λU U h=>?_) λe s q=>XS.passes K tp (q.up le));induction h with | mk P0 t le1 e q=>
   subst e;have le':=le.trans le1.s;induction q with
   | t q=>exact (hb q).mono (λf s x=>nJ le' x λP5 L1 pl=>pl P5 rfl (le'.trans L1)) λe s q=>XS.passes K tp (q.up le')
   | f q=>exact ⟨P0,.next,le',.next,q⟩) p rfl .rfl
structure jS where
 z:Zx
 ρ:EV
 p:Pt z ρ
 Kf:KF
 X:XF
 t:TT
 b:ST
 tg:yF
 bd:List CM
 items:List AV
 da:AH->Prop
 I:yk
 St:Nat->WD->yJ->Prop
abbrev jS.left(c:jS)(l:List AV)(ρ':EV)(H':AH):Prop:=forL c.da (λv ρ' H' K'=>c.t v c.z.G ρ' H' (λρ₂ H₂=>c.b c.z.G ρ₂ H₂ K' c.X) c.X) c.Kf l ρ' H'
def apc(t:TT)(tg:yF):Prop:=∀{v G ρ H K X},t v G ρ H K X->Nonempty (b9 tg)
structure jS.Ok(c:jS):Prop where
 K:d8 c.z
 tp:Top c.z
 t:u0 c.z c.tg c.t
 b:uz c.z c.bd c.b
 it:ix c.z.P c.z.A c.z.fl c.items c.da c.I c.St
 fI:c.p.h.get? c.I=Jw
 sh:apc c.t c.tg
noncomputable abbrev jS.code(c:jS):Code:=.forLoop c.tg (.ref c.I) c.bd [] c.z.env
structure jS.At(c:jS)(i:Nat){ρ':EV}(p':Pt c.z ρ'):Prop where
 le:iV c.p p'
 S:c.St i p'.W p'.h
 f:iy c.z p'.W c.I
section
variable{c:jS}(N:c.Ok){ρ₁ ρ₂:EV}{P0:Pt c.z ρ₁}{P5:Pt c.z ρ₂}{i:Nat}
include N
theorem jS.At.up(B:c.At i P0)(le:iV P0 P5):c.At i P5:=
 have Jx:=B.f.up N.K le (qe.rec (λo U e U U U U=>⟨o,e⟩) (N.it.at_ _ _ _ B.S))
 ⟨B.le.trans le,N.it.frame _ _ _ _ _ B.S le.pre (le.mY N.K) Jx.2,Jx.1⟩
theorem jS.At.nf(B:c.At i P0):∀o,P0.h.get? c.I=J o->¬bp o:=(N.it.at_ i _ _ B.S).nf
theorem jS.turn(B:c.At i P0)(hlt:i<c.items.length)(hl:c.left (c.items.drop i) ρ₁ P0.H)(ih:∀{ρ₃} (P8:Pt c.z ρ₃),c.At (i+1) P8->c.left (c.items.drop (i+1)) ρ₃ P8.H->aZ c.z.r c.z.M c.z.A c.code (dJ c.p c.Kf c.X) P8.s):
  aZ c.z.r c.z.M c.z.A c.code (dJ c.p c.Kf c.X) P0.s:=by
 have hl:=(Aw hlt)▸hl;refine t8 (N.it.item i _ P0.W P0.H P0.s _ _ P0.C hl.1 B.S (xR hlt) λv h' t yv S1 kp=>(N.sh hl.2).elim λsh=>f6 sh (N.it.at_ _ _ _ S1) ?_);have B1:c.At (i+1) (P0.eN N.K B.f (B.nf N) h' t kp):=⟨Step.eN B.le N.fI kp,S1,B.f⟩
 refine (N.t (p:=P0.eN N.K B.f (B.nf N) h' t kp) yv hl.2).mono (λU s h=>?_) λe s q=>XS.passes N.K N.tp (q.up B1.le);induction h with | mk P5 L1 q2=>
 have B2:=B1.up N L1;exact (N.b q2).mono (λfl s x=>nJ B2.le x λP8 L2 pl=>ih P8 (B2.up N L2) pl) λe s q=>XS.passes N.K N.tp (q.up B2.le)
theorem jS.turns:∀(m i:Nat),m+i=c.items.length->∀{ρ'} (p':Pt c.z ρ'),c.At i p'->c.left (c.items.drop i) ρ' p'.H->aZ c.z.r c.z.M c.z.A c.code (dJ c.p c.Kf c.X) p'.s:=by
 intro m;induction m with
 | zero=>
  intro i hi ρ' p' B hl;cases (zj i).symm.trans hi;have hl:=Ex▸hl;exact t8 (N.it.done p'.W p'.H p'.s _ _ p'.C hl.1 B.S λh' t kp=>⟨p'.eN N.K B.f (B.nf N) h' t kp,.next,Step.eN B.le N.fI kp,.next,hl.2⟩)
 | succ m ih=>exact λi hi ρ' p' B hl=>jS.turn N B (hi▸Ik (Af m)) hl λP8 B₃ pl=>ih (i+1) ((AE m 1 i).symm.trans hi) P8 B₃ pl
end
end
section
variable{z:Zx}(K:d8 z)(tp:Top z)(g:eY z.P z.n z.G){tg:yF}{bd:List CM}{t:TT}{b:ST}(sh:apc t tg)(ht:u0 z tg t)(hb:uz z bd b){ρ ρ':EV}{p:Pt z ρ}{Kf:KF}{X:XF}
include K tp sh ht hb
theorem ahH{P0:Pt z ρ}{av:AV}(le:Le p P0)(y:VR P0.W P0.h av v)(q:fO P0.H (λitems da=>forL da (λv ρ' H' K'=>t v z.G ρ' H' (λρ₂ H₂=>b z.G ρ₂ H₂ K' X) X) Kf items ρ P0.H) av):
  aB z.r z.M z.A (El v) (λit s=>aZ z.r z.M z.A (.forLoop tg it bd [] z.env) (dJ p Kf X) s) (XS p X) P0.s:=
 aB.of (agy K.kF.handled P0.C y q λitems da St h' hL itk st0 kp=>
  have fI1:=zF (xS _)
  jS.turns (c:=⟨z,ρ,p,Kf,X,t,b,tg,bd,items,da,P0.h.objs.size,St⟩) ⟨K,tp,ht,hb,itk,Step.back le _ fI1,sh⟩ items.length 0 rfl (P0.grow h' kp) ⟨le.s.trans Le.grow.s,st0,P0.free fI1⟩ hL)
abbrev t7(W:WD)(a:Nat)(I:yk):Prop:=∃w,W[a]? =J w/\w.a=I
abbrev mz(z:Zx)(p:Pt z ρ)(Kf:KF)(X:XF)(tg:yF)(bd:List CM)(a:Nat)(I:yk)(ρ':EV)(H':AH):Prop:=∀p':Pt z ρ',p'.H=H'->iV p p'->t7 p'.W a I->aZ z.r z.M z.A (.forLoop tg (.ref I) bd [] z.env) (dJ p Kf X) p'.s
include g
theorem ajv{a k':Nat}{av:AV}{p':Pt z ρ'}(le:iV p p')(hw:t7 p'.W a I)(e:p'.H[a]? =J (.gen k' vs'))(y:VR p'.W p'.h av u)
  (q:t av z.G ρ' p'.H (λρ₂ H₂=>b z.G ρ₂ H₂ (bV Kf (mz z p Kf X tg bd a I)) X) X):
  xY z.M z.A (BB tg (.ref I) u) (λU S5=>aB z.r z.M z.A (C9 tg z.env u) (λU S8=>aB z.r z.M z.A (execs bd z.env) (sk z.r z.M z.A (.forLoop tg (.ref I) bd [] z.env) (dJ p Kf X)) (DK z.M z.A z.env λe s'=>dJ p Kf X (.error e) s') S8) (DK z.M z.A z.env λe s'=>dJ p Kf X (.error e) s') S5) (DK z.M z.A z.env λe s'=>dJ p Kf X (.error e) s') p'.s:=
 (sh q).elim λtj=>hw.elim λw hw=>f6 tj (hw.2▸g.cls p'.C hw.1 e)<|(ht y q).mono (λU s h=>fY.rec (λP8 L2 q3=>
  (hb q3).mono (λfl s x=>nJ (le.trans L2) x λP9 L3 pl=>pl P9 rfl (le.trans (L2.trans L3)) (((L2.trans L3).pre a w hw.1).imp λw4 x=>⟨x.1,x.2.1.trans hw.2⟩)) λe s q=>XS.passes K tp (q.up (le.trans L2))) h) λe s q=>XS.passes K tp (q.up le)
theorem ajw{a:Nat}(hg:GenStep z.G a (λv ρ' H' K'=>t v z.G ρ' H' (λρ₂ H₂=>b z.G ρ₂ H₂ K' X) X) Kf (mz z p Kf X tg bd a I) ρ' H):mz z p Kf X tg bd a I ρ' H:=by
 exact λp' eH le' hw=>by
  subst eH;refine hw.elim λw' hw=>GenStep.rec (λe hq=>?_) hg;refine Ql hw.2 ?_;refine t8 (yO (g.next (E:=λU U=>False) (K.kF.le (yf (by decide) _)) p'.C (.ref a w' hw.1) e (λr H' q=>GenQ.rec (λh U=>h) q) (hq.get e)) (λo s h=>?_) λU U x=>x.elim);have up:∀{W2:WD},cf p'.W W2->t7 W2 a w'.a:=λle=>(le a w' hw.1).imp λw'' x=>⟨x.1,x.2.1⟩
  induction h with
  | done W2 H2 s q2 C2 z2=>exact GS.mk (p:=p) (⟨W2,_,s,C2,FR.step K.ctx.iN p'.R p'.C z2⟩:Pt z ρ') .next (le'.trans (Step.up z2)) .next (GenQ.rec (λh q=>dD.get q h) q2)
  | item W2 H2 s u av2 k' vs' q2 y2 C2 z2=>
   exact GenQ.rec (λh2 q2=>ajv (t:=t) (b:=b) K tp g sh ht hb (p':=⟨W2,_,s,C2,FR.step K.ctx.iN p'.R p'.C z2⟩) (le'.trans (Step.up z2)) (up z2.pre) (zk (xQ.mp h2).1) y2 (hw.2▸dD.get q2 h2)) q2
theorem alq{P0:Pt z ρ}{v:xP}(le:Le p P0)(y:VR P0.W P0.h (.ref a) v)(q:aoL z.G a (λv ρ' H' K'=>t v z.G ρ' H' (λρ₂ H₂=>b z.G ρ₂ H₂ K' X) X) Kf ρ P0.H):
  aB z.r z.M z.A (El v) (λit s=>aZ z.r z.M z.A (.forLoop tg it bd [] z.env) (dJ p Kf X) s) (XS p X) P0.s:=
 (show ∃k vs,P0.H[a]? =J (.gen k vs) from q (λU H=>∃k vs,H[a]? =J (.gen k vs)) λU U x=>GenStep.rec (λe U=>(jj _ _ e)) x).elim λk0 e0=>e0.elim λvs0 e0=>
  y.bG λw hp=>aB.of (g.iter P0.C (.ref a w hp) e0 (q (mz z p Kf X tg bd a w.a) (λρ' H' hg=>ajw (t:=t) (b:=b) K tp g sh ht hb hg) P0 rfl le.s (aM w hp rfl)))
theorem aoM{src:PT AV}(hs:noStar it=true)(hsrc:cZ z it src):lS z (.For tg it bd [] pos) (cz t src b):=λ{ρ p Kf X} h=>
 aph ((hsrc h).then λP0 av v le y q=>show aB z.r z.M z.A (El v) (λit s=>aZ z.r z.M z.A (.forLoop tg it bd [] z.env) (dJ p Kf X) s) (XS p X) P0.s from
  ik.rec (motive:=λav U=>VR P0.W P0.h av v->aB z.r z.M z.A (El v) (λit s=>aZ z.r z.M z.A (.forLoop tg it bd [] z.env) (dJ p Kf X) s) (XS p X) P0.s) (λq y=>ahH (t:=t) (b:=b) K tp sh ht hb le y q) (λq y=>alq (t:=t) (b:=b) K tp g sh ht hb le y q) q y) (hJ hs _)
end
noncomputable abbrev nQ:List xP:=[.type "Exception",.type "BaseException",.type "object"]
structure apj(mN mP:ze->Option xP)(f:yk):Prop where
 s6:mN "__init__"=Jw
 uw:mN "__setattr__"=Jw
 t4:mN "message"=Jw
 wF:mP "__init__"=J (.ref f)
 sZ:mP "__setattr__"=Jw
 vv:mP "message"=Jw
inductive ExcAt(h:yJ)(C f:yk):Prop
 | mk(nm q:ze)(N:yk)(bs:List xP)(sn:List ze)(sub:List xP)(ab:Bool)(col:Option Bool)(dd:Option yk)(k0 k1 k2 k3 k5:Option xP)(CP:yk)(c0:xP)(ddP:Option yk)(cdP:ClassData)(slP:Array (Option xP))(mN mP:ze->Option xP)
  (h1:h.get? C=J (zQ nm q C N bs (.ref CP::nQ) true sn sub ab col dd k0 k1 k2 k3 k5 "Exception.__new__")) (h2:h.Ns N mN) (h3:h.get? CP=J {cls:=c0,dict:=ddP,data:=.cls cdP,slots:=slP}) (h4:h.Ns cdP.ns mP) (r:apj mN mP f):ExcAt h C f
theorem ExcAt.keeps{h h':yJ}(X:ExcAt h C f)(k:∀b o,h.get? b=J o->h'.get? b=J o):ExcAt h' C f:=by
 obtain ⟨nm,q,N,bs,sn,sub,ab,col,dd,k0,k1,k2,k3,k5,CP,c0,ddP,cdP,slP,mN,mP,h1,h2,h3,h4,r⟩:=X;exact ⟨nm,q,N,bs,sn,sub,ab,col,dd,k0,k1,k2,k3,k5,CP,c0,ddP,cdP,slP,mN,mP,k _ _ h1,h2.keeps k,k _ _ h3,h4.keeps k,r⟩
section
variable{prog:AG}{w:World}{M:Model}{A:yS}{E:xP->xM->Prop}{h:yJ}{g:Array Br}{d:Drawn}{t:Nat}{os:ED}
variable{nm q:ze}{C N:yk}{bs:List xP}{sn:List ze}{sub:List xP}{ab:Bool}{col:Option Bool}{dd:Option yk}{k0 k1 k2 k3 k5:Option xP}
 {CP:yk} {c0:xP} {ddP:Option yk} {cdP:ClassData} {slP:Array (Option xP)} {mN mP:ze->Option xP}
theorem tS(hC:h.get? C=J (zQ nm q C N bs (.ref CP::nQ) true sn sub ab col dd k0 k1 k2 k3 k5 "Exception.__new__"))(hn:h.Ns N mN)
  (hP:h.get? CP=J {cls:=c0,dict:=ddP,data:=.cls cdP,slots:=slP}) (hnP:h.Ns cdP.ns mP) (hB:Av (.type "Exception") name=pure y)
  (hq:Q (match mN name with | some v=>J v | none=>match mP name with | some v=>J v | none=>y) ⟨h,g,d,t,os⟩):xY M A (Av (.ref C) name) Q E ⟨h,g,d,t,os⟩:=by
 have hrest:lookupAlong nQ name=pure y:=by rw[typeLookup_eq,Au.mroIs] at hB;exact hB
 refine Z (typeLookup_eq _ _) ?_;refine xI (wpAny_mroOf_exc hC ?_);refine Z (lookupAlong_cons _ _ _) ?_;refine xI (wpAny_classOwn_exc hC hn ?_);cases hv:mN name with
 | some v=>have hq:=hv▸hq;exact xU hq
 | none=>
  have hq:=hv▸hq;dsimp only at hq ⊢;refine Z (lookupAlong_cons _ _ _) ?_;refine xI (wpAny_classOwn_cls hP hnP ?_);cases hv':mP name with
  | some v=>have hq:=hv'▸hq;exact xU hq
  | none=>have hq:=hv'▸hq;exact Z hrest (xU hq)
theorem cM(hC:h.get? C=J (zQ nm q C N bs (.ref CP::nQ) true sn sub ab col dd k0 k1 k2 k3 k5 "Exception.__new__"))(hb:nQ.contains (.type x)=b):(y0 C::y0 CP::nQ).contains (.type x)=b:=by
 exact Z AA (Z AA (Z hb rfl))
theorem acF(hC:h.get? C=J (zQ nm q C N bs (.ref CP::nQ) true sn sub ab col dd k0 k1 k2 k3 k5 "Exception.__new__"))
  (hq:Q () ⟨h,g,d,t,os⟩):xY M A (zN "Exception.__new__" ⟨.ref C::rest,[]⟩) Q E ⟨h,g,d,t,os⟩:=by
 revert M A E h g d t os nm q C N bs sn sub ab col dd k0 k1 k2 k3 k5 CP rest Q;apply hU;intro U;apply(?Z:Tq U);intro M A E h g d t os nm q C N;apply hU;intro U;apply(?Y:Tq U);intro bs sn sub ab col dd k0 k1 k2 k3 k5 CP;apply e2;intro U;apply(?X:Tq U);intro rest Q;intros;have F:=Au;have hcont:=cM hC F.hasB;have hstar:=F.noStar;simp only[zN,F.newKind,F.newSplit,F.newRow]
 repeat (first | refine yT hC ?_ | (refine zP hC ?_;rw[hcont]) | refine wpAny_staticBase_exc hC ?_ | refine Hg hC ?_ | simp only[bne_self_eq_false,Bg,if_false] | wp_step)
 exact hq
theorem alv(hC:h.get? C=J (zQ nm q C N bs (.ref CP::nQ) true sn sub ab col dd k0 k1 k2 k3 k5 "Exception.__new__"))
  (hq:R (.ok (.ret (.ref (h.objs.size+1)))) ⟨(h.push {cls:=.type "tuple",data:=.seq rest.toArray}).push
   {cls:=.ref C,data:=.fields #[.ref h.objs.size,.none,.none,.none,.bool false,.none]},g,d,t,os⟩) (hrest:rest.length<=Bb):
  F8 (yK prog w) A (.builtin "Exception.__new__" ⟨.ref C::rest,[]⟩) R ⟨h,g,d,t,os⟩:=by
 revert prog w A h g d t os nm q C N bs sn sub ab col dd k0 k1 k2 k3 k5 CP R rest;apply hU;intro U;apply(?Z:Tq U);intro prog w A h g d t os nm q C N;apply hU;intro U;apply(?Y:Tq U);intro bs sn sub ab col dd k0 k1 k2 k3 k5 CP;apply e2;intro U;apply(?X:Tq U);intro R rest;intros;have F:=Au;have hends:=F.ends;have hcB:=cM hC F.hasB;have hcA:=cM hC F.noAttr;have hcN:=cM hC F.noName;refine codeAny_builtinAt F.entry ?_;unfold AJ.«BaseException.__new__»;refine PySem.wpAt_bind ?_;show PySem.wpAt _ _ _ (stack>>=_) _ _ _;refine PySem.wpAt_bind (PySem.wpAt_stack λp below=>Iu ?_)
 wp_walk
 refine Iu ?_;refine Z F.owner ?_
 repeat (first | with_reducible refine wpAny_madeHere_exc F.canon hC ?_ | with_reducible refine yT hC ?_ | (with_reducible refine zP hC ?_;first | rw[hcB] | rw[hcA] | rw[hcN]) | wp_step)
 show R _ _;exact Z (BK _ _) hq
theorem acE{f:yk}{oI:Obj}(hC:h.get? C=J (zQ nm q C N bs (.ref CP::nQ) true sn sub ab col dd k0 k1 k2 k3 k5 "Exception.__new__"))(hn:h.Ns N mN)
  (hP:h.get? CP=J {cls:=c0,dict:=ddP,data:=.cls cdP,slots:=slP}) (hnP:h.Ns cdP.ns mP) (hni:mN "__init__"=Jw) (hi:mP "__init__"=J (.ref f)) (hf:h.get? f=J oI) (hfc:oI.cls= .type "function") (hrest:rest.length<=Bb)
  (hq:xY (yK prog w) A (call (.ref f) (.ref (h.objs.size+1)::rest)) (λr s'=>r= .none/\Q (.done (.ret (.ref (h.objs.size+1)))) s') E
   ⟨(h.push {cls:=.type "tuple",data:=.seq rest.toArray}).push {cls:=.ref C,data:=.fields #[.ref h.objs.size,.none,.none,.none,.bool false,.none]},g,d,t,os⟩):
  xY (yK prog w) A (AJ.«type.__call__» ⟨.ref C::rest,[]⟩) Q E ⟨h,g,d,t,os⟩:=by
 revert prog w A E h g d t os nm q C N bs sn sub ab col dd k0 k1 k2 k3 k5 CP c0 ddP cdP slP mN mP rest Q f oI;apply hU;intro U;apply(?Z:Tq U);intro prog w A E h g d t os nm q C;apply hU;intro U;apply(?Y:Tq U);intro N bs sn sub ab col dd k0 k1 k2 k3 k5;apply ub;intro U;apply(?X:Tq U);intro CP c0 ddP cdP slP mN mP rest Q f oI;intros;have F:=Au
 repeat (first | with_reducible refine yT hC ?_ | with_reducible refine Hg hC ?_ | wp_step)
 refine It (CL _ F.quiet) (acF hC ?_);refine alv hC ?_ hrest;show xY _ _ _ _ _ _;have kp:∀b o,h.get? b=J o->((h.push {cls:=.type "tuple",data:=.seq rest.toArray}).push {cls:=.ref C,data:=.fields #[.ref h.objs.size,.none,.none,.none,.bool false,.none]}).get? b=J o:=
  λb o e=>xW _ (xW _ e)
 have hC1:=kp _ _ hC;have hget:((h.push {cls:=.type "tuple",data:=.seq rest.toArray}).push
   {cls:=.ref C,data:=.fields #[.ref h.objs.size,.none,.none,.none,.bool false,.none]}).get? (h.objs.size+1)=J
   {cls:=.ref C,data:=.fields #[.ref h.objs.size,.none,.none,.none,.bool false,.none]}:=by heap_get
 have hcC:(y0 C::y0 CP::nQ).contains (.ref C)=true:=by simp
 unfold isInstance
 repeat (first | with_reducible refine yT hget ?_ | (with_reducible refine zP hC1 ?_;rw[hcC]) | wp_step)
 show xY _ _ (Av (.ref C) _) _ _ _;refine tS hC1 (hn.keeps kp) (kp _ _ hP) (hnP.keeps kp) F.init.lookup ?_;refine Z hni (Z hi ?_);refine zZ (xI ?_);unfold bindSpecial;refine xI (Jd (T:="function") ⟨_,kp _ _ hf,hfc⟩ ?_);refine Z (if_pos (by decide)) ?_;refine xU (xI (yO hq (λr s' hr=>?_) λU U x=>x));obtain ⟨rfl,hQ⟩:=hr
 wp_walk
 exact hQ
theorem ajO(hC:h.get? C=J (zQ nm q C N bs (.ref CP::nQ) true sn sub ab col dd k0 k1 k2 k3 k5 "Exception.__new__"))(hn:h.Ns N mN)
  (hP:h.get? CP=J {cls:=c0,dict:=ddP,data:=.cls cdP,slots:=slP}) (hnP:h.Ns cdP.ns mP) (hni:mN "__init__"=Jw) (hi:mP "__init__"=J (.ref f)) (hf:h.get? f=J oI) (hfc:oI.cls= .type "function") (hrest:rest.length<=Bb)
  (hq:xY (yK prog w) (A.under (.builtin "type.__call__" ⟨.ref C::rest,[]⟩)) (call (.ref f) (.ref (h.objs.size+1)::rest)) (λr s'=>r= .none/\Q (.ref (h.objs.size+1)) s') E
   ⟨(h.push {cls:=.type "tuple",data:=.seq rest.toArray}).push {cls:=.ref C,data:=.fields #[.ref h.objs.size,.none,.none,.none,.bool false,.none]},g,d,t,os⟩):
  xY (yK prog w) A (call (.ref C) rest) Q E ⟨h,g,d,t,os⟩:=by
 have f1:=tc_lookup;have f2:=tc_bind (.ref C);have hT:(⟨h,g,d,t,os⟩:xM).TypeIs (.ref C) "type":=⟨_,hC,rfl⟩
 refine Fj (HJ ?_);show xY _ _ (Jn (.ref C) _) _ _ _
 repeat (any_goals (first | assumption | with_reducible refine yT hC ?_ | wp_step))
 refine ⟨rfl,?_⟩;exact codeAny_call_builtin_at (CL _ (by decide+kernel)) entry_typeCall (Ir hC (acE hC hn hP hnP hni hi hf hfc hrest hq))
end
section
variable{prog:AG}{w:World}{A:yS}{E:xP->xM->Prop}{s:xM}
theorem adD(h:Q (.builtin "Exception.__init__",[]) {s with toks:=s.toks+1}):xY (yK prog w) A (D7 (.type "Exception") "__init__" pl) Q E s:=by
 have X:Frag.In [] s.heap:=λU U e=>by simp at e
 have hstub:Hj (.type "Exception")=pure Jw:=by unfold Hj;dsimp only;exact Z (show Manifest.isStub "Exception"=false by decide+kernel) rfl
 have ht:Je (.type "Exception")=pure (.type "type"):=by first | rfl | kernel_rfl
 have L0:Looks (yK prog w) s.heap (Je (.type "Exception")) (.type "type"):=Hq ht;have hg:=type_tga;have e:findCls [] (.type "Exception") (.type "type") "__init__"=J (.val (.builtin "Exception.__init__")):=by first | decide+kernel | kernel_rfl
 unfold D7 I4;refine xI (xI (L0.here ((looks_findIn X hg).here ?_)));dsimp only;refine Z (if_pos canon_tga) ?_;refine xI (yO (Q:=λv=>Q (v,[])) (E:=E) ?_ (λU U z=>xU z) λU U z=>z);have LO:Looks (yK prog w) s.heap (Hj (.type "Exception")) Jw:=Hq hstub;refine cls_open X LO L0 hg (looks_hook X (r:=Jw) (by rfl)) (by show subIn [] _ _=_;rfl) e
  (xU (by show xY _ _ (handedOut (.builtin "Exception.__init__")) _ _ _;exact Z (handedOut_of (by decide+kernel)) (xU h)))
end
noncomputable def k9(T:CT)(ps:List ze):Bool:=
 T.scope.kind==.function&&!T.scope.isCoroutine&&decide (T.lo=0)&&distinct ps&&distinct (T.scope.names.map (·.1))&&distinct (T.slots.map (·.2))&&decide (ps.length<=T.n)&&
 (T.slots.all λ(x,i)=>x !=("__debug__":ze)&&x !=("__classdict__":ze)&&decide (i<T.n)&&(T.scope.names.lookup x==J .local||T.scope.names.lookup x==J .cell))&&
 (ps.zipIdx.all λ(x,i)=>T.slots.lookup x==J i)
structure akg(T:CT)(ps:List ze):Prop where
 kind:T.scope.kind= .function
 co:T.scope.isCoroutine=false
 lo:T.lo=0
 xD:distinct ps=true
 dist:distinct (T.scope.names.map (·.1))=true
 s7:distinct (T.slots.map (·.2))=true
 len:ps.length<=T.n
 all:∀x i,(x,i)∈T.slots->(x==("__debug__":ze))=false/\(x==("__classdict__":ze))=false/\i<T.n/\(T.kindOf x=J .local\/T.kindOf x=J .cell)
 par:∀x i,(x,i)∈ps.zipIdx->T.slots.lookup x=J i
theorem ac5{T:CT}{ps:List ze}(h:k9 T ps=true):akg T ps:=by
 revert T ps;apply e2;intro U;apply(?Z:Tq U);intro T ps;intros;unfold k9 at h;simp only[Am,beq_iff_eq,decide_eq_true_eq,yx,AX] at h;refine Qc λU u6=>h.elim λv6 e8=>v6.elim λy6 e7=>y6.elim λz6 e6=>z6.elim λu7 e5=>u7.elim λv7 e4=>v7.elim λy7 e3=>y7.elim λz7 e2=>z7.elim λe1 e1'=>u6 ?_;refine ⟨e1,e1',e2,e3,e4,e5,e6,λx i hx=>?_,λx i hx=>e8 (x,i) hx⟩;have:=e7 (x,i) hx;simp only[G1,Am,decide_eq_true_eq,beq_iff_eq,bne_iff_ne] at this;refine Qc λU u8=>this.elim λv8 d=>v8.elim λy8 c=>y8.elim λa b=>u8 ?_;exact (iu (by simpa using a) (by simpa using b) c d)
theorem acq(Dj)(x):∀binds m,x∉binds.map (·.1)->bindL Dj binds m x=m x
 | [],m,_=>rfl
 | (n,v)::r,m,h=>by
  simp only[yP,yu,not_or] at h;unfold bindL;refine Z (acq Dj x r _ h.2) ?_;split
  ·simp[h.1]
  ·rfl
theorem jN(Dj)(hk:Dj x=J .local):∀binds m,distinct (binds.map (·.1))=true->(x,v)∈binds->bindL Dj binds m x=J v
 | (n,u)::r,m,hd,h=>by
  simp only[yP,distinct,Am,AX,IB,decide_eq_false_iff_not] at hd;unfold bindL;rcases yu.mp h with e | h
  ·cases e
   refine Z (acq Dj x r _ hd.1) (Z (if_pos hk) ?_);simp
  ·exact jN Dj hk r _ hd.2 h
theorem acr(Dj)(x):∀binds m,x∉binds.map (·.1)->bindC Dj binds m x=m x
 | [],m,_=>rfl
 | (n,v)::r,m,h=>by
  simp only[yP,yu,not_or] at h;unfold bindC;refine Z (acr Dj x r _ h.2) ?_;split
  ·rfl
  ·simp[h.1]
theorem acs(Dj)(hk:Dj x≠J .local):∀binds m,distinct (binds.map (·.1))=true->(x,v)∈binds->bindC Dj binds m x=J v
 | (n,u)::r,m,hd,h=>by
  simp only[yP,distinct,Am,AX,IB,decide_eq_false_iff_not] at hd;unfold bindC;rcases yu.mp h with e | h
  ·cases e
   refine Z (acr Dj x r _ hd.1) (Z (if_neg hk) ?_);simp
  ·exact acs Dj hk r _ hd.2 h
theorem gw:∀names n acc x,((x,Bn)∈names\/(acc.lookup x).isSome=true)->((zO n names acc).lookup x).isSome=true
 | [],n,acc,x,h=>by
  rcases h with h | h
  ·cases h
  ·exact h
 | (y,k)::r,n,acc,x,h=>by
  have ih:=gw r;revert y k r n acc x;apply e6;intro U;apply(?Z:Tq U);intro y k r n acc x;intros;unfold zO;split
  ·rename_i hk
   refine ih (n+1) _ x ?_;by_cases e:x=y
   ·subst e;right;simp[zo]
   ·have e':=beq_false_of_ne e
    rcases h with h | h
    ·rcases yu.mp h with q | q
     ·cases q;exact absurd rfl e
     ·exact .inl q
    ·right;exact Z zo (Z e' h)
  ·rename_i hk
   refine ih n acc x ?_;rcases h with h | h
   ·rcases yu.mp h with q | q
    ·cases q;exact absurd rfl hk
    ·exact .inl q
   ·exact .inr h
structure iY(P:cy)(f:yk)(T:CT)(ps:List ze)(dv:List xP)(b:List CM)(fd:Dr):Prop where
 at_:∃oF,P.hS.get? f=J oF/\oF.data= .func fd
 body:fd.body= .stmts b
 globals:fd.globals=zA
 builtins:fd.builtins=BO
 closure:fd.closure=[]
 code:P.hS.CodeRec fd.code fd.qualname
 scope:fd.scope=T.scope
 da:akg T ps
 bind:∀{s:xM} {vs:List xP} {A:yS} {E:xP->xM->Prop} {Q:List (ze×xP)->xM->Prop},P.hS.StaysIn s.heap->vs.length+dv.length=ps.length->Q (ps.zip (vs++dv)) s->xY P.M A (bindArgs fd ⟨vs,[]⟩) Q E s
noncomputable def fh(T:CT)(fd:Dr)(L f:yk):Fx where
 env:=EZ fd L f
 res:=T.slots
 own:=λb=>b=L\/∃x,(zO (L+1) fd.scope.names []).lookup x=J b
 n:=T.n
 wr:=λb=>b=L\/∃x,(zO (L+1) fd.scope.names []).lookup x=J b
 lo:=0
section
variable{r:Bool}{P:cy}{A:yS}{fl:List BX}{W W':WD}{H H':AH}{s s':xM}{F:Fx}{T:CT}{ρ:EV}{G:fW}{n:Nat}{E:xP->xM->Prop}{f:yk}{ps:List ze}{dv:List xP}{b:List CM}{fd:Dr}
theorem Cx.afp{env:BX}{ep:Nat}(C:Cx P fl W H s)(hk:env.scope.kind≠.module)(hf:env.frame=J L)(hn:P.hS.get? L=Jw)(e:s.heap.get? L=J o)(d:o.data= .dict es ep)(nO:¬Own W L):Cx P (env::fl) W H s:=
 ⟨C.bq,C.hr,C.ff.push hk hf ⟨o,es,ep,hn,e,d⟩,λb q=>q.elim λx m=>(yu.mp m.1).elim (λh=>xT ((hf.symm.trans (congrArg Env.frame h.symm)).trans m.2)▸nO) λh=>C.fo b ⟨x,h,m.2⟩,C.bare⟩
theorem Cx.fu{env:BX}(C:Cx P (env::fl) W H s):Cx P fl W H s:=
 ⟨C.bq,C.hr,λx m=>C.ff x (.tail _ m),λb u6=>u6.elim λx v6=>v6.elim λm q=>C.fo b ⟨x,.tail _ m,q⟩,C.bare⟩
theorem Step.fu{own:yk->Prop}{env:BX}(hf:env.frame=J L)(fL:s.heap.get? L=Jw)(fo:∀b,own b->s.heap.get? b=Jw)(x:Step own (cD (env::fl)) W s W' s'):bT fl W s W' s':=
 x.weaken (λb o e h=>nomatch (fo b h).symm.trans e) λb o e q=>q.elim λy m=>(yu.mp m.1).elim (λh=>nomatch (fL.symm.trans (congrArg s.heap.get? (xT ((hf.symm.trans (congrArg Env.frame h.symm)).trans m.2)))).trans e) λh=>⟨y,h,m.2⟩
theorem zip_get{ps:List ze}(h:(x,i)∈ps.zipIdx)(hv:vs[i]? =J v):(x,v)∈ps.zip vs:=by
 have h1:ps[i]? =J x:=by
  have:=Ba.mp h;exact this
 have:(ps.zip vs)[i]? =J (x,v):=by
  rw[D1];exact ⟨h1,hv⟩
 exact ye this
theorem i4:∀{ps:List ze} {vs:List xP},ps.length=vs.length->(ps.zip vs).map (·.1)=ps
 | [],[],_=>rfl
 | _::_,_::_,h=>by simp only[FT,yP];exact Z (i4 (by simpa using h)) rfl
 | [],_::_,h=>by simp at h
 | _::_,[],h=>by simp at h
theorem agE(N:iY P f T ps dv b fd){dflt args:List AV}{vs:List xP}(C:Cx P fl W H s)(y:bS W s.heap args vs)(yd:bS W s.heap dflt dv)(hl:args.length+dflt.length=ps.length)
  (hgen:fd.scope.isGenerator=false) (hlim:P.hS.NoLimit) (hroom:A.depth<Ek) {R:GC->xM->Prop}
  (h:∀S5,(∀b o,s.heap.get? b=J o->S5.heap.get? b=J o)->S5.gens=s.gens->S5.os=s.os->d7 T (fh T fd s.heap.objs.size f)->Cx P ((fh T fd s.heap.objs.size f).env::fl) W H S5->
   FR P.hS (fh T fd s.heap.objs.size f) W S5.heap ((args++dflt).map J++yr (T.n-ps.length) Jw)->(∀b,(fh T fd s.heap.objs.size f).wr b->s.heap.get? b=Jw)->
   aB r P.M (A.deeper (fh T fd s.heap.objs.size f).env) (execs b (fh T fd s.heap.objs.size f).env) (λf s'=>R (.ok (.ret (match f with | .ret v=>v | _=>.none))) s')
    (λe s'=>xY P.M (A.deeper (fh T fd s.heap.objs.size f).env) (HO (fh T fd s.heap.objs.size f).env e) (λU s''=>R (.error e) s'') (λe' s''=>R (.error e') s'') s') S5):
  aZ r P.M A (.call (.ref f) ⟨vs,[]⟩) R s:=by
 revert r P A fl W H s T f ps dv b fd dflt args vs R;apply hU;intro U;apply(?Z:Tq U);intro r P A fl W H s T f ps dv b;apply e1;intro U;apply(?Y:Tq U);intro fd;intro N;apply e3;intro U;apply(?X:Tq U);intro dflt args vs;intro C y yd hl hgen hlim hroom;apply e1;intro U;apply(?W:Tq U);intro R;intros;refine aO N.at_ λoF hoF hdF=>?_;have O:=N.da;have hlen:vs.length+dv.length=ps.length:=by exact Ql y.length (Ql yd.length hl)
 refine alD hroom (C.bq _ _ hoF) hdF (N.scope▸O.co) hgen N.body (N.code.keeps C.bq) (N.bind C.bq hlen ?_);refine Z N.closure ?_;have hdis:distinct ((ps.zip (vs++dv)).map (·.1))=true:=by exact Z (i4 (xK.trans hlen).symm) O.xD
 have hzip:∀x v,(x,v)∈ps.zip (vs++dv)->∃i,(x,i)∈ps.zipIdx/\(vs++dv)[i]? =J v:=λx v hx=>by
  refine (zu.mp hx).elim λi hi=>?_;rw[D1] at hi;exact (aM i (Ba.mpr hi.1) hi.2)
 have kindP:∀x v,(x,v)∈ps.zip (vs++dv)->T.scope.names.lookup x=J .local\/T.scope.names.lookup x=J .cell:=λx v hx=>by
  refine aO (hzip x v hx) λi hi U=>?_;exact (O.all x i (lookup_mem (O.par x i hi))).2.2.2
 refine Ia (N.scope▸O.kind) (λx hx=>?_) λenv he S5 X=>?_
 ·refine Z N.scope ?_
  rcases kindP x.1 x.2 hx with q | q
  ·exact .inl q
  ·exact .inr ⟨q,gw _ _ _ _ (.inl (lookup_mem q))⟩
 subst he;have kp:=X.toInCall.keep;refine ⟨(hlim.keeps C.bq).keeps kp,anj ?_⟩;have fr:∀b,s.heap.objs.size<=b->s.heap.get? b=Jw:=λb hb=>by
  cases q:s.heap.get? b with
  | none=>rfl
  | some o=>exact absurd (zb q) (xX.mpr hb)
 refine gX X.toInCall.same λh1 tk es=>?_;have hg:S5.gens=s.gens:=by exact Z es rfl
 have ho:S5.os=s.os:=by exact Z es rfl
 have hns:S5.heap.Ns s.heap.objs.size (bindL (λx=>T.scope.names.lookup x) (ps.zip (vs++dv)) λU=>Jw):=by
  have:=X.toInCall.ns;have e:(λx=>T.scope.names.lookup x)=Dt (newEnv fd.scope s.heap.objs.size fd.globals (zO (s.heap.objs.size+1) fd.scope.names []) (fd.qualname++".<locals>.") (J f) fd.code Jw fd.builtins):=by
   funext x;show _=fd.scope.names.lookup x;exact Z N.scope rfl
  exact Z e this
 have hcell:∀x c,(zO (s.heap.objs.size+1) fd.scope.names []).lookup x=J c->S5.heap.IsCell c (bindC (λx=>T.scope.names.lookup x) (ps.zip (vs++dv)) (λU=>Jw) x):=λx c hc=>by
  have:=X.cell x c hc;have e:(λx=>T.scope.names.lookup x)=Dt (newEnv fd.scope s.heap.objs.size fd.globals (zO (s.heap.objs.size+1) fd.scope.names []) (fd.qualname++".<locals>.") (J f) fd.code Jw fd.builtins):=by
   funext x;show _=fd.scope.names.lookup x;exact Z N.scope rfl
  exact Z e this
 have habove:=X.above;have hapart:=X.apart;have fw:∀b,(fh T fd s.heap.objs.size f).wr b->s.heap.get? b=Jw:=λb hb=>by
  rcases hb with rfl | ⟨x,hx⟩
  ·exact fr _ (xS _)
  ·exact fr _ (ya (habove x b (Gr hx)))
 have nO:∀b,s.heap.get? b=Jw->¬Own W b:=λb hb q=>by
  refine (C.hr.mT b q).elim λU w1q=>aO w1q λo e U=>?_;have e:=hb▸e;cases e
 have C1:=C.grow kp hg;refine Qc λU v8=>(id hns).elim λoL y8=>y8.elim λesL z8=>z8.elim λepL u9=>u9.elim λeL v9=>v9.elim λdL U=>v8 ?_;have hkind:∀x,(fh T fd s.heap.objs.size f).env.kindOf x=T.scope.names.lookup x:=λx=>by show fd.scope.names.lookup x=_;exact Z N.scope rfl
 have ctx:d7 T (fh T fd s.heap.objs.size f):=by
  refine ⟨⟨?_,N.globals,N.builtins,λx z i hx hz=>du O.s7 (lookup_mem hx) (lookup_mem hz),λx z c hx hz=>name_of_addr hapart (Gr hx) (Gr hz),λx i hx=>?_,λx i hx=>?_,.inl rfl,.inl rfl,λx i c U U U hc=>.inr ⟨x,hc⟩,λb hb=>hb,λx i c U U hc=>.inr ⟨x,hc⟩⟩,
   N.scope,rfl,rfl,O.lo.symm,λx i hx=>(O.all x i (lookup_mem hx)).2.2.1⟩
  ·show fd.scope.kind=_;exact Z N.scope O.kind
  ·refine Z (hkind _) ?_
   rcases (O.all x i (lookup_mem hx)).2.2.2 with q | q
   ·exact .inl q
   ·refine .inr ⟨.inl q,?_⟩
    exact CC.mp (gw _ _ _ _ (.inl (by exact Z N.scope (lookup_mem q))))
  ·have:=O.all x i (lookup_mem hx);exact ⟨this.1,this.2.1⟩
 have yy:=bS.mono cf.rfl (aX.of_keeps kp) (bZ.append y yd);have la:((args++dflt).map (J:AV->Option AV)).length=ps.length:=(xJ _).trans (xK.trans hl);have par:∀x i av,T.slots.lookup x=J i->((args++dflt).map J++yr (T.n-ps.length) (Jw:Option AV))[i]? =J (J av)->∃v,(x,v)∈ps.zip (vs++dv)/\VR W S5.heap av v:=λx i av hx hv=>by
  by_cases hi:i<ps.length
  ·rw[yw (by rw[la];exact hi),yA] at hv
   refine aO (yh.mp hv) λa' ha e=>?_;cases e;refine aO (yy.get ha) λv hv' yv=>?_;have hm:(ps[i],i)∈ps.zipIdx:=Ba.mpr (xR hi);have:=du O.s7 (lookup_mem hx) (lookup_mem (O.par _ _ hm));subst this;exact (aM v (zip_get hm hv') yv)
  ·rw[yU (by rw[la];exact xX.mp hi),Ew] at hv
   split at hv <;> cases hv
 refine h S5 kp hg ho ctx (C1.afp (L:=s.heap.objs.size) ?_ rfl (C.lg (fr _ (xS _))).1 eL dL (nO _ (fr _ (xS _)))) ⟨⟨_,hns,λx i av hx hk hv=>?_⟩,λx i c hx hk hc=>?_,λb hb=>(C.lg (fw b hb)).1,?_,λb hb=>nO b (fw b hb),λb hb=>?_⟩ fw
 ·show fd.scope.kind≠_;refine Z N.scope (Z O.kind ?_);simp
 ·refine aO (par x i av hx hv) λv hm yv=>?_
  exact (aM v (jN _ (by exact Ql (hkind _) hk) _ _ hdis hm) yv)
 ·refine Qc λU lI=>(hcell x c hc).elim λo v11=>v11.elim λe d=>lI ?_
  refine ⟨o,_,e,d,λav hv=>?_⟩;refine aO (par x i av hx hv) λv hm yv=>?_;exact (aM v (acs _ (by exact Ql (hkind _) hk) _ _ hdis hm) yv)
 ·have:=O.len
  show ((args++dflt).map J++yr (T.n-ps.length) Jw).length=T.n;exact Z xK (Z la (Z B7 (Aa O.len)))
 ·rcases hb with rfl | ⟨x,hx⟩
  ·exact (aM oL eL (bO dL))
  ·refine Qc λU wC=>(hcell x b hx).elim λo v12=>v12.elim λe d=>wC ?_
   exact (aM o e (je d))
end
section
variable{prog:AG}{w:World}{M:Model}{A:yS}{E:xP->xM->Prop}{h:yJ}{g:Array Br}{d:Drawn}{t:Nat}{os:ED}
variable{nm q:ze}{C N:yk}{bs:List xP}{sn:List ze}{sub:List xP}{ab:Bool}{col:Option Bool}{dd:Option yk}{k0 k1 k2 k3 k5:Option xP}
 {CP:yk} {c0:xP} {ddP:Option yk} {cdP:ClassData} {slP:Array (Option xP)} {mN mP:ze->Option xP}
theorem aci{e:yk}{oe:Obj}{rest:List xP}{Q:Unit->xM->Prop}(hC:h.get? C=J (zQ nm q C N bs (.ref CP::nQ) true sn sub ab col dd k0 k1 k2 k3 k5 "Exception.__new__"))(he:h.get? e=J oe)(hcls:oe.cls= .ref C)
  (hq:Q () ⟨h,g,d,t,os⟩):xY M A (zN "Exception.__init__" ⟨.ref e::rest,[]⟩) Q E ⟨h,g,d,t,os⟩:=by
 revert M A E h g d t os nm q C N bs sn sub ab col dd k0 k1 k2 k3 k5 CP e oe rest Q;apply hU;intro U;apply(?Z:Tq U);intro M A E h g d t os nm q C N;apply hU;intro U;apply(?Y:Tq U);intro bs sn sub ab col dd k0 k1 k2 k3 k5 CP;apply e4;intro U;apply(?X:Tq U);intro e oe rest Q;intros;have F:=Au;have hcB:=cM hC F.hasB;have hshort:=F.noStar;simp only[zN,F.initKind,F.initSplit,F.initRow]
 repeat (first | (with_reducible refine yT he ?_;rw[hcls]) | with_reducible refine yT hC ?_ | (with_reducible refine zP hC ?_;rw[hcB]) | wp_step)
 refine wpAny_onRaise ?_;rw[show ∀a b n,Bind.check ⟨.positional,"*","Exception",.self,[⟨"args",.varPos,false⟩]⟩ a b n (Hc (λx=>x.fst) ({pos:=y0 e::rest}:Args).kw)=pure () from
  λa b n=>check_star_args _ _ _ _ _ _]
 exact xU hq
noncomputable abbrev fK(C t:yk)(dict:Option yk):Obj:={cls:=.ref C,dict:=dict,data:=.fields #[.ref t,.none,.none,.none,.bool false,.none]}
theorem ajN{e t0:yk}(hC:h.get? C=J (zQ nm q C N bs (.ref CP::nQ) true sn sub ab col dd k0 k1 k2 k3 k5 "Exception.__new__"))(he:h.get? e=J (fK C t0 Jw))(hrest:rest.length<=Bb)
  (hq:Q .none ⟨(h.push {cls:=.type "tuple",data:=.seq rest.toArray}).update e (Aq (·.setIfInBounds 0 (y0 h.objs.size))),g,d,t,os⟩):
  xY (yK prog w) A (call (.builtin "Exception.__init__") (.ref e::rest)) Q E ⟨h,g,d,t,os⟩:=by
 have F:=Au;refine Fj (FV F.init.plain F.initEntry (aci hC he rfl ?_))
 wp_walk
 exact hq
theorem adF{Q:Unit->xM->Prop}(hC:h.get? C=J (zQ nm q C N bs (.ref CP::nQ) true sn sub ab col dd k0 k1 k2 k3 k5 "Exception.__new__"))(hx:h.get? x=J o)(hc:o.cls= .ref C)(hq:Q () ⟨h,g,d,t,os⟩):
  xY M A (zN "object.__setattr__" ⟨[.ref x,nameV,v],[]⟩) Q E ⟨h,g,d,t,os⟩:=by
 have SF:=GJ;have hcB:=cM hC SF.hasOwner;have ha:=SF.args (.ref x) nameV v;simp only[zN,SF.kind,SF.split];refine xI ?_;unfold isInstance
 repeat (first | (with_reducible refine yT hx ?_;rw[hc]) | (with_reducible refine zP hC ?_;rw[hcB]) | wp_step)
 all_goals first
  | exact hq
  | (cases hsig:Manifest.signature? "object.__setattr__" with
   | none=>exact xU hq
   | some sig=>
    simp only[FX,hsig] at ha;have h2:=ha;show xY M A (Bind.checkArgs "object.__setattr__" sig ⟨[.ref x,nameV,v],[]⟩) Q E _;rw[h2];exact xU hq)
theorem abG{tk:Tok}{Q:Fin->xM->Prop}(hC:h.get? C=J (zQ nm q C N bs (.ref CP::nQ) true sn sub ab col dd k0 k1 k2 k3 k5 "Exception.__new__"))(hn:h.Ns N mN)
  (hP:h.get? CP=J {cls:=c0,dict:=ddP,data:=.cls cdP,slots:=slP}) (hnP:h.Ns cdP.ns mP) (t4:mN "message"=Jw) (vv:mP "message"=Jw)
  (hx:h.get? x=J o) (hc:o.cls= .ref C) (hdn:o.dict=Jw) (hnc:∀c,o.data≠.cls c) (hfr:o.isFreed=false)
  (hq:∀h' tk',h'.get? x=J {cls:=o.cls,dict:=J h.objs.size,data:=o.data,slots:=o.slots}->(∀b ob,b≠x->h.get? b=J ob->h'.get? b=J ob)->Q (.done (.ret .none)) ⟨h',g,d,tk',os⟩):
  xY (yK prog w) A (AJ.«object.__setattr__» ⟨[.ref x,.str "message" tk,v],[]⟩) Q E ⟨h,g,d,t,os⟩:=by
 revert prog w A E h g d t os nm q C N bs sn sub ab col dd k0 k1 k2 k3 k5 CP c0 ddP cdP slP mN mP x o v tk Q;apply hU;intro U;apply(?Z:Tq U);intro prog w A E h g d t os nm q C;apply hU;intro U;apply(?Y:Tq U);intro N bs sn sub ab col dd k0 k1 k2 k3 k5;apply hU;intro U;apply(?X:Tq U);intro CP c0 ddP cdP slP mN mP x o v tk Q;intros;have hpass:=GJ.passes (.ref x);have hB:Av (.type "Exception") "message"=pure Jw:=by refine Z (zL _ _) (Z zd ?_);kernel_rfl
 unfold AJ.«object.__setattr__»
 repeat (first | rw[refuse_eq] | (rw[refuseLoop_ref,refuseLoop_ref,hpass]) | (with_reducible refine yT hx ?_;rw[hc]) | with_reducible refine wpAny_mroOf_exc hC ?_ | (with_reducible refine tS hC hn hP hnP hB ?_;rw[t4,vv]) | wp_step)
 rw[hdn,if_neg (by simp[typeHasDict])];split
 ·rename_i hcd
  cases hcd
 split
 ·rename_i c hcd
  exact absurd hcd (hnc c)
 have hx1:(h.push {cls:=.type "dict",data:=.dict #[]}).get? x=J o:=xW _ hx;have hxs:=zt (zb hx);refine xI (wpAny_alloc' ?_);refine xI (wpAny_update' hx1 ?_);refine xU ?_;have hgd:((h.push {cls:=.type "dict",data:=.dict #[]}).update x λo=>{cls:=o.cls,dict:=J h.objs.size,data:=o.data,slots:=o.slots}).get? h.objs.size
   =J {cls:=.type "dict",data:=.dict #[]}:=
  (DJ _ _ _ _ hxs.symm).trans (Ju rfl rfl)
 have wW:((h.push {cls:=.type "dict",data:=.dict #[]}).update x λo=>{cls:=o.cls,dict:=J h.objs.size,data:=o.data,slots:=o.slots}).Ns h.objs.size (λU=>Jw):=
  ⟨_,#[],_,hgd,rfl,λe he=>absurd he (by simp),λU=>rfl⟩
 show xY _ _ (Ez h.objs.size (.str "message" tk) "message" v) _ _ _;unfold Ez Builtin.ObjectAttr.newKeyGuard;refine xI (xU (xI (wpAny_nsSet1 (Io wW) λh' hn' hs=>?_)));refine Qc λU u6=>(hn'.count (Within.cons _ v Within.nil)).elim λoD v6=>v6.elim λesD y6=>y6.elim λepD z6=>z6.elim λhoD u7=>u7.elim λhdD hcD=>u6 ?_;refine xI (wpAny_lookBehind hoD (by rw[hdD];exact pastItsLine_dict (xH hcD (by decide))) ?_)
 wp_walk
 refine hq h' _ ?_ λb ob hbx hb=>?_
 ·refine (hs.2 x hxs).trans (Ad _ hx1 ?_)
  obtain ⟨oc,od,odt,osl⟩:=o;cases odt <;> first | rfl | exact hfr
 ·exact (hs.2 b (zt (zb hb))).trans ((DJ _ _ _ _ hbx).trans (xW _ hb))
theorem ahM(hC:h.get? C=J (zQ nm q C N bs (.ref CP::nQ) true sn sub ab col dd k0 k1 k2 k3 k5 "Exception.__new__"))(hn:h.Ns N mN)
  (hP:h.get? CP=J {cls:=c0,dict:=ddP,data:=.cls cdP,slots:=slP}) (hnP:h.Ns cdP.ns mP) (uw:mN "__setattr__"=Jw) (sZ:mP "__setattr__"=Jw) (t4:mN "message"=Jw) (vv:mP "message"=Jw)
  (hx:h.get? x=J (fK C t0 Jw))
  (hq:∀h' tk',h'.get? x=J (fK C t0 (J h.objs.size))->(∀b ob,b≠x->h.get? b=J ob->h'.get? b=J ob)->Q () ⟨h',g,d,tk',os⟩):
  xY (yK prog w) A (setAttr (.ref x) "message" v) Q E ⟨h,g,d,t,os⟩:=by
 have SF:=GJ;have f3:=SF.slot.bind (.ref x);unfold setAttr Jm I4
 repeat (any_goals (first | assumption | with_reducible refine yT hx ?_ | (with_reducible refine tS hC hn hP hnP SF.slot.lookup ?_;rw[uw,sZ]) | wp_step))
 refine FV SF.slot.plain SF.entry (adF hC hx rfl (abG hC hn hP hnP t4 vv hx rfl rfl (λc=>by simp) rfl λh' tk' a b=>?_));exact xU (xU (hq h' tk' a b))
end
inductive sv(T:CT):List CM->Prop
 | mk(np mm ap a_p c_p p p1 a_p' mp' c_p' p2:Pos)(hx:T.de "Exception"=true)(hap:ap.endLine=p.line)(ha:T.slots.lookup ("self":ze)=J 0)(hc:T.slots.lookup ("message":ze)=J 1):
  sv T [.Expr (.Call (.Attribute (.Name "Exception" np) "__init__" ap) [.Name "self" a_p,.Name "message" c_p] [] p) p1,.Assign [.Attribute (.Name "self" a_p') "message" mp'] (.Name "message" c_p') p2]
inductive v5(P:cy)(C f:yk):Prop
 | mk(X:ExcAt P.hS C f)(T:CT)(b:List CM)(fd:Dr)(Fn:iY P f T ["self","message"] [] b fd)(hg:fd.scope.isGenerator=false)(hb:sv T b)(hf:∀o,P.hS.get? f=J o->o.cls= .type "function"):v5 P C f
inductive api(hS:yJ):Prop
 | mk(mg mb:ze->Option xP)(g1:hS.Ns zA mg)(g2:hS.Ns BO mb)(g3:mg "Exception"=Jw)(g4:mb "Exception"=J (.type "Exception")):api hS
structure gP(P:cy):Prop where
 cls:∀C,P.exc C->∃f,v5 P C f
 wm:api P.hS
 lim:P.hS.NoLimit
section
variable{P:cy}{A:yS}{fl:List BX}{W W':WD}{H H':AH}{s s':xM}{F:Fx}{T:CT}{ρ:EV}
theorem Cx.aoX(C:Cx P fl W H s){e:yk}(nO:¬Own W e)(nS:P.hS.get? e=Jw)(nF:¬cD fl e)(nf:∀o,s.heap.get? e=J o->¬bp o)(k:∀b o,b≠e->s.heap.get? b=J o->h'.get? b=J o):Cx P fl W H {s with heap:=h',toks:=t}:=
 (C.but (s':={s with heap:=h'}) (own:=λb=>b=e) (λb q=>q▸nO) (λb q=>q▸nS) (λb q=>q▸nF) (λb o q e'=>nf o (q▸e')) k rfl).tok t
theorem nq{h:yJ}{e C t:yk}(he:h.get? e=J (fK C t d)):∀o,h.get? e=J o->¬bp o:=λo e'=>by
 obtain rfl:=xT (he.symm.trans e');exact kj rfl
theorem alj{f C e t0:yk}{m:ze}{v:xP}{E:xP->xM->Prop}(X:gP P)(N:v5 P C f)(hroom:A.depth<Ek)(hh:A.handled=Jw)
  (Cc:Cx P fl W H s) (he:s.heap.get? e=J (fK C t0 Jw)) (nO:¬Own W e) (nS:P.hS.get? e=Jw) (nF:¬cD fl e) (y:VR W s.heap (.str m) v) {R:xP->xM->Prop}
  (hR:∀s' t dict,s'.heap.get? e=J (fK C t dict)->Cx P fl W H s'->(∀b o,b≠e->s.heap.get? b=J o->s'.heap.get? b=J o)->s'.gens=s.gens->s'.os=s.os->R .none s'):
  xY P.M A (call (.ref f) [.ref e,v]) R E s:=by
 revert P A fl W H s f C e t0 m v E R;apply hU;intro U;apply(?Z:Tq U);intro P A fl W H s f C e t0 m v;apply e1;intro U;apply(?Y:Tq U);intro E;intro X N hroom hh Cc he nO nS nF y;apply e1;intro U;apply(?X:Tq U);intro R;intros;obtain ⟨⟨nm,q,N,bs,sn,sub,ab,col,dd,k0,k1,k2,k3,k5,CP,c0,ddP,cdP,slP,mN,mP,hC,hn,hP,hnP,s6,uw,t4,wF,sZ,vv⟩,T,b,fd,Fn,hg,hb,hfc⟩:=N;refine Fj ?_;refine codeAny_mono (aZ.any (agE (R:=λr s'=>∃v,r= .ok (.ret v)/\R v s') (args:=[.raw e,.str m]) (dflt:=[]) Fn Cc (.cons (.raw e) (.cons y .nil)) .nil rfl hg X.lim hroom λS5 kp hgn hos ctx C₁ R0 fw=>aB.of ?_)) λr s' u21=>aO u21 λv hr q=>by subst hr;exact q
 generalize hF:fh T fd s.heap.objs.size f=F at*;obtain ⟨np,mm,ap,a_p,c_p,p,p1,a_p',mp',c_p',p2,hx,hap,ha,hc⟩:=hb;obtain ⟨mg,mb,g1,g2,g3,g4⟩:=X.wm;have he1:=kp _ _ he;have nFo:¬F.own e:=λq=>by
  have:=fw e (by rw[<-hF] at q ⊢;exact q);have this:=he▸this;cases this
 have nF1:¬cD (F.env::fl) e:=λy21=>y21.elim λenv z21=>z21.elim λhm hfr=>by
  rcases yu.mp hm with rfl | hm
  ·have:=fw e (by refine Ql hF ?_;have hfr:=(Hu hF)▸hfr;cases hfr;exact .inl rfl)
   have this:=he▸this;cases this
  ·exact nF ⟨env,hm,hfr⟩
 have nm0:∀{s2:xM} {Q:xP->xM->Prop} {E:xP->xM->Prop} {zp:Pos} {A:yS},FR P.hS F W s2.heap ([J (.raw e),J (.str m)]++yr (T.n-2) Jw)->Q (.ref e) s2->xY P.M A (eval (.Name "self" zp) F.env) Q E s2:=λR2 q=>
  pz ctx R2 ha (av:=.raw e) rfl λv y=>by cases y;exact q
 have nm1:∀{s2:xM} {Q:xP->xM->Prop} {E:xP->xM->Prop} {zp:Pos} {A:yS},FR P.hS F W s2.heap ([J (.raw e),J (.str m)]++yr (T.n-2) Jw)->(∀t,Q (.str m t) s2)->xY P.M A (eval (.Name "message" zp) F.env) Q E s2:=λR2 q=>
  pz ctx R2 hc (av:=.str m) rfl λv y=>by obtain ⟨t⟩:=y.an5;exact q t
 refine Hh (wpAny_Expr_any ?_ (aeH ctx.iN.kind) rfl);have hpl:(FW p (CV [Expr.Name "self" a_p,Expr.Name "message" c_p] F.env)).any (·.1)=false:=rfl;refine (afb (r:=false) (pl:=do return (<-importBound (.Name "Exception" np) F.env).getD true) (aB.of (aeL ctx C₁.bq hx g1 g2 g3 g4 (aB.of ?_))) (by
   rw[arm_eval_Call,baseOk.plain (o:=.Name "Exception" np) rfl];exact congrArg (eval (.Name "Exception" np) F.env>>= ·) (funext λov=>congrArg (BZ _>>= ·) (funext λU=>aae rfl (beq_iff_eq.mpr hap))))).any
 refine adD (aB.of ?_);refine Calls.callWith_builtin hpl (Calls.evalArgs_plain ?_);refine wpAny_items_cons (nm0 (s2:={S5 with toks:=S5.toks+1}) R0 ?_) rfl;refine wpAny_items_cons (nm1 (s2:={S5 with toks:=S5.toks+1}) R0 λt1=>?_) rfl;refine wpAny_items_nil ?_;obtain ⟨h1,g,d,t,os⟩:=S5;dsimp only at*;refine ajN (C₁.bq _ _ hC) he1 (by simp[Bb]) ?_;have e2:((h1.push {cls:=.type "tuple",data:=.seq [y0 e,HB m t1].tail.toArray}).update e (Aq (·.setIfInBounds 0 (y0 h1.objs.size)))).get? e=J (fK C h1.objs.size Jw):=by
  rw[Ad _ (xW _ he1) rfl];rfl
 show xY P.M _ (execs _ F.env) _ _ ⟨(h1.push {cls:=.type "tuple",data:=.seq [y0 e,HB m t1].tail.toArray}).update e (Aq (·.setIfInBounds 0 (y0 h1.objs.size))),g,d,t+1,os⟩;have kp2:∀b o,b≠e->h1.get? b=J o->((h1.push {cls:=.type "tuple",data:=.seq [y0 e,HB m t1].tail.toArray}).update e (Aq (·.setIfInBounds 0 (y0 h1.objs.size)))).get? b=J o:=λb o hbe hb=>by
  rw[BU _ _ (DT hbe)];exact xW _ hb
 generalize (h1.push {cls:=.type "tuple",data:=.seq [y0 e,HB m t1].tail.toArray}).update e (Aq (·.setIfInBounds 0 (y0 h1.objs.size)))=h2 at e2 kp2 ⊢;have C₂:Cx P (F.env::fl) W H ⟨h2,g,d,t+1,os⟩:=C₁.aoX nO nS nF1 (nq he1) kp2;have R6:=FR.amk (s:=⟨h1,g,d,t,os⟩) ctx.iN R0 (cK kp2 (nq he1)) λb o hb e'=>kp2 b o (λq=>nFo (q▸hb)) e';refine Hh ?_;refine Z (Fz _ _ _) ?_;refine xI (Cj ?_);refine Z (show Ck [Expr.Attribute (.Name "self" a_p') "message" mp'] (.Name "message" c_p') p2.line F.env=pure false from rfl) ?_;refine xI (xU ?_);refine Z (if_neg (by decide)) ?_;refine xI (nm1 (s2:=⟨h2,g,d,t+1,os⟩) R6 λt2=>?_);refine Z (show Cm [Expr.Attribute (.Name "self" a_p') "message" mp'] (.Name "message" c_p') F.env=pure Jw from rfl) ?_;refine xI (xU ?_);show xY P.M _ (do assignAll (.str m t2) [C9 (.Attribute (.Name "self" a_p') "message" mp') F.env];pure Fw) _ _ _;refine xI ?_;show xY _ _ (do let ov<-CY [.str m t2] (eval (.Name "self" a_p') F.env);Jf mp'.atName;CY [.str m t2,ov] (setAttr ov "message" (.str m t2));release [.str m t2,ov] []) _ _ _;refine xI (zZ (nm0 (s2:=⟨h2,g,d,t+1,os⟩) R6 ?_));refine xI (Cj (xI (zZ ?_)));have st2:=C₂.bq;refine ahM (st2 _ _ hC) (hn.keeps st2) (st2 _ _ hP) (hnP.keeps st2) uw sZ t4 vv e2 λh3 tk3 e3 kp3=>(gH (r:=false) (xU ?_)).any;refine DV (aM (.none) rfl (hR _ _ _ e3 ?_ (λb o hbe hb=>kp3 b o hbe (kp2 b o hbe (kp b o hb))) hgn hos));exact (C₂.aoX nO nS nF1 (nq e2) kp3).fu
theorem ajM(X:gP P)(hx:P.exc C)(hA:gQ P A fl 5)(Cc:Cx P fl W H s)(y:VR W s.heap (.str m) v)
  (hQ:∀s' e t dict,s.heap.get? e=Jw->s'.heap.get? e=J (fK C t dict)->Cx P fl W H s'->(∀b o,s.heap.get? b=J o->s'.heap.get? b=J o)->s'.gens=s.gens->s'.os=s.os->Q (.ref e) s'):
  xY P.M A (call (.ref C) [v]) Q E s:=by
 refine (X.cls C hx).elim λf N=>?_;obtain ⟨⟨nm,q,N',bs,sn,sub,ab,col,dd,k0,k1,k2,k3,k5,CP,c0,ddP,cdP,slP,mN,mP,hC,hn,hP,hnP,s6,uw,t4,wF,sZ,vv⟩,Ti,b,fd,Fn,hg,hb,hfc⟩:=id N;refine aO Fn.at_ λoF hoF hdF=>?_;obtain ⟨hh,g,d,t,os⟩:=s;refine ajO (Cc.bq _ _ hC) (hn.keeps Cc.bq) (Cc.bq _ _ hP) (hnP.keeps Cc.bq) s6 wF (Cc.bq _ _ hoF) (hfc _ hoF) (by simp[Bb]) ?_;have kp:∀b o,hh.get? b=J o->((hh.push {cls:=.type "tuple",data:=.seq [v].toArray}).push {cls:=.ref C,data:=.fields #[.ref hh.objs.size,.none,.none,.none,.bool false,.none]}).get? b=J o:=
  λb o e=>xW _ (xW _ e)
 have he:((hh.push {cls:=.type "tuple",data:=.seq [v].toArray}).push {cls:=.ref C,data:=.fields #[.ref hh.objs.size,.none,.none,.none,.bool false,.none]}).get? (hh.objs.size+1)=J (fK C hh.objs.size Jw):=by
  exact Z (show hh.objs.size+1=(hh.push {cls:=.type "tuple",data:=.seq [v].toArray}).objs.size from (BK ..).symm) (yC _ rfl)
 have fe:hh.get? (hh.objs.size+1)=Jw:=zF (yY _);refine (Cc.lg fe).elim λnS nF=>?_;have nO:¬Own W (hh.objs.size+1):=λq=>by
  refine (Cc.hr.mT _ q).elim λU w1q=>aO w1q λo e U=>?_;have e':=e;have e':=fe▸e';cases e'
 have C1:Cx P fl W H {heap:=(hh.push {cls:=.type "tuple",data:=.seq [v].toArray}).push {cls:=.ref C,data:=.fields #[.ref hh.objs.size,.none,.none,.none,.bool false,.none]},gens:=g,drawn:=d,toks:=t,os:=os}:=Cc.grow kp rfl;refine alj (A:=A.under (.builtin "type.__call__" ⟨[.ref C,v],[]⟩)) (R:=λr s'=>r=zK/\Q (.ref (hh.objs.size+1)) s') X N ?_ hA.handled C1 he nO nS nF (y.mono cf.rfl (aX.of_keeps kp)) λs' t' dict e1 C2 k2 g2 o2=>⟨rfl,hQ s' _ t' dict fe e1 C2 (λb o e=>k2 b o (λq=>?_) (kp b o e)) g2 o2⟩
 ·show A.depth+1<_
  exact xN (yf (by decide) _) hA.depth
 ·subst q
  have e':=e;have e':=fe▸e';cases e'
inductive agU(E:xP->xM->Prop)(C:yk)(s:xM):xP->Prop
 | mk(e t:yk)(dict:Option yk)(f:yk)(X:ExcAt s.heap C f)(he:s.heap.get? e=J (fK C t dict))(hE:E (.ref e) s):agU E C s (.ref e)
theorem afn{M:Model}{env:BX}(hh:A.handled=Jw)
  (h:aB r M A x (λv S5=>agU E C S5 v) E s):aB r M A (raiseStmt env (J x) Jw) Q E s:=by
 have hcB:∀CP,(y0 C::y0 CP::nQ).contains (.type "BaseException")=true:=λCP=>by
  rw[AA,AA,Au.hasBase,EH,EH]
 unfold raiseStmt;refine aB.seq h λv S5 h₁=>aB.of ?_;obtain ⟨e,t,dict,f,⟨nm,q,N,bs,sn,sub,ab,col,dd,k0,k1,k2,k3,k5,CP,c0,ddP,cdP,slP,mN,mP,hC,_⟩,he,hE⟩:=h₁;obtain ⟨hp,g,d,tk,os⟩:=S5;dsimp only at*;have hcB:=hcB CP
 repeat (first | with_reducible refine yT he ?_ | with_reducible refine yT hC ?_ | (with_reducible refine zP hC ?_;rw[hcB]) | wp_step)
 exact wpAny_raiseNew_none hh hE
end
theorem wL.get(h:wL args k):∃x,args=[x]/\k x:=match args,h with | [x],h=>(aM x rfl h)
theorem onStr.get(h:onStr x k):∃m,x= .str m/\k m:=by cases x with | str m=>exact aM m rfl h | _=>exact yX h
section
variable{z:Zx}
theorem akQ(K:d8 z)(X:gP z.P){g:yF->PT AV}(hg:∀e,cZ z e (g e)){x:ze}{np cpos pos:Pos}{args:List yF}:
   lS z (.Raise (J (.Call (.Name x np) args [] cpos)) Jw pos) (cQ fa (z.T.de x&&args.all noStar&&decide (args.length<20)) (dc fa (z.T.cls.lookup x) λC=>bF C (eU g args))):=by
 revert z g x np cpos pos args;apply e1;intro U;apply(?Z:Tq U);intro z;intro K X;apply e1;intro U;apply(?Y:Tq U);intro g;intro hg;apply e5;intro U;apply(?X:Tq U);intro x np cpos pos args;intros;exact λ{ρ p Kf Xf} h=>
  cQ.jH h λe h=>dc.jH h λCa hC h=>by
   simp only[Am] at e;refine e.elim λu6 U=>u6.elim λe0 e1=>?_;obtain ⟨mg,mb,gm,gb,fn,cls,bi,kv⟩:=K.cH.gl;refine (cls _ _ hC).elim λge U=>?_;show Es p (exec (.Raise (J (.Call (.Name x np) args [] cpos)) Jw pos) z.env) Kf Xf;rw[arm_exec_Raise];refine Es.standAt (afn (C:=Ca) K.kF.handled (aB.bind ?_));show aB _ _ _ (eval (.Name x np) z.env>>=λf=>EY cpos f [] (FW cpos (CV args z.env)) []) _ _ _;refine aB.bind (aB.of (my K e0 gm ge ?_));refine acn (hX e1) ((aka K hg e1 h).then λP0 as a le ys q=>?_);obtain ⟨l,kw⟩:=a;obtain ⟨ys,rfl⟩:=ys;obtain ⟨av,rfl,q⟩:=wL.get q;obtain ⟨m,rfl,hexc,q⟩:=onStr.get q;cases ys with
   | cons ym yn=>
   cases yn;have hxx:=K.sig.exc _ hexc;obtain ⟨f,XA,_⟩:=X.cls Ca hxx;refine ⟨?_,aB.of (ajM X hxx (K.kF.le (xH (by decide) (zJ ..))) P0.C ym λS9 e t dict fe oe C₃ kp hg ho=>aB.bind (aB.standAt (aB.pure ?_)))⟩
   ·obtain ⟨nm,q',N,bs,sn,sub,ab,col,dd,k0,k1,k2,k3,k5,CP,c0,ddP,cdP,slP,mN,mP,hC',_⟩:=XA.keeps P0.C.bq
    obtain ⟨W,H,⟨hp,g,d,tk,os⟩,C,R⟩:=P0;exact wpAny_keeperOf_exc hC' rfl
   ·have L2:iV P0 (⟨P0.W,P0.H,S9,C₃,P0.R.grow kp⟩:Pt z ρ):=Step.grow kp hg ho
    exact ⟨e,t,dict,f,XA.keeps C₃.bq,oe,XS.mk (p:=p) (⟨P0.W,P0.H,S9,C₃,P0.R.grow kp⟩:Pt z ρ) Ca e .new ⟨hxx,q⟩ (le.s.trans L2) ⟨Step.back le e fe,P0.rm fe,fK Ca t dict,_,oe,rfl,rfl,rfl⟩⟩
end
section
variable{P:cy}{s:xM}{A:yS}
theorem abf(X:gP P)(hD:P.exc D)
  (hP:P.hS.get? CP=J {cls:=c0,dict:=ddP,data:=.cls cdP,slots:=slP}) (hnP:P.hS.Ns cdP.ns mP) (hi:mP "__init__"=J (.ref f)):CP≠D:=λe=>by
 subst e;obtain ⟨f',⟨nm',q',N',bs',sn',sub',ab',col',dd',k0',k1',k2',k3',k5',CP',c0',ddP',cdP',slP',mN',mP',hC,hn,_,_,s6,_⟩,_⟩:=X.cls _ hD;have hC:=hP▸hC;have hns:cdP.ns=N':=congrArg ClassData.ns (Data.cls.inj (congrArg Obj.data (xT hC)));have hnP:=hns▸hnP;obtain ⟨o1,es1,ep1,e1,d1,_,m1⟩:=hn;obtain ⟨o2,es2,ep2,e2,d2,_,m2⟩:=hnP;have e2:=e1▸e2;cases e2;have d2:=d1▸d2;cases d2;rw[<-m2,m1,s6] at hi;cases hi
theorem aeT{M:Model}{C D e:yk}{oe:Obj}{Q:Bool->xM->Prop}{E:xP->xM->Prop}(X:gP P)(hx:P.exc C)(hD:P.exc D){hp:yJ}{g:Array Br}{d:Drawn}{tk:Nat}{os:ED}(st:P.hS.StaysIn hp)(he:hp.get? e=J oe)(hc:oe.cls= .ref C)(hQ:Q (C==D) ⟨hp,g,d,tk,os⟩):
  xY M A (excMatches (.ref e) (.ref D)) Q E ⟨hp,g,d,tk,os⟩:=by
 revert P A M C D e oe Q E hp g d tk os;apply e9;intro U;apply(?Z:Tq U);intro P A M C D e oe Q E;intro X hx hD;apply e5;intro U;apply(?Y:Tq U);intro hp g d tk os;intros;refine Qc λU zz=>?_;obtain ⟨f,⟨nm,q,N,bs,sn,sub,ab,col,dd,k0,k1,k2,k3,k5,CP,c0,ddP,cdP,slP,mN,mP,hC,hn,hP,hnP,s6,uw,t4,wF,sZ,vv⟩,_⟩:=X.cls C hx;have apart:=abf X hD hP hnP wF;obtain ⟨f',⟨nm',q',N',bs',sn',sub',ab',col',dd',k0',k1',k2',k3',k5',CP',c0',ddP',cdP',slP',mN',mP',hCD,_⟩,_⟩:=X.cls D hD;have hC:=st _ _ hC;have hCD:=st _ _ hCD;refine zz ?_;have hcB:∀C CP:yk,(y0 C::y0 CP::nQ).contains (.type "BaseException")=true:=λC CP=>by
  rw[AA,AA,Au.hasBase,EH,EH]
 have hcD:(y0 C::y0 CP::nQ).contains (.ref D)=(C==D):=by
  have e1:=beq_false_of_ne λh=>apart (DP h).symm;have e2:nQ.contains (y0 D)=false:=rfl;rw[AA,AA,e1,e2,Ei,Ei];by_cases h:C=D
  ·subst h;rw[beq_self_eq_true,beq_self_eq_true]
  ·rw[beq_false_of_ne h]
   exact beq_false_of_ne λq=>h (DP q).symm
 have f:=tc_notTuple;have hcB':=hcB D CP';unfold excMatches
 repeat (first | (with_reducible refine yT he ?_;rw[hc]) | with_reducible refine yT hCD ?_ | (with_reducible refine zP hCD ?_;rw[hcB']) | (with_reducible refine zP hC ?_;rw[hcD]) | wp_step)
 cases hb:(C==D)
 ·have hQ:=hb▸hQ
  wp_walk
  exact hQ
 ·have hQ:=hb▸hQ
  wp_walk
  exact hQ
end
inductive sA(T:CT)(l:List (yk×ze)):List AU->Prop
 | nil:l=[]->sA T l []
 | cons(x:ze)(np cp rp pos:Pos)(m:ze)(k:Nat)(r:List AU)(D:yk)(l':List (yk×ze))(hg:T.de x=true)(hc:T.cls.lookup x=J D)(hr:qF T r=J l')(e:l=(D,m)::l'):
  sA T l (.ExceptHandler (J (.Name x np)) Jw [.Return (J (.Constant (.str m) k cp)) rp] pos::r)
theorem dc.lM(h:dc Jw o k=J l):∃a,o=J a/\k a=J l:=match o,h with | some a,h=>(aM a rfl h)
theorem cQ.lM(h:cQ Jw b x=J l):b=true/\x=J l:=match b,h with | true,h=>⟨rfl,h⟩
theorem ac9{T:CT}{hs:List AU}{l:List (yk×ze)}(h:qF T hs=J l):sA T l hs:=by
 cases hs with
 | nil=>exact .nil (xT h).symm
 | cons h₀ r=>
  refine aO (dc.lM h) λs U h=>?_;refine (cQ.lM h).elim λhg h=>?_;refine aO (zw.mp h) λD hc h=>?_;refine aO (yh.mp h) λl' hr e=>?_;induction s with
  | mk x np m k cp rp pos=>exact .cons x np cp rp pos m k r D l' hg hc hr e.symm
section
variable{z:Zx}
theorem ace(K:d8 z)(X:gP z.P)(tp:Top z){p:Pt z ρ}{Kf:KF}(hx:z.P.exc Ca):∀{hds:List AU} {l:List (yk×ze)},sA z.T l hds->∀{ρ':EV} {p':Pt z ρ'},iV p p'->eX z.env p.s p'.W p'.h a Ca .out->
  xn z.G l Ca (ρ.map λU=>Jw) p'.H Kf Xf->xY z.M z.A (handleBy (.ref a) z.env hds) (GS p Kf) (XS p Xf) p'.s
 | [],l,ho,ρ',p',le,nt,hw=>by
  cases ho with | nil e=>
  subst e;refine wpAny_handleBy_nil ?_;unfold PySem.passOn;refine tp.frame.elim λL hL=>?_;obtain ⟨_,_,oe,vs,h3,_,h5,T,oT,ts,r1,_⟩:=id nt;refine xI (Bj h3 h5 r1 ?_);refine Z (if_neg (show ¬((y0 T==zK)=true) from by simp)) ?_;refine xI (gN K (m:=z.env.frame) (f':=.held) le nt (λh=>by cases h) (λr=>⟨L,hL,by rw[hL] at r;exact r⟩) λP5 L1 eH₂ nt2=>?_);exact Hw (XS.mk P5 Ca a .held (by exact Z eH₂ ⟨hx,hw⟩) L1 nt2)
 | _::_,l,ho,ρ',p',le,nt,hw=>by
  cases ho with | cons x np cp rp pos m k r D l' hg hc hr e=>
  subst e;obtain ⟨mg,mb,gm,gb,fn,cls,bi,kv⟩:=K.cH.gl;refine (cls _ _ hc).elim λgv U=>?_;obtain ⟨_,_,oe,vs,ho,hcl,_⟩:=id nt;refine wpAny_handleBy_cons (codeAny_handlers_test (agB K.ctx p'.C.bq hg gm gv ?_)) (by intro q;cases q);refine aeT X hx (K.sig.exc D hw.1) p'.C.bq ho hcl ?_;have hw:=hw.2;generalize (Ca==D)=bb at hw ⊢;induction hw with
  | t hw=>
   refine codeAny_handlers_suite ?_;refine gN K (m:=Jw) (f':=.out) le nt (λh=>by cases h) (λr=>r) λP5 L1 eH₂ nt2=>?_;refine Hh (wpAny_Return_some (wpAny_Constant_str ?_));have R1:FR z.P.hS z.F P5.W P5.h (ρ.map λU=>Jw):=P5.R.weak (by exact Z (xJ _) (Z p.R.len (Z P5.R.len rfl))) λi av e=>by
    rw[yA] at e;cases q:ρ[i]? <;> rw[q] at e <;> cases e
   exact GS.mk (p:=p) (⟨P5.W,P5.H,{P5.s with toks:=P5.s.toks+1},P5.C.tok _,R1⟩:Pt z _) (.ret (.str m)) (L1.trans (Step.grow (s:=P5.s) (s':={P5.s with toks:=P5.s.toks+1}) (λU U e=>e) rfl rfl)) (.ret (.str _ _)) (by exact Z (show (⟨P5.W,P5.H,{P5.s with toks:=P5.s.toks+1},P5.C.tok _,R1⟩:Pt z _).H=p'.H from eH₂) hw)
  | f hw=>exact ace K X tp hx (ac9 hr) le nt hw
theorem anY(K:d8 z)(X:gP z.P)(tp:Top z){bd:List CM}{h₀:AU}{hs:List AU}{pos:Pos}{b:ST}(hb:uz z bd b):lS z (.Try bd (h₀::hs) [] [] pos) (dc fa (qF z.T (h₀::hs)) λl=>vG b l):=by
 exact λ{ρ p Kf Xf} h=>dc.jH h λl hl h=>by
  show Es p (exec (.Try bd (h₀::hs) [] [] pos) z.env) Kf Xf;rw[arm_exec_Try];refine Es.standAt (anW ((hb h).mono (λf S5 x=>?_) λe S5 x=>?_))
  ·induction x with | mk p' l le rl q=>
   induction rl with
   | next=>exact aB.of (DV ⟨p',.next,le,.next,q⟩)
   | cont=>exact ⟨p',.cont,le,.cont,q⟩
   | brk=>exact ⟨p',.brk,le,.brk,q⟩
   | ret y=>exact ⟨p',.ret _,le,.ret y,q⟩
  ·obtain ⟨p',C,a,f,x,le,nt⟩:=x
   refine pv K tp x.1 le nt λP0 le1 eH nt1=>?_;refine gN K (m:=Jw) (f':=.out) le1 nt1 (λh=>by cases h) (λr=>r) λP5 L1 eH₂ nt2=>?_;exact ace K X tp x.1 (ac9 hl) L1 nt2 (by exact Z eH₂ (Z eH x.2))
structure apb(z:Zx):Prop where
 K:d8 z
 tp:Top z
 X:gP z.P
 g:eY z.P z.n z.G
theorem ajS(N:apb z){n:Nat}{rec:CM->ST}(ih:∀s,lS z s (rec s)){s:CM}(h:gz s):lS z s (h.comp (comp (n+1)) rec z.T):=by
 have ic:=dz (n+1) z N.K;have ie:∀e,cZ z e (comp (n+1) z.T e).1:=λe=>(ic e).1;have ib:=pP ih;intro ρ p Kf X q;induction h with
 | pass=>exact pass_S q
 | expr x=>exact ano N.K (ie x) q
 | asg tg x=>exact ao7 N.K q
 | aug x np y=>exact ao5 N.K (ie y) q
 | an9=>exact amV q
 | ret x=>exact an8 (ie x) q
 | ite x b o=>exact aoG (ic x).2 (ib b) (ib o) q
 | whl x b=>exact akl N.K N.tp (ic x).2 (ib b) q
 | aoN tg it b=>exact cQ.jH q λhs q=>aoM (t:=kC (λe=>(comp (n+1) z.T e).1) z.T tg) N.K N.tp N.g (λh=>dc.kh h λs U U=>⟨s⟩) (al1 N.K ie) (ib b) hs (ie it) q
 | anZ b=>exact anY N.K N.X N.tp (ib b) q
 | raise=>exact akQ N.K N.X ie q
theorem oW(N:apb z)(n):∀k s,lS z s (stmt (comp (n+1)) k z.T s)
 | 0,_=>λh=>yX h
 | k+1,s=>λh=>dc.jH h λsh U h=>ajS N (oW N n k) sh h
end
noncomputable abbrev cE:XE:=comp 12
abbrev cB(T:CT):List CM->ST:=lQ (stmt cE 12 T)
section
variable{r:Bool}{P:cy}{n:Nat}{G:fW}{T:CT}
theorem anC(X:gP P)(sg:fN P r n G)(g:eY P n G)(oo:pX P.NM)(cH:jk P T){ps:List ze}{dflt:List AV}(Fn:iY P f T ps dv b fd)(hgen:fd.scope.isGenerator=false)
  (yd:∀W h,bS W h dflt dv) {Q:AV->AH->Prop} {Xf:XF} (hl:args.length+dflt.length=ps.length)
  (h:cB T b G (sD ps.length T.n (args++dflt)) H (tJ Q) Xf):dW P r (n+1) f args H Q Xf:=by
 intro A fl env W s vs hA C y;have hroom:=hA.wI;refine agE Fn C y (yd W s.heap) hl hgen cH.lim hroom λS5 kp hg ho ctx C₁ R0 fw=>?_;have fL:=fw _ (.inl rfl);have hfr:(fh T fd s.heap.objs.size f).env.frame=J s.heap.objs.size:=rfl;generalize fh T fd s.heap.objs.size f=F at*;have kF:gQ P (A.deeper F.env) (F.env::fl) (20*n+15):=by
  refine ⟨?_,?_,λq=>Around.frames_deeper (hA.frames q),hA.handled⟩
  ·exact ad1 hA.depth
  ·exact ad2 hA.units
 let z:Zx:=⟨P,r,A.deeper F.env,F.env::fl,n,G,T,F⟩
 let p:Pt z (sD ps.length T.n (args++dflt)):=⟨W,H,S5,C₁,R0⟩
 have K:d8 z:=⟨kF,sg,cH,ctx,oo⟩
 have tp:Top z:=⟨kF.frames,λU=>⟨fl,rfl⟩,⟨_,hfr⟩⟩
 have st0:Step F.wr (cD (F.env::fl)) W s W S5:=Step.grow kp hg ho;have bk:=Step.back st0;refine (pP (oW (z:=z) ⟨K,tp,X,g⟩ 11 12) b (p:=p) h).mono (λfw' U x=>?_) λe U x=>?_
 ·induction x with | mk p' l le rl q=>
  have st':=Step.fu hfr fL fw (st0.trans le);have C':=p'.C.fu;induction rl with
  | ret y=>exact ⟨_,_,_,q,C',y,st'⟩
  | _=>exact ⟨_,_,.none,q,C',.none,st'⟩
 ·refine XS.anc K tp x λp' Ca a x' e1 le nt=>?_
  subst e1;exact XV.mk p'.W p'.H p'.s Ca a x' p'.C.fu (Step.fu hfr fL fw (st0.trans le)) (nt.back bk (.inl (λh=>by cases h)))
inductive uj(P:cy)(f:yk)(d:qO):Prop
 | mk(T:CT)(ps:List ze)(dv:List xP)(b:List CM)(fd:Dr)(st:jk P T)(fn:iY P f T ps dv b fd)(hg:fd.scope.isGenerator=false)(hn:d.n=T.n)(hk:d.k=ps.length)(hb:cB T b=d.body)(yd:∀W h,bS W h (d.dflt.map AV.int) dv):uj P f d
structure fm(P:cy)(t:Tab):Prop where
 init:∀C f,t.init C=J f->pY P.hS C f
 cR:∀C k f,t.cR C k=J f->mD P.hS (P.NM k) C f
 fld:∀C k,P.fld C k=true->qN P.hS (P.NM k) C
 exc:∀C,t.exc C=true->P.exc C
 qi:∀C k,t.fld C k=true->P.fld C k=true
 vL:∃K,NmI P (t.mk' false wO wO wD) K
 fn:∀f d,t.fn f=J d->uj P f d
 oo:pX P.NM
 wB:gP P
abbrev agV(P:cy)(t:Tab):Prop:=∀r n f args H Q (X:XF),t.gen f args H Q->dW P r (n+1) f args H Q X
theorem eY.same(e:G.k6=G'.k6)(g:eY P n G):eY P n G':=⟨g.iter,g.cls,e▸g.next⟩
theorem gS{t:Tab}(S:fm P t)(gc:agV P t)(sg:fN P r n G)(g:eY P n G){X:XF}(h:t.call G f args H Q X):dW P r (n+1) f args H Q X:=by
 unfold Tab.call at h;cases hf:t.fn f with
 | none=>rw[hf] at h;exact gc r n f args H Q X h
 | some d=>
  rw[hf] at h;obtain ⟨T,ps,dv,b,fd,st,Fn,hg,hn,hk,hb,yd⟩:=S.fn f d hf;refine anC S.wB sg g S.oo st Fn hg yd (by exact Z (xJ _) (Ql hk h.1)) ?_;exact Z hb (Ql hn (Ql hk h.2))
theorem rT(S:fm P t){c x:CF}(hc:∀f args H Q X,c f args H Q X->dW P r n f args H Q X)(hx:∀f args H Q X,x f args H Q X->dW P false n f args H Q X):fN P r n (t.mk' r c x g):=
 ⟨hc,hx,λh=>h,S.init,S.cR,S.fld,S.exc,S.qi,S.vL.imp λU k=>⟨k.inj,k.fld,k.cR⟩⟩
theorem q6(S:fm P t)(gc:agV P t)(g:∀n,eY P n (t.sig false n)):∀n r,fN P r n (t.sig r n)
 | 0,r=>rT S (λU U U U U h=>yX h) λU U U U U h=>yX h
 | n+1,r=>rT S (λU U U U U h=>gS S gc (q6 S gc g n r) (eY.same (G:=t.sig false n) rfl (g n)) h) λU U U U U h=>gS S gc (q6 S gc g n false) (eY.same (G:=t.sig false n) rfl (g n)) h
theorem oZ{t:Tab}(S:fm P t.gJ)(g:∀n,eY P n (t.qh n)):∀n,fN P false n (t.qh n)
 | 0=>rT S (λU U U U U h=>yX h) λU U U U U h=>yX h
 | n+1=>rT S (λU U U U U h=>gS S (λU U U U U U U h=>yX h) (oZ S g n) (g n) h) λU U U U U h=>gS S (λU U U U U U U h=>yX h) (oZ S g n) (g n) h
end
def dC(M:Model)(A:yS)(Post:End->xM->Prop)(c:Code)(t:Sem Ep)(fs:List Frame)(s:xM):Prop:=
 ∀Γ p,Γ.code=c->Γ.Woken A->∃e s',Runs M Γ p t fs s e s'/\Post e s'
section
variable{M:Model}{A:yS}{Post:End->xM->Prop}{c:Code}{fs:List Frame}{s:xM}{α β:Type}
theorem gG{K:α->Sem Ep}{gd lv}
  (h:xY M (A.over c fs) m (λa s'=>dC M A Post c (K a) fs s') (λx s'=>dC M A Post c (H x) fs s') s):dC M A Post c (m.wrap K H gd lv) fs s:=by
 rintro Γ p rfl hΓ
 exact runs_wrap_of_wp K H gd lv m (h (Γ.over fs) p (hΓ.over fs)) (λa p' s' h'=>h' Γ p' rfl hΓ) λx p' s' h'=>h' Γ p' rfl hΓ
theorem cu{K:β->Sem Ep}{gd lv}
  (h:xY M (A.over c fs) m (λa s'=>dC M A Post c ((f a).wrap K H gd lv) fs s') (λx s'=>dC M A Post c (H x) fs s') s):dC M A Post c ((m>>=f).wrap K H gd lv) fs s:=by
 rw[Dc,Eo];exact gG h
theorem akH(h:dC M A Post c (k ()) fs s):dC M A Post c (.at p' k) fs s:=
 gG (m:=Jf p') (K:=k) (H:=.raise) (gd:=id) (lv:=id) (Cj h)
theorem afh(h:dC M A Post c (k ()) fs s):dC M A Post c (.point l k) fs s:=
 gG (m:=point) (K:=k) (H:=.raise) (gd:=id) (lv:=λU=>l) (wpAny_point h)
theorem ag3{h g l}(hc:∀p,dC M A Post c' (M.den c') (.ret k h g l c p []::fs) s):dC M A Post c (.call c' h g l k) fs s:=by
 rintro Γ p rfl hΓ
 refine kT (hc p (Γ.goto c') p rfl (hΓ.goto c')) λe s' hr he=>?_;exact (mc e s' (runs_call_seg hr) he)
theorem ag2{k h g l c₁ P0 kp}(r)(hk:dC M A Post c₁ (k r) fs s):dC M A Post c (leafOf r) (.ret k h g l c₁ P0 kp::fs) s:=by
 rintro Γ p rfl hΓ
 refine kT (hk (Γ.goto c₁) P0 rfl (hΓ.goto c₁)) λe s' hr he=>?_;exact (mc e s' (Runs.pop r hr) he)
theorem abV(hq:c'.quiet=true)(hc:dC M A Post c' (M.den c') fs s):dC M A Post c (.pure (.again c')) fs s:=by
 rintro Γ p rfl hΓ
 refine kT (hc (Γ.goto c') p rfl (hΓ.goto c')) λe s' hr he=>?_;exact (mc e s' (Runs.head (c₁:=c') (λU U x=>.again hq x) hr) he)
theorem aiy(r)(h:Post (.ret r) s):dC M A Post c (leafOf r) [] s:=by
 rintro Γ p rfl _
 exact (mc (.ret r) s (Runs.leaf r) h)
theorem afg{v g l}(hfs:splitAtGen fs=Jw)(h:∀p,Post (.susp v g l k c p fs) s):dC M A Post c (.yield v g l k) fs s:=by
 rintro Γ p rfl _
 exact (mc _ s (Runs.yield' fs hfs) (h p))
end
structure ij where
 fb:List CM
 env:BX
 tg:yF
 e:yF
 yp:Pos
 ep:Pos
noncomputable def ij.loop(f:ij)(I:yk):Code:=.forLoop f.tg (.ref I) [.Expr (.Yield (J f.e) f.yp) f.ep] [] f.env
def iU(f:ij)(fs:List Frame):Prop:=∃kr ls pf kp,fs=[.ret kr Jw false ls (.func f.fb f.env) pf kp]/\kr (.ok .next)= .pure (.done (.ret .none))
def oh(f:ij)(D:xM->Prop)(Y:yk->xP->xM->Prop)(e:End)(s:xM):Prop:=match e with
 | .ret r=>r= .ok (.ret .none)/\D s
 | .susp v g _ k c _ fs=>g=false/\iU f fs/\∃I,c=f.loop I/\k (.send .none)= .pure (.again (f.loop I))/\Y I v s
section
variable{prog:AG}{w:World}{A:yS}{f:ij}{D:xM->Prop}{Y:yk->xP->xM->Prop}{fs:List Frame}{s:xM}{I:yk}
theorem ah8(f){c:Code}{K:Flow->Sem Ep}(hfs:iU f fs)(hc:c=f.loop I)(hK:K .next= .pure (.again (f.loop I)))(hk:f.env.scope.kind= .function)(hco:f.env.scope.isCoroutine=false)
  (h:xY (yK prog w) (A.over c fs) (eval f.e f.env) (λu s'=>Y I u s') (λU U=>False) s):
  dC (yK prog w) A (oh f D Y) c ((execs [.Expr (.Yield (J f.e) f.yp) f.ep] f.env).wrap K H id id) fs s:=by
 refine Z (HI _ _) (Z (exec_Expr f.env _ f.ep (by unfold Hy;rw[hk];rfl) rfl) ?_);have hy:∀v,yieldOut f.env v=yieldValue v:=λv=>by simp only[yieldOut,hco,Bg,if_false]
 refine cu (Cj ?_);show dC _ A _ c (((eval f.e f.env>>=λv=>(Jf f.yp>>=λU=>yieldOut f.env v))>>=λx=>dropValue (.Yield (J f.e) f.yp) f.ep x).wrap _ H id id) fs s;simp only[hy];rw[Dc,Dc,Eo,Eo];refine gG (yO h (λv s' h'=>?_) λU U x=>x.elim);refine Qc λU u6=>?_;obtain ⟨kr,ls,pf,kp,rfl,hkr⟩:=id hfs;refine u6 ?_;refine akH ?_;refine afg rfl λp=>⟨rfl,hfs,I,hc,?_,h'⟩
 exact hK
theorem acS(f)(hfs:iU f fs)(hk:f.env.scope.kind= .function)(hco:f.env.scope.isCoroutine=false)
  (h:xY (yK prog w) (A.over (f.loop I) fs) (C7 (.ref I)) (λr S5=>match r with
   | none=>D S5
   | some v=>xY (yK prog w) (A.over (f.loop I) fs) (BB f.tg (.ref I) v) (λU S8=>xY (yK prog w) (A.over (f.loop I) fs) (C9 f.tg f.env v) (λU S9=>
     xY (yK prog w) (A.over (f.loop I) fs) (eval f.e f.env) (λu s₄=>Y I u s₄) (λU U=>False) S9) (λU U=>False) S8) (λU U=>False) S5) (λU U=>False) s):
  dC (yK prog w) A (oh f D Y) (f.loop I) ((yK prog w).den (f.loop I)) fs s:=by
 show dC _ A _ _ ((forTurn f.tg (.ref I) [.Expr (.Yield (J f.e) f.yp) f.ep] [] f.env).onRaise (λx=>do DG x f.env;CW x)) fs s;refine Z (I9 _ _) ?_;unfold forTurn;refine cu (Cj (cu (wpAny_onRaise (yO h (λr S5 h₁=>?_) λU U x=>x.elim))));cases r with
 | none=>
  refine abV rfl ?_;refine Qc λU u6=>?_;obtain ⟨kr,ls,pf,kp,rfl,hkr⟩:=hfs;refine u6 ?_;refine ag2 (.ok .next) ?_;exact Z hkr (aiy (.ok (.ret .none)) ⟨rfl,h₁⟩)
 | some v=>
  refine cu (yO h₁ (λU S8 h₂=>cu (yO h₂ (λU S9 h₃=>?_) λU U x=>x.elim)) λU U x=>x.elim);rw[Dc,Eo];exact ah8 f hfs rfl rfl hk hco h₃
end
section
variable{M:Model}{A:yS}{E:xP->xM->Prop}{s:xM}{Post:End->xM->Prop}
theorem akL{Q:α->xM->Prop}(hg:s.gens[g]? =J gs)
  (hgo:match gs with
   | .fresh c=>r= .send .none/\dC M A Post c (M.den c) [] (s.setGen g .running)
   | .suspended k _ c _ fs _=>dC M A Post c (k r) fs (s.setGen g .running)
   | _=>False)
  (hq:∀e S5,Post e S5->e.quiet=true/\xY M A (k e.result) Q E (S5.setGen g e.genState)):xY M A (.resume g r l k) Q E s:=by
 intro Γ p hΓ;rw[Sem.wp_resume];have hB:∀c,(Γ.wake c p).Woken A:=λc=>hΓ.wake c p;cases gs with
 | fresh c=>
  obtain ⟨rfl,hs⟩:=hgo;refine kT (hs (Γ.wake c p) p rfl (hB c)) λe₁ S5 hr he=>?_;exact ⟨_,_,by unfold Wakes;rw[hg];exact (mZ e₁ S5 hr ((hq e₁ S5 he).1) rfl rfl),(hq e₁ S5 he).2 Γ p hΓ⟩
 | suspended K0 L4 c₀ p₀ fs0 cl=>
  refine kT (hgo (Γ.wake c₀ p) p₀ rfl (hB c₀)) λe₁ S5 hr he=>?_;exact ⟨_,_,by unfold Wakes;rw[hg];exact (mZ e₁ S5 hr ((hq e₁ S5 he).1) rfl rfl),(hq e₁ S5 he).2 Γ p hΓ⟩
 | running=>exact hgo.elim
 | finished=>exact hgo.elim
end
section
variable{prog:AG}{w:World}{A:yS}{E:xP->xM->Prop}{s:xM}{f:ij}{D:xM->Prop}{Y:yk->xP->xM->Prop}
theorem amd(hh:A.handled=Jw)
  (hl:s.heap.NoLimit) (hroom:A.depth<Ek) (hg:s.heap.IsGen a g) (hgs:s.gens[g]? =J gs)
  (hgo:match gs with
   | .fresh c=>dC (yK prog w) A.in1 (oh f D Y) c ((yK prog w).den c) [] (s.setGen g .running)
   | .suspended k _ c _ fs _=>dC (yK prog w) A.in1 (oh f D Y) c (k (.send .none)) fs (s.setGen g .running)
   | _=>False)
  (hY:∀v S5 k l p fs I,Y I v S5->iU f fs->k (.send .none)= .pure (.again (f.loop I))->Q (J v) (S5.setGen g (.suspended k l (f.loop I) p fs false)))
  (hD:∀S5,D S5->∀h',(∀b o,S5.heap.get? b=J o->h'.get? b=J o)->Q Jw {S5.setGen g .finished with heap:=h'}):
  xY (yK prog w) A (C7 (.ref a)) Q E s:=by
 unfold C7;refine xI (IE (wpAny_callSpecial?_slot (name:=AK "__next__") hg.typeIs slot_gen_next
  (Bk slot_gen_next hg.typeIs entry_gen_next ?_ (args_gen_next _))))
 show xY _ _ (Fi (.ref a) (.send .none)) _ _ s;unfold Fi;refine xI (zZ (wpAny_genNumber hg (xI (wpAny_genState hgs ?_))));have fin:∀e S5,oh f D Y e S5->e.quiet=true:=λe S5 he=>by
  cases e with
  | ret r=>rfl
  | susp v g l k c p fs=>
   obtain ⟨rfl,⟨kr,ls,pf,kp,rfl,_⟩,_⟩:=he;rfl
 cases gs with
 | running=>exact hgo.elim
 | finished=>exact hgo.elim
 | _=>
  refine xI (wpAny_roomToWake hl hroom ?_);show xY _ _ (.resume g (.send .none) [] _) _ _ s;refine akL (Post:=oh f D Y) hgs (by first | exact hgo | exact ⟨rfl,hgo⟩) λe S5 he=>⟨fin e S5 he,?_⟩
  cases e with
  | ret r=>
   obtain ⟨rfl,hp⟩:=he;show xY _ _ (Ji (.type "StopIteration") []>>=_) _ _ _;refine xI ?_;simp only[Ji,newTuple];refine xI (zG ?_ (by size_fits));refine xI (m:=Dl _ _) (zI (a:=zK) (by first | rfl | (simp only[Dl];rfl)) ?_);refine zG ?_ (by size_fits);simp only[raiseNew];refine xI (xI (ID ?_));refine Z (show A.in1.handled=Jw from hh) ?_;refine Hw ?_;refine xI (DD (T:="StopIteration") (b:=true) ⟨_,yC _ rfl,rfl⟩ Ie ?_);exact xU (hD S5 hp _ λb o hb=>xW _ (xW _ hb))
  | susp v g' l' k c p fs=>
   obtain ⟨rfl,hfs,I,rfl,hk,hy⟩:=he;obtain ⟨kr,ls,pf,kp,efs,_⟩:=id hfs;subst efs;exact xU (aM v rfl (xU (hY v S5 k l' p _ I hy hfs hk)))
theorem amK(f)(hfb:f.fb=[s1,.For f.tg iter [.Expr (.Yield (J f.e) f.yp) f.ep] [] pos])(hs:∀x,G5 iter f.env x=pure x)
  (hk:f.env.scope.kind= .function) (hco:f.env.scope.isCoroutine=false)
  (h:xY (yK prog w) (A.over (.func f.fb f.env) []) (exec s1 f.env) (λfl S5=>fl= .next/\xY (yK prog w) (A.over (.func f.fb f.env) []) (eval iter f.env) (λx S8=>xY (yK prog w) (A.over (.func f.fb f.env) []) (El x) (λit S9=>
   ∃I,it= .ref I/\∀fs,iU f fs->xY (yK prog w) (A.over (f.loop I) fs) (C7 (.ref I)) (λr S5=>match r with
   | none=>D S5
   | some v=>xY (yK prog w) (A.over (f.loop I) fs) (BB f.tg (.ref I) v) (λU S8=>xY (yK prog w) (A.over (f.loop I) fs) (C9 f.tg f.env v) (λU S9=>
     xY (yK prog w) (A.over (f.loop I) fs) (eval f.e f.env) (λu s₄=>Y I u s₄) (λU U=>False) S9) (λU U=>False) S8) (λU U=>False) S5) (λU U=>False) S9)
   (λU U=>False) S8) (λU U=>False) S5) (λU U=>False) s):
  dC (yK prog w) A (oh f D Y) (.func f.fb f.env) ((yK prog w).den (.func f.fb f.env)) [] s:=by
 obtain ⟨fb,env,tg,e,yp,ep⟩:=f;dsimp only at hfb;subst hfb;show dC _ A _ _ (.point [] λU=>((execs _ env).onRaise (HO env))>>=_) [] s;refine afh ?_;rw[I9,Dc,Eo];refine Z (HI _ _) ?_;refine gG (yO h (λfl S5 v7=>v7.elim λe h₁=>?_) λU U x=>x.elim);subst e;dsimp only;rw[HI,exec_For];refine cu (Cj (cu (yO h₁ (λx S8 h₂=>cu (zI (hs x) (cu (Cj (cu (zZ (yO h₂ (λit S9 h₃=>?_) λU U x=>x.elim))))))) λU U x=>x.elim)));obtain ⟨I,rfl,h₃⟩:=h₃;refine ag3 λp=>?_;exact acS ⟨_,env,tg,e,yp,ep⟩ ⟨_,_,_,_,rfl,rfl⟩ hk hco (h₃ _ ⟨_,_,_,_,rfl,rfl⟩)
end
structure GI where
 f:yk
 fd:Dr
 T:CT
 s1:CM
 iter:yF
 pos:Pos
 tg:yF
 e:yF
 yp:Pos
 ep:Pos
 deriving Nonempty
noncomputable def GI.body(i:GI):List CM:=[i.s1,.For i.tg i.iter [.Expr (.Yield (J i.e) i.yp) i.ep] [] i.pos]
noncomputable def GI.dF(i:GI)(L:yk):ij:=⟨i.body,EZ i.fd L i.f,i.tg,i.e,i.yp,i.ep⟩
def GI.loc(i:GI)(W:WD)(h:yJ)(L:yk)(ρ:EV):Prop:=∃m,h.Ns L m/\∀x j av,i.T.slots.lookup x=J j->ρ[j]? =J (J av)->∃v,m x=J v/\VR W h av v
inductive iX(i:GI)(W:WD)(s:xM)(p:WE):List AV->Prop
 | mk(g:Nat)(L:yk)(hg:p.gs=[g])(hax:p.aux=[L])(ig:s.heap.IsGen p.a g)(hgs:s.gens[g]? =J (.fresh (.func i.body (EZ i.fd L i.f))))(a b:AV)(lo:i.loc W s.heap L [J a,J b,Jw,Jw]):iX i W s p [a,b]
inductive lU(i:GI)(W:WD)(s:xM)(p:WE):List AV->Prop
 | mk(g:Nat)(L I:yk)(hg:p.gs=[g])(hax:p.aux=[L,I])(ig:s.heap.IsGen p.a g)(k:Resume->Sem Ep)(l:List xP)(pp:Pos)(fs:List Frame)(cl:Bool)(hgs:s.gens[g]? =J (.suspended k l ((i.dF L).loop I) pp fs cl))(hfs:iU (i.dF L) fs)
  (hk:k (.send .none)= .pure (.again ((i.dF L).loop I))) (a b c:AV) (j n:Int) (lo:i.loc W s.heap L [J a,J b,J c,Jw]) (it:FZ s.heap I j (n-j) 1):lU i W s p [a,b,c,.int j,.int n]
inductive ui(s:xM)(p:WE):Prop
 | mk(g:Nat)(hax:p.aux=[])(hg:p.gs=[g])(ig:s.heap.IsGen p.a g)
def GI.GR(i:GI)(W:WD)(s:xM)(p:WE)(k:Nat)(vs:List AV):Prop:=match k with
 | 0=>∃g,s.heap.IsGen p.a g
 | 1=>iX i W s p vs
 | 2=>lU i W s p vs
 | 3=>ui s p
 | _=>False
theorem GI.GR.gen{i:GI}{s:xM}:i.GR W s p k vs->∃g,s.heap.IsGen p.a g:=match k with
 | 0=>λx=>x
 | 1=>iX.rec λg U U U ig U U U U=>⟨g,ig⟩
 | 2=>lU.rec λg U U U U ig U U U U U U U U U U U U U U U=>⟨g,ig⟩
 | 3=>ui.rec λg U U ig=>⟨g,ig⟩
 | _+4=>yX
theorem GI.GR.map{s s':xM}(f0:(∃g,s.heap.IsGen p.a g)->∃g,s'.heap.IsGen p.a g)(f1:iX i W s p vs->iX i W' s' p vs)(f2:lU i W s p vs->lU i W' s' p vs)(f3:ui s p->ui s' p):i.GR W s p k vs->i.GR W' s' p k vs:=match k with
 | 0=>f0
 | 1=>f1
 | 2=>f2
 | 3=>f3
 | _+4=>yX
theorem GI.loc.mono{i:GI}{h h':yJ}(x:i.loc W h L ρ)(pr:cf W W')(k:aX h h')(ko:∀o,h.get? L=J o->h'.get? L=J o):i.loc W' h' L ρ:=
 x.imp λm w=>⟨iH w.1 λo e=>⟨o.slots,ko o e⟩,λy j av a b=>(w.2 y j av a b).imp λv r=>⟨r.1,r.2.mono pr k⟩⟩
theorem kc{h h':yJ}(x:h.IsGen a g)(k:∀o,h.get? a=J o->h'.get? a=J o):h'.IsGen a g:=
 x.imp λo x=>x.imp λnm x=>x.imp λqn x=>⟨k _ x.1,x.2⟩
theorem GI.apt(i:GI)(hS):tf i.GR hS:=by
 intro W W' s s' p k vs x pr kf ko kg _;have ka:∀o,s.heap.get? p.a=J o->s'.heap.get? p.a=J o:=λo=>ko p.a o (.inl rfl);have kx:∀{L:yk},L∈p.aux->∀o,s.heap.get? L=J o->s'.heap.get? L=J o:=λm o=>ko _ o (.inr m);have kn:∀{g:Nat} {x:Br},p.gs=[g]->s.gens[g]? =J x->s'.gens[g]? =J x:=λe=>kg _ _ (e▸.head _);exact GI.GR.map (λx=>x.imp λg x=>kc x ka) (λx=>iX.rec (λg L h1 h2 h3 h4 a b l=>⟨g,L,h1,h2,kc h3 ka,kn h1 h4,a,b,l.mono pr kf (kx (h2▸.head _))⟩) x)
  (λx=>lU.rec (λg L I h1 h2 h3 k l pp fs cl h4 h5 h6 a b c j n lo it=>⟨g,L,I,h1,h2,kc h3 ka,k,l,pp,fs,cl,kn h1 h4,h5,h6,a,b,c,j,n,lo.mono pr kf (kx (h2▸.head _)),kx (h2▸.tail _ (.head _)) _ it⟩) x)
  (λx=>ui.rec (λg h1 h2 h3=>⟨g,h1,h2,kc h3 ka⟩) x) x
noncomputable def cy.gJ(P:cy):cy:={P with exc:=λU=>False}
section
variable{P:cy}{i:GI}{fl:List BX}{W W':WD}{H H':AH}{s s':xM}
theorem cf.set(h:W[a]? =J p)(e:p'.a=p.a)(eg:p'.gs=p.gs):cf W (W.set a p'):=λj q hq=>by
 by_cases c:a=j
 ·subst c
  have hq:=h▸hq;cases hq;exact (bJ p' (zk (xQ.mp h).1) e eg)
 ·exact (bJ q (by rw[zE c];exact hq) (Et _) (Et _))
theorem afa{s:xM}(h:∀y∈s.gens,y.bare=true)(hx:x.bare=true):∀y∈(s.setGen g x).gens,y.bare=true:=λy hy=>(Array.mem_or_eq_of_mem_setIfInBounds hy).elim (h y) λe=>e▸hx
theorem Cx.alY(hGR:P.GR=i.GR)(C:Cx P fl W H s){a g:Nat}{p:WE}{k:Nat}{vs:List AV}(hp:W[a]? =J p)(e:H[a]? =J (.gen k vs))(hg:p.gs=[g])(hig:s.heap.IsGen p.a g):
  Cx P.gJ [] (W.set a ⟨p.a,[],p.gs⟩) (H.set a (.gen 3 [])) (s.setGen g .running)/\cf W (W.set a ⟨p.a,[],p.gs⟩)/\(∀b,Own (W.set a ⟨p.a,[],p.gs⟩) b->Own W b)/\(∀b∈p.aux,b≠p.a->¬Own (W.set a ⟨p.a,[],p.gs⟩) b):=by
 revert P i fl W H s a g p k vs;apply e6;intro U;apply(?Z:Tq U);intro P i fl W H s;intro hGR C;apply e5;intro U;apply(?Y:Tq U);intro a g p k vs;intros;have hw:cf W (W.set a ⟨p.a,[],p.gs⟩):=cf.set hp rfl rfl;have hla:=(xQ.mp hp).1;have at_:∀{j:Nat} {q:WE},(W.set a ⟨p.a,[],p.gs⟩)[j]? =J q->(j=a/\q=⟨p.a,[],p.gs⟩)\/(j≠a/\W[j]? =J q):=λ{j q} h=>by
  by_cases c:a=j
  ·subst c
   rw[zk hla] at h;cases h;exact .inl ⟨rfl,rfl⟩
  ·rw[zE c] at h
   exact .inr ⟨λq=>c q.symm,h⟩
 have has1:∀{b},(⟨p.a,[],p.gs⟩:WE).has b->b=p.a:=λ{b} h=>by
  rcases h with h | h
  ·exact h
  ·cases h
 have sub:∀{j:Nat} {q:WE},(W.set a ⟨p.a,[],p.gs⟩)[j]? =J q->∃q',W[j]? =J q'/\(∀b,q.has b->q'.has b)/\∀x,x∈q.gs->x∈q'.gs:=λ{j q} h=>by
  rcases at_ h with ⟨rfl,rfl⟩ | ⟨_,h⟩
  ·exact (bJ p hp (λb hb=>.inl (has1 hb)) (λU h=>h))
  ·exact (bJ q h (λU h=>h) (λU h=>h))
 have own:∀b,Own (W.set a ⟨p.a,[],p.gs⟩) b->Own W b:=λb y9=>y9.elim λq z9=>z9.elim λhq hb=>by
  refine (zu.mp hq).elim λj hj=>?_;refine fc (sub hj) λq' h1 h2 U=>?_;exact ⟨q',ye h1,h2 b hb⟩
 have R:=C.hr;have gother:∀{j:Nat} {q:WE},j≠a->W[j]? =J q->g∉q.gs:=λ{j q} hj hq hm=>(R.gO a j p q hp hq (λh=>hj h.symm)).2 g (by exact Z hg (.head _)) hm;have hgs:∀x y,x≠g->s.gens[x]? =J y->(s.setGen g .running).gens[x]? =J y:=λx y hx hy=>by
  show (s.gens.setIfInBounds g .running)[x]? =_;rw[Gf (λh=>hx h.symm)];exact hy
 refine (iu ⟨C.bq,⟨by simp[R.len],λj q ao hj hao=>?_,λj j' q r hj hj' ne=>?_,λb hb=>R.mT b (own b hb),λx hx=>?_⟩,λU m=>(nomatch m),λb jw=>jw.elim λU v10=>v10.elim λm U=>(nomatch m),afa C.bare rfl⟩ hw own (λb hb hne y10=>y10.elim λq z10=>z10.elim λhq hqb=>?_))
 ·rcases at_ hj with ⟨rfl,rfl⟩ | ⟨hne,hq⟩
  ·rw[zk (R.len▸hla)] at hao
   cases hao;show P.GR _ _ _ _ _;exact Z hGR (.mk g rfl hg hig)
  ·rw[zE (λh=>hne h.symm)] at hao
   exact (R.rel j q ao hq hao).mono P.pH hw (aX.refl _) (λU U U e=>e) (λx y hx hy=>hgs x y (λh=>gother hne hq (h▸hx)) hy) C.bq
 ·refine fc (sub hj) λq' h1 h2 h3=>?_
  refine fc (sub hj') λr' h4 h5 h6=>?_;have:=R.gO j j' q' r' h1 h4 ne;exact ⟨λb hb hb'=>this.1 b (h2 b hb) (h5 b hb'),λx hx hx'=>this.2 x (h3 x hx) (h6 x hx')⟩
 ·refine Qc λU v8=>hx.elim λq y8=>y8.elim λhq hx=>v8 ?_
  refine (zu.mp hq).elim λj hj=>?_;refine fc (sub hj) λq' h1 U h3=>?_;refine (R.jb x ⟨q',ye h1,h3 x hx⟩).elim λy hy=>?_;by_cases c:x=g
  ·subst c
   refine ⟨.running,?_⟩;show (s.gens.setIfInBounds x .running)[x]? =_;rw[Cd (Cg.mp hy).1]
  ·exact ⟨y,hgs x y c hy⟩
 ·refine (zu.mp hq).elim λj hj=>?_
  rcases at_ hj with ⟨rfl,rfl⟩ | ⟨hne,hq'⟩
  ·exact hne (has1 hqb)
  ·exact (R.gO a j p q hp hq' (λh=>hne h.symm)).1 b (.inr hb) hqb
end
section
variable{P:cy}{i:GI}{fl:List BX}{W W':WD}{H H':AH}{s s':xM}
theorem i8{s:xM}(h:x≠g):(s.setGen g y).gens[x]? =s.gens[x]? :=by
 show (s.gens.setIfInBounds g y)[x]? =_;rw[Gf λq=>h q.symm]
theorem setGen_self{s:xM}{y z:Br}(h:s.gens[g]? =J z):(s.setGen g y).gens[g]? =J y:=by
 show (s.gens.setIfInBounds g y)[g]? =_;rw[Cd (Cg.mp h).1]
theorem Cx.al8(hGR:P.GR=i.GR)(C:Cx P fl W H s){a g:Nat}{p p':WE}{k:Nat}{vs:List AV}{own:yk->Prop}{S5:xM}{gs gs':Br}(hp:W[a]? =J p)(hg:p.gs=[g])(hgs:s.gens[g]? =J gs)(hbg:gs'.bare=true)
  (C':Cx P.gJ [] W' H' S5) (st:Step own (cD []) (W.set a ⟨p.a,[],p.gs⟩) (s.setGen g .running) W' S5) (e3:H'[a]? =J (.gen 3 [])) (pa:p'.a=p.a) (pg:p'.gs=[g])
  (ow:∀b,Own (W.set a ⟨p.a,[],p.gs⟩) b->Own W b)
  (new:∀b∈p'.aux,(Own W b\/s.heap.get? b=Jw)/\¬Own W' b/\P.hS.get? b=Jw/\∃o,S5.heap.get? b=J o/\¬bp o) (own':∀b o,s.heap.get? b=J o->own b->Own W b)
  (tie:i.GR (W'.set a p') (S5.setGen g gs') p' k vs):
  Cx P fl (W'.set a p') (H'.set a (.gen k vs)) (S5.setGen g gs')/\bT fl W s (W'.set a p') (S5.setGen g gs'):=by
 revert P i fl W W' H H' s a g p p' k vs own S5 gs gs';apply e8;intro U;apply(?Z:Tq U);intro P i fl W W' H H' s;intro hGR C;apply rD;intro U;apply(?Y:Tq U);intro a g p p' k vs own S5 gs gs';intros;refine Qc λU zz=>?_;refine aO (C'.at e3) λp1 hp1 U=>?_;have hla0:=(xQ.mp hp).1;have hp0:(W.set a ⟨p.a,[],p.gs⟩)[a]? =J ⟨p.a,[],p.gs⟩:=zk hla0;refine fc (st.pre a _ hp0) λp1' hp1' pa1 pg1=>?_;have e1:=xT (hp1'.symm.trans hp1);have pa1:=(congrArg WE.a e1).symm.trans pa1;have pg1:=(congrArg WE.gs e1).symm.trans (pg1.trans hg);have hla:=(xQ.mp hp1).1;have hw':=cf.set hp1 (pa.trans pa1.symm) (pg.trans pg1.symm);have R:=C'.hr;have at_:∀{j:Nat} {q:WE},(W'.set a p')[j]? =J q->(j=a/\q=p')\/(j≠a/\W'[j]? =J q):=λ{j q} h=>by
  by_cases c:a=j
  ·subst c
   rw[zk hla] at h;cases h;exact .inl ⟨rfl,rfl⟩
  ·rw[zE c] at h
   exact .inr ⟨λq=>c q.symm,h⟩
 have hgr:(s.setGen g .running).gens[g]? =J .running:=setGen_self hgs;refine (st.gj g _ hgr).elim λg1 hg1=>?_;have ng:∀{j:Nat} {q:WE},j≠a->W'[j]? =J q->g∉q.gs:=λ{j q} hj hq hm=>(R.gO a j p1 q hp1 hq (λh=>hj h.symm)).2 g (by exact Z pg1 (.head _)) hm;have own2:∀b,Own (W'.set a p') b->Own W' b\/b∈p'.aux:=λb ⟨q,hq,hb⟩=>by
  refine (zu.mp hq).elim λj hj=>?_;rcases at_ hj with ⟨rfl,rfl⟩ | ⟨_,hq'⟩
  ·rcases hb with h | h
   ·exact .inl ⟨p1,ye hp1,.inl (h.trans (pa.trans pa1.symm))⟩
   ·exact .inr h
  ·exact .inl ⟨q,ye hq',hb⟩
 have gkeep:∀(x:Nat) y,x≠g->S5.gens[x]? =J y->(S5.setGen g gs').gens[x]? =J y:=λx y hx hy=>(i8 hx).trans hy;have nfs:∀b,¬cD [] b:=λb ⟨_,m,_⟩=>by cases m
 have kpw:∀b o,s.heap.get? b=J o->¬Own W b->S5.heap.get? b=J o:=λb o e n=>by
  obtain ⟨sl,e1,q⟩:=st.keep b o e (λh=>n (ow b h)) (λh=>n (own' b o e h));have e1:=(q (nfs b))▸e1;exact e1
 refine zz ⟨⟨C'.bq,⟨by rw[B3,B3];exact R.len,λj q ao hj hao=>?_,λj j' q r hj hj' ne=>?_,λb hb=>?_,λx ⟨q,hq,hx⟩=>?_⟩,C.ff.mono λb o e f=>⟨o,kpw b o e (C.fo b f),rfl⟩,λb f hb=>?_,afa C'.bare hbg⟩,
  ⟨(cf.set (p':=⟨p.a,[],p.gs⟩) hp (by rfl) (by rfl)).trans (st.pre.trans hw'),λb o e=>st.there b o e,λb o e n U=>⟨o.slots,kpw b o e n,λU=>rfl⟩,λb hb=>?_,λx y e=>?_,λx y e n=>?_,λx ⟨q,hq,hx⟩=>?_,st.os⟩⟩
 ·rcases at_ hj with ⟨rfl,rfl⟩ | ⟨hne,hq⟩
  ·rw[zk (R.len▸hla)] at hao
   cases hao;show P.GR _ _ _ _ _;exact Z hGR tie
  ·rw[zE (λh=>hne h.symm)] at hao
   exact (R.rel j q ao hq hao).mono P.pH hw' (aX.refl _) (λU U U e=>e) (λx y hx hy=>gkeep x y (λh=>ng hne hq (h▸hx)) hy) C'.bq
 ·have go:∀{j:Nat} {q:WE},j≠a->W'[j]? =J q->(∀b,p'.has b->¬q.has b)/\∀x∈p'.gs,x∉q.gs:=λ{j q} hj hq=>by
   refine ⟨λb hb hqb=>?_,λx hx hqx=>ng hj hq (by have hx:=pg▸hx;have hqx:=(xV.mp hx)▸hqx;exact hqx)⟩;rcases hb with h | h
   ·exact (R.gO a j p1 q hp1 hq (λh=>hj h.symm)).1 b (.inl (h.trans (pa.trans pa1.symm))) hqb
   ·exact (new b h).2.1 ⟨q,ye hq,hqb⟩
  rcases at_ hj with ⟨rfl,rfl⟩ | ⟨hne,hq⟩ <;> rcases at_ hj' with ⟨rfl,rfl⟩ | ⟨hne',hq'⟩
  ·exact absurd rfl ne
  ·exact go hne' hq'
  ·have:=go hne hq
   exact ⟨λb hb hb'=>this.1 b hb' hb,λx hx hx'=>this.2 x hx' hx⟩
  ·exact R.gO j j' q r hq hq' ne
 ·rcases own2 b hb with h | h
  ·exact R.mT b h
  ·exact ⟨(new b h).2.2.1,(new b h).2.2.2⟩
 ·refine (zu.mp hq).elim λj hj=>?_
  rcases at_ hj with ⟨rfl,rfl⟩ | ⟨_,hq'⟩
  ·have hx:=pg▸hx;exact Z (xV.mp hx) ⟨_,setGen_self hg1⟩
  ·refine (R.jb x ⟨q,ye hq',hx⟩).elim λy hy=>?_
   by_cases c:x=g
   ·subst c;exact ⟨_,setGen_self hg1⟩
   ·exact ⟨y,gkeep x y c hy⟩
 ·have nW:=C.fo b f
  obtain ⟨o,_,_,_,e,_⟩:=C.ff.at f;rcases own2 b hb with h | h
  ·rcases st.fresh b h with h | h
   ·exact nW (ow b h)
   ·have e':=e
    have e':=h▸e';cases e'
  ·rcases (new b h).1 with h | h
   ·exact nW h
   ·have e:=h▸e;cases e
 ·rcases own2 b hb with h | h
  ·exact (st.fresh b h).imp (ow b) id
  ·exact (new b h).1
 ·by_cases c:x=g
  ·subst c;exact ⟨_,setGen_self hg1⟩
  ·refine (st.gj x y ((i8 c).trans e)).elim λy' hy'=>?_
   exact ⟨y',gkeep x y' c hy'⟩
 ·have c:x≠g:=λh=>n ⟨p,ye hp,by exact Z hg (Z h (.head _))⟩
  refine gkeep x y c (st.mX x y ((i8 c).trans e) λ⟨q,hq,hx⟩=>?_);refine (zu.mp hq).elim λj hj=>?_;by_cases ca:a=j
  ·subst ca
   have hj:=hp0▸hj;cases hj;exact n ⟨p,ye hp,hx⟩
  ·rw[zE ca] at hj
   exact n ⟨q,ye hj,hx⟩
 ·refine (zu.mp hq).elim λj hj=>?_
  rcases at_ hj with ⟨rfl,rfl⟩ | ⟨_,hq'⟩
  ·have hx:=pg▸hx;refine Z (xV.mp hx) ?_
   exact .inl ⟨p,ye hp,by exact Z hg (.head _)⟩
  ·rcases st.iM x ⟨q,ye hq',hx⟩ with ⟨q',hq2,hx2⟩ | h
   ·refine (zu.mp hq2).elim λj2 hj2=>?_
    by_cases ca:a=j2
    ·subst ca
     have hj2:=hp0▸hj2;cases hj2;exact .inl ⟨p,ye hp,hx2⟩
    ·rw[zE ca] at hj2
     exact .inl ⟨q',ye hj2,hx2⟩
   ·by_cases c:x=g
    ·subst c;have h:=hgr▸h;cases h
    ·have h:=(i8 c)▸h;exact .inr h
end
theorem aeP(c:o.cls= .type "range_iterator"):¬bp o:=bp.not (λe=>absurd (c.symm.trans e) (by decide)) λe=>absurd (c.symm.trans e) (by decide)
theorem ajC(c:o.cls= .type "generator"):¬bp o:=bp.not (λe=>absurd (c.symm.trans e) (by decide)) λe=>absurd (c.symm.trans e) (by decide)
structure GenAt(P:cy)(i:GI)(ps:List ze)(M1:ST)(M2 M3:PT AV):Prop where
 fn:iY P i.f i.T ps [] i.body i.fd
 two:ps.length=2
 gen:i.fd.scope.isGenerator=true
 n:i.T.n=4
 loc:∀x j,i.T.slots.lookup x=J j->i.T.kindOf x=J .local
 px:∀x∈i.T.scope.names,x.2≠.cell
 t1:stmt cE 12 i.T i.s1=M1
 tt:∃x pos,i.tg= .Name x pos/\i.T.gK x 3=true
 t2:(cE i.T i.iter).1=M2
 t3:(cE i.T i.e).1=M3
 ns:noStar i.iter=true
 gr:P.GR=i.GR
section
variable{P:cy}{i:GI}{ps:List ze}{M1:ST}{M2 M3:PT AV}{fl:List BX}{W W':WD}{H H':AH}{s s':xM}{A:yS}{G:fW}{n:Nat}
theorem ag8{s:xM}{it:yk}{x left step:Int}{Q:Option xP->xM->Prop}(hh:A.handled=Jw)(hit:FZ s.heap it x left step)(hleft:left<=0)
  (hQ:∀h',(∀b o,s.heap.get? b=J o->h'.get? b=J o)->Q Jw {s with heap:=h'}):xY (yK prog w) A (C7 (.ref it)) Q E s:=by
 revert prog w A E s it x left step Q;apply rD;intro U;apply(?Z:Tq U);intro prog w A E s it x left step Q;intros;have hT:s.TypeIs (.ref it) "range_iterator":=⟨_,hit,rfl⟩
 unfold C7;refine xI (IE (wpAny_callSpecial?_slot (name:=AK "__next__") hT HN
  (Bk HN hT F.entry_range_iterator_next ?_ (F.args_range_iterator_next_1 _))))
 show xY _ _ (field (.ref it) 0>>=_) _ _ s;refine xI (Bj hit rfl (x:=Bz x) rfl ?_);show xY _ _ (field (.ref it) 1>>=_) _ _ s;refine xI (Bj hit rfl (x:=Bz left) rfl ?_);show xY _ _ (field (.ref it) 2>>=_) _ _ s;refine xI (Bj hit rfl (x:=Bz step) rfl ?_);show xY _ _ (if left<=0 then _ else _) _ _ s;refine Z (if_pos hleft) ?_;refine xI (C6 (xI ?_));show xY _ _ (Ji (.type "StopIteration") []>>=_) _ _ _;refine xI ?_;simp only[Ji,newTuple];refine xI (zG ?_ (by size_fits));refine xI (m:=Dl _ _) (zI (a:=zK) (by first | rfl | (simp only[Dl];rfl)) ?_);refine zG ?_ (by size_fits);simp only[raiseNew];refine xI (ID ?_)
 first | exact Z (show A.in1.handled=Jw from hh _) rfl | refine Z hh ?_
 refine xI (xU (Hw ?_));refine xI (DD (T:="StopIteration") (b:=true) ⟨_,yC _ rfl,rfl⟩ Ie ?_);exact xU (hQ _ λb o e=>xW _ (xW _ e))
theorem dA:∀names k acc,(∀x∈names,x.2≠.cell)->zO k names acc=acc
 | [],_,_,_=>rfl
 | (y,kd)::r,k,acc,h=>by
  unfold zO;have:(kd==Bn)=false:=by simpa using h (y,kd) (.head _)
  exact Z (if_neg (by simp[this])) (dA r k acc λx hx=>h x (.tail _ hx))
theorem GenAt.ctx(N:GenAt P i ps M1 M2 M3)(L):d7 i.T (fh i.T i.fd L i.f):=by
 have O:=N.fn.da;have hc:zO (L+1) i.fd.scope.names []=[]:=dA _ _ _ (N.fn.scope▸N.px);have hkind:∀x,(fh i.T i.fd L i.f).env.kindOf x=i.T.scope.names.lookup x:=λx=>by show i.fd.scope.names.lookup x=_;rw[N.fn.scope]
 have hcl:(fh i.T i.fd L i.f).env.cells=[]:=hc;refine ⟨⟨?_,N.fn.globals,N.fn.builtins,λx z j hx hz=>du O.s7 (lookup_mem hx) (lookup_mem hz),λx z c hx hz=>by rw[hcl] at hx;simp at hx,λx j hx=>?_,λx j hx=>?_,.inl rfl,.inl rfl,λx j c U U U hc'=>by rw[hcl] at hc';simp at hc',λb hb=>hb,λx j c U U hc'=>by rw[hcl] at hc';simp at hc'⟩,
   N.fn.scope,rfl,rfl,O.lo.symm,λx j hx=>(O.all x j (lookup_mem hx)).2.2.1⟩
 ·show i.fd.scope.kind=_;rw[N.fn.scope];exact O.kind
 ·rw[hkind]
  exact .inl (N.loc x j hx)
 ·have:=O.all x j (lookup_mem hx);exact ⟨this.1,this.2.1⟩
theorem GenAt.own(N:GenAt P i ps M1 M2 M3):(fh i.T i.fd L i.f).own b↔b=L:=by
 have hc:zO (L+1) i.fd.scope.names []=[]:=dA _ _ _ (N.fn.scope▸N.px);show (b=L\/∃x,(zO (L+1) i.fd.scope.names []).lookup x=J b)↔_;refine Z hc ?_;simp
theorem GenAt.fr(N:GenAt P i ps M1 M2 M3){h:yJ}(l:i.loc W h L ρ)(hn:P.hS.get? L=Jw)(nO:¬Own W L)(hl:ρ.length=4):FR P.hS (fh i.T i.fd L i.f) W h ρ:=by
 have hc:zO (L+1) i.fd.scope.names []=[]:=dA _ _ _ (N.fn.scope▸N.px);have hcl:(fh i.T i.fd L i.f).env.cells=[]:=hc;refine Qc λU u6=>l.elim λm v6=>v6.elim λhns hv=>u6 ?_;refine ⟨⟨m,hns,λx j av hx U hv'=>hv x j av hx hv'⟩,λx j c U U hc'=>by rw[hcl] at hc';simp at hc',λb hb=>by exact Z (N.own.mp hb) hn,by exact Z hl N.n.symm,λb hb=>by exact Z (N.own.mp hb) nO,λb hb=>?_⟩;refine Z (N.own.mp hb) ?_;refine Qc λU y6=>hns.elim λo z6=>z6.elim λes u7=>u7.elim λep v7=>v7.elim λe y7=>y7.elim λd U=>y6 ?_;exact (aM o e (bO d))
theorem GenAt.ai8(N:GenAt P i ps M1 M2 M3){h:yJ}(R:FR P.hS (fh i.T i.fd L i.f) W h ρ):i.loc W h L ρ:=by
 obtain ⟨m,hns,hv⟩:=R.ns;refine ⟨m,hns,λx j av hx hv'=>hv x j av hx ?_ hv'⟩;show i.fd.scope.names.lookup x=_;exact Z N.fn.scope (N.loc x j hx)
inductive GD(P:cy)(own:yk->Prop)(Wb:WD)(sb:xM)(Qa:Option (AV×Nat×List AV)->AH->Prop)(s:xM):Prop
 | mk(W:WD)(H:AH)(q:Qa Jw H)(C:Cx P.gJ [] W H s)(st:Step own (cD []) Wb sb W s):GD P own Wb sb Qa s
structure sC(P:cy)(W:WD)(b:yk):Prop where
 nO:¬Own W b
 nS:P.hS.get? b=Jw
inductive GY(P:cy)(i:GI)(own:yk->Prop)(L:yk)(Wb:WD)(sb:xM)(Qa:Option (AV×Nat×List AV)->AH->Prop)(I:yk)(v:xP)(s:xM):Prop
 | mk(W:WD)(H:AH)(av a b c:AV)(j n:Int)(q:Qa (J (av,2,[a,b,c,.int j,.int n])) H)(C:Cx P.gJ [] W H s)(y:VR W s.heap av v)(st:Step own (cD []) Wb sb W s)(l:i.loc W s.heap L [J a,J b,J c,Jw])(it:FZ s.heap I j (n-j) 1)
  (fI:sC P W I) (fL:sC P W L) (oI:sb.heap.get? I=Jw\/own I):GY P i own L Wb sb Qa I v s
noncomputable def GI.z(i:GI)(P:cy)(A:yS)(n:Nat)(G:fW)(L:yk):Zx:=⟨P.gJ,false,A,[],n,G,i.T,fh i.T i.fd L i.f⟩
theorem afY(N:GenAt P i ps M1 M2 M3){L I:yk}(K:d8 (i.z P A n G L)){Wb:WD}{sb:xM}{Qa:Option (AV×Nat×List AV)->AH->Prop}{own:yk->Prop}{a b' c:AV}{j m:Int}{E:xP->xM->Prop}
  (C:Cx P.gJ [] W H s) (st:Step own (cD []) Wb sb W s) (oL:own L) (oI:sb.heap.get? I=Jw\/own I) (l:i.loc W s.heap L [J a,J b',J c,Jw]) (it:FZ s.heap I j (m-j) 1) (fI:sC P W I) (fL:sC P W L)
  (hq:i5 M3 G a b' c j m H Qa):
  xY P.M A (C7 (.ref I)) (λr S5=>match r with
   | none=>GD P own Wb sb Qa S5
   | some v=>xY P.M A (BB i.tg (.ref I) v) (λU S8=>xY P.M A (C9 i.tg (EZ i.fd L i.f) v) (λU S9=>
     xY P.M A (eval i.e (EZ i.fd L i.f)) (λu s₄=>GY P i own L Wb sb Qa I u s₄) (λU U=>False) S9) (λU U=>False) S8) (λU U=>False) S5) E s:=by
 revert P i ps M1 M2 M3 W H s A G n L I Wb sb Qa own a b' c j m E;apply hU;intro U;apply(?Z:Tq U);intro P i ps M1 M2 M3 W H s A G n;intro N;apply e2;intro U;apply(?Y:Tq U);intro L I;intro K;apply rD;intro U;apply(?X:Tq U);intro Wb sb Qa own a b' c j m E;intros;have LI:L≠I:=λq=>by
  obtain ⟨mm,o,es,ep,e,d,_⟩:=l.imp λU h=>h.1;have it':s.heap.get? I=_:=it;have it':=e▸(Hu q)▸it';cases it';cases d
 let p:Pt (i.z P A n G L) [J a,J b',J c,Jw]:=⟨W,H,s,C,N.fr l fL.nS fL.nO rfl⟩
 have nfs:∀b,¬cD [] b:=λb z7=>z7.elim λU u8=>u8.elim λm U=>by cases m
 have wc:∀b,(fh i.T i.fd L i.f).wr b↔b=L:=λb=>N.own;have fr:iy (i.z P A n G L) W I:=⟨fI.nO,fI.nS,nfs I,λq=>LI ((wc I).mp q).symm⟩
 have nf:∀o,s.heap.get? I=J o->¬bp o:=λo e=>by
  have it':=it;have e:=it'▸e;cases e;exact aeP rfl
 have turned:∀{h':yJ} {t:Nat} (kp:∀b o,b≠I->s.heap.get? b=J o->h'.get? b=J o),(∃o',h'.get? I=J o')->Step own (cD []) Wb sb W (p.eN K fr nf h' t kp).s:=λ{h' t} kp al=>by
  have y:Step (λb=>own b\/b=I) (cD []) W s W {s with heap:=h',toks:=t}:=(Step.wq (t:=t) (.inr rfl) (λb o h e=>kp b o h e) al)
  exact Step.nZ st y λb hb=>hb.elim .inr λq=>q▸oI
 unfold i5 at hq;by_cases hj:j<m
 ·have hq:=(decide_eq_true hj)▸hq
  have hq:=dI.elim (G:=λb=>b=true->M3 G [J a,J b',J c,J (.int j)] H (λv H'=>Qa (J (v,2,[a,b',c,.int (j+1),.int m])) H') uH) hq (λq U=>q) (λU h=>by cases h) rfl;refine I1 it (Eg hj) λh' it' sb'=>?_;have kJ:=turned (t:=s.toks+1) sb'.extBut ⟨_,it'⟩;refine kT N.tt λx pos htg hmx=>?_;refine f6 (htg▸.name x pos) ⟨_,_,it',rfl,by decide,by decide,by decide⟩ ?_;refine Z htg ?_;refine Cv (fZ K (p:=p.eN K fr nf h' (s.toks+1) sb'.extBut) hmx (.int j _) λP5 S2 eH eW=>?_);refine (fr.up K S2 ⟨_,it'⟩).elim λfr2 k2=>?_;have S2':=Step.nZ kJ S2 λb hb=>.inr (by exact Z ((wc b).mp hb) oL);have h3:=(dz 12 _ K i.e).1 (p:=P5) (Q:=λv H'=>Qa (J (v,2,[a,b',c,.int (j+1),.int m])) H') (X:=uH) (by refine Z (show (comp 12 (i.z P A n G L).T i.e).1=M3 from N.t3) ?_;exact Z eH hq);refine yO (aB.any h3) (λu U h4=>?_) λe U v8=>v8.rec λU U U U x U U=>x.2.elim;obtain ⟨P8,av,z3,y3,q⟩:=h4;refine (fr2.up K z3.s ⟨_,k2 _ it'⟩).elim λfr3 k3=>?_;refine ⟨P8.W,P8.H,av,a,b',c,j+1,m,q,P8.C,y3,Step.nZ S2' z3 λb hb=>hb.elim,?_,?_,⟨fr3.nO,fI.nS⟩,⟨P8.R.no L (.inl rfl),fL.nS⟩,oI⟩
  ·refine N.ai8 (P8.R.weak rfl λk av h=>?_)
   match k with
   | 0=>exact h
   | 1=>exact h
   | 2=>exact h
   | 3=>simp at h
   | k+4=>simp at h
  ·have e:=k3 _ (k2 _ it')
   have:=(Ft m j 1).symm;exact Z this e
 ·have hq:=(decide_eq_false hj)▸hq
  have hq:=dI.elim (G:=λb=>b=false->Qa Jw H) hq (λU h=>by cases h) (λq U=>q) rfl;refine ag8 K.kF.handled it (IX (zg.mp hj)) λh' he=>?_;exact ⟨W,H,hq,(p.eN K fr nf h' s.toks λb o U e=>he b o e).C,turned (t:=s.toks) (λb o U e=>he b o e) ⟨_,he _ _ it⟩⟩
end
section
variable{P:cy}{i:GI}{ps:List ze}{M1:ST}{M2 M3:PT AV}{fl:List BX}{W W':WD}{H H':AH}{s s':xM}{A:yS}{G:fW}{n:Nat}
theorem ac0(h:iU f fs)(hh:A.handled=Jw):(A.over (f.loop I) fs).handled=Jw/\(A.over (f.loop I) fs).depth<=A.depth+1/\(A.over (f.loop I) fs).units<=A.units+10:=by
 refine Qc λU u6=>?_;obtain ⟨kr,ls,pf,kp,rfl,_⟩:=h;refine u6 ?_;refine (bU ?_ ?_ ?_)
 ·show (marksOver [Frame.ret kr Jw false ls (.func f.fb f.env) pf kp] (A.handled,A.handled)).1=Jw
  exact Z hh rfl
 ·exact xS _
 ·have e1:unitsOf (Hc Frame.where_ [Frame.ret kr Jw false ls (.func f.fb f.env) pf kp])<=5:=by
   show unitsOf [(Code.func f.fb f.env,pf)]<=5;exact Z (unitsOf_cons _ _ _) (Z unitsOf_nil (by decide:3*1+0<=5))
  have e2:=(by decide:3*0<=5)
  exact ad5 e1 e2
theorem ahi{env:BX}(hh:A.handled=Jw):(A.over (.func fb env) []).handled=Jw/\(A.over (.func fb env) []).depth<=A.depth+1/\(A.over (.func fb env) []).units<=A.units+10:=by
 refine (bU hh ?_ ?_)
 ·exact xS _
 ·have e2:=(by decide:3*1<=5)
  show A.units+unitsOf []+(Code.func fb env).cUnits<=_;exact Z unitsOf_nil (yf (xH e2 (by decide)) _)
theorem akd(hA:gQ P A fl (20*(n+1)+5))(h:B.handled=Jw/\B.depth<=A.in1.depth+1/\B.units<=A.in1.units+10):gQ P.gJ B [] (20*n+15):=by
 exact ⟨ad3 h.2.1 hA.depth,ad4 h.2.2 hA.units,λx=>x.elim λU q=>q.elim,h.1⟩
theorem aeO(N:GenAt P i ps M1 M2 M3)(C:Cx P fl W H s){a g:Nat}{p:WE}{k0:Nat}{vs0:List AV}{gs:Br}{own:yk->Prop}{Qa:Option (AV×Nat×List AV)->AH->Prop}(hp:W[a]? =J p)(e:H[a]? =J (.gen k0 vs0))(hg:p.gs=[g])(hgs:s.gens[g]? =J gs)
  (ow:∀b,Own (W.set a ⟨p.a,[],p.gs⟩) b->Own W b) (own':∀b o,s.heap.get? b=J o->own b->Own W b) {L:yk} (hL:Own W L) (hc:∀r H',Qa r H'->H'[a]? =J (.gen 3 [])):
  (∀S5,GD P own (W.set a ⟨p.a,[],p.gs⟩) (s.setGen g .running) Qa S5->∀h',(∀b o,S5.heap.get? b=J o->h'.get? b=J o)->qM P fl W s a Qa Jw {S5.setGen g .finished with heap:=h'})/\
  (∀v S5 k l pp fs I,GY P i own L (W.set a ⟨p.a,[],p.gs⟩) (s.setGen g .running) Qa I v S5->iU (i.dF L) fs->k (.send .none)= .pure (.again ((i.dF L).loop I))->
   qM P fl W s a Qa (J v) (S5.setGen g (.suspended k l ((i.dF L).loop I) pp fs false))):=by
 have hp0:(W.set a ⟨p.a,[],p.gs⟩)[a]? =J ⟨p.a,[],p.gs⟩:=zk (xQ.mp hp).1;have fact:∀{W1 H1 S5},Cx P.gJ [] W1 H1 S5->Step own (cD []) (W.set a ⟨p.a,[],p.gs⟩) (s.setGen g .running) W1 S5->H1[a]? =J (.gen 3 [])->∃p1,W1[a]? =J p1/\p1.a=p.a/\p1.gs=[g]/\S5.heap.IsGen p.a g:=λ{W1 H1 S5} C1 st e3=>by
  refine aO (C1.at e3) λp1 hp1 hor=>?_;have gr1:i.GR W1 S5 p1 3 []:=N.gr▸hor;obtain ⟨g1,_,hg1,ig⟩:=gr1;refine fc (st.pre a _ hp0) λp1' hp1' pa pg=>?_;have hp1':=hp1▸hp1';cases hp1';have pg':=pg.trans hg;have hg1:=pg'▸hg1;cases hg1;exact (oz p1 hp1 pa pg' (pa▸ig))
 refine ⟨λS5 gd h' kp=>gd.rec λW1 H1 q C1 st=>?_,λv S5 k l pp fs I gy hfs hk=>gy.rec λW1 H1 av x y z j m q C1 yv st lo it fI fL oI=>fI.rec λnI sI=>fL.rec λnL sL=>?_⟩
 ·have e3:=hc _ _ q
  refine o9 (fact C1 st e3) λp1 hp1 pa pg ig=>?_;obtain ⟨C2,S2⟩:=C.al8 N.gr (k:=0) (vs:=[]) (p':=⟨p.a,[],p.gs⟩) (gs':=.finished) hp hg hgs rfl C1 st e3 rfl hg ow (λb hb=>by cases hb) own' ⟨g,ig⟩;exact .done _ _ _ q (C2.grow kp rfl) (S2.trans (Step.grow kp rfl rfl))
 ·have e3:=hc _ _ q
  refine o9 (fact C1 st e3) λp1 hp1 pa pg ig=>?_;have hrun:(s.setGen g .running).gens[g]? =J .running:=setGen_self hgs;refine (st.gj g _ hrun).elim λg1 hg1=>?_;obtain ⟨mL,oL,es,ep,eL,dL,_⟩:=lo.imp λU h=>h.1;have hw':cf W1 (W1.set a ⟨p.a,[L,I],p.gs⟩):=cf.set hp1 pa.symm (hg.trans pg.symm);have tie:=
   lU.mk (s:=S5.setGen g (.suspended k l ((i.dF L).loop I) pp fs false)) (p:=⟨p.a,[L,I],p.gs⟩) g L I hg rfl ig k l pp fs false (setGen_self hg1) hfs hk x y z j m (lo.mono hw' (aX.refl _) λU e=>e) it
  have new:∀b∈[L,I],(Own W b\/s.heap.get? b=Jw)/\¬Own W1 b/\P.hS.get? b=Jw/\∃o,S5.heap.get? b=J o/\¬bp o:=λb hb=>by
   rcases yu.mp hb with rfl | hb
   ·exact (iu (.inl hL) nL sL (aM oL eL (bO dL)))
   ·obtain rfl:=xV.mp hb
    refine (iu ?_ nI sI (aM _ it (aeP rfl)));rcases oI with h | h
    ·exact .inr h
    ·cases q2:s.heap.get? b with
     | none=>exact .inr rfl
     | some o=>exact .inl (own' b o q2 h)
  refine (C.al8 N.gr (k:=2) (vs:=[x,y,z,.int j,.int m]) (p':=⟨p.a,[L,I],p.gs⟩) (gs':=.suspended k l ((i.dF L).loop I) pp fs false) hp hg hgs rfl C1 st e3 rfl hg ow new own' tie).elim λC2 S2=>?_;exact .item _ _ _ v av 2 _ q (yv.mono hw' (aX.refl _)) C2 S2
theorem rangeSize_one{n:Int}(h:0<=n):yV 0 n 1=n:=by
 unfold yV;refine Z (if_pos (by decide)) ?_;split
 ·simp
 ·rename_i h1;exact EU h (zg.mp h1)
theorem apart{s:xM}{m}(ig:s.heap.IsGen b g)(hn:s.heap.Ns L m):L≠b:=λq=>by
 obtain ⟨o,nm,qn,ho,hc,hd,_⟩:=ig;obtain ⟨o',es,ep,e',d',_⟩:=hn;have e':=ho▸q▸e';cases e';have d':=hd▸d';cases d'
theorem GenAt.z(N:GenAt P i ps M1 M2 M3)(sg:fN P.gJ false n G)(oo:pX P.NM)(cH:jk P i.T)(hA:gQ P A fl (20*(n+1)+5))(h:B.handled=Jw/\B.depth<=A.in1.depth+1/\B.units<=A.in1.units+10):d8 (i.z P B n G L):=
 ⟨akd hA h,sg,⟨cH.lim,cH.gl.rec λmg mb a b fn cls bi kv=>⟨mg,mb,a,b,fn,cls,bi,kv⟩,cH.nm⟩,N.ctx L,oo⟩
theorem ahE(N:GenAt P i ps M1 M2 M3)(sg:fN P.gJ false n G)(oo:pX P.NM)(cH:jk P i.T){a:Nat}{p:WE}{vs:List AV}{Qa:Option (AV×Nat×List AV)->AH->Prop}{E:xP->xM->Prop}(hA:gQ P A fl (20*(n+1)+5))(C:Cx P fl W H s)(hp:W[a]? =J p)(e:H[a]? =J (.gen 2 vs))(hc:∀r H',Qa r H'->H'[a]? =J (.gen 3 []))(gr:lU i W s p vs)(hq':jO M1 M2 M3 G (H.set a (.gen 3 [])) Qa 2 vs):
  xY P.M A (C7 (.ref p.a)) (qM P fl W s a Qa) E s:=by
 revert P i ps M1 M2 M3 fl W H s A G n a p vs Qa E;apply hU;intro U;apply(?Z:Tq U);intro P i ps M1 M2 M3 fl W H s A G;apply e1;intro U;apply(?Y:Tq U);intro n;intro N sg oo cH;apply e5;intro U;apply(?X:Tq U);intro a p vs Qa E;intros;have hl:=cH.lim.keeps C.bq;have hroom:=hA.wI;have hkind:∀L,(i.dF L).env.scope.kind= .function:=λL=>by show i.fd.scope.kind=_;exact Z N.fn.scope N.fn.da.kind
 have hco:∀L,(i.dF L).env.scope.isCoroutine=false:=λL=>by show i.fd.scope.isCoroutine=_;exact Z N.fn.scope N.fn.da.co
 have memO:∀b,b∈p.aux->Own W b:=λb hb=>⟨p,ye hp,.inr hb⟩
 obtain ⟨g,L,I,hg,hax,ig,kk,l,pp,fs,cl,hgs,hfs,hk,a',b',c',j,m,lo,it⟩:=gr;have hq':i5 M3 G a' b' c' j m (H.set a (.gen 3 [])) Qa:=by cases hq' with | two q=>exact q
 refine sM (C.alY N.gr hp e hg ig) λC1 hw ow nax=>?_;obtain ⟨mL,hnL,_⟩:=id lo;have hLa:=apart ig hnL;have hIa:I≠p.a:=λq=>by
  obtain ⟨o,nm,qn,ho,hc,hd,_⟩:=ig;have it':s.heap.get? I=_:=it;have it':=ho▸q▸it';cases it';simp at hc
 have oL:=memO L (by exact Z hax (.head _));have oI:=memO I (by exact Z hax (.tail _ (.head _)));obtain ⟨E1,E2⟩:=aeO N (own:=λb=>b=L\/b=I) C hp e hg hgs ow (λb o U hb=>by rcases hb with rfl | rfl <;> assumption) oL hc (Qa:=Qa);refine amd (f:=i.dF L) (D:=_) (Y:=_) hA.handled hl hroom ig hgs ?_ (λv S5 k l p fs I a b c=>E2 v S5 k l p fs I a b c) λS5 h1 h' h2=>E1 S5 h1 h' h2;show dC _ _ _ _ (kk (.send .none)) fs _;refine Z hk ?_;refine abV rfl (acS (i.dF L) hfs (hkind L) (hco L) ?_);exact afY N (A:=A.in1.over ((i.dF L).loop I) fs) (N.z sg oo cH hA (ac0 hfs hA.handled)) C1 (.refl ..) (.inl rfl) (.inr (.inr rfl)) (lo.mono hw (aX.refl _) λU e=>e) it
  ⟨nax I (by exact Z hax (.tail _ (.head _))) hIa,(C.hr.mT I oI).1⟩ ⟨nax L (by exact Z hax (.head _)) hLa,(C.hr.mT L oL).1⟩ hq'
theorem ahF(N:GenAt P i ps M1 M2 M3)(X:gP P.gJ)(sg:fN P.gJ false n G)(gx:eY P.gJ n G)(oo:pX P.NM)(cH:jk P i.T){a:Nat}{p:WE}{vs:List AV}{Qa:Option (AV×Nat×List AV)->AH->Prop}{E:xP->xM->Prop}(hA:gQ P A fl (20*(n+1)+5))(C:Cx P fl W H s)(hp:W[a]? =J p)(e:H[a]? =J (.gen 1 vs))(hc:∀r H',Qa r H'->H'[a]? =J (.gen 3 []))(gr:iX i W s p vs)(hq':jO M1 M2 M3 G (H.set a (.gen 3 [])) Qa 1 vs):
  xY P.M A (C7 (.ref p.a)) (qM P fl W s a Qa) E s:=by
 revert P i ps M1 M2 M3 fl W H s A G n a p vs Qa E;apply hU;intro U;apply(?Z:Tq U);intro P i ps M1 M2 M3 fl W H s A G;apply e1;intro U;apply(?Y:Tq U);intro n;intro N X sg gx oo cH;apply e5;intro U;apply(?X:Tq U);intro a p vs Qa E;intros;have hl:=cH.lim.keeps C.bq;have hroom:=hA.wI;have hkind:∀L,(i.dF L).env.scope.kind= .function:=λL=>by show i.fd.scope.kind=_;exact Z N.fn.scope N.fn.da.kind
 have hco:∀L,(i.dF L).env.scope.isCoroutine=false:=λL=>by show i.fd.scope.isCoroutine=_;exact Z N.fn.scope N.fn.da.co
 have memO:∀b,b∈p.aux->Own W b:=λb hb=>⟨p,ye hp,.inr hb⟩
 obtain ⟨g,L,hg,hax,ig,hgs,a',b',lo⟩:=gr;have hq':M1 G [J a',J b',Jw,Jw] (H.set a (.gen 3 [])) (λfl ρ H₁=>ri fl (M2 G ρ H₁ (λx H₂=>U2 M3 G a' b' ρ H₂ Qa x) uH)) uH:=by cases hq' with | one q=>exact q
 refine sM (C.alY N.gr hp e hg ig) λC1 hw ow nax=>?_;refine Qc λU z8=>(id lo).elim λmL u9=>u9.elim λhnL U=>z8 ?_;have hLa:=apart ig hnL;have oL:=memO L (by exact Z hax (.head _));have nL:=nax L (by exact Z hax (.head _)) hLa;have sL:=(C.hr.mT L oL).1;obtain ⟨E1,E2⟩:=aeO N (own:=λb=>b=L) C hp e hg hgs ow (λb o U hb=>by exact Z hb oL) oL hc (Qa:=Qa);refine amd (f:=i.dF L) (D:=_) (Y:=_) hA.handled hl hroom ig hgs ?_ (λv S5 k l p fs I a b c=>E2 v S5 k l p fs I a b c) λS5 h1 h' h2=>E1 S5 h1 h' h2;refine amK (i.dF L) rfl (hJ N.ns _) (hkind L) (hco L) ?_;have K:d8 (i.z P (A.in1.over (.func (i.dF L).fb (i.dF L).env) []) n G L):=N.z sg oo cH hA (ahi hA.handled);have tp:Top (i.z P (A.in1.over (.func (i.dF L).fb (i.dF L).env) []) n G L):=⟨λv11=>v11.elim λU q=>q.elim,λy11=>y11.elim λU q=>q.elim,⟨L,rfl⟩⟩
 let p1:Pt (i.z P (A.in1.over (.func (i.dF L).fb (i.dF L).env) []) n G L) [J a',J b',Jw,Jw]:=⟨_,_,_,C1,N.fr (lo.mono hw (aX.refl _) λU e=>e) sL nL rfl⟩
 have h1:=oW ⟨K,tp,X,gx⟩ 11 12 i.s1 (p:=p1) (K:=λfl ρ H₁=>ri fl (M2 G ρ H₁ (λx H₂=>U2 M3 G a' b' ρ H₂ Qa x) uH)) (X:=uH) (by
  exact Z (show stmt (comp (11+1)) 12 (i.z P (A.in1.over (.func (i.dF L).fb (i.dF L).env) []) n G L).T i.s1=M1 from N.t1) hq')
 refine yO (aB.any h1) (λf1 U h=>?_) λe1 U z11=>z11.rec λU U U U x U U=>x.2.elim;obtain ⟨P5,l,st2,fr,q⟩:=h;cases fr with
 | cont=>exact yX q
 | brk=>exact yX q
 | ret _=>exact yX q
 | next=>
 have ef:Fw=Fw:=rfl;have h2:=(dz 12 _ K i.iter).1 (p:=P5) (by exact Z (show (comp 12 (i.z P (A.in1.over (.func (i.dF L).fb (i.dF L).env) []) n G L).T i.iter).1=M2 from N.t2) q);refine ⟨ef,yO (aB.any h2) (λxv U h=>?_) λe1 U v13=>v13.rec λU U U U x U U=>x.2.elim⟩;obtain ⟨P8,av,z3,y3,q3⟩:=h;induction q3 with | @mk m c m0 m1 eρ q3=>
 subst eρ;refine y3.vJ λr hr=>hr.elim λtt hr=>hr.elim λu hr=>hr.elim λw hr=>?_;have sm0:sm 0:=⟨by decide,by decide⟩
 have smm:sm m:=⟨yG (by decide) m0,m1⟩
 refine wpAny_pyIter_range hr (iC sm0 smm (by decide) (by decide)) (aM _ rfl (λfs hfs=>?_));have kp:∀b o,P8.s.heap.get? b=J o->(P8.s.heap.push {cls:=.type "range_iterator",data:=.fields #[Bz 0,Bz (yV 0 m 1),Bz 1]}).get? b=J o:=λb o e=>xW _ e;have fI:P8.h.get? P8.h.objs.size=Jw:=zF (xS _);have wc:∀b,(fh i.T i.fd L i.f).wr b↔b=L:=λb=>N.own;have st3:=Step.nZ (Step.weaken st2 (λb U U h=>(wc b).mp h) λU U U h=>h) z3 λb hb=>hb.elim;refine afY N (A:=A.in1.over ((i.dF L).loop P8.s.heap.objs.size) fs) (N.z sg oo cH hA (ac0 hfs hA.handled)) (a:=a') (b':=b') (c:=c) (j:=0) (m:=m) (W:=P8.W) (H:=P8.H) (P8.C.grow kp rfl) (st3.trans (Step.grow kp rfl rfl)) rfl (.inl (Step.back st3 _ fI)) ?_ ?_ ⟨P8.rm fI,(P8.free fI).nS⟩ ⟨P8.R.no L (.inl rfl),sL⟩ q3
 ·exact N.ai8 (P8.R.grow kp)
 ·show Heap.get? _ _=_
  rw[yC _ rfl,rangeSize_one m0];simp
theorem aeN(N:GenAt P i ps M1 M2 M3)(C:Cx P fl W H s)(y:VR W s.heap (.ref a) v)(e:H[a]? =J (.gen k vs))(hQ:Q v s):xY P.M A (El v) Q E s:=
 VR.bG (G:=λv=>Q v s->xY P.M A (El v) Q E s) y (λp hp hQ=>(show i.GR W s p k vs from N.gr▸C.or hp e).gen.elim λg ig=>wpAny_pyIter_gen ig hQ) hQ
theorem agD(N:GenAt P i ps M1 M2 M3){a k:Nat}(C:Cx P fl W H s)(hp:W[a]? =J p)(e:H[a]? =J (.gen k vs)):qe s.heap p.a:=
 (show i.GR W s p k vs from N.gr▸C.or hp e).gen.elim λg ig=>ig.elim λo ig=>ig.elim λnm ig=>ig.elim λqn ig=>⟨o,_,ig.1,ig.2.1,by decide,by decide,by decide⟩
theorem ajx(N:GenAt P i ps M1 M2 M3){t:Tab}(ht:∀G k vs H Q,t.k6 G k vs H Q->jO M1 M2 M3 G H Q k vs)(X:gP P.gJ)(sg:fN P.gJ false n (t.qh n))(gx:eY P.gJ n (t.qh n))(oo:pX P.NM)(cH:jk P i.T):eY P (n+1) (t.sig false (n+1)) where
 iter:=aeN N
 cls:=agD N
 next:=λ{A fl W H s a k vs v Qa E} hA C y e hc hq=>VR.bG (G:=λv=>xY P.M A (C7 v) (qM P fl W s a Qa) E s) y λp hp=>by
  have gr:i.GR W s p k vs:=N.gr▸C.or hp e;have hq2:=ht _ _ _ _ _ (show t.k6 (t.qh n) k vs (H.set a (.gen 3 [])) Qa from hq)
  clear hq
  cases hq2 with
  | one q=>exact ahF N X sg gx oo cH hA C hp e hc gr (.one q)
  | two q=>exact ahE N sg oo cH hA C hp e hc gr (.two q)
end
section
variable{P:cy}{i:GI}{ps:List ze}{M1:ST}{M2 M3:PT AV}{fl:List BX}{W W':WD}{H H':AH}{s s':xM}{A:yS}{G:fW}{n:Nat}{t:Tab}
theorem apq{α:Type}{l:List α}(h:l.length=2):∃a b,l=[a,b]:=by
 cases l with
 | nil=>cases h
 | cons a l=>cases l with
  | nil=>cases h
  | cons b l=>exact ⟨a,b,Dw (AY (AY h))▸rfl⟩
theorem ajy(N:GenAt P i ps M1 M2 M3)(cH:jk P i.T){args:List AV}{Q:AV->AH->Prop}{X:XF}(hl:args.length=2)
  {r:Bool} (q:bR (.gen 1 args) H Q):dW P r (n+1) i.f args H Q X:=by
 revert P i ps M1 M2 M3 H n args Q X r;apply e8;intro U;apply(?Z:Tq U);intro P i ps M1 M2 M3 H n;intro N cH;apply e3;intro U;apply(?Y:Tq U);intro args Q X;intros;intro A fl env W s vs hA C y;refine aZ.of ?_;obtain ⟨a,b,rfl⟩:=apq hl;have hroom:=hA.wI;refine aO N.fn.at_ λoF hoF hdF=>?_;have O:=N.fn.da;have hlen:vs.length+([]:List xP).length=ps.length:=by exact Ql y.length (Z hl (Z N.two rfl))
 refine codeAny_call_generator hroom (C.bq _ _ hoF) hdF (N.fn.scope▸O.co) N.gen N.fn.body (N.fn.code.keeps C.bq) (N.fn.bind C.bq hlen ?_);refine Z N.fn.closure ?_;have hlv:vs.length=2:=by exact Ql y.length (Z hl rfl)
 have hdis:distinct ((ps.zip (vs++[])).map (·.1))=true:=by exact Z (i4 (by simp[N.two,hlv])) O.xD
 have hzip:∀x v,(x,v)∈ps.zip (vs++[])->∃i,(x,i)∈ps.zipIdx/\(vs++[])[i]? =J v:=λx v hx=>by
  refine (zu.mp hx).elim λi hi=>?_;rw[D1] at hi;exact (aM i (Ba.mpr hi.1) hi.2)
 have kindP:∀x v,(x,v)∈ps.zip (vs++[])->i.T.scope.names.lookup x=J .local:=λx v hx=>by
  refine aO (hzip x v hx) λj hj U=>?_;exact N.loc x j (O.par x j hj)
 refine Ia (N.fn.scope▸O.kind) (λx hx=>.inl (by exact Z N.fn.scope (kindP x.1 x.2 hx))) λenv he S5 X=>?_;subst he;have kp:=X.toInCall.keep;have fr:∀b,s.heap.objs.size<=b->s.heap.get? b=Jw:=λb hb=>by
  cases q:s.heap.get? b with
  | none=>rfl
  | some o=>exact absurd (zb q) (xX.mpr hb)
 refine gX X.toInCall.same λh1 tk es=>?_;have hg:S5.gens=s.gens:=by exact Z es rfl
 have ho:S5.os=s.os:=by exact Z es rfl
 have hlim:=(cH.lim.keeps C.bq).keeps kp;have hkn:(λx=>i.T.scope.names.lookup x)=Dt (newEnv i.fd.scope s.heap.objs.size i.fd.globals (zO (s.heap.objs.size+1) i.fd.scope.names []) (i.fd.qualname++".<locals>.") (J i.f) i.fd.code Jw i.fd.builtins):=by
   funext x;show _=i.fd.scope.names.lookup x;exact Z N.fn.scope rfl
 have hns:S5.heap.Ns s.heap.objs.size (bindL (λx=>i.T.scope.names.lookup x) (ps.zip (vs++[])) λU=>Jw):=by
  have:=X.toInCall.ns;exact Z hkn this
 refine ⟨hlim,?_⟩;generalize sZ:({S5 with gens:=S5.gens.push (.fresh (.func i.body (EZ i.fd s.heap.objs.size i.f))),toks:=S5.toks+1+1,heap:=S5.heap.push {cls:=.type "generator",data:=.fields #[.int S5.gens.size 0,.str i.fd.name S5.toks,.str i.fd.qualname (S5.toks+1)]}}:xM)=S8;have k12:∀b o,S5.heap.get? b=J o->S8.heap.get? b=J o:=λb o e=>by subst sZ;exact xW _ e
 have k2:∀b o,s.heap.get? b=J o->S8.heap.get? b=J o:=λb o e=>k12 b o (kp b o e);refine Qc λU y7=>(id hns).elim λoL z7=>z7.elim λesL u8=>u8.elim λepL v8=>v8.elim λeL y8=>y8.elim λdL U=>y7 ?_;have sz:=zb eL;have f1:S5.heap.get? S5.heap.objs.size=Jw:=by
  cases q:S5.heap.get? S5.heap.objs.size with
  | none=>rfl
  | some o=>exact absurd (zb q) (zU _)
 have e2:S8.heap.get? S5.heap.objs.size=J {cls:=.type "generator",data:=.fields #[.int S5.gens.size 0,.str i.fd.name S5.toks,.str i.fd.qualname (S5.toks+1)]}:=by
  subst sZ;exact yC _ rfl
 have ig:S8.heap.IsGen S5.heap.objs.size s.gens.size:=by exact Ql hg ⟨_,_,_,e2,rfl,rfl,rfl⟩
 have g2:S8.gens=s.gens.push (.fresh (.func i.body (EZ i.fd s.heap.objs.size i.f))):=by subst sZ;exact Z hg rfl
 have kg:∀g x,s.gens[g]? =J x->S8.gens[g]? =J x:=λg x e=>by
  rw[g2,Array.getElem?_push];have:=(Cg.mp e).1;exact Z (if_neg (zt this)) e
 have gn:s.gens[s.gens.size]? =Jw:=by simp
 have gs:S8.gens[s.gens.size]? =J (.fresh (.func i.body (EZ i.fd s.heap.objs.size i.f))):=by refine Z g2 ?_;simp
 have yy:=bS.mono cf.rfl (aX.of_keeps k2) y;have pl:cf W (W++[(⟨S5.heap.objs.size,[s.heap.objs.size],[s.gens.size]⟩:WE)]):=cf.app;have lo:i.loc (W++[⟨S5.heap.objs.size,[s.heap.objs.size],[s.gens.size]⟩]) S8.heap s.heap.objs.size [J a,J b,Jw,Jw]:=by
  refine ⟨_,hns.keeps k12,λx j av hx hv=>?_⟩;have hv':[a,b][j]? =J av:=by
   match j,hv with
   | 0,hv=>simpa using hv
   | 1,hv=>simpa using hv
   | 2,hv=>simp at hv
   | 3,hv=>simp at hv
   | j+4,hv=>simp at hv
  refine aO (yy.get hv') λv hv1 yv=>?_;have hj:j<ps.length:=by
   exact Z N.two (Ql hl ((xQ.mp hv').1))
  have hm:(ps[j],j)∈ps.zipIdx:=Ba.mpr (xR hj);have:=du O.s7 (lookup_mem hx) (lookup_mem (O.par _ _ hm));subst this;have hz:(ps[j],v)∈ps.zip (vs++[]):=zip_get hm (by simpa using hv1);exact (aM v (jN _ (kindP _ _ hz) _ _ hdis hz) (yv.mono pl (aX.refl _)))
 have C2:=C.new (p:=⟨S5.heap.objs.size,[s.heap.objs.size],[s.gens.size]⟩) (ao:=.gen 1 [a,b]) (s':=S8) k2 kg (by subst sZ;exact ho) (by subst sZ;exact hg▸λy hy=>(Array.mem_push.mp hy).elim (C.bare y) λe=>e▸rfl) (λb' hb=>by
   rcases hb with e | e
   ·refine Z e ?_
    refine ⟨fr _ (ya sz),(aM _ e2 ?_)⟩;exact ajC rfl
   ·obtain rfl:=xV.mp e
    exact ⟨fr _ (xS _),(aM _ (k12 _ _ eL) (bO dL))⟩) (λg hgm=>by
   obtain rfl:=xV.mp hgm;exact ⟨gn,⟨_,gs⟩⟩) (by
   show P.GR _ _ _ _ _;exact Z N.gr (iX.mk _ _ rfl rfl ig gs a b lo))
 subst sZ;exact ⟨_,_,_,q.get,C2.1,VR.new (p:=⟨S5.heap.objs.size,[s.heap.objs.size],[s.gens.size]⟩) C.hr.len,C2.2⟩
theorem ac4(N:GenAt P i ps M1 M2 M3)(h0:∀k vs H Q,¬G.k6 k vs H Q):eY P n G where
 iter:=aeN N
 cls:=agD N
 next:=λU U U U U hq=>(h0 _ _ _ _ hq).elim
theorem iY.gJ{T:CT}{ps:List ze}(N:iY P f T ps dv b fd):iY P.gJ f T ps dv b fd:=
 ⟨N.at_,N.body,N.globals,N.builtins,N.closure,N.code,N.scope,N.da,N.bind⟩
theorem jk.gJ{T:CT}(S:jk P T):jk P.gJ T:=⟨S.lim,Gl.rec (λmg mb a b fn cls bi kv=>⟨mg,mb,a,b,fn,cls,bi,kv⟩) S.gl,S.nm⟩
theorem fm.gJ(S:fm P t):fm P.gJ t.gJ:=
 ⟨S.init,S.cR,S.fld,(λU h=>by cases h),S.qi,S.vL.imp λU k=>⟨k.inj,k.fld,k.cR⟩,λf d h=>uj.rec (λT ps dv b fd st fn hg hn hk hb yd=>⟨T,ps,dv,b,fd,st.gJ,fn.gJ,hg,hn,hk,hb,yd⟩) (S.fn f d h),S.oo,
  ⟨λU h=>h.elim,S.wB.wm,S.wB.lim⟩⟩
theorem GenAt.gJ(N:GenAt P i ps M1 M2 M3):GenAt P.gJ i ps M1 M2 M3:=
 ⟨N.fn.gJ,N.two,N.gen,N.n,N.loc,N.px,N.t1,N.tt,N.t2,N.t3,N.ns,N.gr⟩
inductive v3(f:yk)(Q:AV->AH->Prop)(H:AH):yk->List AV->Prop
 | mk(args:List AV)(hl:args.length=2)(q:bR (.gen 1 args) H Q):v3 f Q H f args
theorem akv(N:GenAt P i ps M1 M2 M3)(cH:jk P i.T)(S:fm P t)(ht:∀G k vs H Q,t.k6 G k vs H Q->jO M1 M2 M3 G H Q k vs)
  (hg:∀f args H Q,t.gen f args H Q->v3 i.f Q H f args) (r:Bool) (n):fN P r n (t.sig r n):=
 have gx:∀n,eY P.gJ n (t.qh n):=λn=>ac4 N.gJ nofun
 q6 S (λr n f args H Q X h=>v3.rec (motive:=λf args U=>dW P r (n+1) f args H Q X) (λargs hl q=>ajy N cH hl q) (hg f args H Q h))
  (λn=>match n with
   | 0=>ac4 N nofun
   | n+1=>ajx N ht S.gJ.wB (oZ S.gJ gx n) (gx n) S.oo cH) n r
end
abbrev amq:=PySem.W.Fast.tw10156331382660048174
abbrev fOk:=PySem.W.Fast.tw6613529449190102663
abbrev aoP:=PySem.W.Fast.tw14364793385576792824
abbrev aoQ:=PySem.W.Fast.tw11892475500146522536
def q8(p:AG)(w:World)(N0:Nat)(ann:Option xP):Nat->HP->Thread->Option HP
 | 0,_,_=>Jw
 | n+1,s,t=>match through t with
  | true=>J s
  | false=>match fOk N0 ann t with
   | false=>Jw
   | true=>match amq (aoQ aoP) p w s t with
    | some (s',t')=>q8 p w N0 ann n s' t'
    | none=>Jw
theorem acU:∀{n:Nat} {s s':HP} {t:Thread},q8 p w N0 ann n s t=J s'->topRun Hi p w N0 ann n s.abs t=J s'.abs
 | 0,_,_,_,h=>by cases h
 | n+1,s,s',t,h=>by
  unfold q8 at h;unfold topRun;cases he:through t with
  | true=>have h:=he▸h;exact congrArg (λx=>J x.abs) (xT h)
  | false=>
   have h:=he▸h;have e1:fOk N0 ann t=stepOk N0 ann t:=(congrFun (congrFun (congrFun PySem.W.Fast.te6613529449190102663 N0) ann) t).symm;have e2:amq (aoQ aoP) p w s t=stepT (denote Hi) p w s t:=by
    show PySem.W.Fast.tw10156331382660048174 (PySem.W.Fast.tw11892475500146522536 PySem.W.Fast.tw14364793385576792824) p w s t=_;exact Ql PySem.W.Fast.te10156331382660048174 (Ql PySem.W.Fast.te11892475500146522536 (Ql PySem.W.Fast.te14364793385576792824 rfl))
   have h:=e2▸e1▸h;cases hk:stepOk N0 ann t with
   | false=>have h:=hk▸h;cases h
   | true=>
    have h:=hk▸h;cases hs:stepT (denote Hi) p w s t with
    | none=>have h:=hs▸h;cases h
    | some r=>obtain ⟨S8,T3⟩:=r;have h:=hs▸h;exact Z (stepT_spec hs) (acU h)
def aj2(P:Params):BT:=
 .node (boot_o_0 P)
  (.node (boot_o_1 P) (.node (boot_o_3 P) (.node (boot_o_7 P) .nil .nil) .nil) (.node (boot_o_5 P) (.node (boot_o_9 P) .nil .nil) .nil))
  (.node (boot_o_2 P) (.node (boot_o_4 P) (.node (boot_o_8 P) .nil .nil) .nil) (.node (boot_o_6 P) (.node (boot_o_10 P) .nil .nil) .nil))
def qH(P:Params)(os:ED):HP:=⟨aj2 P,11,{},#[],Ii,I6,os⟩
theorem boot_abs(P)(os):(qH P os).abs=⟨Co P,Iq [],Ii,I6,os⟩:=by kernel_rfl
theorem ahY(w:World):(((Co w.params).isNs zA&&(Iq []:Array Br).size==0),(Co w.params).objs.size,(Co w.params).nsMap zA "__annotations__")=(true,11,J (y0 6)):=by kernel_rfl
noncomputable abbrev pw:AG:=PySem.Challenge.pw_nt0576_01
theorem akV:opening pw=plainProg pw.main.scope.names:=by kernel_rfl
theorem ajK(s):fenceModules? pw s=J s:=by kernel_rfl
theorem aja{q:AG}{M N:Nat}(h6:Nat.ble 600 N=true)(le:Nat.ble M N=true)
  (h:∀(w:World) (os:ED),(q8 pw w 11 (J (.ref 6)) M (qH w.params os) (topStub pw)).map (λs=>((staticsOk (CX pw.main.body) (Co w.params) s.abs.heap&&namesBound pw s.abs.heap&&gensDone s.abs&&laidKept (Co w.params) s.abs.heap),
   openSeen q loose (CX pw.main.body) Xt true s.abs))=J (true,openGood q loose))
  (h':∀(w:World) (os:ED) (s:HP),q8 pw w 11 (J (.ref 6)) M (qH w.params os) (topStub pw)=J s->Yf s.abs=Ya w):LeftO pw q loose Xt Yf Ya N true:=λw=>by
 refine Qc λU u6=>?_;obtain ⟨⟨h0,gs,d,k,os⟩,e,e'⟩:=yh.mp (boot_open (p:=pw) (N:=N) akV h6 ajK w);refine u6 ?_;obtain ⟨rfl,rfl,rfl,rfl⟩:h0=Co w.params/\gs=Iq []/\d=Ii/\k=I6:=by simpa using e'
 obtain ⟨z1,z2,z3⟩:_/\_/\_:=by simpa only[Prod.mk.injEq] using ahY w
 refine aO (yh.mp (h w os)) λs hs hl=>?_;obtain ⟨l1,l2⟩:_/\_:=by simpa only[Prod.mk.injEq] using hl
 have l3:=h' w os s hs;have r0:=acU hs;rw[boot_abs] at r0;have r:=topRun_mono (N-M) _ _ _ _ r0;rw[show M+(N-M)=N from Nat.add_sub_of_le (Dh le)] at r;have t:topFrom Hi pw w N ⟨Co w.params,Iq [],Ii,I6,os⟩=J s.abs:=by
  unfold topFrom;dsimp only;refine Z z1 (Z z2 (Z z3 (Z r ?_)));show (match staticsOk (CX pw.main.body) (Co w.params) s.abs.heap&&namesBound pw s.abs.heap&&gensDone s.abs&&laidKept (Co w.params) s.abs.heap with | true=>_ | false=>_)=_;exact Z l1 rfl
 unfold openEnds;refine Z e ?_;show (topFrom Hi pw w N _).map _=_;exact Z t (congrArg J (Prod.ext l2 l3))
noncomputable def wg{α:Type}(l:List (String×α)):List (ze×α):=l.map λx=>(AK x.1,x.2)
noncomputable def jo:List (ze×yk×yk×Nat):=wg [("PressError",38,22,196),("TableError",51,42,225),("ScanError",63,54,241),("CodeError",75,66,257),("CutError",87,78,273),("RangeError",99,90,289)]
noncomputable def eQ:List (ze×yk×Nat):=wg [("LinePredictor",181,371),("SampleGrid",214,431),("LosslessWriter",261,485),("LosslessReader",303,548),("Component",352,667),("Frame",418,702),("BitWriter",460,798),("BitReader",502,851),("HuffTable",551,934),("CodeSink",660,1105),("CountSink",702,1163),("Plane",826,1350),("Scan",868,1412)]
noncomputable def tW:List (ze×Int×Nat):=wg [("WORD",65536,332),("HALF_predictors",32768,334),("MOST_CATEGORY",16,427),("HALF_lossless",32768,429),("MOST_BITS_huffman",16,908),("MOST_SYMBOLS",256,910),("MOST_BITS_huffman_build",16,995),("NOBODY",-1,998),("RST0",208,1219),("MOST_KIND",7,1279)]
noncomputable def wX:List (ze×yk):=wg [("_wall",21),("category",108),("bits_of",115),("value_of",122),("predicted",129),("first_prediction",136),("difference",143),("restored",150),("filled_samples",223),("check_interval",314),("write_intervals",321),("read_intervals",328),("parts",335),("code_rows",513),("check_told",520),("merged",562),("packed",569),("by_worth",574),("best_sizes",581),("table_of",586),("best_table",594),("units_across",601),("unit_count",608),("unit_at",615),("units",622),("is_restart",713),("stuff",720),("unstuff",727),("behind_fill",734),("split_data",741),("join_data",748),("check_lossless_scan",755),("line_predictor",762),("counted",769),("best_tables",776),("written_scan",783),("check_restarts",790),("read_lossless_scan",795),("kept_in",837),("_law_pool",879),("_law_take",886),("_law_one",893),("_law_plane",900),("_law_frame",905),("_law_due",912),("_law_grid_right",919),("_law_read",924),("law",929)]
noncomputable def uS:List (ze×yk):=jo.map (λx=>(x.1,x.2.1))++eQ.map λx=>(x.1,x.2.1)
noncomputable def hKv:List (ze×Int):=tW.map λx=>(x.1,x.2.1)
noncomputable def vQ:List (ze×Nat):=wg [("append",0),("add",1),("get",2),("setdefault",3),("pop",4),("extend",5),("find",6),("bit_length",7),("__init__",8),("message",9),("samples",10),("kind",11),("middle",12),("tops",13),("rows",14),("padded",15),("put",16),("at",17),("slots",18),("predictor",19),("sink",20),("start",21),("told",22),("symbol",23),("bits",24),("finish",25),("tables",26),("most",27),("read",28),("left",29),("code",30),("ident",31),("across",32),("down",33),("quant",34),("precision",35),("height",36),("width",37),("components",38),("n",39),("most_across",40),("most_down",41),("plane_size",42),("mcus_across",43),("mcus_down",44),("full",45),("rest",46),("size",47),("source",48),("bit",49),("counts",50),("symbols",51),("codes",52),("is_alone",53),("blocks",54),("places",55),("writer",56),("pad",57),("octets",58),("end",59),("high",60),("low",61),("dc_slots",62),("ac_slots",63)]
noncomputable def wY:List (ze×BI):=wg [("len",.len),("range",.range),("abs",.abs),("max",.max),("min",.min),("sum",.sum),("int",.int),("sorted",.sorted),("tuple",.tuple),("list",.list),("bytes",.bytes),("bytearray",.bytearray),("set",.set),("str",.str)]
noncomputable def apw(ps:List ze)(sc:Dm):CT:=
 let all:=ps++sc.names.filterMap λx=>if (x.2==.local||x.2==.cell)&&!ps.contains x.1 then J x.1 else Jw
 {scope:=sc,slots:=all.zipIdx,n:=all.length,lo:=0,fn:=wX,cls:=uS,bi:=wY,kv:=hKv,vp:=vQ}
structure oG where
 name:ze
 qual:ze
 args:Hv
 body:List CM
 scope:Dm
 deriving Nonempty
noncomputable def wN:oG:=⟨"","",default,[],default⟩
noncomputable def fnI(q:ze->ze)(o:Option CM):oG:=o.casesOn wN λs=>wK (λU=>wN) s (fd:=λn a b U U U c U U U=>⟨n,q n,a,b,c⟩)
noncomputable def clB(j:Nat)(o:Option CM):oG:=o.casesOn wN λs=>wK (λU=>wN) s (cd:=λn U U b U U U U U U U=>fnI (λx=>n++"."++x) b[j]?)
noncomputable def dj(i:Nat):oG:=fnI (λx=>x) pw.main.body[i]?
noncomputable def fj(i j:Nat):oG:=clB j pw.main.body[i]?
noncomputable abbrev oG.ps(f:oG):List ze:=f.args.args.map (·.arg)
noncomputable abbrev oG.T(f:oG):CT:=apw f.ps f.scope
abbrev vm:=Nat×Nat×Nat
noncomputable def plc:List (oG×vm):=[(dj 9,(2,305,308)),(dj 10,(2,305,315)),(dj 11,(2,305,323)),(dj 15,(3,330,337)),(dj 16,(3,330,347)),(dj 17,(3,330,355)),(dj 18,(3,330,364)),(fj 19 0,(3,330,384)),(fj 19 1,(3,330,394)),(fj 19 2,(3,330,401)),(fj 23 0,(4,425,444)),(fj 23 1,(4,425,450)),(fj 23 2,(4,425,460)),(dj 24,(4,425,480)),(fj 25 0,(4,425,498)),(fj 25 1,(4,425,509)),(fj 25 2,(4,425,516)),(fj 25 3,(4,425,530)),(fj 26 0,(4,425,561)),(fj 26 1,(4,425,573)),(fj 26 2,(4,425,581)),(fj 26 3,(4,425,595)),(dj 27,(4,425,617)),(dj 28,(4,425,625)),(dj 29,(4,425,641)),(dj 31,(5,657,660)),(fj 32 0,(5,657,680)),(fj 33 0,(5,657,715)),(fj 33 1,(5,657,728)),(fj 33 2,(5,657,734)),(fj 33 3,(5,657,740)),(fj 33 4,(5,657,747)),(fj 33 5,(5,657,754)),(fj 33 6,(5,657,764)),(fj 33 7,(5,657,774)),(fj 35 0,(6,796,811)),(fj 35 1,(6,796,818)),(fj 35 2,(6,796,827)),(fj 35 3,(6,796,834)),(fj 36 0,(6,796,864)),(fj 36 1,(6,796,872)),(fj 36 2,(6,796,879)),(fj 36 3,(6,796,887)),(dj 40,(7,906,913)),(dj 41,(7,906,925)),(fj 42 0,(7,906,947)),(fj 42 1,(7,906,961)),(fj 42 2,(7,906,970)),(dj 46,(8,993,1001)),(dj 47,(8,993,1012)),(dj 48,(8,993,1023)),(dj 49,(8,993,1029)),(dj 50,(8,993,1044)),(dj 51,(8,993,1050)),(dj 53,(9,1057,1060)),(dj 54,(9,1057,1068)),(dj 55,(9,1057,1078)),(fj 58 0,(10,1103,1118)),(fj 58 1,(10,1103,1126)),(fj 58 2,(10,1103,1137)),(fj 58 3,(10,1103,1146)),(fj 59 0,(10,1103,1176)),(fj 59 1,(10,1103,1183)),(fj 59 2,(10,1103,1193)),(fj 59 3,(10,1103,1202)),(dj 62,(11,1217,1222)),(dj 64,(12,1228,1231)),(dj 65,(12,1228,1240)),(dj 66,(12,1228,1249)),(dj 67,(12,1228,1257)),(dj 68,(12,1228,1269)),(dj 71,(13,1277,1282)),(dj 72,(13,1277,1290)),(dj 73,(13,1277,1299)),(dj 74,(13,1277,1311)),(dj 75,(13,1277,1322)),(dj 76,(13,1277,1335)),(dj 77,(13,1277,1343)),(fj 79 0,(14,1348,1363)),(fj 79 1,(14,1348,1373)),(fj 79 2,(14,1348,1382)),(dj 80,(14,1348,1403)),(fj 82 0,(15,1410,1425)),(fj 82 1,(15,1410,1439)),(fj 82 2,(15,1410,1446)),(dj 84,(16,1467,1470)),(dj 85,(16,1467,1481)),(dj 86,(16,1467,1490)),(dj 87,(16,1467,1498)),(dj 88,(16,1467,1514)),(dj 89,(16,1467,1520)),(dj 90,(16,1467,1534)),(dj 91,(16,1467,1550)),(dj 92,(16,1467,1556))]
noncomputable def rows:List ((Nat×qO)×oG×vm):=vF.zip plc
theorem ag5:rows.map (λr=>cB r.2.1.T r.2.1.body)=rows.map (λr=>r.1.2.body):=by kernel_rfl
noncomputable def pn(a:Hv):Bool:=a.posonlyargs.isEmpty&&a.vararg.isNone&&a.kwonlyargs.isEmpty&&a.kwarg.isNone
noncomputable def amb(r:(Nat×qO)×oG×vm):Bool:=decide (r.1.2.n=r.2.1.T.n)&&decide (r.1.2.k=r.2.1.ps.length)&&k9 r.2.1.T r.2.1.ps&&pn r.2.1.args&&!r.2.1.scope.isGenerator
theorem akK:rows.filter (λr=>!r.1.2.dflt.isEmpty)=[((594,⟨2,2,aaU,[16]⟩),dj 51,(8,993,1050))]:=by kernel_rfl
theorem ajr:rows.all amb=true:=by kernel_rfl
noncomputable def pms:List ze:=["__main__","pixelpress.errors","pixelpress.magnitude","pixelpress.predictors","pixelpress.lossless","pixelpress.frames","pixelpress.bits","pixelpress.huffman","pixelpress.huffman_build","pixelpress.mcu","pixelpress.sinks","pixelpress.markers","pixelpress.stuffing","pixelpress.lossless_scan","pixelpress.planes","pixelpress.scans","law_nt0576_01"]
noncomputable abbrev oM:oG:=fj 2 0
noncomputable abbrev dK:oG:=dj 56
noncomputable def dfV:List Int->xP
 | []=>.none
 | _=>.ref 587
noncomputable def bW:List (yk×oG×xP×vm):=rows.map (λr=>(r.1.1,r.2.1,dfV r.1.2.dflt,r.2.2))++[(35,oM,.none,(1,194,209)),(622,dK,.none,(9,1057,1094)),(21,dj 0,.none,(0,164,188))]
theorem zl{L:List (ze×xP)}(hd:distinct (L.map (·.1))=true)(hx:x∈L):L.lookup x.1=J x.2:=by
 induction L with
 | nil=>cases hx
 | cons y r ih=>
  have hd:=xZ.mp hd;refine Z zo ?_;rcases yu.mp hx with rfl | h
  ·exact Z (beq_self_eq_true _) rfl
  ·have:(x.1==y.1)=false:=beq_false_of_ne λe=>by
    have:=zv.mpr (e▸CD (f:=λz:ze×xP=>z.1) h);rw[this] at hd;exact absurd hd.1 x8
   exact Z this (ih hd.2 h)
theorem fml{L:List (ze×xP)}:∀{qs:List ze} {us:List xP},us.length=qs.length->(∀x∈qs.zip us,L.lookup x.1=J x.2)->(qs.filterMap λn=>(L.lookup n).map (n,·))=qs.zip us
 | [],_,_,_=>rfl
 | p::r,v::vs,hl,h=>by
  exact Z FT (Z FD (Z (show L.lookup p=J v from h _ (.head _)) (congrArg ((p,v):: ·) (fml (AY hl) λx hx=>h x (.tail _ hx)))))
 | _::_,[],h,_=>by cases h
theorem adJ:∀{ps:List ze} {vs:List xP} {x:ze},ps.length<=vs.length->x∈ps->((ps.zip vs).lookup x).isNone=false
 | p::r,v::vs,x,hl,hx=>by
  refine Z FT (Z zo ?_);cases q:x==p with
  | true=>rfl
  | false=>exact adJ (BW hl) ((yu.mp hx).resolve_left λe=>by simp[e] at q)
 | _::_,[],_,h,_=>by cases h
theorem ao1{fd:Dr}{a:Hv}{vs:List xP}{as:List Arg}{kd ds}(e:a=⟨[],as,Jw,[],kd,Jw,ds⟩)(hn:distinct (as.map (·.arg))=true)(hl:vs.length=(as.map (·.arg)).length):
  bindArgs {fd with params:=a,defaults:=.none} ⟨vs,[]⟩=pure ((as.map (·.arg)).zip vs):=by
 revert fd a vs as kd ds;apply e6;intro U;apply(?Z:Tq U);intro fd a vs as kd ds;intros;subst e;have hg:¬(decide (vs.length>(as.map (·.arg)).length)&&(Jw:Option Arg).isNone)=true:=λh=>zU _ (hl▸of_decide_eq_true (xZ.mp h).1);have hf:¬(!(((as.map (·.arg)).take ((as.map (·.arg)).length-(HL (([]:List xP).length-(as.map (·.arg)).length) ([]:List xP)).length)).filter (λn=>(((as.map (·.arg)).zip vs).lookup n).isNone)).isEmpty)=true:=λh=>by
  rw[List.filter_eq_nil_iff.mpr λx hx=>by
   exact Z (adJ (yQ hl.symm) (zD hx)) x8] at h
  exact x8 h
 have hz:(HL ((as.map (·.arg)).length-(HL (([]:List xP).length-(as.map (·.arg)).length) ([]:List xP)).length) (as.map (·.arg))).zip (HL (([]:List xP).length-(as.map (·.arg)).length) ([]:List xP))=[]:=by exact Z List.drop_nil (Z List.zip_nil_right rfl)
 refine (if_neg hg).trans ((if_neg hf).trans ((congrArg (λl=>(forIn l _ _:Sem (List (ze×xP)))>>=_) hz).trans ?_));exact congrArg (BF (f:=Sem)) ((congrArg (List.filterMap _) (yB _)).trans (fml hl λx hx=>zl ((i4 hl.symm).symm▸hn) hx))
abbrev uy:=yk->Option Obj
def uy.Of(g:uy)(h:yJ):Prop:=∀a o,g a=J o->h.get? a=J o
noncomputable def kh(s:HP):uy:=λa=>cond (Ee a s.n) ((s.tree.get a).bind alive) Jw
theorem alm(s):uy.Of (kh s) s.abs.heap:=λa o e=>by
 unfold kh at e;cases hl:Ee a s.n with
 | false=>have e:=hl▸e;cases e
 | true=>
  have e:=hl▸e;refine aO (zw.mp e) λx hx e=>?_;exact (abs_get (Nat.blt_eq.mp hl) hx).trans e
abbrev findF:=PySem.W.Fast.tw16335722595253787840
theorem ajJ(es)(x):findF es x=nsFind es x:=(congrFun (congrFun PySem.W.Fast.te16335722595253787840 es) x).symm
noncomputable def dictOf(d:Data):Option (Array BY):=match d with
 | .dict es _=>J es
 | _=>Jw
theorem ahP(e:dictOf d=J es):∃ep,d= .dict es ep:=by
 cases d <;> first | (cases e;exact ⟨_,rfl⟩) | cases e
noncomputable def rA(d:Data):Array xP:=match d with
 | .fields vs=>vs
 | _=> #[]
theorem ahJ(e:(rA d)[1]? =J v):d= .fields (rA d):=by cases d <;> first | rfl | cases e
noncomputable def anf(v:xP):Bool:=match v with
 | .str _ _=>true
 | _=>false
noncomputable def amt(g:uy)(N:yk):Option (Array BY):=(g N).bind λo=>(dictOf o.data).filter λes=>es.all λe=>anf e.key
theorem aeU{h:yJ}(G:g.Of h){N:yk}(e:amt g N=J es):h.Ns N (h.nsMap N)/\∀x,findF es x=h.nsMap N x:=by
 refine aO (zw.mp e) λo ho e=>?_;refine (Option.filter_eq_some_iff.mp e).elim λe hk=>?_;refine (ahP e).elim λep hd=>?_;have ho:=G _ _ ho;exact ⟨.of_isNs (by unfold Heap.isNs;refine Z ho ?_;show (match o.data with | .dict es _=>_ | _=>false)=true;exact Z hd hk),λx=>by unfold Heap.nsMap;refine Z ho ?_;show _=(match o.data with | .dict es _=>_ | _=>Jw);exact Z hd (ajJ _ _)⟩
noncomputable def wk(a:yk)(f:oG)(dv:xP)(x:vm):Dr:=
 {name:=f.name,qualname:=f.qual,params:=f.args,body:=.stmts f.body,scope:=f.scope,globals:=zA,closure:=[],defaults:=dv,kwdefaults:=.none,pyModule:=.str (pms.getD x.1 "") x.2.1,code:=.ref (a-1),builtins:=BO}
noncomputable def xC(a:yk)(f:oG)(dv:xP)(x:vm):Obj:={cls:=.type "function",data:=.func (wk a f dv x)}
noncomputable def vU(nm:ze)(C:yk)(bm sub:List xP)(k:Option xP)(t:Nat)(id:String):Obj:=zQ nm nm C (C-1) (bm.take 1) bm true [] sub false Jw Jw k Jw (J (.str nm t)) (J (.str nm (t+8))) (J (.bool true)) id
noncomputable def aoR(C:yk):List xP:=if C=38 then [.ref 51,.ref 63,.ref 75,.ref 87,.ref 99] else []
noncomputable def ams(C:yk):List xP:=if C=38 then nQ else .ref 38::nQ
noncomputable def eO(x:ze×yk×yk×Nat):Obj:=vU x.1 x.2.1 (ams x.2.1) (aoR x.2.1) (J (.ref x.2.2.1)) x.2.2.2 "Exception.__new__"
noncomputable def oO(x:ze×yk×Nat):Obj:=vU x.1 x.2.1 [.type "object"] [] Jw x.2.2 "object.__new__"
noncomputable def NM(k:Nat):ze:=(vQ.map (·.1)).getD k ""
noncomputable def amo(g:uy)(a:yk):Option Obj×Option (Option xP):=(g a,(g (a-1)).map λo=>(rA o.data)[1]?)
noncomputable def ajG(r:yk×oG×xP×vm):Option Obj×Option (Option xP):=(J (xC r.1 r.2.1 r.2.2.1 r.2.2.2),J (J (.str r.2.1.qual r.2.2.2.2.2)))
noncomputable def inD(g:uy)(N:yk)(p:Array BY->Bool):Bool:=(amt g N).any p
def vo(es:Array BY)(l:List ze):Bool:=l.all λx=>(findF es x).isNone
def pF(es:Array BY)(x:ze)(a:xP):Bool:=decide (findF es x=J a)
noncomputable def vT:List ze:=["__getattribute__","__getattr__","__setattr__","__eq__","__ne__"]
noncomputable def aoS:List ze:=["__init__","__setattr__","message"]
def aoD(g:uy):Bool:=
 inD g cStatics (λes=>vo es ["sys.recursionlimit"])&&(g DF).isSome&&
 inD g zA (λes=>wX.all (λx=>pF es x.1 (.ref x.2))&&uS.all (λx=>pF es x.1 (.ref x.2))&&(wY.all (λx=>vo es [x.1])&&(tW.all (λx=>pF es x.1 (.int x.2.1 x.2.2))&&vo es ["Exception"])))&&
 inD g BO (λes=>wY.all (λx=>pF es x.1 (qI x.2))&&pF es "Exception" (.type "Exception"))&&
 eQ.all (λx=>inD g (x.2.1-1) λes=>vo es vT)&&
 qg.all (λx=>inD g (x.1-1) λes=>pF es "__init__" (.ref x.2))&&
 jl.all (λx=>inD g (x.1.1-1) λes=>pF es (NM x.1.2) (.ref x.2))&&
 sG.all (λx=>inD g (x.1-1) λes=>vo es [NM x.2])&&
 (jo.drop 1).all (λx=>inD g (x.2.1-1) λes=>vo es aoS)&&
 inD g 37 (λes=>pF es "__init__" (.ref 35)&&vo es ["__setattr__","message"])
def amh(g:uy):List (Option Obj×Option (Option xP))×List (Option Obj)×List (Option Obj)×Option Obj×Bool:=
 (bW.map λr=>amo g r.1,jo.map λx=>g x.2.1,eQ.map λx=>g x.2.1,g 587,aoD g)
def goodG:List (Option Obj×Option (Option xP))×List (Option Obj)×List (Option Obj)×Option Obj×Bool:=
 (bW.map ajG,jo.map λx=>J (eO x),eQ.map λx=>J (oO x),J {cls:=.type "tuple",data:=.seq #[.int 16 995] 0},true)
theorem bind1{s:xM}(ho:s.heap.get? 587=J o)(hs:o.data= .seq #[d] n):
   BindsTo s (wk 594 (dj 51) (.ref 587) x) ⟨[v],[]⟩ ((dj 51).ps.zip [v,d]):=by
 revert v d o n s x;apply e6;intro U;apply(?Z:Tq U);intro v d o n s x;intros;exact BindsTo.of_defaults rfl ho hs rfl rfl
theorem anN:∀i j,i<64->j<64->NM i=NM j->i=j:=λi j hi hj h=>by
 have c:(yH 64).all (λi=>(yH 64).all λj=>i==j||NM i !=NM j)=true:=by kernel_rfl
 have c:=yx.mp (yx.mp c i (y5.mpr hi)) j (y5.mpr hj);rw[h,bne_self_eq_false,Ei] at c;exact beq_iff_eq.mp c
theorem obj_none(h1:(k !=8)=true)(h2:k<64):Av (.type "object") (NM k)=pure Jw:=by
 have c:((yH 64).filter (· !=8)).map (λi=>Av (.type "object") (NM i))=((yH 64).filter (· !=8)).map (λU=>pure Jw):=by kernel_rfl
 exact CZ.mp c k (B0.mpr ⟨y5.mpr h2,h1⟩)
theorem apo:pX NM:=⟨by kernel_rfl,by kernel_rfl,by kernel_rfl,by kernel_rfl,by kernel_rfl,by kernel_rfl,by kernel_rfl,by kernel_rfl⟩
structure Seen(h:yJ):Prop where
 gl:h.Ns zA (h.nsMap zA)
 bl:h.Ns BO (h.nsMap BO)
 lim:h.NoLimit
 sys:∃o,h.get? DF=J o
 rows:∀r∈bW,h.get? r.1=J (xC r.1 r.2.1 r.2.2.1 r.2.2.2)/\h.CodeRec (.ref (r.1-1)) r.2.1.qual
 er:∀x∈jo,h.get? x.2.1=J (eO x)
 orr:∀x∈eQ,h.get? x.2.1=J (oO x)
 dv:h.get? 587=J {cls:=.type "tuple",data:=.seq #[.int 16 995] 0}
 fn:∀x∈wX,h.nsMap zA x.1=J (.ref x.2)
 cls:∀x∈uS,h.nsMap zA x.1=J (.ref x.2)
 bi:∀x∈wY,h.nsMap zA x.1=Jw/\h.nsMap BO x.1=J (qI x.2)
 kv:∀x∈tW,h.nsMap zA x.1=J (.int x.2.1 x.2.2)
 own:∀x∈eQ,h.Ns (x.2.1-1) (h.nsMap (x.2.1-1))/\∀y∈vT,h.nsMap (x.2.1-1) y=Jw
 init:∀x∈qg,h.nsMap (x.1-1) "__init__"=J (.ref x.2)
 cR:∀x∈jl,h.nsMap (x.1.1-1) (NM x.1.2)=J (.ref x.2)
 fld:∀x∈sG,h.nsMap (x.1-1) (NM x.2)=Jw
 exc:∀x∈jo.drop 1,h.Ns (x.2.1-1) (h.nsMap (x.2.1-1))/\∀y∈aoS,h.nsMap (x.2.1-1) y=Jw
 base:h.Ns 37 (h.nsMap 37)/\h.nsMap 37 "__init__"=J (.ref 35)/\∀y∈(["__setattr__","message"]:List ze),h.nsMap 37 y=Jw
 wm:h.nsMap zA "Exception"=Jw
 exb:h.nsMap BO "Exception"=J (.type "Exception")
theorem me(e:(a&&b)=true):a=true/\b=true:=xZ.mp e
theorem pV{a b c:Bool}(e:(a&&b&&c)=true):a=true/\b=true/\c=true:=(me e).elim λe k=>(me e).elim λe d=>(bU e d k)
theorem all2{l:List α}{Q:α->Prop}(e:l.all p=true)(k:∀x,p x=true->Q x):∀x∈l,Q x:=λx hx=>k x (yx.mp e x hx)
theorem jD{m:ze->Option xP}(q:∀x,findF es x=m x)(e:vo es l=true):∀x∈l,m x=Jw:=λx hx=>(q x).symm.trans (DS.mp (yx.mp e x hx))
theorem f7{m:ze->Option xP}(q:∀x,findF es x=m x)(e:pF es x v=true):m x=J v:=(q x).symm.trans (of_decide_eq_true e)
section
variable{h:yJ}{g:uy}(G:g.Of h)
include G
theorem hG{Q:Prop}(e:inD g N p=true)(k:∀es,p es=true->h.Ns N (h.nsMap N)->(∀x,findF es x=h.nsMap N x)->Q):Q:=
 aO ((Option.any_eq_true _ _).mp e) λes d e=>k es e (aeU G d).1 (aeU G d).2
theorem ahI(e:amo g r.1=ajG r):h.get? r.1=J (xC r.1 r.2.1 r.2.2.1 r.2.2.2)/\h.CodeRec (.ref (r.1-1)) r.2.1.qual:=
 ⟨G _ _ (congrArg Bs e),(yh.mp (congrArg BG e)).elim λo x=>⟨_,o,_,_,rfl,G _ _ x.1,ahJ x.2,x.2⟩⟩
theorem akI(e:amh g=goodG):Seen h:=by
 revert h g;apply e2;intro U;apply(?Z:Tq U);intro h g;intros;have e1:=congrArg Bs e;have e2:jo.map (λx=>g x.2.1)=jo.map λx=>J (eO x):=congrArg (λx=>x.2.1) e;have e3:eQ.map (λx=>g x.2.1)=eQ.map λx=>J (oO x):=congrArg (λx=>x.2.2.1) e;have e5:=congrArg (λx=>x.2.2.2.2) e;refine ou (pV e5) λe5 ex eb=>ou (pV e5) λe5 em ef=>ou (pV e5) λe5 eo ei=>(pV e5).elim λe5 k=>(me e5).elim λd1 d2=>k.elim λd3 d4=>
  hG G d1 λU q1 n1 f1=>hG G d3 λU q3 n3 f3=>hG G d4 λU q4 n4 f4=>hG G eb λU qb nb fb=>
   ou (pV q3) λa1 a2 k=>(me k).elim λa3 k=>(me k).elim λa4 a5=>(me q4).elim λc1 c2=>(me qb).elim λg1 g2=>?_
 exact {
  gl:=n3
  bl:=n4
  lim:=⟨_,n1,jD f1 q1 _ (.head _)⟩
  sys:=(CC.mp d2).imp λo e=>G _ _ e
  rows:=λr hr=>ahI G (CZ.mp e1 r hr)
  er:=λr hr=>G _ _ (CZ.mp e2 r hr)
  orr:=λr hr=>G _ _ (CZ.mp e3 r hr)
  dv:=G _ _ (congrArg (λx=>x.2.2.2.1) e)
  fn:=all2 a1 λx k=>f7 f3 k
  cls:=all2 a2 λx k=>f7 f3 k
  bi:=λx hx=>⟨jD f3 (yx.mp a3 x hx) _ (.head _),f7 f4 (yx.mp c1 x hx)⟩
  kv:=all2 a4 λx k=>f7 f3 k
  own:=all2 eo λx k=>hG G k λU q n f=>⟨n,jD f q⟩
  init:=all2 ei λx k=>hG G k λU q n f=>f7 f q
  cR:=all2 em λx k=>hG G k λU q n f=>f7 f q
  fld:=all2 ef λx k=>hG G k λU q n f=>jD f q _ (.head _)
  exc:=all2 ex λx k=>hG G k λU q n f=>⟨n,jD f q⟩
  base:=(bU nb (f7 fb g1) (jD fb g2))
  wm:=jD f3 a5 _ (.head _)
  exb:=f7 f4 c2}
end
theorem aj9{a:Hv}{po ko va kw}(e1:a.posonlyargs=po)(e2:a.vararg=va)(e3:a.kwonlyargs=ko)(e4:a.kwarg=kw):a=⟨po,a.args,va,ko,a.kw_defaults,kw,a.defaults⟩:=by cases a;cases e1;cases e2;cases e3;cases e4;rfl
theorem ahm{a:Hv}(e:pn a=true):a=⟨[],a.args,Jw,[],a.kw_defaults,Jw,a.defaults⟩:=
 (pV e).elim λe k=>(me e).elim λe1 e2=>k.elim λe3 e4=>aj9 (Gx.mp e1) (DS.mp e2) (Gx.mp e3) (DS.mp e4)
section
variable{P:cy}
theorem cJ[BEq α][LawfulBEq α]{l:List (α×β)}{c:β}(h:l.lookup n=J c):(n,c)∈l:=by
 induction l with
 | nil=>cases h
 | cons a r ih=>
  rw[zo] at h;cases e:n==a.1 with
  | true=>rw[e] at h;cases h;cases beq_iff_eq.mp e;exact .head _
  | false=>rw[e] at h;exact .tail _ (ih h)
variable(S:Seen P.hS)
include S
theorem ry{f:oG}(m:(a,f,.none,x)∈bW)(ok:pn f.args=true)(ck:k9 f.T f.ps=true):iY P a f.T f.ps [] f.body (wk a f .none x):=
 have C:=ac5 ck
 ⟨⟨_,(S.rows _ m).1,rfl⟩,rfl,rfl,rfl,rfl,(S.rows _ m).2,rfl,C,λst hl q=>BindsTo.of_eq (ao1 (fd:=wk a f .none x) (ahm ok) C.xD hl) _ _ _ _ (by rw[yB] at q;exact q)⟩
theorem ank(m:(594,dj 51,.ref 587,x)∈bW)(ck:k9 (dj 51).T (dj 51).ps=true):iY P 594 (dj 51).T (dj 51).ps [.int 16 995] (dj 51).body (wk 594 (dj 51) (.ref 587) x):=
 ⟨⟨_,(S.rows _ m).1,rfl⟩,rfl,rfl,rfl,rfl,(S.rows _ m).2,rfl,ac5 ck,λ{s vs A E Q} st hl q=>by
  obtain ⟨v,rfl⟩:=C3.mp (AY hl);exact bind1 (st _ _ S.dv) rfl _ _ _ _ q⟩
theorem t9(h:bW.any (λr=>r.1==a)=true):∃o fd,P.hS.get? a=J o/\o.cls= .type "function"/\o.data= .func fd:=
 aO (Cz.mp h) λr m e=>(k4 _ _ (beq_iff_eq.mp e▸(S.rows r m).1) rfl rfl)
theorem anw(h:x∈uS):vn P.hS x.2:=(yz.mp h).elim
 (λh=>aO (yg.mp h) λy m e=>by cases e;exact ⟨_,_,_,_,_,_,_,_,_,_,_,_,_,_,_,_,S.er y m⟩)
 λh=>aO (yg.mp h) λy m e=>by cases e;exact ⟨_,_,_,_,_,_,_,_,_,_,_,_,_,_,_,_,S.orr y m⟩
theorem af5(hn:P.NM=NM){f:oG}:jk P f.T:=
 have c1:wX.all (λx=>bW.any λr=>r.1==x.2)=true:=by kernel_rfl
 have c2:vQ.all (λx=>NM x.2==x.1)=true:=by kernel_rfl
 ⟨S.lim,⟨_,_,S.gl,S.bl,λx a h=>⟨S.fn _ (cJ h),(t9 S (yx.mp c1 _ (cJ h))).imp λo k=>k.imp λfd k=>⟨k.1,k.2.2⟩⟩,
  λx C h=>⟨S.cls _ (cJ h),anw S (cJ h)⟩,λx b h=>S.bi _ (cJ h),λx i h=>aO (yg.mp (cJ h)) λy m e=>⟨y.2.2,by cases e;exact S.kv y m⟩⟩,
  λx k h=>by exact Z hn (beq_iff_eq.mp (yx.mp c2 _ (cJ h)))⟩
end
structure UP where
 s1:CM
 tg:yF
 iter:yF
 e:yF
 pos:Pos
 yp:Pos
 ep:Pos
 deriving Nonempty
structure ug(u:UP):Prop where
 body:dK.body=[u.s1,.For u.tg u.iter [.Expr (.Yield (J u.e) u.yp) u.ep] [] u.pos]
 t1:stmt cE 12 dK.T u.s1=xB
 tt:∃x pos,u.tg= .Name x pos/\dK.T.gK x 3=true
 t2:(cE dK.T u.iter).1=xA
 t3:(cE dK.T u.e).1=wZ
 ns:noStar u.iter=true
theorem adL:∃u,ug u:=⟨⟨_,_,_,_,_,_,_⟩,rfl,by kernel_rfl,(mc _ _ rfl (by kernel_rfl)),by kernel_rfl,by kernel_rfl,by kernel_rfl⟩
abbrev UP.gi(u:UP)(fd:Dr):GI:=⟨622,fd,dK.T,u.s1,u.iter,u.pos,u.tg,u.e,u.yp,u.ep⟩
theorem afE:sv oM.T oM.body:=sv.mk _ default _ _ _ _ _ _ _ _ _ (by kernel_rfl) (by kernel_rfl) (by kernel_rfl) (by kernel_rfl)
theorem amZ{h:yJ}(S:Seen h){x:ze×yk×Nat}(m:x∈eQ):ClsAt h x.2.1 (x.2.1-1) (h.nsMap (x.2.1-1)):=by
 revert h x;apply e1;intro U;apply(?Z:Tq U);intro h;intro S;apply e1;intro U;apply(?Y:Tq U);intro x;intros;exact ⟨⟨_,_,_,_,_,_,_,_,_,_,_,_,S.orr x m⟩,(S.own x m).1⟩
theorem gq{h:yJ}(S:Seen h)(e:eQ.any (λx=>x.2.1==C)=true):ClsAt h C (C-1) (h.nsMap (C-1))/\∀y∈vT,h.nsMap (C-1) y=Jw:=
 aO (Cz.mp e) λx m e=>by cases beq_iff_eq.mp e;exact ⟨amZ S m,(S.own x m).2⟩
theorem aeI(h:qg.lookup C=J f):eQ.any (λx=>x.2.1==C)=true/\bW.any (λr=>r.1==f)=true:=by
 have c:qg.all (λx=>eQ.any (λy=>y.2.1==x.1)&&bW.any (λr=>r.1==x.2))=true:=by kernel_rfl
 exact me (yx.mp c _ (cJ h))
theorem aer(h:jl.lookup (C,k)=J f):eQ.any (λx=>x.2.1==C)=true/\bW.any (λr=>r.1==f)=true/\(k !=8)=true/\k<64:=by
 have c:jl.all (λx=>eQ.any (λy=>y.2.1==x.1.1)&&bW.any (λr=>r.1==x.2)&&(x.1.2 !=8&&Nat.ble (x.1.2+1) 64))=true:=by kernel_rfl
 exact (pV (yx.mp c _ (cJ h))).imp id λk=>k.imp id λk=>(me k).imp id Dh
theorem ky(h:sG.contains (C,k)=true):eQ.any (λx=>x.2.1==C)=true/\(k !=8)=true/\k<64:=by
 have c:sG.all (λx=>eQ.any (λy=>y.2.1==x.1)&&x.2 !=8&&Nat.ble (x.2+1) 64)=true:=by kernel_rfl
 exact (pV (yx.mp c _ (zv.mp h))).imp id λk=>k.imp id Dh
noncomputable def afX:vm:=(9,1057,1094)
abbrev uI(u:UP):GI:=u.gi (wk 622 dK .none afX)
noncomputable def eP(w:World)(h:yJ)(u:UP)(S:Seen h):cy where
 prog:=pw
 w:=w
 NM:=NM
 fld:=λC k=>sG.contains (C,k)
 GR:=(uI u).GR
 hS:=h
 pH:=GI.apt _ _
 sys:=S.sys
 vK:=λC n e=>⟨_,_,(gq S (ky e).1).1,(gq S (ky e).1).2 _ (.tail _ (.tail _ (.tail _ (.head _)))),(gq S (ky e).1).2 _ (.tail _ (.tail _ (.tail _ (.tail _ (.head _)))))⟩
 exc:=λC=>C∈[51,63,75,87,99]
section
variable{w:World}{h:yJ}{u:UP}(S:Seen h)
theorem alu(m:C∈[51,63,75,87,99]):∃x∈jo.drop 1,x.2.1=C:=by
 have c:[51,63,75,87,99].all (λC=>(jo.drop 1).any λx=>x.2.1==C)=true:=by kernel_rfl
 exact (Cz.mp (yx.mp c C m)).imp λx k=>k.imp id beq_iff_eq.mp
theorem aeJ(m:(a,f,.none,x)∈[((35:yk),oM,zK,((1,194,209):vm)),(622,dK,.none,afX)]):(a,f,zK,x)∈bW:=by
 refine yz.mpr (.inr ?_);rcases yu.mp m with e | m
 ·cases e;exact .head _
 ·cases xV.mp m;exact .tail _ (.head _)
theorem anp(S:Seen h):gP (eP w h u S) where
 cls:=λC m=>by
  obtain ⟨x,mx,rfl⟩:=alu m;have ne:x.2.1≠38:=λe=>absurd (show (38:Nat)∈[51,63,75,87,99] from e▸m) (by decide);have hx:=S.er x (List.mem_of_mem_drop mx);have h38:=S.er ("PressError",38,22,196) (.head _);rw[show eO x=vU x.1 x.2.1 (.ref 38::nQ) (aoR x.2.1) (J (.ref x.2.2.1)) x.2.2.2 "Exception.__new__" by unfold eO ams;exact Z (if_neg ne) rfl] at hx;have m35:=aeJ (.head _);exact ⟨35,⟨_,_,_,_,_,_,_,_,_,_,_,_,_,_,38,_,_,_,_,_,_,hx,(S.exc x mx).1,h38,S.base.1,(S.exc x mx).2 _ (.head _),(S.exc x mx).2 _ (.tail _ (.head _)),(S.exc x mx).2 _ (.tail _ (.tail _ (.head _))),S.base.2.1,S.base.2.2 _ (.head _),S.base.2.2 _ (.tail _ (.head _))⟩,
   oM.T,oM.body,_,ry S m35 (by kernel_rfl) (by kernel_rfl),by kernel_rfl,afE,λo e=>by cases ((S.rows _ m35).1.symm.trans e);rfl⟩
 wm:=⟨_,_,S.gl,S.bl,S.wm,S.exb⟩
 lim:=S.lim
end
section
variable{w:World}{h:yJ}{u:UP}(S:Seen h)
theorem amU(e:vF.lookup f=J d):∃x,((f,d),x)∈rows:=by
 have c:rows.map (·.1)=vF:=by kernel_rfl
 obtain ⟨r,m,q⟩:=yg.mp (c▸cJ e:(f,d)∈rows.map (·.1));exact ⟨r.2,q▸m⟩
theorem aga(m:r∈rows):(r.1.1,r.2.1,dfV r.1.2.dflt,r.2.2)∈bW:=by
 unfold bW;exact AP _ (yg.mpr (aM r m rfl))
theorem agP(m:r∈rows):cB r.2.1.T r.2.1.body=r.1.2.body:=CZ.mp ag5 r m
theorem amT(m:r∈rows):(r.1.2.n=r.2.1.T.n/\r.1.2.k=r.2.1.ps.length)/\(k9 r.2.1.T r.2.1.ps=true/\pn r.2.1.args=true)/\r.2.1.scope.isGenerator=false:=by
 revert r;apply e1;intro U;apply(?Z:Tq U);intro r;intros;have ok:=yx.mp ajr r m;unfold amb at ok;exact (me ok).elim λk k5=>(pV k).elim λk k34=>(bU ((me k).imp of_decide_eq_true of_decide_eq_true) k34 ((AX _).mp k5))
theorem amn{fi:oG}(k:d.n=fi.T.n/\d.k=fi.ps.length)(hg:fd.scope.isGenerator=false)(hb:cB fi.T fi.body=d.body)(F:iY (eP w h u S) f fi.T fi.ps dv fi.body fd)(y:∀W h,bS W h (d.dflt.map AV.int) dv):uj (eP w h u S) f d:=
 ⟨fi.T,fi.ps,dv,fi.body,fd,af5 (P:=eP w h u S) S rfl,F,hg,k.1,k.2,hb,y⟩
theorem aoO{d:qO}(e:vF.lookup f=J d):uj (eP w h u S) f d:=(amU e).elim λx m=>ou (amT m) λk1 k34 hg=>by
 cases c:d.dflt.isEmpty with
 | true=>
  have c:=Gx.mp c;have ms:=aga m;have ms:=c▸ms;exact amn S k1 hg (agP m) (ry (P:=eP w h u S) S ms k34.2 k34.1) λU U=>by rw[c];exact .nil
 | false=>
  have c:=B0 (p:=λr=>!r.1.2.dflt.isEmpty).mpr ⟨m,congrArg not c⟩;cases xV.mp (akK▸c);exact amn S k1 hg (agP m) (ank (P:=eP w h u S) S (aga m) k34.1) λU U=>.cons (.int _ _) .nil
theorem ais:fm (eP w h u S) tb where
 init:=λC f e=>gX (t9 (P:=eP w h u S) S (aeI e).2) λo fd k=>⟨_,_,o,(gq S (aeI e).1).1,S.init _ (cJ e),k.1,k.2.1⟩
 cR:=λC k f e=>ou (aer e) λa b c=>gX (t9 (P:=eP w h u S) S b) λo fd k=>⟨_,_,o,fd,(gq S a).1,S.cR _ (cJ e),k.1,k.2.1,k.2.2,(gq S a).2 _ (.head _),(gq S a).2 _ (.tail _ (.head _)),_,obj_none c.1 c.2⟩
 fld:=λC k e=>(ky e).elim λa c=>⟨_,_,(gq S a).1,S.fld _ (zv.mp e),(gq S a).2 _ (.head _),(gq S a).2 _ (.tail _ (.tail _ (.head _))),obj_none c.1 c.2⟩
 exc:=λC e=>zv.mp e
 qi:=λU U e=>e
 vL:=⟨64,anN,λU U e=>(ky e).2.2,λU U U e=>(aer e).2.2.2⟩
 fn:=λU U e=>aoO S e
 oo:=apo
 wB:=anp S
theorem ani(Jx:ug u):GenAt (eP w h u S) (uI u) dK.ps xB xA wZ:=by
 have c1:dK.T.slots.all (λy=>decide (dK.T.kindOf y.1=J .local))=true:=by kernel_rfl
 have c2:dK.T.scope.names.all (λy=>decide (y.2≠.cell))=true:=by kernel_rfl
 have F:=ry (P:=eP w h u S) S (aeJ (.tail _ (.head _))) (by kernel_rfl) (by kernel_rfl);rw[Jx.body] at F;exact ⟨F,by kernel_rfl,by kernel_rfl,by kernel_rfl,λx j e=>of_decide_eq_true (yx.mp c1 _ (cJ e)),λx m=>of_decide_eq_true (yx.mp c2 x m),Jx.t1,Jx.tt,Jx.t2,Jx.t3,Jx.ns,rfl⟩
theorem aiP(Jx:ug u)(r)(n):fN (eP w h u S) r n (tb.sig r n):=
 akv (ani S Jx) (af5 (P:=eP w h u S) S rfl) (ais S) (λU U U U U e=>e) (λf args H Q e=>by obtain ⟨rfl,l,q⟩:=e;exact ⟨args,l,q⟩) r n
end
theorem adk{s:xM}{R:GC->xM->Prop}(hreg:s.asleep)
   (h:aB true (yK prog w) Jl t (λfin s'=>∃f,fin= .done f/\(R (.ok f) s'/\leftWithCleanup s'.gens=false)) (λe s'=>R (.error e) s'/\leftWithCleanup s'.gens=false) s):
   ∃n r s' s'',runN (denote table) prog w n s ⟨t,.builtin "claim.caller" {},default,[]⟩= .halted (outcomeOf r) s'/\
    schedN (denote table) prog w n (.single s ⟨t,.builtin "claim.caller" {},default,[]⟩)= .halted (outcomeOf r) s'/\s'.forget=s''.forget/\R r s'':=by
 revert prog w t s R;apply e5;intro U;apply(?Z:Tq U);intro prog w t s R;intros;exact have h1:=h ⟨.builtin "claim.caller" {},Jw,Jw,[],Jw⟩ default caller_in λU=>⟨rfl,λU hx=>by cases hx⟩
  (wp_halts_full (M:=yK prog w) (R:=R) hreg (Fo _ _ t (λfin p' s' h'=>h'.elim λf w=>w.1▸w.2) (λU U U h'=>h') default s h1)).elim λn x=>x.elim λr x=>x.elim λs1 x=>x.elim λs2 x=>⟨n,r,s2,s1,x.2.1,x.1,x.2.2.1,x.2.2.2⟩
noncomputable def kJ(o:UInt8):List UInt8:=if o=255 then [255,0] else [o]
noncomputable def ay(x:List UInt8):List UInt8:=x.flatMap kJ
theorem gF(a b):ay (a++b)=ay a++ay b:=BD
theorem dM(a)(o):ay (a++[o])=ay a++kJ o:=by exact Z (gF _ _) (congrArg _ (yB _))
theorem af6(o):1<=(kJ o).length/\(kJ o).length<=2:=by unfold kJ;split;exact ⟨by decide,by decide⟩;exact ⟨xS 1,yY 1⟩
theorem i7(x):x.length<=(ay x).length/\(ay x).length<=2*x.length:=by
 induction x with
 | nil=>exact ⟨xS _,xS _⟩
 | cons o x ih=>
  show (x.length+1<=(kJ o++ay x).length)/\(kJ o++ay x).length<=2*(x.length+1);rw[xK,By,yE (2*x.length),yE x.length];exact ⟨yZ (af6 o).1 ih.1,yZ (af6 o).2 ih.2⟩
noncomputable def joinR(l:List (UInt8×List UInt8)):List UInt8:=l.flatMap λp=>255::p.1::ay p.2
noncomputable def mk8(k:Nat):UInt8:=(208+k % 8).toUInt8
noncomputable def restOf:Nat->List (List UInt8)->List (UInt8×List UInt8)
 | _,[]=>[]
 | k,x::r=>(mk8 k,x)::restOf (k+1) r
noncomputable def fJ:List (List UInt8)->List UInt8
 | []=>[]
 | x::r=>ay x++joinR (restOf 0 r)
theorem abl(x):∀a k,restOf k (a++[x])=restOf k a++[(mk8 (k+a.length),x)]
 | [],_=>rfl
 | y::a,k=>by
  show (mk8 k,y)::restOf (k+1) (a++[x])=(mk8 k,y)::(restOf (k+1) a++[(mk8 (k+(a.length+1)),x)]);exact Z (abl x a (k+1)) (Z (zf k 1 _) (Z (yE 1 _) rfl))
theorem acb(x):∀a,fJ (a++[x])=fJ a++((if a.length=0 then [] else [255,mk8 (a.length-1)])++ay x)
 | []=>yB _
 | y::a=>by
  show ay y++joinR (restOf 0 (a++[x]))=(ay y++joinR (restOf 0 a))++(_++ay x);rw[abl,if_neg (show ¬(y::a).length=0 from Dn _),joinR,BD,zj,yt];refine congrArg (ay y++ ·) (congrArg (joinR (restOf 0 a)++ ·) ?_);exact yB _
theorem agp(k):(mk8 k).toNat=208+k % 8:=zX (xO (Bc (DY k (by decide)) 208) (by decide:208+8<=256))
def sY(m:UInt8):Prop:=208<=m.toNat/\m.toNat<=215
theorem aov(k):sY (mk8 k):=by
 unfold sY;rw[agp];exact ⟨x7 _ _,yf (yb (DY k (by decide))) 208⟩
theorem aec:∀a k,∀p∈restOf k a,sY p.1
 | _::a,k,p,h=>(yu.mp h).elim (λe=>e▸aov k) λh=>aec a (k+1) p h
theorem abX:∀a k,(restOf k a).length=a.length
 | [],_=>rfl
 | _::a,k=>congrArg (· +1) (abX a (k+1))
theorem jA:∀a k,(restOf k a).map (·.2)=a
 | [],_=>rfl
 | x::a,k=>congrArg (x:: ·) (jA a (k+1))
theorem ajI(m)(t)(n):findB (255::m::t) [255,m] n=0:=by
 have:([255,m]:List UInt8).isPrefixOf (255::m::t)=true:=by simp
 cases n with
 | zero=>show (if _ then _ else _)=_;exact Z this rfl
 | succ n=>show (if _ then _ else _)=_;exact Z this rfl
theorem ahL(h:y.isPrefixOf (x::r)=false):findB (x::r) y (n+1)=if findB r y n<0 then-1 else findB r y n+1:=by
 show (if y.isPrefixOf (x::r)=true then (0:Int) else _)=_;exact Z h rfl
theorem ajH(n)(m):findB [] [255,m] n= -1:=by cases n <;> rfl
theorem amX(hm:m≠0)(r):([255,m]:List UInt8).isPrefixOf (255::0::r)=false:=by
 show ((255:UInt8)==255&&((m==0)&&List.isPrefixOf [] r))=false;exact Z (beq_eq_false_iff_ne.mpr hm) rfl
theorem aiJ(h:o≠255)(r):([255,m]:List UInt8).isPrefixOf (o::r)=false:=by
 show ((255:UInt8)==o&&_)=false;exact Z (beq_eq_false_iff_ne.mpr λe=>h e.symm) rfl
theorem jJ(hm:m≠0){n:Nat}{z:Int}(hz:z= -1\/0<=z)(h:findB t [255,m] n=z):∀x,findB (ay x++t) [255,m] (n+(ay x).length)=if z<0 then-1 else z+(ay x).length
 | []=>by
  show findB t [255,m] n=if z<0 then-1 else z+0
  refine Z h ?_;rcases hz with rfl | hz
  ·rfl
  ·exact Z (if_neg (zg.mpr hz)) (Z (Gp _) rfl)
 | o::x=>by
  have ih:=jJ hm hz h x;have step:∀y r (k l:Nat),([255,m]:List UInt8).isPrefixOf (y::r)=false->findB r [255,m] k=(if z<0 then-1 else z+l)->findB (y::r) [255,m] (k+1)=if z<0 then-1 else z+(l+1:Nat):=λy r k l h e=>by
   refine Z (ahL h) (Z e ?_);by_cases hz:z<0
   ·exact Z (if_pos hz) (Z (if_pos hz) rfl)
   ·have hz':=zg.mp hz
    exact Z (if_neg hz) (Z (if_neg hz) (Z (if_neg (zg.mpr (Ht hz' (CQ l)))) (Int.add_assoc _ _ _)))
  show findB (kJ o++ay x++t) _ (n+(kJ o++ay x).length)=if _ then _ else _+((kJ o++ay x).length:Int)
  unfold kJ;by_cases e:o=255
  ·exact Z (if_pos e) (step 255 _ _ _ (amX hm _) (step 0 _ _ _ (aiJ (by decide) _) ih))
  ·exact Z (if_neg e) (step o _ _ _ (aiJ e _) ih)
theorem find_none(x):findB (ay x++joinR []) [255,208] (ay x++joinR []).length= -1:=by
 have h:=jJ (m:=208) (by decide) (t:=[]) (n:=0) (z:= -1) (.inl rfl) (ajH 0 208) x;rw[zj] at h;rw[show joinR []=[] from rfl,yB] at*;exact h
theorem afI(x y)(r):findB (ay x++joinR ((208,y)::r)) [255,208] (ay x++joinR ((208,y)::r)).length=(ay x).length:=by
 have h:=jJ (m:=208) (by decide) (t:=joinR ((208,y)::r)) (n:=(joinR ((208,y)::r)).length) (z:=0) (.inr (Dy 0)) (ajI 208 (ay y++joinR r) _) x;exact Z xK (Z (yE _ _) (Z h (Z (if_neg (by decide)) (Z (Int.zero_add _) rfl))))
structure Mod(P:Nat->Prop)(H H':AH):Prop where
 len:H.length<=H'.length
 at_:∀(j:Nat) o,¬P j->H[j]? =J o->H'[j]? =J o
section
variable{P P':Nat->Prop}{H H' H'':AH}{a i:Nat}{o o':AO}
theorem Mod.refl:Mod P H H:=⟨xS _,λU U U h=>h⟩
theorem Mod.trans(x:Mod P H H')(y:Mod P H' H''):Mod P H H'':=⟨xH x.len y.len,λj o n h=>y.at_ j o n (x.at_ j o n h)⟩
theorem Mod.mono(x:Mod P H H')(k:∀j,P j->P' j):Mod P' H H':=⟨x.len,λj o n h=>x.at_ j o (λq=>n (k j q)) h⟩
theorem kM.mod(x:kM a o H H'):Mod P H H':=⟨x.len▸yY _,λj o U h=>x.old j o h⟩
theorem Upd.mod(x:Upd i o H H')(h:P i):Mod P H H':=⟨yQ x.len.symm,λj o' n h'=>x.ne j o' (λe=>n (e▸h)) h'⟩
theorem kM.upd(x:kM a o H H')(y:Upd a o' H' H''):kM a o' H H'':=⟨y.self,λj U h=>y.ne j _ (λe=>absurd (xQ.mp h).1 (xX.mpr (yQ (x.eq▸e.symm)))) (x.old j _ h),x.eq,y.len.trans x.len⟩
theorem Upd.upd(x:Upd i o H H')(y:Upd i o' H' H''):Upd i o' H H'':=⟨y.self,λj U n h=>y.ne j _ n (x.ne j _ n h),y.len.trans x.len⟩
theorem aS(h:H[j]? =J o):j<H.length:=(xQ.mp h).1
theorem kM.ne(x:kM a o H H'){j:Nat}(h:H[j]? =J o'):j≠a:=λe=>absurd (aS h) (xX.mpr (yQ (x.eq▸e.symm)))
theorem kM.fG(x:kM a o H H')(h:N<=H.length):N<=a:=x.eq▸h
end
abbrev Ext(H H':AH):Prop:=Mod (λU=>False) H H'
abbrev qU(N:Nat)(H H':AH):Prop:=Mod (λj=>N<=j) H H'
theorem Ext.mod{P:Nat->Prop}{H H':AH}(x:Ext H H'):Mod P H H':=x.mono λU h=>h.elim
theorem Ext.get(x:Ext H H'){j:Nat}(h:H[j]? =J o):H'[j]? =J o:=x.at_ j o id h
section
variable{x y:Prop}
theorem dI.yes[Decidable p](h:p)(q:x):dI x y (decide p):=(decide_eq_true h).symm▸.t q
theorem dI.no[Decidable p](h:¬p)(q:y):dI x y (decide p):=(decide_eq_false h).symm▸.f q
theorem dI.dec[Decidable p](t:p->x)(f:¬p->y):dI x y (decide p):=if h:p then .yes h (t h) else .no h (f h)
theorem dI.bt(h:b=true)(q:x):dI x y b:=h.symm▸.t q
theorem dI.bf(h:b=false)(q:y):dI x y b:=h.symm▸.f q
theorem dI.any(t:b=true->x)(f:b=false->y):dI x y b:=match b,t,f with | true,t,_=>.t (t rfl) | false,_,f=>.f (f rfl)
theorem dI.beq{a b:Int}(t:a=b->x)(f:a≠b->y):dI x y (a==b):=.any (λh=>t (beq_iff_eq.mp h)) λh=>f (beq_eq_false_iff_ne.mp h)
theorem dI.bne{a b:Int}(t:a≠b->x)(f:a=b->y):dI x y (a !=b):=.any (λh=>t (bne_iff_ne.mp h)) λh=>f (bne_eq_false_iff_eq.mp h)
end
theorem q7{K:KF}(h:a G ρ H (fy (λρ' H'=>b G ρ' H' K X) K) X):aq a b G ρ H K X:=h
theorem dS{K:KF}(h:P ρ H):fy P K .next ρ H:=h
theorem cut{K:KF}(I:EV->AH->Prop)(h1:∀R:EV->AH->Prop,(∀ρ' H',I ρ' H'->R ρ' H')->a G ρ H (fy R K) X)(h2:∀ρ' H',I ρ' H'->b G ρ' H' K X):aq a b G ρ H K X:=h1 _ h2
theorem aoT{K:KF}(I:AH->Prop)(h1:∀R:AH->Prop,(∀H',I H'->R H')->∀R':EV->AH->Prop,(∀H',R H'->R' ρ H')->a G ρ H (fy R' K) X)(h2:∀H',I H'->b G ρ H' K X):aq a b G ρ H K X:=
 h1 (λH'=>b G ρ H' K X) h2 _ λU h=>h
noncomputable def tab{α:Type}(n:Nat)(f:Nat->α):List α:=(yH n).map f
theorem c6(h:k<n):(tab n f)[k]? =J (f k):=by
 rw[tab,yA,FC h];rfl
theorem aI:(tab n f).length=n:=by rw[tab,xJ,zM]
theorem wj{k n:Nat}(h:k<n)(hn:n<=16):(k:Int)<1000000:=x9.mpr (xO h (xH hn (by decide)))
theorem nn(k:Nat):0<=(k:Int):=CQ k
section
variable{H:AH}{Q:AV->AH->Prop}
theorem fV.lY{a n k:Nat}(h:H[a]? =J (.list (tab n f)))(hk:k<n)(hn:n<=16)(q:Q (f k) H):fV H Q (.ref a) (.int k):=.list h (nn k) (wj hk hn) (c6 hk) q
end
abbrev call(k:GK)(n:Nat)(f:Nat)(args:List AV)(H:AH)(Q:AV->AH->Prop)(X:XF):Prop:=(sg k n).ip f args H Q X
theorem go(e:vF.lookup f=J d)(h:d.run (sg k n) args H Q X):call k (n+1) f args H Q X:=by
 have z:∀(t:Tab) G,t.fn f=J d->d.run G args H Q X->t.call G f args H Q X:=λt G e h=>by unfold Tab.call;exact Z e h
 cases k with
 | run r=>exact z tb _ e h
 | gen=>exact z tb.gJ _ e h
theorem enter{X:XF}(ρ:EV)(e:vF.lookup f=J ⟨m,j,b,l⟩)(hl:args.length+l.length=j)(hr:sD j m (args++l.map AV.int)=ρ)(h:b (sg k n) ρ H (tJ Q) X):call k (n+1) f args H Q X:=go e ⟨hl,hr▸h⟩
theorem akG:(sg k n).cR C m=jl.lookup (C,m):=match k with | .run _=>rfl | .gen=>rfl
section
variable{r:Bool}{n:Nat}{H:AH}{Q:AV->AH->Prop}{X:XF}
theorem rZ{Q:α->Prop}[Decidable p](h:p)(q:Q (if p then a else b)):Q a:=(if_pos (t:=a) (e:=b) h).subst (motive:=Q) q
theorem qz{Q:α->Prop}[Decidable p](h:¬p)(q:Q (if p then a else b)):Q b:=(if_neg (t:=a) (e:=b) h).subst (motive:=Q) q
theorem iB:small 2:=(by decide:2<2^200)
theorem kS:small 1:=(by decide:1<2^200)
noncomputable def cat(v:Int):Int:=if (v.natAbs:Int)=0 then 0 else v.natAbs.log2+1
theorem ae5(h:small v.natAbs)(q:Q (.int (cat v)) H):call (.run r) (n+1) 108 [.int v] H Q X:=⟨rfl,.abs (.b7 (.b7 h q))⟩
noncomputable def nV(v s:Int):Int:=if v<0 then v+2^s.toNat-1 else v
theorem afP{v s:Int}(h0:0<=s)(h1:s<=64)(q:Q (.int (nV v s)) H):call (.run r) (n+1) 115 [.int v,.int s] H Q X:=
 ⟨rfl,.dec (λh=>⟨iB,h0,h1,rZ (Q:=λi=>Q (.int i) H) h q⟩) λh=>qz (Q:=λi=>Q (.int i) H) h q⟩
noncomputable def iO(s t:Int):Int:=if 32768<(s-t).fmod 65536 then (s-t).fmod 65536-65536 else (s-t).fmod 65536
theorem acI{s t:Int}(q:Q (.int (iO s t)) H):call (.run r) (n+1) 143 [.int s,.int t] H Q X:=
 ⟨rfl,by decide,.dec (λh=>rZ (Q:=λi=>Q (.int i) H) h q) λh=>qz (Q:=λi=>Q (.int i) H) h q⟩
theorem ad9{s t:Int}(q:Q (.int ((t+s).fmod 65536)) H):call (.run r) (n+1) 150 [.int s,.int t] H Q X:=⟨rfl,by decide,q⟩
end
structure GA where
 g:Nat
 rr:Nat
 m:Nat
 pa:Nat->Nat
 ra:Nat->Nat->Nat
 w:Nat->Nat
 h:Nat->Nat
 deriving Nonempty
structure GA.Small(a:GA):Prop where
 m:a.m<=16
 w:∀k,a.w k<=16
 h:∀k,a.h k<=16
structure bg(H:AH)(a:GA)(S:Nat->Nat->Nat->Int):Prop where
 h1:H[a.g]? =J (.inst 214 [(14,.ref a.rr)])
 h2:H[a.rr]? =J (.list (tab a.m λk=>.ref (a.pa k)))
 h3:∀k,k<a.m->H[a.pa k]? =J (.list (tab (a.h k) λy=>.ref (a.ra k y)))
 h4:∀k y,k<a.m->y<a.h k->H[a.ra k y]? =J (.list (tab (a.w k) λx=>.int (S k y x)))
def GA.own(a:GA)(j:Nat):Prop:=j=a.g\/j=a.rr\/(∃k,k<a.m/\j=a.pa k)\/∃k y,k<a.m/\y<a.h k/\j=a.ra k y
theorem bg.mod(h:bg H a S)(m:Mod P H H')(n:∀j,a.own j->¬P j):bg H' a S:=
 ⟨m.at_ _ _ (n _ (.inl rfl)) h.h1,m.at_ _ _ (n _ (.inr (.inl rfl))) h.h2,λk hk=>m.at_ _ _ (n _ (.inr (.inr (.inl (aM k hk rfl))))) (h.h3 k hk),λk y hk hy=>m.at_ _ _ (n _ (.inr (.inr (.inr (k4 k y hk hy rfl))))) (h.h4 k y hk hy)⟩
structure GA.Ok(a:GA):Prop where
 sm:a.Small
 ng:∀k y,k<a.m->y<a.h k->a.ra k y≠a.g
 nr:∀k y,k<a.m->y<a.h k->a.ra k y≠a.rr
 np:∀k y k',k<a.m->y<a.h k->k'<a.m->a.ra k y≠a.pa k'
 nn:∀k y k' y',k<a.m->y<a.h k->k'<a.m->y'<a.h k'->a.ra k y=a.ra k' y'->k=k'/\y=y'
section
variable{r:Bool}{n:Nat}{H:AH}{Q:AV->AH->Prop}{X:XF}{a:GA}{S:Nat->Nat->Nat->Int}
theorem rx(sm:a.Small)(g:bg H a S)(hk:k<a.m)(hy:y<a.h k)(hx:x<a.w k)(q:Q (.int (S k y x)) H):call (.run r) (n+1) 204 [.ref a.g,.int k,.int x,.int y] H Q X:=
 ⟨rfl,.mk g.h1 rfl (.lY g.h2 hk sm.m (.lY (g.h3 k hk) hy (sm.h k) (.lY (g.h4 k y hk hy) hx (sm.w k) q)))⟩
theorem alk{xi yi:Int}(sm:a.Small)(g:bg H a S)(hk:k<a.m)(hy:y<a.h k)(hx:x<a.w k)(ex:xi=x)(ey:yi=y)(q:Q (.int (S k y x)) H):call (.run r) (n+1) 204 [.ref a.g,.int k,.int xi,.int yi] H Q X:=by
 subst ex;subst ey;exact rx sm g hk hy hx q
noncomputable def ur(S:Nat->Nat->Nat->Int)(k y x:Nat)(v:Int):Nat->Nat->Nat->Int:=λk' y' x'=>if k'=k/\y'=y/\x'=x then v else S k' y' x'
theorem af0{v:AV}(hx:x<n):(tab n f).set x v=tab n λx'=>if x'=x then v else f x':=by
 refine D5 λi=>?_;rw[List.getElem?_set,aI];by_cases h:i<n
 ·refine Z (c6 h) (Z (c6 h) ?_)
  by_cases e:x=i
  ·subst e;exact Z (if_pos rfl) (Z (if_pos hx) (Z (if_pos rfl) rfl))
  ·exact Z (if_neg e) (Z (if_neg (DT e)) rfl)
 ·have z:∀f:Nat->AV,(tab n f)[i]? =Jw:=λf=>Az (by exact Z aI (CA h))
  exact Z (z _) (Z (z _) (Z (if_neg λ(e:x=i)=>h (e▸hx)) rfl))
theorem aiH(ok:a.Ok)(g:bg H a S)(hk:k<a.m)(hy:y<a.h k)(hx:x<a.w k)
   (q:∀H',Mod (λj=>j=a.ra k y) H H'->bg H' a (ur S k y x v)->Q .none H'):call (.run r) (n+1) 211 [.ref a.g,.int k,.int x,.int y,.int v] H Q X:=by
 revert r n H Q X a S k y x v;apply ub;intro U;apply(?Z:Tq U);intro r n H Q X a S k y x v;intros;exact have sm:=ok.sm
  ⟨rfl,.mk g.h1 rfl (.lY g.h2 hk sm.m (.lY (g.h3 k hk) hy (sm.h k) (.list (g.h4 k y hk hy) (nn x) (wj hx (sm.w k)) (by exact Z aI hx) λH' u=>
   q H' (u.mod rfl) ⟨u.ne _ _ (ok.ng k y hk hy).symm g.h1,u.ne _ _ (ok.nr k y hk hy).symm g.h2,λk' hk'=>u.ne _ _ (ok.np k y k' hk hy hk').symm (g.h3 k' hk'),λk' y' hk' hy'=>by
    by_cases e:k'=k/\y'=y
    ·obtain ⟨rfl,rfl⟩:=e
     refine u.self.trans (congrArg (λl=>J (AO.list l)) ((af0 hx).trans (congrArg (tab _) (funext λx'=>?_))));show (if x'=x then AV.int v else AV.int (S k' y' x'))=AV.int (if k'=k'/\y'=y'/\x'=x then v else S k' y' x');by_cases h:x'=x
     ·exact Z (if_pos h) (Z (if_pos (bU rfl rfl h)) rfl)
     ·exact Z (if_neg h) (Z (if_neg λq=>h q.2.2) rfl)
    ·refine (u.ne _ _ (λq=>e ((ok.nn k' y' k y hk' hy' hk hy q).elim λa b=>⟨a,b⟩)) (g.h4 k' y' hk' hy')).trans (congrArg (λf=>J (AO.list (tab (a.w k') f))) (funext λx'=>?_))
     exact congrArg AV.int (if_neg λq=>e ⟨q.1,q.2.1⟩).symm⟩)))⟩
end
noncomputable def rS(kind left above corner:Int):Int:=
 if kind=1 then left else if kind=2 then above else if kind=3 then corner else if kind=4 then left+above-corner else if kind=5 then left+(above-corner).fdiv 2 else if kind=6 then above+(left-corner).fdiv 2 else (left+above).fdiv 2
section
variable{r:Bool}{n:Nat}{H:AH}{Q:AV->AH->Prop}{X:XF}
theorem ado{kind left above corner:Int}(h1:1<=kind)(h7:kind<=7)(q:Q (.int (rS kind left above corner)) H):call (.run r) (n+1) 129 [.int kind,.int left,.int above,.int corner] H Q X:=by
 revert r n H Q X kind left above corner;apply e9;intro U;apply(?Z:Tq U);intro r n H Q X kind left above corner;intros;have st:∀{p:Prop} [Decidable p] {a b:Int} {A B:Prop},Q (.int (if p then a else b)) H->(Q (.int a) H->A)->(¬p->Q (.int b) H->B)->dI A B (decide p):=λq f g=>.dec (λh=>f (rZ (Q:=λi=>Q (.int i) H) h q)) λh=>g h (qz (Q:=λi=>Q (.int i) H) h q);have two:(0:Int)<=1/\(1:Int)<=64:=⟨by decide,by decide⟩
 have be:∀{k:Int} {A B:Prop},dI A B (decide (kind=k))->dI A B (kind==k):=λ{k A B} h=>(show (kind==k)=decide (kind=k) from rfl)▸h;refine ⟨rfl,be (st q (λq=>q) λn1 q=>be (st q (λq=>q) λn2 q=>be (st q (λq=>q) λn3 q=>be (st q (λq=>q) λn4 q=>be (st q (λq=>⟨two.1,two.2,q⟩) λn5 q=>be (st q (λq=>⟨two.1,two.2,q⟩) λn6 q=>be (.yes ?_ ⟨two.1,two.2,q⟩)))))))⟩;have s:∀{a:Int},¬kind=a->a<=kind->a+1<=kind:=λn h=>I0.mpr ⟨h,DT n⟩;exact EU h7 (s n6 (s n5 (s n4 (s n3 (s n2 (s n1 h1))))))
theorem aaC(h:pt<pr)(h':pr-pt<=64)(q:Q (.int (2^(pr-pt-1).toNat)) H):call (.run r) (n+1) 136 [.int pr,.int pt] H Q X:=
 ⟨rfl,kS,Ct (Eg h),yG (Bu _ (by decide)) h',(Cs (2^(pr-pt-1).toNat)).symm▸q⟩
theorem xw(a b c d:Nat×AV):[a,b,c,d].length<1000:=(by decide:4<1000)
structure bB(H:AH)(p g:Nat)(kind mid:Int)(t:Nat)(es:List (Int×AV)):Prop where
 h1:H[p]? =J (.inst 181 [(10,.ref g),(11,.int kind),(12,.int mid),(13,.ref t)])
 h2:∃ep,H[t]? =J (.aP es ep)
theorem bB.mod(h:bB H p g kind mid t es)(m:Mod P H H')(n1:¬P p)(n2:¬P t):bB H' p g kind mid t es:=
 ⟨m.at_ _ _ n1 h.h1,h.h2.elim λep e=>⟨ep,m.at_ _ _ n2 e⟩⟩
theorem aaE{p g t:Nat}(h:bB H p g kind mid t es)(q:∀H' t',Mod (λj=>j=p) H H'->H.length<=t'->bB H' p g kind mid t' []->Q .none H'):call (.run r) (n+1) 171 [.ref p] H Q X:=
 ⟨rfl,λt' H1 u1=>.mk (u1.old _ _ h.h1) rfl (xw _ _ _ _) λH2 u2=>q H2 t' (u1.mod.trans (u2.mod rfl)) (u1.fG (xS _)) ⟨u2.self,0,u2.ne _ _ (u1.ne h.h1).symm u1.self⟩⟩
noncomputable def jY(S:Nat->Nat->Nat->Int)(kind mid:Int)(f:Bool)(k y x:Nat):Int:=
 match x with
 | 0=>if f then mid else S k (y-1) 0
 | x+1=>if f then S k y x else rS kind (S k y x) (S k (y-1) (x+1)) (S k (y-1) x)
noncomputable def dG(es:List (Int×AV))(k y:Nat):List (Int×AV):=if bj es k then es else br es k (.int y)
noncomputable def c8(es:List (Int×AV))(k y:Nat):Bool:=match getKey (dG es k y) k with | some (.int z)=>z==y | _=>false
theorem oJ(y:Nat)(h:1<=y):(y:Int)-1=(y-1:Nat):=(BA h).symm
theorem tA(x):((x+1:Nat):Int)-1=x:=Ah x 1
theorem bB.ne(P:bB H p g kind mid t es):p≠t:=λe=>by
 refine P.h2.elim λep h=>?_;cases P.h1.symm.trans ((congrArg (H[·]?) e).trans h)
theorem jG{k:Int}(h:bj es k=false):br es k v=es++[(k,v)]:=by
 unfold br;exact Z (if_neg (by rw[show (es.any λe=>e.1=k)=bj es k from rfl,h];exact x8)) rfl
theorem afZ{p t k y x:Nat}{kind mid:Int}{es:List (Int×AV)}{a:GA}{S:Nat->Nat->Nat->Int}(sm:a.Small)(P:bB H p a.g kind mid t es)(g:bg H a S)(nt:¬a.own t)(hk:k<a.m)(hy:y<a.h k)(hx:x<a.w k)(k1:1<=kind)(k7:kind<=7)
  (hi:∃i,getKey (dG es k y) k=J (.int i)) (hf:c8 es k y=false->1<=y) (el:es.length<1000)
  (q:∀H',Mod (λj=>j=t) H H'->bB H' p a.g kind mid t (dG es k y)->Q (.int (jY S kind mid (c8 es k y) k y x)) H'):call (.run r) (n+2) 178 [.ref p,.int k,.int x,.int y] H Q X:=by
 revert r n H Q X p t k y x kind mid es a S;apply hU;intro U;apply(?Z:Tq U);intro r n H Q X p t k y x kind mid;apply e3;intro U;apply(?Y:Tq U);intro es a S;intros;refine P.h2.elim λep h2=>?_;refine enter [J (.ref p),J (.int k),J (.int x),J (.int y),Jw,Jw,Jw] rfl rfl rfl (aoT (λH1=>Mod (λj=>j=t) H H1/\bB H1 p a.g kind mid t (dG es k y)) (λR hR R' hR'=>?_) λH1 u6=>u6.elim λm1 P1=>?_)
 ·refine .mk P.h1 rfl ⟨trivial,.aP h2 (.any (λe=>?_) λe=>?_)⟩
  ·have e:bj es k=false:=by simpa using e
   refine .mk P.h1 rfl (.aP h2 el λep' H1 u=>hR' _ (hR _ ⟨u.mod rfl,u.ne _ _ P.ne P.h1,ep',?_⟩));rw[dG,if_neg (by rw[e];exact x8)];exact u.self
  ·have e:bj es k=true:=by simpa using e
   exact hR' _ (hR _ ⟨.refl,by rw[dG,if_pos e];exact P⟩)
 ·refine hi.elim λi hi=>?_
  have ef:c8 es k y=(i==y):=by unfold c8;rw[hi]
  have q1:=q H1 m1 P1;rw[ef] at hf q1;have g1:=g.mod m1 λj hj e=>nt (e▸hj);refine P1.h2.elim λep1 h3=>?_;have gt:∀{xi yi:Int} {x' y':Nat} {Q:AV->AH->Prop},x'<a.w k->y'<a.h k->xi=x'->yi=y'->Q (.int (S k y' x')) H1->call (.run r) (n+1) 204 [.ref a.g,.int k,.int xi,.int yi] H1 Q X:=λhx hy ex ey q=>alk sm g1 hk hy hx ex ey q;have sel:∀{k:Sel->Prop},k (.fn 204)->iR (tb.sig r (n+1)) H1 k 2 (.ref a.g):=λq=>.fn g1.h1 rfl rfl q;refine .mk P1.h1 rfl (.aP h3 hi ?_);cases x with
  | zero=>
   refine .bt (b:=((0:Nat):Int)==0) rfl (.any (λe=>.mk P1.h1 rfl ?_) λe=>?_)
   ·rw[e] at q1;exact q1
   ·rw[e] at q1
    have:=hf e;exact .mk P1.h1 rfl (sel (gt hx (xN (zR _ _) hy) rfl (oJ y this) q1))
  | succ x=>
   have hx':=Ed hx;refine .bf (b:=((x+1:Nat):Int)==0) (beq_eq_false_iff_ne.mpr (Ac.mpr (Dn x))) (.mk P1.h1 rfl (sel (gt hx' hy (tA x) rfl (.any (λe=>?_) λe=>?_))))
   ·rw[e] at q1;exact q1
   ·rw[e] at q1
    have:=hf e;have hy':=xN (zR y 1) hy;exact .mk P1.h1 rfl (sel (gt hx hy' rfl (oJ y this) (.mk P1.h1 rfl (.mk P1.h1 rfl (sel (gt hx' hy' (tA x) (oJ y this) (ado k1 k7 q1)))))))
end
section
variable{da:AH->Prop}{K:KF}{items:List AV}
theorem ajF{turn:AV->EV->AH->KF->Prop}(I:Nat->EV->AH->Prop)(step:∀(j:Nat) v ρ H (P:EV->AH->Prop),items[j]? =J v->I j ρ H->(∀ρ' H',I (j+1) ρ' H'->P ρ' H')->da H/\turn v ρ H (bV K P))
  (fin:∀ρ H,I items.length ρ H->da H/\K .next ρ H):∀{l:List AV} {j:Nat} {ρ:EV} {H:AH},items.drop j=l->j<=items.length->I j ρ H->forL da turn K l ρ H
 | [],j,ρ,H,e,hl,h=>fin ρ H ((yW hl (Iz.mp e))▸h)
 | v::r,j,ρ,H,e,hl,h=>by
  have e0:items[j]? =J v:=by rw[<-GW,e];rfl
  have e1:items.drop (j+1)=r:=by exact Ql List.tail_drop (Z e rfl)
  obtain ⟨a,b⟩:=step j v ρ H (λρ' H'=>forL da turn K r ρ' H') e0 h λρ' H' h'=>ajF I step fin e1 (at_lt' e0) h';exact ⟨a,b⟩
where at_lt' {j:Nat} {v:AV} (h:items[j]? =J v):j+1<=items.length:=(xQ.mp h).1
theorem ny{turn:AV->EV->AH->KF->Prop}{ρ:EV}{H:AH}(I:Nat->EV->AH->Prop)(h0:I 0 ρ H)(step:∀(j:Nat) v ρ H (P:EV->AH->Prop),items[j]? =J v->I j ρ H->(∀ρ' H',I (j+1) ρ' H'->P ρ' H')->da H/\turn v ρ H (bV K P))
  (fin:∀ρ H,I items.length ρ H->da H/\K .next ρ H):forL da turn K items ρ H:=ajF I step fin rfl (yI _) h0
theorem agK{bind:AV->Option EV}{elt:EV->AH->(AV->AH->Prop)->Prop}{K:List AV->AH->Prop}(I:Nat->List AV->AH->Prop)
  (step:∀(j:Nat) v acc H (P:List AV->AH->Prop),items[j]? =J v->I j acc H->(∀acc' H',I (j+1) acc' H'->P acc' H')->da H/\iF (bind v) λρ=>conds ρ H λb H₁=>dI (elt ρ H₁ λx H₂=>P (acc++[x]) H₂) (P acc H₁) b)
  (fin:∀acc H,I items.length acc H->da H/\K acc H):∀{l:List AV} {j:Nat} {H:AH} {acc:List AV},items.drop j=l->j<=items.length->I j acc H->jr da bind conds elt l H acc K
 | [],j,H,acc,e,hl,h=>fin acc H ((yW hl (Iz.mp e))▸h)
 | v::r,j,H,acc,e,hl,h=>by
  have e0:items[j]? =J v:=by rw[<-GW,e];rfl
  have e1:items.drop (j+1)=r:=by exact Ql List.tail_drop (Z e rfl)
  obtain ⟨a,b⟩:=step j v acc H (λacc' H'=>jr da bind conds elt r H' acc' K) e0 h λacc' H' h'=>agK I step fin e1 (xQ.mp e0).1 h';exact ⟨a,b⟩
theorem eJ{bind:AV->Option EV}{elt:EV->AH->(AV->AH->Prop)->Prop}{K:List AV->AH->Prop}{H:AH}(I:Nat->List AV->AH->Prop)(h0:I 0 [] H)
  (step:∀(j:Nat) v acc H (P:List AV->AH->Prop),items[j]? =J v->I j acc H->(∀acc' H',I (j+1) acc' H'->P acc' H')->da H/\iF (bind v) λρ=>conds ρ H λb H₁=>dI (elt ρ H₁ λx H₂=>P (acc++[x]) H₂) (P acc H₁) b)
  (fin:∀acc H,I items.length acc H->da H/\K acc H):jr da bind conds elt items H [] K:=agK I step fin rfl (yI _) h0
theorem jU{c:PT Bool}{K:KF}(I:Nat->EV->AH->Prop)(h0:I n ρ H)
  (step:∀n ρ H (P:EV->AH->Prop),I n ρ H->(∀m ρ' H',m<n->I m ρ' H'->P ρ' H')->c G ρ H (λt H₁=>dI (b G ρ H₁ (bV K P) X) (K .next ρ H₁) t) X):gV c b G ρ H K X:=λP hP=>by
 induction n using Nat.strongRecOn generalizing ρ H with
 | ind n ih=>exact hP ρ H (step n ρ H P h0 λm ρ' H' hm h'=>ih m hm h')
end
theorem cT:tab n f++[f n]=tab (n+1) f:=by rw[tab,tab,GU,yq];rfl
theorem comp_map{bind:AV->Option EV}{conds:EV->AH->(Bool->AH->Prop)->Prop}{elt:EV->AH->(AV->AH->Prop)->Prop}{K:List AV->AH->Prop}{H:AH}(f:Nat->AV)(hc:da H)
  (step:∀(j:Nat) v (P:List AV->AH->Prop) acc,items[j]? =J v->P (acc++[f j]) H->iF (bind v) λρ=>conds ρ H λb H₁=>dI (elt ρ H₁ λx H₂=>P (acc++[x]) H₂) (P acc H₁) b)
  (q:K (tab items.length f) H):jr da bind conds elt items H [] K:=
 eJ (λj acc H'=>H'=H/\acc=tab j f) ⟨rfl,rfl⟩ (λj v acc H' P hv u6 hP=>u6.elim λe1 e2=>by
  subst e1;exact ⟨hc,step j v P acc hv (hP _ _ ⟨rfl,by exact Z e2 cT⟩)⟩) λacc H' v6=>v6.elim λe1 e2=>by subst e1;subst e2;exact ⟨hc,q⟩
structure bC where
 many:Nat
 a:Nat
 d:Nat
 w:Nat
 h:Nat
 deriving Nonempty
noncomputable def bC.ax(g:bC)(k:Nat):Nat:=if k=0 then g.a else 1
noncomputable def bC.dy(g:bC)(k:Nat):Nat:=if k=0 then g.d else 1
structure bC.Ok(g:bC):Prop where
 m1:1<=g.many
 m3:g.many<=3
 a1:1<=g.a
 a2:g.a<=2
 d1:1<=g.d
 d2:g.d<=2
 w1:1<=g.w
 w3:g.w<=3
 h1:1<=g.h
 h2:g.h<=2
structure kN where
 f:Nat
 cl:Nat
 ca:Nat->Nat
 deriving Nonempty
structure aQ(N:Nat)(H:AH)(A:kN)(g:bC)(pr:Nat):Prop where
 h1:H[A.f]? =J (.inst 418 [(11,.str "lossless"),(35,.int pr),(36,.int g.h),(37,.int g.w),(38,.ref A.cl),(39,.int 1)])
 h2:H[A.cl]? =J (.list (tab g.many λk=>.ref (A.ca k)))
 h3:∀k,k<g.many->∃i,H[A.ca k]? =J (.inst 352 [(31,.int i),(32,.int (g.ax k)),(33,.int (g.dy k)),(34,.int 0)])
 l1:A.f<N
 l2:A.cl<N
 l3:∀k,k<g.many->A.ca k<N
theorem aQ.mod(h:aQ N H A g pr)(m:Mod P H H')(n:∀j,P j->N<=j):aQ N H' A g pr:=
 have lo:∀{j o},j<N->H[j]? =J o->H'[j]? =J o:=λl e=>m.at_ _ _ (λq=>absurd (n _ q) (AD.mpr l)) e
 ⟨lo h.l1 h.h1,lo h.l2 h.h2,λk hk=>(h.h3 k hk).elim λi e=>⟨i,lo (h.l3 k hk) e⟩,h.l1,h.l2,h.l3⟩
theorem aQ.ext(h:aQ N H A g pr)(m:Ext H H'):aQ N H' A g pr:=h.mod m λU q=>q.elim
section
variable{k:GK}{n N:Nat}{H:AH}{Q:AV->AH->Prop}{X:XF}{A:kN}{g:bC}{pr:Nat}
noncomputable def dq(m s:Nat):Nat:=(m+s-1) / s
theorem gI{m s:Nat}{mi si:Int}(h:1<=s)(hs:s<=4)(em:mi=m)(es:si=s)(q:Q (.int (dq m s:Nat)) H):call k (n+1) 335 [.int mi,.int si] H Q X:=by
 subst em;subst es;refine enter [J (.int m),J (.int s)] rfl rfl rfl ⟨Ac.mpr (zH h),xN hs (by decide),?_⟩;have e:((m:Int)+s-1).fdiv s=(dq m s:Nat):=by
  have:(m:Int)+s-1=((m+s-1:Nat):Int):=(BA (xH h (zJ _ _))).symm;exact Z this ((D0 _ _).symm)
 show Q (.int (((m:Int)+s-1).fdiv s)) H;exact Z e q
theorem aN{K:Sel->Prop}(h:H[i]? =J (.inst C fs))(l:fs.lookup m=Jw)(e:jl.lookup (C,m)=J f)(q:K (.fn f)):iR (sg k n) H K m (.ref i):=.fn h l (akG.trans e) q
theorem ahr{f:Nat->Nat}(h1:∀k,f (k+1)=1)(h0:1<=f 0):(tab (m+1) λk=>(f k:Int)).max? =J (f 0:Int):=by
 have z:∀(l:List Int) x,1<=x->(∀y∈l,y=1)->l.foldl max x=x:=λl=>by
  induction l with
  | nil=>intro x _ _;rfl
  | cons a r ih=>
   intro x hx hl;have:max x a=x:=by exact Z (hl a (.head _)) (Int.max_eq_left hx)
   exact Z DA (Z this (ih x hx λy hy=>hl y (.tail _ hy)))
 have e:tab (m+1) (λk=>(f k:Int))=(f 0:Int)::(Fg 1 m).map λk=>(f k:Int):=by
  rw[tab,List.range_eq_range',List.range'_succ];rfl
 refine Z e ?_;show J (Jb max (f 0:Int) _)=_;rw[z _ _ (yj.mpr h0) λy hy=>?_];obtain ⟨k,hk,rfl⟩:=yg.mp hy;obtain ⟨j,_,rfl⟩:=List.mem_range'.mp hk;exact Z (show 1+1*j=j+1 by rw[CU,yE]) (Z (h1 _) rfl)
theorem jF:intsOf (tab m λk=>.int (f k))=J (tab m f):=by
 have z:∀l:List Nat,intsOf (l.map λk=>.int (f k))=J (l.map f):=λl=>by
  induction l with
  | nil=>rfl
  | cons a r ih=>show (intsOf (r.map _)).map _=_;exact Z ih rfl
 exact z _
theorem tabAt(h:(tab m f)[j]? =J v):j<m/\v=f j:=by
 have hj:j<m:=by have:=(xQ.mp h).1;rw[aI] at this;exact this
 exact ⟨hj,xT (h.symm.trans (c6 hj))⟩
theorem ai1{fld:Nat}{f:Nat->Nat}(F:aQ N H A g pr)(ok:g.Ok)(h1:∀k,f (k+1)=1)(h0:1<=f 0)(hf:∀k i,[(31,AV.int i),(32,.int (g.ax k)),(33,.int (g.dy k)),(34,.int 0)].lookup fld=J (.int (f k)))
  (q:∀H',Ext H H'->Q (.int (f 0)) H'):aC .max (ae (cW (aE (aa 1) fld) true 1 (aE (aa 0) 38) dr) ar) (sg k n) [J (.ref A.f)] H Q X:=by
 obtain ⟨m,hm⟩:∃m,g.many=m+1:=⟨g.many-1,(BV ok.m1).symm⟩
 refine .mk F.h1 rfl (.list F.h2 (by exact Z aI (xH ok.m3 (by decide))) ⟨by exact Z aI (xH ok.m3 (by decide)),comp_map (λk=>.int (f k)) F.h2 (λj v P acc hv hP=>?_) λl H' u=>?_⟩)
 ·obtain ⟨hj,rfl⟩:=tabAt hv
  obtain ⟨i,e⟩:=F.h3 j hj;exact .t (.mk e (hf j i) hP)
 ·refine .aox u.self jF ?_ (q _ u.mod)
  exact Z aI (Z hm (ahr h1 h0))
theorem aep(F:aQ N H A g pr)(ok:g.Ok)(q:∀H',Ext H H'->Q (.int g.a) H'):call k (n+1) 375 [.ref A.f] H Q X:=go rfl ⟨rfl,ai1 F ok (λU=>rfl) ok.a1 (λU U=>rfl) q⟩
theorem aeo(F:aQ N H A g pr)(ok:g.Ok)(q:∀H',Ext H H'->Q (.int g.d) H'):call k (n+1) 380 [.ref A.f] H Q X:=go rfl ⟨rfl,ai1 F ok (λU=>rfl) ok.d1 (λU U=>rfl) q⟩
theorem aou:F5 1 a:=.of_left (by decide)
noncomputable def bC.ma(g:bC):Nat:=dq g.w g.a
noncomputable def bC.md(g:bC):Nat:=dq g.h g.d
theorem bC.Ok.a4(ok:g.Ok):g.a<=4:=xH ok.a2 (by decide)
theorem bC.Ok.d4(ok:g.Ok):g.d<=4:=xH ok.d2 (by decide)
theorem j9(F:aQ N H A g pr)(ok:g.Ok)(q:∀H',Ext H H'->Q (.int g.ma) H'):call k (n+2) 387 [.ref A.f] H Q X:=by
 revert k n N H Q X A g pr;apply e9;intro U;apply(?Z:Tq U);intro k n N H Q X A g pr;intros;exact go rfl ⟨rfl,.mk F.h1 rfl (.mk F.h1 rfl (aN F.h1 rfl rfl (aep F ok λH' m=>⟨aou,gI ok.a1 ok.a4 rfl (Cs _) (q H' m)⟩)))⟩
theorem mW(F:aQ N H A g pr)(ok:g.Ok)(q:∀H',Ext H H'->Q (.int g.md) H'):call k (n+2) 394 [.ref A.f] H Q X:=by
 revert k n N H Q X A g pr;apply e9;intro U;apply(?Z:Tq U);intro k n N H Q X A g pr;intros;exact go rfl ⟨rfl,.mk F.h1 rfl (.mk F.h1 rfl (aN F.h1 rfl rfl (aeo F ok λH' m=>⟨aou,gI ok.d1 ok.d4 rfl (Cs _) (q H' m)⟩)))⟩
noncomputable def bC.pw(g:bC)(p:Nat):Nat:=dq (g.w*g.ax p) g.a
noncomputable def bC.ph(g:bC)(p:Nat):Nat:=dq (g.h*g.dy p) g.d
theorem mV{k n:Nat}(h:k<n)(hn:n<=3):(k:Int)<1000000:=wj h (xH hn (by decide))
theorem ji{b:Nat}(h:b<2^63):F5 a b:=.of_right (by
 unfold Cb;split
 ·exact yI _
 ·rename_i e
  exact xH (D9 ((IM (λq=>e (beq_iff_eq.mpr (congrArg Ao q)))).mpr h)) (by decide))
theorem sU{a b:Nat}(h:b<=2):F5 a b:=ji (xN h (by decide))
theorem bC.Ok.sf(ok:g.Ok)(p):g.ax p<=2:=by unfold bC.ax;split;exact ok.a2;decide
theorem bC.Ok.sd(ok:g.Ok)(p):g.dy p<=2:=by unfold bC.dy;split;exact ok.d2;decide
theorem dm{p:Nat}(F:aQ N H A g pr)(ok:g.Ok)(hp:p<g.many)(q:∀H',Ext H H'->Q (.tup [.int (g.pw p),.int (g.ph p)]) H'):call k (n+2) 401 [.ref A.f,.int p] H Q X:=by
 revert k n N H Q X A g pr p;apply rD;intro U;apply(?Z:Tq U);intro k n N H Q X A g pr p;intros;refine (F.h3 p hp).elim λi e=>?_;refine go rfl ⟨rfl,.mk F.h1 rfl (.list F.h2 (nn p) (mV hp ok.m3) (c6 hp) (.mk F.h1 rfl (.mk e rfl ⟨sU (ok.sf p),aN F.h1 rfl rfl (aep F ok λH1 m1=>gI ok.a1 ok.a4 rfl rfl ?_)⟩)))⟩;have F1:=F.ext m1;exact .mk F1.h1 rfl (.mk (m1.get e) rfl ⟨sU (ok.sd p),aN F1.h1 rfl rfl (aeo F1 ok λH2 m2=>gI ok.d1 ok.d4 rfl rfl (q H2 (m1.trans m2)))⟩)
theorem aiO(m):dq m 1=m:=by unfold dq;exact Z (FY _ _) (Z (Nat.div_one _) rfl)
theorem adg(F:aQ N H A g pr)(ok:g.Ok)(hp:p<g.many)(q:∀H',Ext H H'->Q (.tup [.int (g.pw p),.int (g.ph p)]) H'):call k (n+3) 408 [.ref A.f,.int p] H Q X:=by
 revert k n N H Q X A g pr p;apply rD;intro U;apply(?Z:Tq U);intro k n N H Q X A g pr p;intros;refine go rfl ⟨rfl,aN F.h1 rfl rfl (dm F ok hp λH1 m1=>?_)⟩;have F1:=F.ext m1;have q1:=q H1 m1;have q1:=(Hu (aiO (g.ph p)))▸(Hu (aiO (g.pw p)))▸q1;exact .mk F1.h1 rfl (gI (xS _) (by decide) rfl rfl (.mk F1.h1 rfl (gI (xS _) (by decide) rfl rfl q1)))
theorem i9{p:Nat}(F:aQ N H A g pr)(ok:g.Ok)(hp:p<g.many)(q:∀H',Ext H H'->Q (.tup [.int (g.ma*g.ax p:Nat),.int (g.md*g.dy p:Nat)]) H'):call k (n+3) 415 [.ref A.f,.int p] H Q X:=by
 revert k n N H Q X A g pr p;apply rD;intro U;apply(?Z:Tq U);intro k n N H Q X A g pr p;intros;refine (F.h3 p hp).elim λi e=>?_;refine go rfl ⟨rfl,.mk F.h1 rfl (.list F.h2 (nn p) (mV hp ok.m3) (c6 hp) (aN F.h1 rfl rfl (j9 F ok λH1 m1=>.mk (m1.get e) rfl ⟨sU (ok.sf p),?_⟩)))⟩;have F1:=F.ext m1;exact aN F1.h1 rfl rfl (mW F1 ok λH2 m2=>.mk (m2.get (m1.get e)) rfl ⟨sU (ok.sd p),q H2 (m1.trans m2)⟩)
structure oR where
 s:Nat
 pl:Nat
 sl:Nat
 deriving Nonempty
structure bx(N:Nat)(H:AH)(B:oR)(ps:List Nat)(kind lo:Int):Prop where
 h1:∃ac,H[B.s]? =J (.inst 868 [(55,.ref B.pl),(62,.ref B.sl),(63,ac),(21,.int kind),(59,.int 0),(60,.int 0),(61,.int lo)])
 h2:H[B.pl]? =J (.list (ps.map λp=>.int (p:Nat)))
 h3:H[B.sl]? =J (.list (tab ps.length λj=>.int j))
 l1:B.s<N
 l2:B.pl<N
 l3:B.sl<N
theorem bx.mod{ps:List Nat}{kind lo:Int}(h:bx N H B ps kind lo)(m:Mod P H H')(n:∀j,P j->N<=j):bx N H' B ps kind lo:=
 have lw:∀{j o},j<N->H[j]? =J o->H'[j]? =J o:=λl e=>m.at_ _ _ (λq=>absurd (n _ q) (AD.mpr l)) e
 ⟨h.h1.elim λac e=>⟨ac,lw h.l1 e⟩,lw h.l2 h.h2,lw h.l3 h.h3,h.l1,h.l2,h.l3⟩
theorem bx.ext{ps:List Nat}{kind lo:Int}(h:bx N H B ps kind lo)(m:Ext H H'):bx N H' B ps kind lo:=h.mod m λU q=>q.elim
structure ia(g:bC)(ps:List Nat):Prop where
 one:1<=ps.length
 three:ps.length<=3
 lt:∀p∈ps,p<g.many
variable{B:oR}{ps:List Nat}{kind lo:Int}
theorem jE(S:bx N H B ps kind lo)(po:ps.length<=3)(q:Q (.bool (ps.length==1)) H):call k (n+1) 858 [.ref B.s] H Q X:=by
 refine S.h1.elim λac h1=>?_;refine go rfl ⟨rfl,.mk h1 rfl (.dO S.h2 (by exact Z (xJ _) (xH po (by decide))) ?_)⟩;show Q (.bool (((ps.map λp=>AV.int (p:Nat)).length:Int)==1)) H;refine Z (xJ _) ?_;have:((ps.length:Int)==1)=(ps.length==1):=by
  by_cases e:ps.length=1
  ·exact Z e rfl
  ·exact Z (beq_eq_false_iff_ne.mpr e) (beq_eq_false_iff_ne.mpr λh=>e (zr.mp h))
 exact Z this q
end
inductive b8(H:AH)(L:Nat):Prop
 | mk(a:Int)(b:Nat)(h:H[L]? =J (.list [.int a,.int b]))(ha:0<=a)(hb:b<2147483647):b8 H L
theorem b8.mod(p:b8 H L)(m:Mod P H H')(n:¬P L):b8 H' L:=p.rec λa b h x y=>⟨a,b,m.at_ _ _ n h,x,y⟩
theorem ku{x:Int}{m:Nat}(h:0<m):∃d:Nat,x.fmod m=d/\d<m:=by
 have h0:=EO x (x9.mpr h);have h1:=Jt x (x9.mpr h);exact (aM ((x.fmod m).toNat) ((zx h0).symm) ((EM h0).mpr h1))
section
variable{n:Nat}{r:Bool}{H:AH}{Q:AV->AH->Prop}{X:XF}{L:Nat}
theorem akS{l kk:Nat}{ws:List xP}{xs:List Int}(hl:H[l]? =J (.fix ws kk (xs.map .int)))(lx:xs.length<=1000)(q:∀L H',Ext H H'->H.length<=L->b8 H' L->Q (.ref L) H'):call (.run r) (n+1) 879 [.ref l,.int 0] H Q X:=by
 revert n r H Q X l kk ws xs;apply e9;intro U;apply(?Z:Tq U);intro n r H Q X l kk ws xs;intros;refine enter [J (.ref l),J (.int 0),Jw,Jw,Jw] rfl rfl rfl ?_;refine cut (λρ' H'=>∃v,ρ'=[J (.ref l),J (.int 0),J (.int v),Jw,Jw]/\H'=H) (λR hR=>hR _ _ (aM 0 rfl rfl)) λρ' H' h=>?_;obtain ⟨v,rfl,rfl⟩:=h;refine cut (λρ' H''=>∃v,ρ'=[J (.ref l),J (.int 0),J (.int v),Jw,Jw]/\H''=H') (λR hR=>?_) λρ' H'' h=>?_
 ·refine .aoE hl (by exact Z (xJ _) (xH lx (by decide))) (.dec (λh=>?_) λh=>hR _ _ (aM v rfl rfl))
  cases xs with
  | nil=>exact absurd h (by decide)
  | cons a xs=>exact .old hl (by decide) (by decide) rfl (hR _ _ (aM a rfl rfl))
 ·obtain ⟨v,rfl,rfl⟩:=h
  refine .pD (.pD (.max2 ?_));have big0:0<=(if v< -1-v then-1-v else v):=by
   split
   ·rename_i h
    refine An (zg.mp λq=>?_);have q0:=q;exact absurd (Bi q0 h) (zg.mpr (yG (Bu (-1) q0) (by decide)))
   ·rename_i h
    exact zg.mp λq=>h (AF q (An (Ct q)))
  generalize (if v< -1-v then-1-v else v)=big at*;refine .pD ⟨by decide,ji (b:=0) (by decide),ji (b:=0) (by decide),ji (b:=0) (by decide),ji (b:=48271) (by decide),.pD ⟨by decide,?_⟩⟩;refine ⟨(by decide:10<2^200),by decide,by decide,.aoJ ?_⟩;obtain ⟨d,e,ld⟩:=ku (x:=(big.fmod 2147483629+7919*0*0+31*0+17)*48271) (m:=2147483647) (by decide);have fin:∀o:Nat,o<=1->F5 big o/\∀L H1,kM L (.list [.int (big*o),.int ((big.fmod 2147483629+7919*0*0+31*0+17)*48271 |>.fmod 2147483647)]) H'' H1->Q (.ref L) H1:=λo ho=>by
   refine ⟨ji (xN ho (by decide)),λL H1 u=>q L H1 u.mod (u.fG (xS _)) ⟨big*o,d,?_,Int.mul_nonneg big0 (nn o),ld⟩⟩;have h:=u.self;have h:=(show ((big.fmod 2147483629+7919*0*0+31*0+17)*48271).fmod 2147483647=(d:Int) from e)▸h;exact h
  show xu .Mult (.int big) (.int (if decide ((10:Int)^(18:Int).toNat<=big)=true then 1 else 0)) _ _;cases decide ((10:Int)^(18:Int).toNat<=big) with
  | true=>exact fin 1 (xS 1)
  | false=>exact fin 0 (yI 1)
theorem dR{m:Nat}{mi:Int}(p:b8 H L)(em:mi=m)(h1:1<=m)(h2:m<=1000000)(q:∀H' (d:Nat),d<m->Mod (λj=>j=L) H H'->b8 H' L->Q (.int d) H'):call (.run r) (n+1) 886 [.ref L,.int mi] H Q X:=by
 revert n r H Q X L m mi;apply e8;intro U;apply(?Z:Tq U);intro n r H Q X L m mi;intros;subst em;obtain ⟨a,b,h,ha,hb⟩:=p;have m0:(m:Int)≠0:=Ac.mpr (zH h1);have sm:small (m:Int):=xN (show (m:Int).natAbs<=1000000 from h2) (by decide);refine enter [J (.ref L),J (.int m),Jw] rfl rfl rfl (fV.list h (by decide) (by decide) rfl (.dec (λhp=>?_) λhp=>?_))
 ·refine aO (ku (x:=a) h1) λd e ld=>?_
  refine .list h (by decide) (by decide) rfl (.pD ⟨m0,.list h (by decide) (by decide) rfl ⟨m0,sm,.list h (by decide) (by decide) (by decide:0<2) λH1 u1=>?_⟩⟩);show Q (.int (a.fmod m)) H1;exact Z e (q H1 d ld (u1.mod rfl) ⟨a.fdiv m,b,u1.self,Int.fdiv_nonneg ha (nn m),hb⟩)
 ·obtain ⟨d,e,ld⟩:=ku (x:=(b:Int)*39373+7) (m:=2147483647) (by decide)
  refine .list h (by decide) (by decide) rfl ⟨ji (b:=39373) (by decide),.pD ⟨by decide,.list h (by decide) (by decide) (by decide:1<2) λH1 u1=>?_⟩⟩;have u1:Upd L (.list [.int a,.int d]) H H1:=e▸u1;refine .list u1.self (by decide) (by decide) rfl (.list u1.self (by decide) (by decide) rfl ⟨ji (yL ld (by decide)),.pD ⟨by decide,by decide,(by decide:32<2^200),.pD ⟨m0,?_⟩⟩⟩);refine aO (ku (x:=(((d:Int)*d).fmod 2147483629).fdiv 32) h1) λd2 e2 ld2=>?_;show Q (.int (((((d:Int)*d).fmod 2147483629).fdiv 32).fmod m)) H1;exact Z e2 (q H1 d2 ld2 (u1.mod rfl) ⟨a,d,u1.self,ha,ld⟩)
theorem rh{c:Nat}{xs:List AV}(p:b8 H L)(hc:H[c]? =J (.list xs))(ne:c≠L)(l1:1<=xs.length)(l2:xs.length<=1000)(q:∀H' (d:Nat) v,xs[d]? =J v->Mod (λj=>j=L) H H'->b8 H' L->Q v H'):call (.run r) (n+2) 893 [.ref L,.ref c] H Q X:=by
 refine enter [J (.ref L),J (.ref c)] rfl rfl rfl (.dO hc (xH l2 (by decide)) (dR p rfl l1 (xH l2 (by decide)) λH1 d ld m1 p1=>.list (m1.at_ _ _ ne hc) (nn d) (x9.mpr (xO ld (xH l2 (by decide)))) (xR ld) (q H1 d _ (xR ld) m1 p1)))
end
theorem afm(a)(n:Nat):yV a (a+n) 1=n:=by
 unfold yV;refine Z (if_pos (by decide)) ?_;cases n with
 | zero=>refine Z (if_neg (by rw[show a+((0:Nat):Int)=a from Gp a];exact CK a)) ?_;rfl
 | succ n=>
  refine Z (if_pos (Int.lt_add_of_pos_right a (x9.mpr (Af n)))) ?_;have:a+((n+1:Nat):Int)-a-1=(n:Nat):=by exact Z (De _ _) (Z (Ah _ _) (tA n))
  exact Z this (Z (Int.ediv_one _) rfl)
theorem tF(a n:Nat):(bX a (a+n:Nat) 1).map AV.int=tab n λi=>.int (a+i:Nat):=by
 unfold bX tab;refine Z (show ((a+n:Nat):Int)=(a:Int)+(n:Nat) from rfl) (Z (afm _ _) (Z (Gn _) (Z zh ?_)));refine congrArg (λf=>Hc f (yH n)) (funext λi=>?_);show AV.int ((a:Int)+1*(i:Nat))=_;exact Z (Cs _) rfl
theorem oY{n:Nat}(h:n<=1000000):sm n:=⟨yG (by decide) (nn n),yj.mpr h⟩
section
variable{G:fW}{turn:AV->EV->AH->KF->Prop}{K:KF}{ρ:EV}{H:AH}
theorem cq{n:Nat}{ni:Int}(hn:n<=1000000)(en:ni=n)(I:Nat->EV->AH->Prop)(h0:I 0 ρ H)(step:∀(j:Nat) ρ H (P:EV->AH->Prop),j<n->I j ρ H->(∀ρ' H',I (j+1) ρ' H'->P ρ' H')->turn (.int j) ρ H (bV K P))
  (fin:∀ρ H,I n ρ H->K .next ρ H):ik G turn K ρ H (.gB 0 ni 1):=by
 subst en;refine .items (.gB ⟨by decide,by decide⟩ (oY hn) (by decide) (by decide) ?_);have e:=tF 0 n;rw[zj] at e;refine Z (show (bX 0 n 1).map AV.int=_ from e) ?_;refine ny I h0 (λj v ρ H P hv h hP=>?_) λρ H h=>⟨trivial,fin ρ H (by rw[aI] at h;exact h)⟩
 obtain ⟨hj,rfl⟩:=tabAt hv;rw[zj];exact ⟨trivial,step j ρ H P hj h hP⟩
theorem dY(h:H[l]? =J (.list xs))(hl:xs.length<=1000000)(I:Nat->EV->AH->Prop)(h0:I 0 ρ H)(step:∀(j:Nat) v ρ H (P:EV->AH->Prop),xs[j]? =J v->I j ρ H->(∀ρ' H',I (j+1) ρ' H'->P ρ' H')->H[l]? =J (.list xs)/\turn v ρ H (bV K P))
  (fin:∀ρ H,I xs.length ρ H->H[l]? =J (.list xs)/\K .next ρ H):ik G turn K ρ H (.ref l):=.items (.list h hl (ny I h0 step fin))
end
noncomputable def bC.ua(g:bC)(ps:List Nat):Nat:=if ps.length==1 then g.pw ps.head! else g.ma
noncomputable def bC.ud(g:bC)(ps:List Nat):Nat:=if ps.length==1 then g.ph ps.head! else g.md
abbrev UE:=Nat×Nat×Nat×Nat
noncomputable def UE.av(u:UE):AV:=.tup [.int u.1,.int u.2.1,.int u.2.2.1,.int u.2.2.2]
noncomputable def jW(g:bC)(ps:List Nat)(x y j dn:Nat):List UE:=tab (g.ax (ps.getD j 0)) λac=>(j,ps.getD j 0,x*g.ax (ps.getD j 0)+ac,y*g.dy (ps.getD j 0)+dn)
noncomputable def dk(g:bC)(ps:List Nat)(x y j:Nat):List UE:=(yH (g.dy (ps.getD j 0))).flatMap (jW g ps x y j)
noncomputable def mG(g:bC)(ps:List Nat)(x y:Nat):List UE:=if ps.length==1 then [(0,ps.head!,x,y)] else (yH ps.length).flatMap (dk g ps x y)
section
variable{k:GK}{n N:Nat}{H:AH}{Q:AV->AH->Prop}{X:XF}{A:kN}{g:bC}{pr:Nat}{B:oR}{ps:List Nat}{kind lo:Int}
theorem ke(h:1<=ps.length):(ps.map λp=>AV.int (p:Nat))[0]? =J (.int (ps.head! :Nat)):=match ps,h with | _::_,_=>rfl
theorem head_mem(h:1<=ps.length):ps.head! ∈ps:=match ps,h with | _::_,_=>.head _
theorem fV.zero(h:H[l]? =J (.list xs))(e:xs[0]? =J v)(q:Q v H):fV H Q (.ref l) (.int 0):=.list h (by decide) (by decide) e q
theorem fV.qY(q:Q a H):fV H Q (.tup (a::r)) (.int 0):=.tup (by decide) (by decide) rfl q
theorem fV.uC(q:Q b H):fV H Q (.tup (a::b::r)) (.int 1):=.tup (by decide) (by decide) rfl q
theorem i6(F:aQ N H A g pr)(ok:g.Ok)(S:bx N H B ps kind lo)(po:ia g ps)(q:∀H',Ext H H'->Q (.int (g.ua ps)) H'):call k (n+4) 601 [.ref A.f,.ref B.s] H Q X:=by
 revert k n N H Q X A g pr B ps kind lo;apply hU;intro U;apply(?Z:Tq U);intro k n N H Q X A g pr B ps kind;intros;refine S.h1.elim λac h1=>?_;refine go rfl ⟨rfl,aN h1 rfl rfl (jE S po.three (.any (λe=>?_) λe=>?_))⟩
 ·have q':∀H',Ext H H'->Q (.int (g.pw ps.head!)) H':=λH' m=>by have:=q H' m;rw[bC.ua,e] at this;exact this
  exact aN F.h1 rfl rfl (.mk h1 rfl (.zero S.h2 (ke po.one) (adg F ok (po.lt _ (head_mem po.one)) λH1 m1=>.qY (q' H1 m1))))
 ·have q':∀H',Ext H H'->Q (.int g.ma) H':=λH' m=>by have:=q H' m;rw[bC.ua,e] at this;exact this
  exact aN F.h1 rfl rfl (j9 F ok q')
theorem aot{a b:Nat}(h:b<=8):F5 a b:=ji (xN h (by decide))
theorem adi(F:aQ N H A g pr)(ok:g.Ok)(S:bx N H B ps kind lo)(po:ia g ps)(d6:g.ud ps<=8)(q:∀H',Ext H H'->Q (.int (g.ua ps*g.ud ps:Nat)) H'):call k (n+4) 608 [.ref A.f,.ref B.s] H Q X:=by
 revert k n N H Q X A g pr B ps kind lo;apply hU;intro U;apply(?Z:Tq U);intro k n N H Q X A g pr B ps kind;intros;refine S.h1.elim λac h1=>?_;refine go rfl ⟨rfl,aN h1 rfl rfl (jE S po.three (.any (λe=>?_) λe=>?_))⟩
 ·have q':∀H',Ext H H'->Q (.int (g.pw ps.head! *g.ph ps.head! :Nat)) H':=λH' m=>by have:=q H' m;rw[bC.ua,bC.ud,e] at this;exact this
  have d6':g.ph ps.head! <=8:=by rw[bC.ud,e] at d6;exact d6
  exact aN F.h1 rfl rfl (.mk h1 rfl (.zero S.h2 (ke po.one) (adg F ok (po.lt _ (head_mem po.one)) λH1 m1=>⟨aot d6',q' H1 m1⟩)))
 ·have q':∀H',Ext H H'->Q (.int (g.ma*g.md:Nat)) H':=λH' m=>by have:=q H' m;rw[bC.ua,bC.ud,e] at this;exact this
  have d6':g.md<=8:=by rw[bC.ud,e] at d6;exact d6
  exact aN F.h1 rfl rfl (j9 F ok λH1 m1=>aN (F.ext m1).h1 rfl rfl (mW (F.ext m1) ok λH2 m2=>⟨aot d6',q' H2 (m1.trans m2)⟩))
theorem gM(l)(f:Nat->List UE):(yH (l+1)).flatMap f=(yH l).flatMap f++f l:=by refine Z GU (Z BD ?_);simp
theorem getD_at(h:j<ps.length):(ps.map λp=>AV.int (p:Nat))[j]? =J (.int (ps.getD j 0:Nat)):=by
 rw[yA,zq,xR h];rfl
theorem getD_mem(h:j<ps.length):ps.getD j 0∈ps:=by
 rw[zq,xR h];exact zy h
def wx(L:Nat)(H:AH)(us:List UE)(H':AH):Prop:=Mod (λj=>j=L) H H'/\H'[L]? =J (.list (us.map UE.av))
theorem abh(x y j dn):(jW g ps x y j dn).length=g.ax (ps.getD j 0):=aI
theorem adj(x y j):(dk g ps x y j).length=g.dy (ps.getD j 0)*g.ax (ps.getD j 0):=by
 unfold dk;generalize g.dy (ps.getD j 0)=m;induction m with
 | zero=>exact (Bw _).symm
 | succ m ih=>rw[gM,xK,ih,abh,EJ]
theorem adN(ok:g.Ok)(x y j):(dk g ps x y j).length<=4:=by
 exact Z (adj _ _ _) (za (ok.sd _) (ok.sf _))
theorem gR(ok:g.Ok)(x y):∀m,((yH m).flatMap (dk g ps x y)).length<=4*m
 | 0=>xS _
 | m+1=>by rw[gM,xK];exact yZ (gR ok x y m) (adN ok x y m)
theorem aaN(x y j):∀m,((yH m).flatMap (jW g ps x y j)).length=m*g.ax (ps.getD j 0)
 | 0=>(Bw _).symm
 | m+1=>by rw[gM,xK,aaN x y j m,abh,EJ]
theorem agW{x y:Nat}{xi yi:Int}(F:aQ N H A g pr)(ok:g.Ok)(S:bx N H B ps kind lo)(po:ia g ps)(hN:N<=H.length)(ex:xi=x)(ey:yi=y)
  (q:∀H' L,Ext H H'->H.length<=L->H'[L]? =J (.list ((mG g ps x y).map UE.av))->Q (.ref L) H'):call k (n+4) 615 [.ref A.f,.ref B.s,.int xi,.int yi] H Q X:=by
 revert k n N H Q X A g pr B ps kind lo x y xi yi;apply hU;intro U;apply(?Z:Tq U);intro k n N H Q X A g pr B ps kind;apply e5;intro U;apply(?Y:Tq U);intro lo x y xi yi;intros;subst ex;subst ey;refine S.h1.elim λac h1=>?_;refine enter [J (.ref A.f),J (.ref B.s),J (.int x),J (.int y),Jw,Jw,Jw,Jw,Jw,Jw] rfl rfl rfl (aN h1 rfl rfl (jE S po.three (.any (λe=>?_) λe=>?_)))
 ·refine .mk h1 rfl (.zero S.h2 (ke po.one) λL H1 u=>q H1 L u.mod (u.fG (xS _)) ?_)
  rw[mG,e];exact u.self
 ·intro L H0 u
  have hL:=u.fG hN;have q':∀H',wx L H0 ((yH ps.length).flatMap (dk g ps x y)) H'->Q (.ref L) H':=λH' u6=>u6.elim λm hl=>by
   refine q H' L ⟨xH (u.len▸yY _) m.len,λj o U h=>m.at_ j o (u.ne h) (u.old j o h)⟩ (u.fG (xS _)) ?_;rw[mG,e];exact hl
  have S0:=S.ext u.mod;have F0:=F.ext u.mod;refine S0.h1.elim λU h1=>?_;have bq:∀{H' us},wx L H0 us H'->aQ N H' A g pr/\bx N H' B ps kind lo:=λv6=>v6.rec λm U=>⟨F0.mod m λj e=>e▸hL,S0.mod m λj e=>e▸hL⟩
  have rV:∀{j},j<ps.length->g.dy (ps.getD j 0)<=1000000/\g.ax (ps.getD j 0)<=1000000:=λU=>⟨xH (ok.sd _) (by decide),xH (ok.sf _) (by decide)⟩
  refine .mk h1 rfl (.dO S0.h2 (by rw[xJ];exact xH po.three (by decide)) (.bQ (cq (n:=ps.length) (xH po.three (by decide)) (congrArg Ao (xJ ..))
   (λj ρ H'=>(∃o,ρ=[J (.ref A.f),J (.ref B.s),J (.int x),J (.int y),J (.ref L),o 5,o 6,o 7,o 8,o 9])/\wx L H0 ((yH j).flatMap (dk g ps x y)) H') ⟨⟨λU=>Jw,rfl⟩,.refl,u.self⟩ (λj ρ H1 P hj y6 hP=>y6.elim λz6 Jx=>z6.elim λo hρ=>?_) λρ H1 u7=>u7.elim λv7 Jx=>v7.elim λo hρ=>?_)))
  ·subst hρ
   refine (bq Jx).elim λF1 S1=>?_;refine S1.h1.elim λU h1=>?_;refine (F1.h3 _ (po.lt _ (getD_mem hj))).elim λi ec=>?_;have pk:=getD_at (ps:=ps) hj;have comp:∀{H' us},wx L H0 us H'->∃i,H'[A.ca (ps.getD j 0)]? =J (.inst 352 [(31,.int i),(32,.int (g.ax (ps.getD j 0))),(33,.int (g.dy (ps.getD j 0))),(34,.int 0)]):=λJx=>(bq Jx).1.h3 _ (po.lt _ (getD_mem hj));refine .mk F1.h1 rfl (.mk h1 rfl (.list S1.h2 (nn j) (mV hj po.three) pk (.list F1.h2 (nn _) (mV (po.lt _ (getD_mem hj)) ok.m3) (c6 (po.lt _ (getD_mem hj))) (.mk ec rfl (.bQ (cq (rV hj).1 rfl
    (λdn ρ H'=>(∃o,ρ=[J (.ref A.f),J (.ref B.s),J (.int x),J (.int y),J (.ref L),J (.int j),J (.ref (A.ca (ps.getD j 0))),o 7,o 8,o 9])/\wx L H0 ((yH j).flatMap (dk g ps x y)++(yH dn).flatMap (jW g ps x y j)) H') ⟨⟨o,rfl⟩,by rw[List.range_zero,List.flatMap_nil,yB];exact Jx⟩ (λdn ρ H2 P2 hdn y7 hP2=>y7.elim λz7 U2=>z7.elim λo2 hρ=>?_) λρ H2 u8=>u8.elim λv8 U2=>v8.elim λo2 hρ=>hP _ _ ⟨⟨λi=>[J (.int j),J (.ref (A.ca (ps.getD j 0))),o2 7,o2 8,o2 9].getD (i-5) Jw,hρ⟩,by rw[gM];exact U2⟩))))))
   subst hρ;refine (comp U2).elim λi2 ec2=>?_;refine .mk ec2 rfl (.bQ (cq (rV hj).2 rfl
    (λac ρ H'=>(∃o,ρ=[J (.ref A.f),J (.ref B.s),J (.int x),J (.int y),J (.ref L),J (.int j),J (.ref (A.ca (ps.getD j 0))),J (.int dn),o 8,o 9])/\wx L H0 ((yH j).flatMap (dk g ps x y)++(yH dn).flatMap (jW g ps x y j)++tab ac λac=>(j,ps.getD j 0,x*g.ax (ps.getD j 0)+ac,y*g.dy (ps.getD j 0)+dn)) H') ⟨⟨o2,rfl⟩,by rw[tab,List.range_zero,List.map_nil,yB];exact U2⟩ (λac ρ H3 P3 hac y8 hP3=>y8.elim λz8 U3=>z8.elim λo3 hρ=>?_) λρ H3 u9=>u9.elim λv9 U3=>v9.elim λo3 hρ=>hP2 _ _ ⟨⟨λi=>[J (.int dn),o3 8,o3 9].getD (i-7) Jw,hρ⟩,by rw[gM,<-yt];exact U3⟩))
   subst hρ;refine (comp U3).elim λi3 ec3=>?_;refine (bq U3).elim λF3 S3=>?_;refine S3.h1.elim λU h3=>?_;refine .mk ec3 rfl ⟨sU (ok.sf _),.mk ec3 rfl ⟨sU (ok.sd _),.append U3.2 (.mk h3 rfl (.list S3.h2 (nn j) (mV hj po.three) pk (.qY (.uC (.append U3.2 ?_ λH4 u4=>hP3 _ _ ⟨⟨λi=>[J (.int ac),J (.tup [.int (x*g.ax (ps.getD j 0)+ac:Nat),.int (y*g.dy (ps.getD j 0)+dn:Nat)])].getD (i-8) Jw,rfl⟩,U3.1.trans (u4.mod rfl),?_⟩)))))⟩⟩
   ·rw[xJ,xK,xK,aI]
    rw[aaN];exact xN (yZ (yZ (xH (gR ok x y j) (yD 4 (xH (ya hj) po.three))) (za (xH (ya hdn) (ok.sd _)) (ok.sf _))) (xH (ya hac) (ok.sf _))) (by decide)
   ·rw[<-cT,<-yt,yq];exact u4.self
  ·subst hρ;exact q' _ Jx
end
theorem dN{m s:Nat}(h:1<=m)(hs:1<=s):1<=dq m s:=by
 unfold dq;refine Nat.div_pos ?_ hs;exact Z (yE _ _) (Z (Ef h _) (x7 _ _))
theorem df{m s:Nat}(hm:m<=6)(hs:s<=2):dq m s<=8:=xH (DI _ _) (xH (zR _ _) (yZ hm hs))
theorem bC.Ok.w8{g:bC}(ok:g.Ok)(p):1<=g.ax p:=by unfold bC.ax;split;exact ok.a1;decide
theorem bC.Ok.w7{g:bC}(ok:g.Ok)(p):1<=g.dy p:=by unfold bC.dy;split;exact ok.d1;decide
section
variable{g:bC}{ps:List Nat}
theorem kQ(ok:g.Ok):1<=g.ua ps:=by
 unfold bC.ua;split
 ·exact dN (za ok.w1 (ok.w8 _)) ok.a1
 ·exact dN ok.w1 ok.a1
theorem tx(ok:g.Ok):g.ua ps<=8:=by
 unfold bC.ua;split
 ·exact df (za ok.w3 (ok.sf _)) ok.a2
 ·exact df (xH ok.w3 (by decide)) ok.a2
theorem alZ(ok:g.Ok):g.ud ps<=8:=by
 unfold bC.ud;split
 ·exact df (xH (za ok.h2 (ok.sd _)) (by decide)) ok.d2
 ·exact df (xH ok.h2 (by decide)) ok.d2
noncomputable def aD(g:bC)(ps:List Nat)(j:Nat):List UE:=mG g ps (j % g.ua ps) (j / g.ua ps)
noncomputable def aL(g:bC)(ps:List Nat):Nat:=g.ua ps*g.ud ps
end
section
variable{r:Bool}{n N L:Nat}{H:AH}{A:kN}{g:bC}{pr:Nat}{B:oR}{ps:List Nat}{kind lo:Int}{turn:AV->EV->AH->KF->Prop}{K:KF}{ρ:EV}
structure UnI(N L:Nat)(A:kN)(g:bC)(pr:Nat)(B:oR)(ps:List Nat)(kind lo:Int)(I:Nat->EV->AH->Prop):Prop where
 mod:∀j ρ H H' k vs,I j ρ H->Mod (λi=>i=L) H H'->H'[L]? =J (.gen k vs)->I j ρ H'
 F:∀j ρ H,I j ρ H->aQ N H A g pr
 S:∀j ρ H,I j ρ H->bx N H B ps kind lo
 len:∀j ρ H,I j ρ H->N<=H.length
theorem ac6(ok:g.Ok)(po:ia g ps)(hI:UnI N L A g pr B ps kind lo I)(h0:I 0 ρ H)(hg:H[L]? =J (.gen 1 [.ref A.f,.ref B.s]))
  (step:∀(j u:Nat) ρ H0 H (P:EV->AH->Prop) kk vs,j<aL g ps->I j ρ H0->Mod (λi=>i=L) H0 H->H0.length<=u->H[u]? =J (.list ((aD g ps j).map UE.av))->H[L]? =J (.gen kk vs)->(∀ρ' H',I (j+1) ρ' H'->H'[L]? =J (.gen kk vs)->P ρ' H')->turn (.ref u) ρ H (bV K P))
  (fin:∀ρ H,I (aL g ps) ρ H->K .next ρ H):ik (tb.sig r (n+5)) turn K ρ H (.ref L):=by
 refine .gen λP hP=>?_;have gen:∀{j:Nat} {ρ:EV} {H1 H2:AH},(j<aL g ps->∀ρ H,I (j+1) ρ H->H[L]? =J (.gen 2 [.ref A.f,.ref B.s,.int (g.ua ps),.int (j+1:Nat),.int (aL g ps)])->P ρ H)->j<=aL g ps->I j ρ H1->Mod (λi=>i=L) H1 H2->H2[L]? =J (.gen 3 [])->
   i5 wZ (tb.qh (n+4)) (.ref A.f) (.ref B.s) (.int (g.ua ps)) j (aL g ps) H2 (GenQ L turn K P ρ):=λ{j ρ H1 H2} next hj h1 m12 hg2=>by
  refine .dec (λhlt=>?_) λhlt=>?_
  ·have hlt:=x9.mp hlt
   have h2:=hI.mod _ _ _ _ _ _ h1 m12 hg2;refine ⟨Ac.mpr (zH (kQ ok)),Ac.mpr (zH (kQ ok)),xN (tx (ps:=ps) ok) (by decide),?_⟩;refine agW (k:=.gen) (hI.F _ _ _ h2) ok (hI.S _ _ _ h2) po (hI.len _ _ _ h2) (Hs _ _).symm (D0 _ _).symm λH3 u m23 lu hu=>⟨m23.get hg2,λH4 up=>?_⟩
   have m14:=(m12.trans m23.mod).trans (up.mod rfl);have nu:u≠L:=λe=>absurd (aS hg2) (xX.mpr (e▸lu));refine step j u ρ H1 H4 P _ _ hlt h1 m14 (xH m12.len lu) (up.ne _ _ nu hu) up.self λρ' H' h' hg'=>next hlt ρ' H' h' hg'
  ·have e:=yW hj (CA λh=>hlt (x9.mpr h))
   exact ⟨hg2,λH3 up=>fin ρ H3 (e▸hI.mod _ _ _ _ _ _ h1 (m12.trans (up.mod rfl)) up.self)⟩
 have go2:∀m j,m+j=aL g ps->∀ρ H,I j ρ H->H[L]? =J (.gen 2 [.ref A.f,.ref B.s,.int (g.ua ps),.int j,.int (aL g ps)])->P ρ H:=λm=>by
  induction m with
  | zero=>exact λj e ρ H h hg=>hP ρ H ⟨hg,λH' up=>.two (gen (λhlt=>absurd hlt (xX.mpr (yQ (by exact Ql e (Z (zj _) rfl))))) (yQ (by exact Ql e (Z (zj _) rfl))) h (up.mod rfl) up.self)⟩
  | succ m ih=>exact λj e ρ H h hg=>hP ρ H ⟨hg,λH' up=>.two (gen (λU=>ih (j+1) (by rw[<-e,Nat.succ_add,Nat.add_succ])) (by rw[<-e];exact zJ _ _) h (up.mod rfl) up.self)⟩
 refine hP ρ H ⟨hg,λH1 up=>.one ?_⟩;have h1:=hI.mod _ _ _ _ _ _ h0 (up.mod rfl) up.self;refine i6 (k:=.gen) (hI.F _ _ _ h1) ok (hI.S _ _ _ h1) po λH2 m2=>?_;have h2:=hI.mod _ _ _ _ _ _ h1 m2.mod (m2.get up.self);refine adi (k:=.gen) (hI.F _ _ _ h2) ok (hI.S _ _ _ h2) po (alZ ok) λH3 m3=>.bQ (.mk (nn _) (yj.mpr (xH (za (tx ok) (alZ ok)) (by decide))) rfl ?_);have m13:Ext H1 H3:=m2.trans m3;exact gen (j:=0) (λhlt=>go2 (aL g ps-1) 1 (BV hlt)) (yI _) h0 (Mod.trans (P:=λi=>i=L) (up.mod rfl) m13.mod) (m13.get up.self)
end
noncomputable def bz:List Bool->Nat
 | []=>0
 | b::l=>b.toNat*2^l.length+bz l
noncomputable def bI(v:Nat):Nat->List Bool
 | 0=>[]
 | n+1=>decide (v / 2^n % 2=1)::bI v n
theorem bA(v):∀n,(bI v n).length=n
 | 0=>rfl
 | n+1=>congrArg (· +1) (bA v n)
theorem toNat_mod(a):(decide (a % 2=1)).toNat=a % 2:=by
 rcases Nat.mod_two_eq_zero_or_one a with h | h <;> rw[h] <;> rfl
theorem gD(v):∀n,bz (bI v n)=v % 2^n
 | 0=>(Nat.mod_one v).symm
 | n+1=>by
  show (decide (v / 2^n % 2=1)).toNat*2^(bI v n).length+bz (bI v n)=_;rw[toNat_mod,bA,gD v n,Nat.mod_pow_succ,AN,yE]
theorem ju:∀l,bz l<2^l.length
 | []=>CR
 | b::l=>by
  show b.toNat*2^l.length+bz l<2^(l.length+1);rw[AM,AN (2^l.length) 2,Nat.two_mul];cases b with
  | true=>rw[show true.toNat=1 from rfl,CU];exact Bc (ju l) _
  | false=>rw[show false.toNat=0 from rfl,Bw,zj];exact xO (ju l) (x7 _ _)
theorem jV:∀a b,bz (a++b)=bz a*2^b.length+bz b
 | [],b=>by rw[GV,show bz []=0 from rfl,Bw,zj]
 | x::a,b=>by
  show x.toNat*2^(a++b).length+bz (a++b)=(x.toNat*2^a.length+bz a)*2^b.length+bz b;rw[jV a b,xK,GP,Dx,Dv,zf]
theorem ako(a b):bz (a++b) / 2^b.length=bz a:=by
 rw[jV,AN,G7 (Ae _),EC (ju b),DQ]
theorem val_mod(a b):bz (a++b) % 2^b.length=bz b:=by
 rw[jV,AN,ES,zX (ju b)]
theorem nU:∀l,bI (bz l) l.length=l
 | []=>rfl
 | b::l=>by
  have z:∀n c x y,n<=y->bI (c*2^y+x) n=bI x n:=λn=>by
   induction n with
   | zero=>intros;rfl
   | succ n ih=>
    intro c x y h;show decide ((c*2^y+x) / 2^n % 2=1)::_=decide (x / 2^n % 2=1)::_;rw[ih c x y (A0 h)];obtain ⟨m,rfl⟩:∃m,y=n+(m+1):=⟨y-(n+1),by rw[<-zf,AE];exact (Aa h).symm⟩
    rw[GP,Nat.mul_left_comm,G7 (Ae n),AM,<-Dv,AN _ 2,ES]
  show decide ((b.toNat*2^l.length+bz l) / 2^l.length % 2=1)::bI (b.toNat*2^l.length+bz l) l.length=b::l;rw[z _ _ _ _ (xS _),nU l,AN,G7 (Ae _),EC (ju l),DQ];cases b <;> rfl
noncomputable def bu(s:List UInt8):List Bool:=s.flatMap λo=>bI o.toNat 8
theorem cF:∀s,(bu s).length=8*s.length
 | []=>rfl
 | o::s=>by
  show (bI o.toNat 8++bu s).length=8*(s.length+1);rw[xK,bA,cF s,By,yE]
theorem afQ(a b):bu (a++b)=bu a++bu b:=BD
theorem ae9(v):∀n i,i<n->(bI v n)[i]? =J (decide (v / 2^(n-1-i) % 2=1))
 | n+1,0,_=>rfl
 | n+1,i+1,h=>by
  show (bI v n)[i]? =_;rw[ae9 v n i (Nat.lt_of_succ_lt_succ h),FY,Ea,yE 1 i]
theorem adh:∀s q r o,s[q]? =J o->r<8->(bu s)[8*q+r]? =J (decide (o.toNat / 2^(7-r) % 2=1))
 | o::s,0,r,_,h,hr=>by
  cases h;show (bI o.toNat 8++bu s)[0+r]? =_;rw[zj,yw (by rw[bA];exact hr),ae9 _ _ _ hr]
 | p::s,q+1,r,o,h,hr=>by
  show (bI p.toNat 8++bu s)[8*(q+1)+r]? =_;have:8*(q+1)+r=8+(8*q+r):=by rw[By,yE _ 8,zf]
  rw[yU (by rw[bA,this];exact x7 _ _),bA,this,HT];exact adh s q r o h hr
theorem rV:3<1000:=by decide
theorem anB(a s:Nat):(a:Int)*2^s=(a*2^s:Nat):=by exact Z (ET _ _) (Z (B4 _ _) rfl)
theorem qG(a s:Nat):(a:Int).fdiv (2^s)=(a / 2^s:Nat):=by exact Z (show (2:Int)^s=((2^s:Nat):Int) from (B4 2 s).symm) ((D0 _ _).symm)
theorem ones(s):(1:Int)*2^s-1=(2^s-1:Nat):=by exact Z (Cs _) (Z (show (2:Int)^s=((2^s:Nat):Int) from (B4 2 s).symm) ((BA (Ae s)).symm))
theorem af8{a:Nat}(h:a<2^64):small a:=xO h (zS (by decide) (by decide))
theorem tB{a b:Nat}(h:b<=a):(a:Int)-b=(a-b:Nat):=(BA h).symm
structure qT(H:AH)(b f:Nat)(F:List UInt8)(R:List Bool):Prop where
 h1:H[b]? =J (.inst 460 [(45,.ref f),(46,.int (bz R)),(47,.int R.length)])
 h2:H[f]? =J (.fU F)
theorem qT.ne(w:qT H b f F R):f≠b:=λe=>nomatch (w.h2.symm.trans ((congrArg (H[·]?) e).trans w.h1))
theorem qT.mod(w:qT H b f F R)(m:Mod P H H')(n1:¬P b)(n2:¬P f):qT H' b f F R:=⟨m.at_ _ _ n1 w.h1,m.at_ _ _ n2 w.h2⟩
noncomputable def wbits(F:List UInt8)(R:List Bool):List Bool:=bu F++R
section
variable{n:Nat}{H:AH}{Q:AV->AH->Prop}{X:XF}{b f:Nat}{F:List UInt8}{R:List Bool}
abbrev qf(b f:Nat)(j:Nat):Prop:=j=b\/j=f
theorem agM(h:A.length=8):bu [(bz A).toUInt8]=A/\bz A<256:=by
 have l:=ju A;rw[h] at l;refine ⟨?_,l⟩;show bI (bz A).toUInt8.toNat 8++[]=A;exact Z (yB _) (Z (show (bz A).toUInt8.toNat=bz A from zX l) (Ql h (nU A)))
theorem ag9(l:F.length+3<1000000)(w:qT H b f F R)(hR:R.length<=24){v s:Int}(q:∀H' F' R',Mod (qf b f) H H'->qT H' b f F' R'->R'.length<8->wbits F' R'=wbits F R->F'.length<=F.length+3->Q .none H'):
  gV (aR (aE (aa 0) 47) (aH .GtE (af (.int 8))))
  (aq (ak (aU (aa 0) 47) (aF .Sub (aE (aa 0) 47) (af (.int 8))))<|
  (aq (aV (aJ (aE (aa 0) 45) 0 (ae (aF .RShift (aE (aa 0) 46) (aE (aa 0) 47)) ar)))<|
  (aq (ak (aU (aa 0) 46) (aF .BitAnd (aE (aa 0) 46) (aF .Sub (aF .LShift (af (.int 1)) (aE (aa 0) 47)) (af (.int 1)))))<|
  aA))) (tb.sig true n) [J (.ref b),J (.int v),J (.int s)] H (fy (λρ' H'=>aA (tb.sig true n) ρ' H' (tJ Q) X) (tJ Q)) X:=by
 revert n H Q X b f F R v s;apply e8;intro U;apply(?Z:Tq U);intro n H Q X b f F R;intro l w hR;apply e2;intro U;apply(?Y:Tq U);intro v s;intros;refine jU (λm ρ H'=>ρ=[J (.ref b),J (.int v),J (.int s)]/\∃F' R',Mod (qf b f) H H'/\qT H' b f F' R'/\R'.length=m/\m<=24/\m+8*F'.length<=24+8*F.length/\wbits F' R'=wbits F R) ⟨rfl,⟨F,R,.refl,w,rfl,hR,yR hR _,rfl⟩⟩ λm ρ H1 P u6 hP=>u6.elim λe w1q=>uF w1q λF1 R1 m1 w1 hl hm hb hw=>?_;subst e;have lF:F1.length<=F.length+3:=Nat.le_of_mul_le_mul_left (xH (zJ _ _) (xH hb (yQ (by exact Z (GQ _ _ _) (Z (yE _ _) rfl))))) (by decide:0<8);refine .mk w1.h1 rfl (.dec (λh8=>?_) λh8=>?_)
 ·have h8:=yj.mp h8
  obtain ⟨A,B,rfl,hA⟩:∃A B,R1=A++B/\A.length=8:=(mc (R1.take 8) (R1.drop 8) ((Ax 8 R1).symm) (by exact Z Ai (Bt h8)))
  have lB:(A++B).length=B.length+8:=by exact Z xK (Z hA (Z (yE _ _) rfl))
  have eB:((A++B).length:Int)-8=B.length:=by exact Z lB (Ah (B.length:Int) 8)
  have lm:=lB.symm.trans hl;have l64:(B.length:Int)<=64:=yj.mpr (xH (x7 _ 8) (lm▸xH hm (by decide)));refine (agM hA).elim λe8 v8=>?_;have ev:((bz (A++B):Nat):Int).fdiv (2^(B.length:Int).toNat)=(bz A:Nat):=(qG _ _).trans (congrArg _ (ako A B));have eo:(1:Int)*2^(B.length:Int).toNat-1=(2^B.length-1:Nat):=ones B.length;refine .mk w1.h1 rfl (.mk w1.h1 rfl rV λH2 u2=>?_);have u2:=eB▸u2;have hf2:=u2.ne _ _ w1.ne w1.h2;refine .mk u2.self rfl (.bK hf2 (.mk u2.self rfl (.mk u2.self rfl ⟨nn _,l64,.bK rfl hf2 (ev▸nn _) (ev▸x9.mpr v8) (xN lF l) λH3 u3=>?_⟩)));have u3:Upd f (.fU (F1++[(bz A).toUInt8])) H2 H3:=by rw[ev] at u3;exact u3
  have hb3:=u3.ne _ _ w1.ne.symm u2.self;refine .mk hb3 rfl (.mk hb3 rfl ⟨kS,nn _,l64,nn _,eo▸nn _,.mk hb3 rfl rV λH4 u4=>?_⟩);have u4:Upd b (.inst 460 [(45,.ref f),(46,.int (bz B)),(47,.int B.length)]) H3 H4:=by
   rw[eo] at u4;have:((bz (A++B):Nat):Int).toNat&&& ((2^B.length-1:Nat):Int).toNat=bz B:=(Dq _ _).trans (val_mod A B);rw[this] at u4;exact u4
  refine hP B.length _ H4 (lm▸BQ (by decide)) ⟨rfl,⟨F1++[(bz A).toUInt8],B,((m1.trans (u2.mod (.inl rfl))).trans (u3.mod (.inr rfl))).trans (u4.mod (.inl rfl)),⟨u4.self,u4.ne _ _ w1.ne u3.self⟩,rfl,xH (x7 _ 8) (lm▸hm),?_,?_⟩⟩
  ·exact Z xK (Z (GQ _ _ _) (Z (Nat.add_left_comm _ _ _) (Z (yE (8*F1.length) _) (Z (show 8*[(bz A).toUInt8].length=8 from rfl) (Z lm hb)))))
  ·rw[<-hw,wbits,wbits,afQ,e8,yt]
 ·have h8:=EB λh=>h8 (yj.mpr h)
  exact q H1 F1 R1 m1 w1 h8 hw lF
theorem afU{v s:Nat}{vi si:Int}(l:F.length+3<1000000)(w:qT H b f F R)(hR:R.length<8)(hs:s<=16)(hv:v<2^s)(ev:vi=v)(es:si=s)
  (q:∀H' F' R',Mod (qf b f) H H'->qT H' b f F' R'->R'.length<8->wbits F' R'=wbits F R++bI v s->F'.length<=F.length+3->Q .none H'):call (.run true) (n+1) 443 [.ref b,.int vi,.int si] H Q X:=by
 revert n H Q X b f F R v s vi si;apply hU;intro U;apply(?Z:Tq U);intro n H Q X b f F R v s vi si;intros;subst ev;subst es;have l64:(s:Int)<=64:=yj.mpr (xH hs (by decide));have ep:=(Cs _).trans (B4 2 s).symm;refine enter [J (.ref b),J (.int v),J (.int s)] rfl rfl rfl (.no (zg.mpr (nn s)) (.yes (nn v) ⟨kS,nn s,l64,?_⟩));refine .bf (by exact Z ep (Z (decide_eq_true (x9.mpr hv)) rfl)) ?_;have lv:=ju R;have es:((bz R:Nat):Int)*2^(s:Int).toNat=(bz R*2^s:Nat):=anB _ _;have evn:bz (R++bI v s)=bz R*2^s+v:=by exact Z (jV _ _) (Z (bA _ _) (Z (gD _ _) (Z (zX hv) rfl)))
 have eor:(((bz R:Nat):Int)*2^(s:Int).toNat).toNat||| (v:Int).toNat=bz (R++bI v s):=by
  exact Z es (Z evn (Z (AN _ _) ((Nat.two_pow_add_eq_or_of_lt hv _).symm)))
 refine .mk w.h1 rfl ⟨af8 (xO lv (zS (by decide) (xH (ya hR) (by decide)))),nn s,l64,es▸nn _,nn v,.mk w.h1 rfl rV λH1 u1=>?_⟩;have u1:Upd b (.inst 460 [(45,.ref f),(46,.int (bz (R++bI v s))),(47,.int R.length)]) H H1:=by rw[eor] at u1;exact u1
 refine .mk u1.self rfl (.mk u1.self rfl rV λH2 u2=>?_);have u2:Upd b (.inst 460 [(45,.ref f),(46,.int (bz (R++bI v s))),(47,.int (R++bI v s).length)]) H H2:=by
  exact Z xK (Z (bA _ _) (u1.upd u2))
 have w2:qT H2 b f F (R++bI v s):=⟨u2.self,u2.ne _ _ w.ne w.h2⟩
 refine ag9 l w2 (by exact Z xK (Z (bA _ _) (yZ (ya hR) hs))) λH' F' R' m w' hR' hw hF=>q H' F' R' ((u2.mod (.inl rfl)).trans m) w' hR' (hw.trans (yt ..).symm) hF
theorem mF:∀k,bz (yr k true)=2^k-1
 | 0=>rfl
 | k+1=>by
  show 1*2^(yr k true).length+bz (yr k true)=_;exact Z B7 (Z (mF k) (Z (CU _) (Ql (Ef (Ae k) _) (Z (AM _ _) (Z (Eb _) rfl)))))
theorem ahZ(k):bI (2^k-1) k=yr k true:=by
 have:=nU (yr k true);rw[B7,mF] at this;exact this
theorem kP:(wbits F R).length=8*F.length+R.length:=by rw[wbits,xK,cF]
noncomputable def qm(n:Nat):List Bool:=yr ((8-n) % 8) true
theorem amY(l:F.length+3<1000000)(w:qT H b f F R)(hR:R.length<8)
  (q:∀H' F',Mod (qf b f) H H'->qT H' b f F' []->bu F'=bu F++R++qm R.length->F'.length<=F.length+3->Q .none H'):call (.run true) (n+2) 450 [.ref b] H Q X:=by
 revert n H Q X b f F R;apply e8;intro U;apply(?Z:Tq U);intro n H Q X b f F R;intros;refine go rfl ⟨rfl,.mk w.h1 rfl (.dec (λh=>?_) λh=>?_)⟩
 ·have h0:=x9.mp h
  have e8:=tB (ya hR);have e1:(1:Int)*2^((8:Int)-R.length).toNat-1=(2^(8-R.length)-1:Nat):=by exact Z e8 (ones _)
  have em:(8-R.length) % 8=8-R.length:=zX (AB (by decide) h0);refine aN (k:=.run true) w.h1 rfl rfl (.mk w.h1 rfl ⟨kS,e8▸nn _,e8▸yj.mpr (xH (zR _ _) (by decide)),.mk w.h1 rfl (afU l w hR (xH (zR 8 _) (by decide)) (AB (Ae _) (by decide)) e1 e8 λH' F' R' m w' hR' hw hF=>?_)⟩);have hl:=congrArg Al hw;rw[xK,kP,kP,bA,zf,Aa (ya hR)] at hl;have z:R'.length % 8=0:=by
   have:=congrArg (· % 8) hl;simpa[ES] using this
  rw[zX hR'] at z;obtain rfl:=Aj.mp z;refine q H' F' m w' ?_ hF;rw[wbits,wbits,yB,ahZ] at hw;rw[hw,qm,em]
 ·have z:=EL λh'=>h (x9.mpr h')
  obtain rfl:=Aj.mp z;exact q H F .refl w (by exact Z (yB _) ((yB _).symm)) (x7 _ _)
theorem ahn(l:F.length<=1000000)(w:qT H b f F R)(q:Q (.bytes F) H):call (.run true) (n+1) 457 [.ref b] H Q X:=go rfl ⟨rfl,.mk w.h1 rfl (.nH w.h2 l q)⟩
theorem sW:0<1000:=by decide
theorem tR:1<1000:=by decide
theorem qQ:2<1000:=by decide
theorem aj0(q:∀H' b f,Ext H H'->H.length<=b->H.length<=f->qT H' b f [] []->Q (.ref b) H'):iT (sg (.run true) (n+1)) 460 [] H Q X:=.mk λb H1 u1=>go (k:=.run true) rfl ⟨rfl,.bytearray rfl λf H2 u2=>.mk (u2.old _ _ u1.self) rfl sW λH3 u3=>.mk u3.self rfl tR λH4 u4=>.mk u4.self rfl qQ λH5 u5=>by
 have nf:=(u2.ne u1.self).symm;have u:=(u3.upd u4).upd u5;refine q H5 b f ⟨?_,λj o U h=>u.ne j o (u1.ne h) (u2.old _ _ (u1.old _ _ h))⟩ (u1.fG (xS _)) (u2.fG (u1.len▸yY _)) ⟨u.self,u.ne _ _ nf u2.self⟩;exact Z u.len (Z u2.len (Z u1.len (x7 _ 2)))⟩
end
inductive dZ(H:AH)(b:Nat)(R:List Bool):Prop
 | mk(src:List UInt8)(at_:Nat)(h1:H[b]? =J (.inst 502 [(48,.bytes src),(17,.int at_)]))(hl:src.length<=100000)(ha:at_<=8*src.length)(e:(bu src).drop at_=R):dZ H b R
theorem dZ.mod(w:dZ H b R)(m:Mod P H H')(n1:¬P b):dZ H' b R:=w.rec λs a h1 hl ha e=>⟨s,a,m.at_ _ _ n1 h1,hl,ha,e⟩
section
variable{k:GK}{r:Bool}{n:Nat}{H:AH}{Q:AV->AH->Prop}{X:XF}{b:Nat}{R:List Bool}
theorem amr(a):(8:Int)*a=(8*a:Nat):=(ET 8 a).symm
theorem mulL{a:Nat}(h:a<=100000):F5 8 a:=ji (xN h (by decide))
theorem agv(w:dZ H b R)(q:Q (.int R.length) H):call (.run r) (n+1) 485 [.ref b] H Q X:=by
 obtain ⟨s,a,h1,hl,ha,e⟩:=w;refine go rfl ⟨rfl,.mk h1 rfl (.kY (xH hl (by decide)) ⟨mulL hl,.mk h1 rfl ?_⟩)⟩;have:(8:Int)*s.length-a=R.length:=by
  exact Ql e (Z Gw (Z (cF _) (Z (amr _) (tB ha))))
 show Q (.int ((8:Int)*s.length-a)) H;exact Z this q
theorem aj4{x:Bool}(w:dZ H b (x::R))(q:∀H',Mod (λj=>j=b) H H'->dZ H' b R->Q (.int x.toNat) H'):call (.run r) (n+1) 492 [.ref b] H Q X:=by
 revert r n H Q X b R x;apply e8;intro U;apply(?Z:Tq U);intro r n H Q X b R x;intros;obtain ⟨s,a,h1,hl,ha,e⟩:=w;have la:a<8*s.length:=by
  refine EB λh=>?_;rw[C4 (by exact Z (cF _) h)] at e;cases e
 have lq:=IQ la;have lr:a % 8<8:=DY _ (by decide);have ex:decide (s[a / 8].toNat / 2^(7-a % 8) % 2=1)=x:=by
  have h2:=adh s (a / 8) (a % 8) _ (xR lq) lr;rw[Nat.div_add_mod,<-GW,e] at h2;exact (xT h2).symm
 have e3:=qG a 3;have e7:(7:Int)-(((a:Int).toNat&&& (7:Int).toNat:Nat):Int)=(7-a % 8:Nat):=by
  exact Z (show (a:Int).toNat&&& (7:Int).toNat=a % 8 from Dq a 3) (tB (yb lr))
 have e1:((((s[a / 8].toNat:Nat):Int).fdiv (2^((7:Int)-(((a:Int).toNat&&& (7:Int).toNat:Nat):Int)).toNat)).toNat&&& (1:Int).toNat)=x.toNat:=by
  refine Z e7 (Ql ex (Z (toNat_mod _) ?_));refine (congrArg (λz=>z.toNat&&& 1) (qG s[a / 8].toNat (7-a % 8))).trans ?_;exact Dq _ 1
 refine go rfl ⟨rfl,.mk h1 rfl (.mk h1 rfl (.kY (xH hl (by decide)) ⟨mulL hl,.no (λh=>absurd la (xX.mpr (yj.mp (amr _▸h)))) ?_⟩))⟩;refine .mk h1 rfl (.mk h1 rfl ⟨by decide,by decide,.bytes (e3▸nn _) (e3▸x9.mpr (xO lq (xH hl (by decide)))) (v:=s[a / 8]) (by exact Z e3 (xR lq)) (.mk h1 rfl ⟨nn a,by decide,?c1,?c2,?c3⟩)⟩)
 case c1=>exact Z e7 (nn _)
 case c2=>exact Z e7 (yj.mpr (xH (zR _ _) (by decide)))
 refine And.intro ?_ (And.intro (by decide) (.mk h1 rfl (.mk h1 rfl qQ λH' u=>?_)))
 ·exact Z e7 (qG _ _▸nn _)
 ·show Q (.int (_:Nat)) H'
  refine Z e1 ?_;refine q H' (u.mod rfl) ⟨s,a+1,u.self,hl,la,?_⟩;exact Ql List.drop_drop (Z e rfl)
theorem aef{A:List Bool}{m:Int}(w:dZ H b (A++R))(hA:A.length<=16)(em:m=A.length)(q:∀H',Mod (λj=>j=b) H H'->dZ H' b R->Q (.int (bz A)) H'):call (.run r) (n+2) 499 [.ref b,.int m] H Q X:=by
 revert r n H Q X b R A m;apply e9;intro U;apply(?Z:Tq U);intro r n H Q X b R A m;intros;subst em;have h1:∃fs,H[b]? =J (.inst 502 [(48,fs),(17,fs)])\/True:=⟨.none,.inr trivial⟩
 obtain ⟨s,a,h1,hl,ha,e⟩:=id w;refine enter [J (.ref b),J (.int A.length),Jw,Jw] rfl rfl rfl (aN (k:=.run r) h1 rfl rfl (agv w (.no (zg.mpr (yj.mpr (by exact Z xK (x7 _ _)))) ?_)));refine .bQ (cq (xH hA (by decide)) rfl (λj ρ H'=>∃o,∃A1 A2,A=A1++A2/\A1.length=j/\ρ=[J (.ref b),J (.int A.length),J (.int (bz A1:Nat)),o 3]/\Mod (λj=>j=b) H H'/\dZ H' b (A2++R)) ⟨λU=>Jw,[],A,rfl,rfl,rfl,.refl,w⟩ (λj ρ H1 P hj y8 hP=>aoc y8 λo A1 A2 eA ej eρ m1 w1=>?_) λρ H1 v10=>aoc v10 λo A1 A2 eA ej eρ m1 w1=>?_)
 ·subst eρ
  cases A2 with
  | nil=>exact absurd hj (by exact Z eA (Z (yB _) (Z ej (zU _))))
  | cons x A2=>
   obtain ⟨s1,a1,h3,_,_,_⟩:=id w1;refine ⟨ji (a:=(bz A1:Nat)) (b:=2) (by decide),aN (k:=.run r) h3 rfl rfl (aj4 w1 λH2 m2 w2=>hP _ _ ⟨λU=>J (.int j),A1++[x],A2,by exact Z eA (Z (yt _ _ _) rfl),by exact Z xK (Z ej rfl),?_,m1.trans m2,w2⟩)⟩;have:((bz A1:Nat):Int)*2+(x.toNat:Nat)=(bz (A1++[x]):Nat):=by
    exact Z (jV _ _) (Z (show bz [x]=x.toNat from (DQ _).trans (Nat.mul_one _)) rfl)
   show ([J (.ref b),J (.int A.length),J (.int (((bz A1:Nat):Int)*2+(x.toNat:Nat))),J (.int j)]:EV)=_;exact Z this rfl
 ·subst eρ
  have:=Aj.mp (by
   have:=congrArg Al eA;rw[xK,ej] at this;exact Ja (this.symm.trans (DQ _).symm))
  subst this;rw[yB] at eA;subst eA;exact q H1 m1 w1
theorem amW(hl:src.length<=100000)(q:∀b H',kM b (.inst 502 [(48,.bytes src),(17,.int 0)]) H H'->Q (.ref b) H'):iT (sg (.run r) (n+1)) 502 [.bytes src] H Q X:=.mk λb H1 u1=>go (k:=.run r) rfl ⟨rfl,.mk u1.self rfl sW λH2 u2=>.mk u2.self rfl tR λH3 u3=>q b H3 ((u1.upd u2).upd u3)⟩
end
structure Sink(σ:Type) where
 aT:Nat
 C:Nat
 uT:Nat
 sa:Nat
 uU:Nat
 St:σ->(Nat->Prop)->AH->Prop
 vX:σ->Nat->Int->(Nat->Prop)->AH->Prop
 upd:σ->Nat->Int->σ
 ok:σ->Nat->Int->Prop
 out:σ->List UInt8
 vH:σ->σ
abbrev iW(O O':Nat->Prop)(H:AH):Prop:=∀j,O' j->O j\/H.length<=j
abbrev cS(H:AH)(i C:Nat)(fs:List (Nat×AV)):Prop:=H[i]? =J (.inst C fs)
theorem Mod.grow(x:Mod P H H')(y:Mod O' H' H'')(g:iW O O' H)(k:∀j,O j->P j):Mod P H H'':=
 ⟨xH x.len y.len,λj o n h=>y.at_ j o (λq=>(g j q).elim (λq=>n (k j q)) λl=>absurd (aS h) (xX.mpr l)) (x.at_ j o n h)⟩
theorem iW.trans(x:iW O O' H)(y:iW O' O'' H')(l:H.length<=H'.length):iW O O'' H:=λj h=>(y j h).elim (x j) λl'=>.inr (xH l l')
structure Sink.Ok{σ:Type}(K:Sink σ)(r:Bool)(n:Nat):Prop where
 inst:∀s O H,K.St s O H->∃fs,cS H K.aT K.C fs/\fs.lookup 23=Jw/\fs.lookup 24=Jw/\fs.lookup 25=Jw
 tZ:∀s p d O H,K.vX s p d O H->∃fs,cS H K.aT K.C fs/\fs.lookup 24=Jw
 own:∀s O H,K.St s O H->O K.aT
 aof:∀s p d O H,K.vX s p d O H->O K.aT
 lt:∀s O H,K.St s O H->∀j,O j->j<H.length
 mod:∀s O H P H',K.St s O H->Mod P H H'->(∀j,O j->¬P j)->K.St s O H'
 vM:jl.lookup (K.C,23)=J K.uT
 tQ:jl.lookup (K.C,24)=J K.sa
 vN:jl.lookup (K.C,25)=J K.uU
 sym:∀s p d O H (Q:AV->AH->Prop) X,K.St s O H->K.ok s p d->(∀H' O',Mod O H H'->iW O O' H->K.vX s p d O' H'->Q .none H')->call (.run r) (n+2) K.uT [.ref K.aT,.tup [.int 0,.int p],.int (cat d)] H Q X
 bits:∀s p d O H (Q:AV->AH->Prop) X,K.vX s p d O H->0<cat d->cat d<16->(∀H' O',Mod O H H'->iW O O' H->K.St (K.upd s p d) O' H'->Q .none H')->call (.run r) (n+2) K.sa [.ref K.aT,.int (nV d (cat d)),.int (cat d)] H Q X
 skip:∀s p d O H,K.vX s p d O H->¬(0<cat d/\cat d<16)->K.St (K.upd s p d) O H
 fin:∀s O H (Q:AV->AH->Prop) X,K.St s O H->(∀H' O',Mod O H H'->iW O O' H->K.St (K.vH s) O' H'->Q (.bytes (K.out s)) H')->call (.run r) (n+2) K.uU [.ref K.aT] H Q X
structure cG where
 N:Nat
 a:GA
 S:Nat->Nat->Nat->Int
 kind:Int
 mid:Int
 w:Nat
 sl:Nat
 p:Nat
 m:Nat
 deriving Nonempty
structure cG.Ok(E:cG)(aT:Nat)(H:AH):Prop where
 sm:E.a.Small
 g:bg H E.a E.S
 low:∀j,E.a.own j->j<E.N
 k1:1<=E.kind
 k7:E.kind<=7
 w:cS H E.w 261 [(18,.ref E.sl),(10,.ref E.a.g),(19,.ref E.p),(20,.ref aT)]
 sl:H[E.sl]? =J (.list (tab E.m λj=>.int j))
 m3:E.m<=3
 tm:E.sl<E.N
 Np:E.N<=E.p
 Nw:E.N<=E.w
theorem cG.Ok.mod{E:cG}(h:E.Ok aT H)(m:Mod P H H')(hP:∀j,P j->E.N<=j)(hw:¬P E.w):E.Ok aT H':=
 ⟨h.sm,h.g.mod m λj hj q=>absurd (hP j q) (AD.mpr (h.low j hj)),h.low,h.k1,h.k7,m.at_ _ _ hw h.w,m.at_ _ _ (λq=>absurd (hP _ q) (AD.mpr h.tm)) h.sl,h.m3,h.tm,h.Np,h.Nw⟩
structure vV(E:cG)(es:List (Int×AV))(u:UE):Prop where
 d9:u.1<E.m
 k:u.2.1<E.a.m
 x:u.2.2.1<E.a.w u.2.1
 y:u.2.2.2<E.a.h u.2.1
 hi:∃i,getKey (dG es u.2.1 u.2.2.2) u.2.1=J (.int i)
 hf:c8 es u.2.1 u.2.2.2=false->1<=u.2.2.2
 el:es.length<1000
noncomputable def ux(S:Nat->Nat->Nat->Int)(kind mid:Int)(es:List (Int×AV))(u:UE):Int:=
 iO (S u.2.1 u.2.2.2 u.2.2.1) (jY S kind mid (c8 es u.2.1 u.2.2.2) u.2.1 u.2.2.2 u.2.2.1)
noncomputable def uu(es:List (Int×AV))(u:UE):List (Int×AV):=dG es u.2.1 u.2.2.2
theorem nab{n:Nat}(h: -(n:Int)<=a)(k:a<=n):a.natAbs<=n:=(Int.natAbs_eq a).elim (λe=>yj.mp (e▸k)) λe=>yj.mp (Int.neg_le_neg_iff.mp (e▸h))
theorem hV(s t):(iO s t).natAbs<=32768:=by
 unfold iO;have h0:=EO (s-t) (show (0:Int)<65536 by decide);have h1:=Jt (s-t) (show (0:Int)<65536 by decide);generalize (s-t).fmod 65536=x at*;split
 ·rename_i h;exact nab (IY (zY h) 65536) (yG (IY (zY h1) 65536) (by decide))
 ·rename_i h;exact nab (yG (by decide) h0) (zg.mp h)
section
variable{σ:Type}{K:Sink σ}{r:Bool}{n:Nat}{H:AH}{Q:AV->AH->Prop}{X:XF}{E:cG}{es:List (Int×AV)}{t:Nat}{O:Nat->Prop}{s:σ}
theorem alA{d9 k x y:Nat}(ko:K.Ok r n)(eo:E.Ok K.aT H)(P:bB H E.p E.a.g E.kind E.mid t es)(st:K.St s O H)(u:vV E es (d9,k,x,y))(nt:E.N<=t)(wt:E.w≠t)(hO:∀j,O j->E.N<=j)(Ot:¬O t)(Op:¬O E.p)(Ow:¬O E.w)
  (hd:K.ok s d9 (ux E.S E.kind E.mid es (d9,k,x,y)))
  (q:∀H' O',Mod (λj=>j=t\/O j) H H'->iW O O' H->bB H' E.p E.a.g E.kind E.mid t (dG es k y)->K.St (K.upd s d9 (ux E.S E.kind E.mid es (d9,k,x,y))) O' H'->Q .none H'):call (.run r) (n+3) 251 [.ref E.w,.int d9,.int k,.int x,.int y] H Q X:=by
 obtain ⟨u1,u2,u3,u4,u5,u6,u7⟩:=u;have nto:¬E.a.own t:=λh=>absurd (eo.low t h) (xX.mpr nt);refine enter [J (.ref E.w),J (.int d9),J (.int k),J (.int x),J (.int y),Jw,Jw,Jw] rfl rfl rfl (.mk eo.w rfl (aN (k:=.run r) P.h1 rfl rfl (afZ eo.sm P eo.g nto u2 u4 u3 eo.k1 eo.k7 u5 u6 u7 λH1 m1 P1=>?_)));have e1:=eo.mod m1 (λj e=>e▸nt) wt;have s1:=ko.mod _ _ _ _ _ st m1 λj hj e=>Ot (e▸hj);refine .mk e1.w rfl (aN (k:=.run r) e1.g.h1 rfl rfl (rx e1.sm e1.g u2 u4 u3 (acI (ae5 (af8 (xN (hV _ _) (by decide))) ?_))));refine o9 (ko.inst _ _ _ s1) λfs i1 i2 U U=>?_;refine .mk e1.w rfl (aN (k:=.run r) i1 i2 ko.vM (.mk e1.w rfl (.list e1.sl (nn d9) (mV u1 e1.m3) (c6 u1) (ko.sym _ _ _ _ _ _ _ s1 hd λH2 O2 m2 g2 s2=>?_))));have m12:Mod (λj=>j=t\/O j) H H2:=(m1.mono λj e=>.inl e).trans (m2.mono λj h=>.inr h);have e2:=e1.mod m2 hO Ow;have P2:=P1.mod m2 Op Ot;have l1:=m1.len;have g2':iW O O2 H:=λj h=>(g2 j h).imp id (xH l1);have fin:¬(0<cat (ux E.S E.kind E.mid es (d9,k,x,y))/\cat (ux E.S E.kind E.mid es (d9,k,x,y))<16)->Q .none H2:=λh=>q H2 O2 m12 g2' P2 (ko.skip _ _ _ _ _ s2 h);refine .dec (λh0=>.dec (λh1=>?_) λh1=>fin λh=>h1 h.2) λh0=>.f (fin λh=>h0 h.1);refine aO (ko.tZ _ _ _ _ _ s2) λfs2 j1 j2=>?_;have hs:E.w≠K.aT:=λe=>Ow (e▸ko.own _ _ _ st);refine .mk e2.w rfl (aN (k:=.run r) j1 j2 ko.tQ (afP (zY h0) (zY (DR h1 (by decide))) (ko.bits _ _ _ _ _ _ _ s2 h0 h1 λH3 O3 m3 g3 s3=>?_)));have nO:∀{j o},H1[j]? =J o->¬O j->¬O2 j:=λhj n h=>(g2 _ h).elim n λl=>absurd (aS hj) (xX.mpr l);refine P1.h2.elim λep h2=>?_;exact q H3 O3 (m12.grow m3 g2' λj h=>.inr h) (g2'.trans g3 m12.len) (P2.mod m3 (nO P1.h1 Op) (nO h2 Ot)) s3
theorem acM(eo:E.Ok aT H)(P:bB H E.p E.a.g E.kind E.mid t es)(q:∀H' t',Mod (λj=>j=E.p) H H'->H.length<=t'->bB H' E.p E.a.g E.kind E.mid t' []->Q .none H'):call (.run r) (n+2) 244 [.ref E.w] H Q X:=
 go (k:=.run r) rfl ⟨rfl,.mk eo.w rfl (aN (k:=.run r) P.h1 rfl rfl (aaE P q))⟩
theorem afV(ko:K.Ok r n)(eo:E.Ok K.aT H)(st:K.St s O H)(q:∀H' O',Mod O H H'->iW O O' H->K.St (K.vH s) O' H'->Q (.bytes (K.out s)) H'):call (.run r) (n+3) 258 [.ref E.w] H Q X:=by
 refine o9 (ko.inst _ _ _ st) λfs i1 U U i2=>?_;exact go (k:=.run r) rfl ⟨rfl,.mk eo.w rfl (aN (k:=.run r) i1 i2 ko.vN (ko.fin _ _ _ _ _ st q))⟩
end
section
variable{σ:Type}
noncomputable def j5(K:Sink σ)(E:cG):List UE->σ×List (Int×AV)->σ×List (Int×AV)
 | [],z=>z
 | u::r,z=>j5 K E r (K.upd z.1 u.1 (ux E.S E.kind E.mid z.2 u),uu z.2 u)
def we(K:Sink σ)(E:cG):List UE->σ×List (Int×AV)->Prop
 | [],_=>True
 | u::r,z=>(vV E z.2 u/\K.ok z.1 u.1 (ux E.S E.kind E.mid z.2 u))/\we K E r (K.upd z.1 u.1 (ux E.S E.kind E.mid z.2 u),uu z.2 u)
structure WS(σ:Type) where
 outs:List (List UInt8)
 s:σ
 es:List (Int×AV)
 many:Nat
noncomputable def dg(K:Sink σ)(iv:Nat)(z:WS σ):WS σ:=if 0<iv/\z.many=iv then ⟨z.outs++[K.out z.s],K.vH z.s,[],0⟩ else z
noncomputable def alW(K:Sink σ)(E:cG)(us:List UE)(z:WS σ):WS σ:=⟨z.outs,(j5 K E us (z.s,z.es)).1,(j5 K E us (z.s,z.es)).2,z.many+1⟩
noncomputable def gC(K:Sink σ)(E:cG)(iv:Nat)(un:Nat->List UE)(s0:σ):Nat->WS σ
 | 0=>⟨[],s0,[],0⟩
 | j+1=>alW K E (un j) (dg K iv (gC K E iv un s0 j))
structure WI(K:Sink σ)(E:cG)(fo L:Nat)(outs:List (List UInt8))(s:σ)(es:List (Int×AV))(t:Nat)(O:Nat->Prop)(H:AH):Prop where
 eo:E.Ok K.aT H
 P:bB H E.p E.a.g E.kind E.mid t es
 st:K.St s O H
 hf:H[fo]? =J (.list (outs.map .bytes))
 hL:∃k vs,H[L]? =J (.gen k vs)
 nt:E.N<=t
 hO:∀j,O j->E.N<=j
 Ot:¬O t
 Op:¬O E.p
 Ow:¬O E.w
 Of:¬O fo
 OL:¬O L
 lf:E.N<=fo
 lL:E.N<=L
 len:outs.length<100
theorem ba{H:AH}{i j:Nat}(h:H[i]? =J o)(h':H[j]? =J o')(n:o≠o'):i≠j:=λe=>n (xT (h.symm.trans (e▸h')))
variable{K:Sink σ}{r:Bool}{n N:Nat}{H:AH}{Q:AV->AH->Prop}{X:XF}{E:cG}{es:List (Int×AV)}{t fo L:Nat}{O:Nat->Prop}{s:σ}{outs:List (List UInt8)}
theorem WI.wt(w:WI K E fo L outs s es t O H):E.w≠t:=w.P.h2.elim λU h=>ba w.eo.w h (nf rfl)
theorem WI.ft(w:WI K E fo L outs s es t O H):fo≠t:=w.P.h2.elim λU h=>ba w.hf h (nf rfl)
theorem WI.Lt(w:WI K E fo L outs s es t O H):L≠t:=w.P.h2.elim λU h=>gX w.hL λU U h'=>ba h' h (nf rfl)
theorem WI.fp(w:WI K E fo L outs s es t O H):fo≠E.p:=ba w.hf w.P.h1 (nf rfl)
theorem WI.fw(w:WI K E fo L outs s es t O H):fo≠E.w:=ba w.hf w.eo.w (nf rfl)
theorem WI.pw(w:WI K E fo L outs s es t O H):E.p≠E.w:=ba w.P.h1 w.eo.w λh=>by cases h
theorem WI.Lf(w:WI K E fo L outs s es t O H):L≠fo:=gX w.hL λU U h'=>ba h' w.hf (nf rfl)
theorem WI.Lp(w:WI K E fo L outs s es t O H):L≠E.p:=gX w.hL λU U h'=>ba h' w.P.h1 (nf rfl)
theorem WI.code(ko:K.Ok r n)(w:WI K E fo L outs s es t O H)(m:Mod (λj=>j=t\/O j) H H')(g:iW O O' H)(P:bB H' E.p E.a.g E.kind E.mid t es')(st:K.St s' O' H')(hN:E.N<=H.length):WI K E fo L outs s' es' t O' H':=by
 have nO:∀{j o},H[j]? =J o->¬O j->¬O' j:=λhj n h=>(g _ h).elim n λl=>absurd (aS hj) (xX.mpr l);refine w.P.h2.elim λep h2=>?_;refine gX w.hL λk vs hL=>?_;exact ⟨w.eo.mod m (λj h=>h.elim (λe=>e▸w.nt) (w.hO j)) λh=>h.elim w.wt w.Ow,P,st,m.at_ _ _ (λh=>h.elim w.ft w.Of) w.hf,(jj k vs (m.at_ _ _ (λh=>h.elim w.Lt w.OL) hL)),w.nt,
  λj h=>(g j h).elim (w.hO j) (xH hN),nO h2 w.Ot,nO w.P.h1 w.Op,nO w.eo.w w.Ow,nO w.hf w.Of,nO hL w.OL,w.lf,w.lL,w.len⟩
theorem WI.fin(ko:K.Ok r n)(w:WI K E fo L outs s es t O H)(m:Mod O H H')(g:iW O O' H)(st:K.St s' O' H')(hN:E.N<=H.length):WI K E fo L outs s' es t O' H':=
 w.code ko (m.mono λU h=>.inr h) g (w.P.mod m w.Op w.Ot) st hN
theorem WI.app(ko:K.Ok r n)(w:WI K E fo L outs s es t O H)(u:Upd fo (.list (outs.map .bytes++[.bytes x])) H H')(l:outs.length+1<100):WI K E fo L (outs++[x]) s es t O H':=by
 refine gX w.hL λk vs hL=>?_;have m:Mod (λj=>j=fo) H H':=u.mod rfl;exact ⟨w.eo.mod m (λj e=>e▸w.lf) w.fw.symm,w.P.mod m w.fp.symm w.ft.symm,ko.mod _ _ _ _ _ w.st m λj h e=>w.Of (e▸h),by exact Z yq u.self,(jj k vs (m.at_ _ _ w.Lf hL)),w.nt,w.hO,w.Ot,w.Op,w.Ow,w.Of,w.OL,w.lf,w.lL,by exact Z xK l⟩
theorem WI.start(ko:K.Ok r n)(w:WI K E fo L outs s es t O H)(m:Mod (λj=>j=E.p) H H')(l:H.length<=t')(P:bB H' E.p E.a.g E.kind E.mid t' [])(hN:E.N<=H.length):WI K E fo L outs s [] t' O H':=by
 refine gX w.hL λk vs hL=>?_;exact ⟨w.eo.mod m (λj e=>e▸w.eo.Np) w.pw.symm,P,ko.mod _ _ _ _ _ w.st m λj h e=>w.Op (e▸h),m.at_ _ _ w.fp w.hf,⟨k,vs,m.at_ _ _ w.Lp hL⟩,xH hN l,w.hO,λh=>absurd (ko.lt _ _ _ w.st _ h) (xX.mpr l),w.Op,w.Ow,w.Of,w.OL,w.lf,w.lL,w.len⟩
theorem WI.gen(ko:K.Ok r n)(w:WI K E fo L outs s es t O H)(m:Mod (λj=>j=L) H H')(hL:∃k vs,H'[L]? =J (.gen k vs)):WI K E fo L outs s es t O H':=
 ⟨w.eo.mod m (λj e=>e▸w.lL) λe=>by refine gX w.hL λU U h=>?_;exact ba w.eo.w h (nf rfl) e,w.P.mod m w.Lp.symm w.Lt.symm,ko.mod _ _ _ _ _ w.st m λj h e=>w.OL (e▸h),m.at_ _ _ w.Lf.symm w.hf,hL,w.nt,w.hO,w.Ot,w.Op,w.Ow,w.Of,w.OL,w.lf,w.lL,w.len⟩
end
section
variable{σ:Type}{K:Sink σ}{r:Bool}{n N:Nat}{H:AH}{Q:AV->AH->Prop}{X:XF}{E:cG}{es:List (Int×AV)}{t fo L:Nat}{O:Nat->Prop}{s:σ}{outs:List (List UInt8)}
theorem aiA(a b):∀z,j5 K E (a++b) z=j5 K E b (j5 K E a z):=by
 induction a with
 | nil=>intro z;rfl
 | cons u a ih=>intro z;exact ih _
theorem akX(a b):∀z,we K E (a++b) z->we K E b (j5 K E a z):=by
 induction a with
 | nil=>intro z h;exact h
 | cons u a ih=>intro z h;exact ih (K.upd z.1 u.1 (ux E.S E.kind E.mid z.2 u),uu z.2 u) h.2
theorem agG(h:l[j]? =J v):l=l.take j++v::l.drop (j+1)/\l.take (j+1)=l.take j++[v]:=by
 obtain ⟨hj,rfl⟩:=xQ.mp h;exact ⟨by exact Ql (Aw hj) (Z (Ax _ _) rfl),List.take_succ_eq_append_getElem hj⟩
theorem ai4{l:List α}{j:Nat}(h:(l.map f)[j]? =J v):∃u,l[j]? =J u/\v=f u:=by
 rw[yA] at h;refine aO (yh.mp h) λu h1 h2=>?_;exact (aM u h1 h2.symm)
inductive WU(K:Sink σ)(E:cG)(fo L:Nat)(outs:List (List UInt8))(z:σ×List (Int×AV))(t u:Nat)(us:List UE)(O:Nat->Prop)(H:AH)(H':AH):Prop
 | mk(O':Nat->Prop)(w:WI K E fo L outs z.1 z.2 t O' H')(m:Mod (λj=>j=t\/O j) H H')(g:iW O O' H)(hu:H'[u]? =J (.list (us.map UE.av))):WU K E fo L outs z t u us O H H'
theorem akr{KK:KF}{us:List UE}{iv:Int}{o:Nat->Option AV}(ko:K.Ok r (n+2))(w:WI K E fo L outs s es t O H)(hN:E.N<=H.length)(hu:H[u]? =J (.list (us.map UE.av)))(hl:us.length<=1000000)(ut:u≠t)(uO:¬O u)(ok:we K E us (s,es))
  (q:∀H' (o:Nat->Option AV),WU K E fo L outs (j5 K E us (s,es)) t u us O H H'->KK .next [J (.ref L),J (.int iv),J (.ref E.w),J (.ref fo),J (.int many),J (.ref u),o 6,o 7,o 8,o 9] H'):
  cz (fS [6,7,8,9]) (aa 5) (aq (aV (aJ (aa 2) 30 (ae (aa 6) (ae (aa 7) (ae (aa 8) (ae (aa 9) ar)))))) aA) (tb.sig r (n+5)) [J (.ref L),J (.int iv),J (.ref E.w),J (.ref fo),J (.int many),J (.ref u),o 6,o 7,o 8,o 9] H KK X:=by
 refine dY hu (by refine Z (xJ _) ?_;exact hl) (λi ρ H'=>(∃o:Nat->Option AV,ρ=[J (.ref L),J (.int iv),J (.ref E.w),J (.ref fo),J (.int many),J (.ref u),o 6,o 7,o 8,o 9])/\WU K E fo L outs (j5 K E (us.take i) (s,es)) t u us O H H') ⟨⟨o,rfl⟩,O,w,.refl,λU=>.inl,hu⟩ (λi v ρ H1 P hv h hP=>?_) λρ H1 h=>?_
 ·obtain ⟨⟨o,eρ⟩,O1,w1,m1,g1,hu1⟩:=h
  subst eρ;obtain ⟨⟨sp,k,x,y⟩,hx,rfl⟩:=ai4 hv;obtain ⟨e1,e2⟩:=agG hx;have ok1:=akX _ _ (s,es) (by refine Ql e1 ?_;exact ok);refine ⟨hu1,aN (k:=.run r) w1.eo.w rfl rfl (alA ko w1.eo w1.P w1.st ok1.1.1 w1.nt w1.wt w1.hO w1.Ot w1.Op w1.Ow ok1.1.2 λH2 O2 m2 g2 P2 st2=>hP _ _ ⟨⟨λj=>[J (.int sp),J (.int k),J (.int x),J (.int y)].getD (j-6) Jw,rfl⟩,O2,?_,?_,g1.trans g2 m1.len,?_⟩)⟩
  ·refine Z e2 (Z (aiA _ _ _) ?_)
   exact w1.code ko m2 g2 P2 st2 (xH hN m1.len)
  ·refine ⟨xH m1.len m2.len,λj o hj hh=>m2.at_ j o (λh=>?_) (m1.at_ j o hj hh)⟩
   exact h.elim (λe=>hj (.inl e)) λh=>(g1 j h).elim (λh=>hj (.inr h)) λl=>absurd (aS hh) (xX.mpr l)
  ·exact m2.at_ _ _ (λh=>h.elim ut λh=>(g1 _ h).elim uO λl=>absurd (aS hu) (xX.mpr l)) hu1
 ·obtain ⟨⟨o,eρ⟩,O1,w1,m1,g1,hu1⟩:=h
  subst eρ;rw[xJ,zc] at w1;exact ⟨hu1,q H1 o ⟨O1,w1,m1,g1,hu1⟩⟩
end
section
variable{σ:Type}{K:Sink σ}{r:Bool}{n N:Nat}{H:AH}{Q:AV->AH->Prop}{X:XF}{E:cG}{es:List (Int×AV)}{t fo L:Nat}{O:Nat->Prop}{s:σ}{outs:List (List UInt8)}
 {A:kN} {g:bC} {pr:Nat} {B:oR} {ps:List Nat} {kind lo:Int}
structure WJ(K:Sink σ)(E:cG)(A:kN)(g:bC)(pr:Nat)(B:oR)(ps:List Nat)(kind lo:Int)(fo L:Nat)(z:WS σ)(t:Nat)(O:Nat->Prop)(H0 H:AH):Prop where
 w:WI K E fo L z.outs z.s z.es t O H
 F:aQ E.N H A g pr
 S:bx E.N H B ps kind lo
 m:qU E.N H0 H
 len:E.N<=H.length
theorem adM(ok:g.Ok)(po:ia g ps)(j):(aD g ps j).length<=1000000:=by
 unfold aD mG;split
 ·exact (by decide:1<=1000000)
 ·exact xH (gR ok _ _ _) (xH (yD 4 po.three) (by decide))
theorem WJ.low{z:WS σ}(w:WJ K E A g pr B ps kind lo fo L z t O H0 H)(m:Mod P H H')(h:∀j,P j->E.N<=j):aQ E.N H' A g pr/\bx E.N H' B ps kind lo/\qU E.N H0 H'/\E.N<=H'.length:=
 (iu (w.F.mod m h) (w.S.mod m h) (w.m.trans (m.mono h)) (xH w.len m.len))
noncomputable abbrev tw(L:Nat)(iv:Int)(E:cG)(fo:Nat)(many:Nat)(o:Nat->Option AV):EV:=[J (.ref L),J (.int iv),J (.ref E.w),J (.ref fo),J (.int many),o 5,o 6,o 7,o 8,o 9]
theorem uf{a b:Nat}(t:a=b->x)(f:a≠b->y):dI x y ((a:Int)==(b:Int)):=.beq (λh=>t (zr.mp h)) λh=>f λe=>h (congrArg Ao e)
theorem akm{iv:Nat}{z:WS σ}{o:Nat->Option AV}{KK:KF}(ko:K.Ok r (n+2))(w:WJ K E A g pr B ps kind lo fo L z t O H0 H)(hl:z.outs.length+1<100)
  (q:∀H' t' O',WJ K E A g pr B ps kind lo fo L (dg K iv z) t' O' H0 H'->Mod (λj=>j=E.p\/j=fo\/O j) H H'->(t'=t\/H.length<=t')->iW O O' H->KK .next (tw L iv E fo (dg K iv z).many o) H'):
  bh (kW (aR (aa 1) (aH .Gt (af (.int 0)))) (aR (aa 4) (aH .Eq (aa 1))))
   (aq (aV (aJ (aa 3) 0 (ae (aJ (aa 2) 25 ar) ar))) (aq (aV (aJ (aa 2) 21 ar)) (aq (ak (aK 4) (af (.int 0))) aA))) aA
   (tb.sig r (n+5)) (tw L iv E fo z.many o) H KK X:=by
 have no:¬(0<iv/\z.many=iv)->KK .next (tw L iv E fo z.many o) H:=λh=>by
  have e:dg K iv z=z:=if_neg h;have:=q H t O (by refine Z e ?_;exact w) .refl (.inl rfl) λU=>.inl;rw[e] at this;exact this
 have yes:0<iv->z.many=iv->dg K iv z=⟨z.outs++[K.out z.s],K.vH z.s,[],0⟩:=λa b=>if_pos ⟨a,b⟩;refine .dec (λh0=>uf (λhe=>?_) λhe=>no λh=>he h.2) λh0=>.f (no λh=>h0 (x9.mpr h.1));have ec:=yes (x9.mp h0) he;obtain ⟨w0,F,S,m,len⟩:=id w;refine .append w0.hf (aN (k:=.run r) w0.eo.w rfl rfl (afV ko w0.eo w0.st λH1 O1 m1 g1 s1=>?_));have w1:=w0.fin ko m1 g1 s1 len;refine .append w1.hf (by refine Z (xJ _) ?_;exact yL w1.len (by decide)) λH2 u2=>?_;have w2:=w1.app ko u2 hl;have l1:=m1.len;have m12:Mod (λj=>j=E.p\/j=fo\/O j) H H2:=(m1.mono λj h=>.inr (.inr h)).trans (u2.mod (.inr (.inl rfl)));refine aN (k:=.run r) w2.eo.w rfl rfl (acM w2.eo w2.P λH3 t' m3 l3 P3=>?_);have w3:=w2.start ko m3 l3 P3 (xH len m12.len);have m13:=m12.trans (m3.mono λj h=>.inl h);have lo:∀j,(j=E.p\/j=fo\/O j)->E.N<=j:=λj h=>h.elim (λe=>e▸w0.eo.Np) λh=>h.elim (λe=>e▸w0.lf) (w0.hO j);refine sM (w.low m13 lo) λa b c d=>?_;have:=q H3 t' O1 (by refine Z ec ?_;exact ⟨w3,a,b,c,d⟩) m13 (.inr (xH m12.len l3)) g1;rw[ec] at this;exact this
theorem abN{iv:Nat}(ok:g.Ok)(po:ia g ps)(ko:K.Ok r (n+2))(eo:E.Ok K.aT H)(P:bB H E.p E.a.g E.kind E.mid t es)(st:K.St s O H)(F:aQ E.N H A g pr)(S:bx E.N H B ps kind lo)(hL:H[L]? =J (.gen 1 [.ref A.f,.ref B.s]))
  (hN:E.N<=H.length) (nt:E.N<=t) (lL:E.N<=L) (hO:∀j,O j->E.N<=j) (Ot:¬O t) (Op:¬O E.p) (Ow:¬O E.w) (OL:¬O L) (hv:∀j,j<aL g ps->we K E (aD g ps j) ((dg K iv (gC K E iv (aD g ps) s j)).s,(dg K iv (gC K E iv (aD g ps) s j)).es)) (hn:aL g ps<90)
  (q:∀H' fo O',qU E.N H H'->H'[fo]? =J (.list (((gC K E iv (aD g ps) s (aL g ps)).outs++[K.out (gC K E iv (aD g ps) s (aL g ps)).s]).map .bytes))->K.St (K.vH (gC K E iv (aD g ps) s (aL g ps)).s) O' H'->E.Ok K.aT H'->Q (.ref fo) H'):
  call (.run r) (n+6) 321 [.ref L,.int iv,.ref E.w] H Q X:=by
 refine enter [J (.ref L),J (.int iv),J (.ref E.w),Jw,Jw,Jw,Jw,Jw,Jw,Jw] rfl rfl rfl λfo H1 u1=>?_;have m1:Ext H H1:=u1.mod;have eo1:=eo.mod m1 (λU h=>h.elim) id;have P1:=P.mod m1 id id;have w0:WI K E fo L [] s es t O H1:=⟨eo1,P1,ko.mod _ _ _ _ _ st m1 λU U=>id,u1.self,⟨_,_,m1.get hL⟩,nt,hO,Ot,Op,Ow,λh=>absurd (ko.lt _ _ _ st _ h) (xX.mpr (u1.fG (xS _))),OL,u1.fG hN,lL,(by decide:0<100)⟩
 refine aN (k:=.run r) eo1.w rfl rfl (acM eo1 P1 λH2 t2 m2 l2 P2=>?_);have hN1:=xH hN m1.len;have w2:=w0.start ko m2 l2 P2 hN1;have lp:∀j,j=E.p->E.N<=j:=λj e=>e▸eo.Np;have m02:=m1.mod.trans (m2.mono lp);have j0:WJ K E A g pr B ps kind lo fo L (gC K E iv (aD g ps) s 0) t2 O H H2:=⟨w2,F.mod m02 λU h=>h,S.mod m02 λU h=>h,m02,xH hN m02.len⟩
 refine ac6 (A:=A) (pr:=pr) (B:=B) (kind:=kind) (lo:=lo) (N:=E.N) ok po (I:=λj ρ H'=>∃(o:Nat->Option AV) (t':Nat) (O':Nat->Prop),ρ=tw L iv E fo (gC K E iv (aD g ps) s j).many o/\(gC K E iv (aD g ps) s j).outs.length<=j/\WJ K E A g pr B ps kind lo fo L (gC K E iv (aD g ps) s j) t' O' H H')
  ⟨λj ρ H3 H4 k vs h m hg=>?_,λj ρ H3 h=>?_,λj ρ H3 h=>?_,λj ρ H3 h=>?_⟩ ⟨λU=>Jw,t2,O,rfl,xS _,j0⟩ ?_ (λj u ρ H3 H4 PP kk vs hj h m34 hu hu2 hg hP=>?_) λρ H3 h=>?_
 ·obtain ⟨o,t',O',e,l,w⟩:=h
  obtain ⟨a,b,c,d⟩:=w.low m λj e=>e▸w.w.lL;exact ⟨o,t',O',e,l,w.w.gen ko m (jj k vs hg),a,b,c,d⟩
 ·obtain ⟨o,t',O',e,l,w⟩:=h;exact w.F
 ·obtain ⟨o,t',O',e,l,w⟩:=h;exact w.S
 ·obtain ⟨o,t',O',e,l,w⟩:=h;exact w.len
 ·exact m2.at_ _ _ w0.Lp (m1.get hL)
 ·obtain ⟨o,t',O',e,l,w⟩:=h
  subst e;obtain ⟨a,b,c,d⟩:=w.low m34 λj e=>e▸w.w.lL;have w4:WJ K E A g pr B ps kind lo fo L (gC K E iv (aD g ps) s j) t' O' H H4:=⟨w.w.gen ko m34 (jj kk vs hg),a,b,c,d⟩
  have nu:∀{j:Nat} {o},H3[j]? =J o->u≠j:=λh e=>absurd (aS h) (xX.mpr (e▸hu));have nO:¬O' u:=λh=>absurd (ko.lt _ _ _ w.w.st _ h) (xX.mpr hu);have hv':=hv j hj;have ez:gC K E iv (aD g ps) s (j+1)=alW K E (aD g ps j) (dg K iv (gC K E iv (aD g ps) s j)):=rfl;have lc:(dg K iv (gC K E iv (aD g ps) s j)).outs.length<=j+1:=by
   unfold dg;split
   ·refine Z xK ?_;exact Bf l
   ·exact Ab l
  generalize gC K E iv (aD g ps) s j=z at*;show aq _ _ _ (tw L iv E fo z.many λi=>[J (.ref u),o 6,o 7,o 8,o 9].getD (i-5) Jw) _ _ _;refine q7 (akm ko w4 (xN (Bf l) (xO (Dp (yL hj hn)) (by decide))) λH5 t5 O5 w5 m5 ht g5=>?_);generalize dg K iv z=y at*;have nuf:=nu w.w.hf;have u5:=m5.at_ _ _ (λh=>h.elim (nu w.w.P.h1) λh=>h.elim nuf nO) hu2;have nu5:u≠t5:=ht.elim (λe=>e▸(let ⟨_,h⟩:=w.w.P.h2;nu h)) λl e=>absurd (aS hu2) (xX.mpr (e▸l));have nO5:¬O5 u:=λh=>(g5 _ h).elim nO λl=>absurd (aS hu2) (xX.mpr l);refine dS (q7 (akr ko w5.w w5.len u5 (adM ok po j) nu5 nO5 hv' λH6 o6 W=>?_));obtain ⟨O6,w6,m6,g6,hu6⟩:=W;have g6L:=m6.at_ _ _ (λh=>h.elim w5.w.Lt w5.w.OL) (m5.at_ _ _ (λh=>h.elim w4.w.Lp λh=>h.elim w4.w.Lf w4.w.OL) hg);obtain ⟨a,b,c,d⟩:=w5.low m6 λj h=>h.elim (λe=>e▸w5.w.nt) (w5.w.hO j);refine hP _ _ ?_ g6L;refine Z ez ?_;exact ⟨λi=>[J (.ref u),o6 6,o6 7,o6 8,o6 9].getD (i-5) Jw,t5,O6,rfl,lc,⟨w6,a,b,c,d⟩⟩
 ·obtain ⟨o,t',O',e,l,w⟩:=h
  subst e;refine .append w.w.hf (aN (k:=.run r) w.w.eo.w rfl rfl (afV ko w.w.eo w.w.st λH5 O5 m5 g5 s5=>?_));have w5:=w.w.fin ko m5 g5 s5 w.len;refine .append w5.hf (by refine Z (xJ _) ?_;exact yL w5.len (by decide)) λH6 u6=>?_;have w6:=w5.app ko u6 (xN (Bf l) (xO (Dp hn) (by decide)));have m6:=(m5.mono w.w.hO).trans (u6.mod w.w.lf);exact q H6 fo O5 (w.m.trans m6) w6.hf w6.st w6.eo
end
structure pW(ta:List (Int×Int)):Prop where
 nd:(ta.map (·.1)).Nodup
 pos:∀e∈ta,1<=e.2
 gB:∀e∈ta,0<=e.1/\e.1<=16
 len:ta.length<=17
noncomputable def fR(ta:List (Int×Int)):List (Int×AV):=ta.map λe=>(e.1,.int e.2)
structure CE where
 sp:Nat
 a:Nat
 ta:List (Int×Int)
 deriving Nonempty
noncomputable def qd(T:List CE):List (List Int×AV):=T.map λe=>([0,(e.sp:Int)],.ref e.a)
structure fQ(aT c:Nat)(T:List CE)(H:AH):Prop where
 h1:cS H aT 702 [(50,.ref c)]
 h2:(T=[]/\∃ep,H[c]? =J (.aP [] ep))\/(T≠[]/\H[c]? =J (.bD (qd T)))
 h3:∀e∈T,∃ep,H[e.a]? =J (.aP (fR e.ta) ep)
 ok:∀e∈T,pW e.ta
 nd:(T.map (·.sp)).Nodup
 na:(T.map (·.a)).Nodup
 ne:∀e∈T,e.a≠aT/\e.a≠c
 l3:∀e∈T,e.sp<3
section
variable{V:Type}{es:List (Int×V)}{k:Int}{v:V}
theorem hH:bj es k=true↔k∈es.map (·.1):=by
 unfold bj;rw[Cz,yg];exact ⟨λu6=>aO u6 λx h e=>⟨x,h,of_decide_eq_true e⟩,λy6=>aO y6 λx h e=>(aM x h (decide_eq_true e))⟩
theorem iE:(br es k v).map (·.1)=if bj es k then es.map (·.1) else es.map (·.1)++[k]:=by
 unfold br;refine Z (show (es.any λe=>e.1=k)=bj es k from rfl) ?_;cases h:bj es k with
 | true=>
  refine Z (if_pos rfl) (Z (if_pos rfl) (Z zh ?_));refine BC λx U=>?_;show (if x.1=k then (x.1,v) else x).1=x.1;split <;> rfl
 | false=>refine Z (if_neg x8) (Z (if_neg x8) (Z yq ?_));rfl
theorem jB(h:x∈br es k v):x∈es\/x=(k,v):=by
 unfold br at h;split at h
 ·obtain ⟨y,hy,rfl⟩:=yg.mp h
  by_cases e:y.1=k
  ·refine Z (if_pos e) (Z e ?_);exact .inr rfl
  ·refine Z (if_neg e) ?_;exact .inl hy
 ·rcases yz.mp h with h | h
  ·exact .inl h
  ·exact .inr (xV.mp h)
theorem aaP(h:(es.map (·.1)).Nodup):((br es k v).map (·.1)).Nodup:=by
 refine Z iE ?_;split
 ·exact h
 ·rename_i hk
  refine B9.mpr (bU h (CO _ _) (λa ha b hb e=>?_));rw[xV.mp hb] at e;exact hk (hH.mpr (e▸ha))
theorem ab1:k∈(br es k v).map (·.1):=by
 refine Z iE ?_;split
 ·rename_i h;exact hH.mp h
 ·exact Bh _ (.head _)
theorem ab0(h:a∈es.map (·.1)):a∈(br es k v).map (·.1):=by
 refine Z iE ?_;split
 ·exact h
 ·exact AP _ h
theorem afG(h:getKey es k=J v):(k,v)∈es:=by
 unfold getKey at h;obtain ⟨x,hx,rfl⟩:=yh.mp h;have:=CJ hx;refine Ql (of_decide_eq_true this) ?_;exact Bo hx
end
theorem adb(h:d.natAbs<=32768):0<=cat d/\cat d<=16:=by
 unfold cat;split
 ·exact ⟨by decide,by decide⟩
 ·rename_i e
  refine ⟨Int.le_add_one (nn _),Fu (yj.mpr (yb ((IM λq=>e (congrArg Ao q)).mpr (xN h (by decide))))) 1⟩
theorem pW.put{ta:List (Int×Int)}{s:Int}(h:pW ta)(h0:0<=s)(h16:s<=16):pW (br ta s ((getKey ta s).getD 0+1)):=by
 revert ta s;apply e2;intro U;apply(?Z:Tq U);intro ta s;intros;have nd:=aaP (k:=s) (v:=(getKey ta s).getD 0+1) h.nd;have rg:∀e∈br ta s ((getKey ta s).getD 0+1),0<=e.1/\e.1<=16:=λe he=>(jB he).elim (h.gB e) λq=>q▸⟨h0,h16⟩;refine ⟨nd,λe he=>(jB he).elim (h.pos e) λq=>q▸?_,rg,?_⟩
 ·show 1<=(getKey ta s).getD 0+1
  cases q:getKey ta s with
  | none=>decide
  | some c=>exact Int.le_add_of_nonneg_left (yG (by decide) (h.pos _ (afG q)))
 ·have:=nd.length_le_of_subset (l₂:=tab 17 λi=>(i:Int)) λa ha=>by
   obtain ⟨e,he,rfl⟩:=yg.mp ha;refine (rg e he).elim λr0 r1=>?_;refine yg.mpr (aM e.1.toNat (y5.mpr ((EM r0).mpr (Bi r1 (by decide)))) (zx r0))
  rw[xJ,aI] at this;exact this
theorem abZ{s n:Int}:br (fR ta) s (.int n)=fR (br ta s n):=by
 revert ta s n;apply e3;intro U;apply(?Z:Tq U);intro ta s n;intros;have e:bj (fR ta) s=bj ta s:=by unfold bj fR;refine Z List.any_map ?_;rfl
 unfold br;refine Z (show ((fR ta).any λe=>e.1=s)=bj ta s from e) (Z (show (ta.any λe=>e.1=s)=bj ta s from rfl) ?_);cases bj ta s with
 | true=>
  refine Z (if_pos rfl) (Z (if_pos rfl) ?_);unfold fR;refine Z zh (Z zh ?_);refine BC λx U=>?_;show (if x.1=s then (x.1,AV.int n) else (x.1,AV.int x.2))=((if x.1=s then (x.1,n) else x).1,AV.int (if x.1=s then (x.1,n) else x).2);split <;> rfl
 | false=>rw[if_neg x8,if_neg x8,fR,fR,yq];rfl
theorem acf{s:Int}:(getKey (fR ta) s).getD (.int 0)= .int ((getKey ta s).getD 0):=by
 unfold getKey fR;rw[BJ];show ((Iv _ (ta.find? λe=>decide (e.1=s))).map _).getD _=_;cases ta.find? λe=>decide (e.1=s) <;> rfl
noncomputable def oq(s:Int)(ta:List (Int×Int)):List (Int×Int):=br ta s ((getKey ta s).getD 0+1)
noncomputable def s9(a:Nat)(s:Int)(e:CE):CE:=⟨e.sp,e.a,if e.a=a then oq s e.ta else e.ta⟩
abbrev tc(aT c:Nat)(T:List CE)(j:Nat):Prop:=j=aT\/j=c\/∃e∈T,j=e.a
section
variable{r:Bool}{n:Nat}{H H':AH}{Q:AV->AH->Prop}{X:XF}{aT c:Nat}{T:List CE}
theorem anz(a)(s):qd (T.map (s9 a s))=qd T:=by unfold qd;refine Z zh ?_;rfl
theorem mU{l:List α}(h:(l.map f).Nodup)(hx:x∈l)(hy:y∈l)(e:f x=f y):x=y:=by
 induction l with
 | nil=>cases hx
 | cons z l ih=>
  refine (Bp.mp h).elim λh1 h2=>?_;rcases yu.mp hx with a | a <;> rcases yu.mp hy with b | b
  ·exact a.trans b.symm
  ·exact absurd (yg.mpr (aM y b (e.symm.trans (congrArg f a)))) h1
  ·exact absurd (yg.mpr (aM x a (e.trans (congrArg f b)))) h1
  ·exact ih h2 a b
theorem fQ.up(K:fQ aT c T H){e:CE}(he:e∈T){s:Int}(h0:0<=s)(h16:s<=16){ep:Nat}(u:Upd e.a (.aP (fR (oq s e.ta)) ep) H H'):fQ aT c (T.map (s9 e.a s)) H':=by
 have n1:=K.ne e he;refine ⟨u.ne _ _ n1.1.symm K.h1,?_,λx hx=>?_,λx hx=>?_,by refine Z zh ?_;exact K.nd,by refine Z zh ?_;exact K.na,λx hx=>?_,λx hx=>?_⟩
 ·refine Z (anz _ _) ?_
  exact K.h2.imp (λu6=>u6.rec λa U=>absurd he (a▸BH)) λv6=>v6.elim λa b=>⟨λq=>a (FA.mp q),u.ne _ _ n1.2.symm b⟩
 ·obtain ⟨y,hy,rfl⟩:=yg.mp hx
  by_cases q:y.a=e.a
  ·obtain rfl:=mU K.na hy he q
   refine ⟨ep,?_⟩;show H'[y.a]? =J (.aP (fR (if y.a=y.a then oq s y.ta else y.ta)) ep);refine Z (if_pos rfl) ?_;exact u.self
  ·obtain ⟨ep',h⟩:=K.h3 y hy
   refine ⟨ep',?_⟩;show H'[y.a]? =J (.aP (fR (if y.a=e.a then oq s y.ta else y.ta)) ep');refine Z (if_neg q) ?_;exact u.ne _ _ q h
 ·obtain ⟨y,hy,rfl⟩:=yg.mp hx
  show pW (if y.a=e.a then oq s y.ta else y.ta);split
  ·exact (K.ok y hy).put h0 h16
  ·exact K.ok y hy
 ·obtain ⟨y,hy,rfl⟩:=yg.mp hx;exact K.ne y hy
 ·obtain ⟨y,hy,rfl⟩:=yg.mp hx;exact K.l3 y hy
theorem fQ.new(K:fQ aT c T H)(u1:kM d (.aP [] 0) H H1)(u2:Upd c (.bD (qd (T++[⟨sp,d,[]⟩]))) H1 H')(h3:sp<3)(hn:sp∉T.map (·.sp)):fQ aT c (T++[⟨sp,d,[]⟩]) H':=by
 have cs:=K.h2.elim (λy6=>y6.elim λU z6=>z6.elim λU h=>ba K.h1 h (nf rfl)) λu7=>u7.rec λU h=>ba K.h1 h (nf rfl);have cd:d≠c:=λe=>K.h2.elim (λv7=>v7.elim λU y7=>y7.elim λU h=>u1.ne h e.symm) λz7=>z7.elim λU h=>u1.ne h e.symm;have nd:d∉T.map (·.a):=λh=>by
  refine aO (yg.mp h) λe he q=>?_;refine (K.h3 e he).elim λep h=>?_;exact u1.ne h q
 have app:∀{l:List Nat} {x:Nat},l.Nodup->x∉l->(l++[x]).Nodup:=λh n=>B9.mpr (bU h (CO _ _) (λa ha b hb e=>n (by rw[xV.mp hb] at e;exact e▸ha)));have cas:∀{P:CE->Prop},(∀e∈T,P e)->P ⟨sp,d,[]⟩->∀e∈T++[⟨sp,d,[]⟩],P e:=λh h' e he=>(yz.mp he).elim (h e) λq=>xV.mp q▸h';exact ⟨u2.ne _ _ cs (u1.old _ _ K.h1),.inr ⟨by simp,u2.self⟩,cas (λe he=>(K.h3 e he).elim λep h=>⟨ep,u2.ne _ _ (K.ne e he).2 (u1.old _ _ h)⟩) ⟨0,u2.ne _ _ cd u1.self⟩,cas K.ok ⟨.nil,nM,nM,yI _⟩,
  by refine Z yq ?_;exact app K.nd hn,by refine Z yq ?_;exact app K.na nd,cas K.ne ⟨(u1.ne K.h1).symm,cd⟩,cas K.l3 h3⟩
theorem agF:(∃e∈T,e.sp=sp/\getKey (qd T) [0,(sp:Int)]=J (.ref e.a))\/(sp∉T.map (·.sp)/\getKey (qd T) [0,(sp:Int)]=Jw):=by
 revert T sp;apply e2;intro U;apply(?Z:Tq U);intro T sp;intros;have z:getKey (qd T) [0,(sp:Int)]=(T.find? λe=>decide (e.sp=sp)).map λe=>.ref e.a:=by
  unfold getKey qd;rw[BJ,ER];have:((λe=>decide (e.1=[0,(sp:Int)]))∘λe:CE=>(([0,(e.sp:Int)],AV.ref e.a):List Int×AV))=λe=>decide (e.sp=sp):=funext λe=>by
   show decide ([0,(e.sp:Int)]=[0,(sp:Int)])=decide (e.sp=sp);exact decide_eq_decide.mpr ⟨λh=>zr.mp (Bl (Bl h).2).1,λh=>by exact Z h rfl⟩
  refine Z this ?_;rfl
 cases h:T.find? λe=>decide (e.sp=sp) with
 | none=>
  refine .inr ⟨λq=>?_,by refine Z z (Z h ?_);rfl⟩;refine aO (yg.mp q) λe he q=>?_;exact Ag.mp h e he (decide_eq_true q)
 | some e=>exact .inl (bJ e (Bo h) (of_decide_eq_true (CJ (p:=λe:CE=>decide (e.sp=sp)) h)) (by refine Z z (Z h ?_);rfl))
inductive apk(aT c:Nat)(T:List CE)(sp:Nat)(s:Int)(H H':AH):Prop
 | mk(T':List CE)(K:fQ aT c T' H')(m:Mod (tc aT c T) H H')(old:∀e∈T,∃e'∈T',e'.sp=e.sp/\∀x∈e.ta.map (·.1),x∈e'.ta.map (·.1))(new:∃e'∈T',e'.sp=sp/\s∈e'.ta.map (·.1))(g:iW (tc aT c T) (tc aT c T') H):apk aT c T sp s H H'
theorem alB{sp:Nat}{s:Int}(K:fQ aT c T H)(h3:sp<3)(h0:0<=s)(h16:s<=16)(q:∀H',apk aT c T sp s H H'->Q .none H'):call (.run r) (n+1) 685 [.ref aT,.tup [.int 0,.int sp],.int s] H Q X:=by
 revert r n H Q X aT c T sp s;apply rD;intro U;apply(?Z:Tq U);intro r n H Q X aT c T sp s;intros;refine enter [J (.ref aT),J (.tup [.int 0,.int sp]),J (.int s),Jw] rfl rfl rfl (cut (λρ' H'=>∃T' e,ρ'=[J (.ref aT),J (.tup [.int 0,.int sp]),J (.int s),J (.ref e.a)]/\e∈T'/\e.sp=sp/\fQ aT c T' H'/\Mod (tc aT c T) H H'/\(∀e∈T,e∈T')/\iW (tc aT c T) (tc aT c T') H) (λR hR=>?_) λρ' H1 h=>?_)
 ·refine .mk K.h1 rfl ?_
  have fresh:∀{d H1 H2} (u1:kM d (.aP [] 0) H H1),Upd c (.bD (qd (T++[⟨sp,d,[]⟩]))) H1 H2->sp∉T.map (·.sp)->R [J (.ref aT),J (.tup [.int 0,.int sp]),J (.int s),J (.ref d)] H2:=λu1 u2 hn=>
   hR _ _ (uN (T++[⟨sp,_,[]⟩]) ⟨sp,_,[]⟩ rfl (Bh _ (.head _)) rfl (K.new u1 u2 h3 hn) (u1.mod.trans (u2.mod (.inr (.inl rfl)))) (λe he=>AP _ he) (λj h=>h.elim (λe=>.inl (.inl e)) λh=>h.elim (λe=>.inl (.inr (.inl e))) λu6=>aO u6 λe he ej=>(yz.mp he).elim (λhe=>.inl (.inr (.inr (aM e he ej)))) λhe=>.inr (ej▸(xV.mp he▸u1.fG (xS _)))))
  rcases K.h2 with ⟨eT,ep,hc⟩ | ⟨nT,hc⟩
  ·subst eT
   exact .al5 hc λd H1 u1=>.al6 (u1.old _ _ hc) rfl λH2 u2=>fresh u1 u2 BH
  ·refine .al4 hc λd H1 u1=>?_
   have l9:(qd T).length<1000:=by
    have:=K.nd.length_le_of_subset (l₂:=yH 3) λx hx=>by
     obtain ⟨e,he,rfl⟩:=yg.mp hx;exact y5.mpr (K.l3 e he)
    rw[xJ,zM] at this;unfold qd;refine Z (xJ _) ?_;exact xN this (by decide)
   rcases agF (T:=T) (sp:=sp) with ⟨e,he,es,eg⟩ | ⟨hn,eg⟩
   ·exact .agb (u1.old _ _ hc) rfl l9 eg (hR _ _ (uN T e rfl he es ⟨u1.old _ _ K.h1,.inr ⟨nT,u1.old _ _ hc⟩,λe he=>(K.h3 e he).elim λep h=>⟨ep,u1.old _ _ h⟩,K.ok,K.nd,K.na,K.ne,K.l3⟩ u1.mod (λU h=>h) (λU=>.inl)))
   ·refine .agc (u1.old _ _ hc) rfl l9 eg λH2 u2=>fresh u1 ?_ hn
    have:br (qd T) [0,(sp:Int)] (.ref d)=qd (T++[⟨sp,d,[]⟩]):=by
     have hk:(qd T).any (λe=>decide (e.1=[0,(sp:Int)]))=false:=by
      unfold getKey at eg;rw[HF,Ag] at eg;exact AS.mpr eg
     unfold br;rw[if_neg (by rw[hk];exact x8),qd,qd,yq];rfl
    refine Ql this ?_;exact u2
 ·obtain ⟨T',e,rfl,he,es,K1,m1,hT,g1⟩:=h
  refine (K1.h3 e he).elim λep ha=>?_;refine iR.get ha (.vR ha ?_);refine Z acf ?_;have l9:(fR e.ta).length<1000:=by unfold fR;refine Z (xJ _) ?_;exact xN (K1.ok e he).len (by decide)
  refine .aP ha l9 λep' H2 u2=>?_;rw[abZ] at u2;have sub:∀x,∀y∈x.ta.map (·.1),y∈(s9 e.a s x).ta.map (·.1):=λx y hy=>by
   show y∈(if x.a=e.a then oq s x.ta else x.ta).map (·.1);split
   ·exact ab0 hy
   ·exact hy
  refine q H2 ⟨T'.map (s9 e.a s),K1.up he h0 h16 u2,m1.grow (u2.mod (P:=λj=>j=e.a) rfl |>.mono λj (h:j=e.a)=>(.inr (.inr (aM e he h)):tc aT c T' j)) g1 λU=>id,λx hx=>(bJ (s9 e.a s x) (yg.mpr (aM x (hT x hx) rfl)) rfl (sub x)),⟨s9 e.a s e,yg.mpr (aM e he rfl),es,?_⟩,λj h=>g1 j (h.imp id (Or.imp id λy6=>aO y6 λx hx ej=>aO (yg.mp hx) λy hy q=>(aM y hy (by refine Z ej (Ql q ?_);rfl))))⟩;show s∈(if e.a=e.a then oq s e.ta else e.ta).map (·.1);refine Z (if_pos rfl) ?_;exact ab1
end
inductive Inter{α:Type}:List α->List α->List α->Prop
 | nil:Inter [] [] []
 | l{a b r:List α}(x:α)(h:Inter a b r):Inter (a++[x]) b (r++[x])
 | r{a b r:List α}(x:α)(h:Inter a b r):Inter a (b++[x]) (r++[x])
theorem Inter.len{a b r:List α}(h:Inter a b r):r.length=a.length+b.length:=by
 induction h with
 | nil=>rfl
 | l x h ih=>rw[xK,xK,ih];exact (AE _ _ _)
 | r x h ih=>rw[xK,xK,ih];exact (zf _ _ _)
theorem Inter.mem{a b r:List α}(h:Inter a b r):∀x∈r,x∈a\/x∈b:=by
 induction h with
 | nil=>exact λx hx=>.inl hx
 | l y h ih=>exact λx hx=>(yz.mp hx).elim (λhx=>(ih x hx).imp (AP _) id) λhx=>.inl (Bh _ hx)
 | r y h ih=>exact λx hx=>(yz.mp hx).elim (λhx=>(ih x hx).imp id (AP _)) λhx=>.inr (Bh _ hx)
theorem Inter.map{a b r:List α}(f:α->β)(h:Inter a b r):Inter (a.map f) (b.map f) (r.map f):=by
 induction h with
 | nil=>exact .nil
 | l x h ih=>rw[yq,yq];exact .l _ ih
 | r x h ih=>rw[yq,yq];exact .r _ ih
theorem Inter.take{a b r:List α}(h:Inter a b r):∀K,K<=r.length->∃i j,i+j=K/\i<=a.length/\j<=b.length/\Inter (a.take i) (b.take j) (r.take K):=by
 induction h with
 | nil=>intro K hK;exact ⟨0,0,(IP.mp hK).symm,xS _,xS _,by rw[FP,FP];exact .nil⟩
 | @l a b r x h ih=>
  intro K hK;by_cases e:K<=r.length
  ·refine qj (ih K e) λi j e1 e2 e3 e4=>?_
   refine (mZ i j e1 (by rw[xK];exact Be e2) e3 ?_);rw[BR e2,BR e];exact e4
  ·have:K=r.length+1:=yW (by rw[xK] at hK;exact hK) (EB e)
   refine (mZ (a.length+1) b.length (by rw[this,h.len,AE]) (by rw[xK];exact xS _) (xS _) ?_);rw[zc,zV (by rw[xK];exact xS _),zV (by rw[this,xK];exact xS _)];exact .l x h
 | @r a b r x h ih=>
  intro K hK;by_cases e:K<=r.length
  ·refine qj (ih K e) λi j e1 e2 e3 e4=>?_
   refine (mZ i j e1 e2 (by rw[xK];exact Be e3) ?_);rw[BR e3,BR e];exact e4
  ·have:K=r.length+1:=yW (by rw[xK] at hK;exact hK) (EB e)
   refine (mZ a.length (b.length+1) (by rw[this,h.len,zf]) (xS _) (by rw[xK];exact xS _) ?_);rw[zc,zV (by rw[xK];exact xS _),zV (by rw[this,xK];exact xS _)];exact .r x h
noncomputable def il:List (List Int)->List (List Int)
 | x::y::r=>(x++y)::il r
 | _=>[]
noncomputable def f5(s:Int)(l:List (List Int)):Nat:=(l.map (List.count s)).sum
theorem mq(s)(a b):f5 s (a++b)=f5 s a+f5 s b:=by unfold f5;rw[yq,List.sum_append_nat]
theorem Inter.f5{a b r:List (List Int)}(h:Inter a b r)(s):f5 s r=f5 s a+f5 s b:=by
 induction h with
 | nil=>rfl
 | l x h ih=>rw[mq,mq,ih,AE]
 | r x h ih=>rw[mq,mq,ih,zf]
theorem fv:∀l,(il l).length=l.length / 2
 | []=>rfl
 | [_]=>(EC (yM 1)).symm
 | x::y::r=>by
  show (il r).length+1=(r.length+2) / 2;rw[fv r,Nat.add_div_right _ (by decide)]
theorem acY(s):∀l j,2*j<=l.length->f5 s ((il l).take j)=f5 s (l.take (2*j))
 | _,0,_=>rfl
 | x::y::r,j+1,h=>by
  show f5 s ((x++y)::(il r).take j)=f5 s (x::y::r.take (2*j));have ih:=acY s r j (BW (BW h));unfold f5 at*;rw[yP,zB,ih,Gb,yP,yP,zB,zB,zf]
 | [],j+1,h=>absurd h (IL _)
 | [_],j+1,h=>absurd (BW h) (IL _)
noncomputable def wt(t o:Nat):Nat:=2^(t+1)-2^(t+1-o)
theorem amA(t o):wt t o+2^(t+1-o)=2^(t+1):=BV (zS (by decide) (zR _ _))
theorem aki(t o):wt (t+1) (o+1)=2^(t+1)+wt t o:=by
 unfold wt;rw[Di,AM 2 (t+1),Eb,Ef (zS (by decide) (zR _ _))]
theorem akj(t o)(h:o<=t+1):wt t o<=wt (t+1) o:=by
 unfold wt;rw[Gj h,AM 2 (t+1),AM 2 (t+1-o),<-Nat.sub_mul];exact HS _ (by decide)
theorem ain{C:List Int}{f g:Int->Nat}(h:∀s∈C,f s<=g s):(C.map f).sum<=(C.map g).sum:=by
 induction C with
 | nil=>exact xS _
 | cons a r ih=>rw[yP,yP,zB,zB];exact yZ (h a (.head _)) (ih λs hs=>h s (.tail _ hs))
theorem sum_add(C:List Int)(f g:Int->Nat):(C.map λs=>f s+g s).sum=(C.map f).sum+(C.map g).sum:=by
 induction C with
 | nil=>rfl
 | cons a r ih=>rw[yP,yP,yP,zB,zB,zB,ih,Fs]
theorem aky(C:List Int)(f)(m:Nat):(C.map λs=>f s*m).sum=(C.map f).sum*m:=by
 induction C with
 | nil=>exact (Bw m).symm
 | cons a r ih=>rw[yP,yP,zB,zB,ih,Dx]
theorem acP(C:List Int)(m):(C.map λU=>m).sum=C.length*m:=by
 induction C with
 | nil=>exact (Bw m).symm
 | cons a r ih=>rw[yP,zB,ih,Ak,EJ,yE]
theorem amI(x)(S:List Int):(S.map λs=>if x==s then 1 else 0).sum=S.count x:=by
 induction S with
 | nil=>rfl
 | cons a r ih=>
  rw[yP,zB,ih,DB,yE];by_cases e:x=a
  ·rw[e]
  ·rw[if_neg (λq=>e (beq_iff_eq.mp q)),if_neg (λq=>e (beq_iff_eq.mp q).symm)]
theorem acO{S:List Int}(nd:S.Nodup):∀{L:List Int},(∀x∈L,x∈S)->(S.map λs=>L.count s).sum=L.length
 | [],_=>acP S 0
 | x::L,h=>by
  have:(λs=>(x::L).count s)=λs=>L.count s+if x==s then 1 else 0:=funext λs=>DB
  rw[this,sum_add,acO nd λy hy=>h y (.tail _ hy),amI,nd.count,if_pos (h x (.head _))];rfl
theorem agk(s)(L:List Int):f5 s (L.map λi=>[i])=L.count s:=by
 induction L with
 | nil=>rfl
 | cons a r ih=>
  show [a].count s+f5 s (r.map λi=>[i])=_;rw[ih,DB,DB,yE,List.count_nil,zj]
structure Pfx(S:List Int)(t:Nat)(row:List (List Int)):Prop where
 sum:∀K,K<=row.length->K*2^t<=(S.map λs=>wt t (f5 s (row.take K))).sum
 le:∀s K,f5 s (row.take K)<=t+1
 mem:∀c∈row,∀s∈c,s∈S
inductive Rw(S:List Int):Nat->List (List Int)->Prop
 | z:Rw S 0 (S.map λi=>[i])
 | s{t:Nat}{row row':List (List Int)}(h:Rw S t row)(i:Inter (S.map λi=>[i]) (il row) row'):Rw S (t+1) row'
theorem kV:∀{l:List (List Int)} {c:List Int},c∈il l->∃x y,x∈l/\y∈l/\c=x++y
 | x::y::_,_,h=>(yu.mp h).elim (λh=>(k4 x y (.head _) (.tail _ (.head _)) h)) λh=>(kV h).elim λa u6=>u6.elim λb v6=>v6.elim λha y6=>y6.elim λhb e=>(k4 a b (.tail _ (.tail _ ha)) (.tail _ (.tail _ hb)) e)
theorem gU(S:List Int)(nd:S.Nodup)(i)(s):f5 s ((S.map λi=>[i]).take i)<=1:=by
 rw[<-FQ,agk];exact xH ((List.take_sublist i S).count_le s) (by rw[nd.count];split <;> decide)
theorem abk(S:List Int)(nd:S.Nodup)(i)(h:i<=S.length):(S.map λs=>f5 s ((S.map λi=>[i]).take i)).sum=i:=by
 have:(λs=>f5 s ((S.map λi=>[i]).take i))=λs=>(S.take i).count s:=funext λs=>by rw[<-FQ,agk]
 rw[this,acO nd λx hx=>zD hx,Ai,Bt h]
theorem Rw.wJ{S:List Int}(nd:S.Nodup):∀{t:Nat} {row:List (List Int)},Rw S t row->Pfx S t row:=λh=>by
 induction h with
 | z=>
  refine ⟨λK hK=>?_,λs K=>gU S nd K s,λc hc s hs=>?_⟩
  ·rw[xJ] at hK
   rw[Nat.pow_zero,Nat.mul_one];refine xH (yQ (abk S nd K hK).symm) (ain λs U=>?_);have:=gU S nd K s
   match f5 s ((S.map λi=>[i]).take K),this with
   | 0,_=>exact yI _
   | 1,_=>decide
  ·obtain ⟨x,hx,rfl⟩:=yg.mp hc
   exact xV.mp hs▸hx
 | @s t row row' _ I ih=>
  have key:∀{i j K},i+j=K->i<=S.length->j<=(il row).length->Inter ((S.map λi=>[i]).take i) ((il row).take j) (row'.take K)->∀s,f5 s (row'.take K)=f5 s ((S.map λi=>[i]).take i)+f5 s (row.take (2*j)):=λ{i j K} U U hj I' s=>by
   rw[I'.f5 s,acY s row j (by rw[fv] at hj;exact xH (yD 2 hj) (Fq _ 2))]
  have lenS:=xJ (as:=S) λi=>[i]
  refine ⟨λK hK=>?_,λs K=>?_,λc hc s hs=>?_⟩
  ·refine qj (I.take K hK) λi j e1 e2 e3 I'=>?_
   rw[lenS] at e2;have h2j:2*j<=row.length:=by rw[fv] at e3;exact xH (yD 2 e3) (Fq _ 2)
   have a:=ih.sum (2*j) h2j;have b:(S.map λs=>f5 s ((S.map λi=>[i]).take i)*2^(t+1)+wt t (f5 s (row.take (2*j)))).sum<=(S.map λs=>wt (t+1) (f5 s (row'.take K))).sum:=ain λs U=>by
    rw[key e1 e2 e3 I' s];have l1:=gU S nd i s
    match f5 s ((S.map λi=>[i]).take i),l1 with
    | 0,_=>rw[Bw,zj,zj];exact akj _ _ (ih.le s _)
    | 1,_=>rw[CU,yE 1,aki];exact xS _
   refine xH ?_ b;rw[sum_add,aky,abk S nd i e2,<-e1,Dx];refine yf (xH (yQ ?_) a) _;rw[AM,AN (2^t) 2,<-Dv,AN j 2]
  ·have red:f5 s (row'.take K)=f5 s (row'.take (min K row'.length)):=by rw[<-List.take_eq_take_min]
   rw[red];refine qj (I.take (min K row'.length) (BP ..)) λi j e1 e2 e3 I'=>?_;rw[lenS] at e2;rw[key e1 e2 e3 I' s,yE];exact yZ (ih.le s _) (gU S nd i s)
  ·rcases I.mem c hc with h | h
   ·obtain ⟨x,hx,rfl⟩:=yg.mp h
    exact xV.mp hs▸hx
   ·obtain ⟨x,y,hx,hy,rfl⟩:=kV h
    exact (yz.mp hs).elim (ih.mem x hx s) (ih.mem y hy s)
noncomputable def sX(n:Nat):Nat->Nat
 | 0=>n
 | t+1=>n+sX n t / 2
theorem Rw.len{row:List (List Int)}(h:Rw S t row):row.length=sX S.length t:=by
 induction h with
 | z=>exact xJ _
 | s h i ih=>rw[i.len,fv,ih,xJ];rfl
theorem Rw.sym{t:Nat}{row:List (List Int)}(h:Rw S t row):∀c∈row,c.length<=2^t:=by
 induction h with
 | z=>
  intro c hc;obtain ⟨x,hx,rfl⟩:=yg.mp hc;exact xS _
 | s h i ih=>
  intro c hc;rw[AM,Eb];rcases i.mem c hc with h | h
  ·obtain ⟨x,hx,rfl⟩:=yg.mp h
   exact xH Jo (x7 _ _)
  ·obtain ⟨x,y,hx,hy,rfl⟩:=kV h
   rw[xK];exact yZ (ih x hx) (ih y hy)
theorem ai9:∀n<19,2*n-2<=sX n 15/\sX n 15<=1000:=by decide
theorem agu(n):∀t,sX n t<=2*n
 | 0=>Nat.le_mul_of_pos_left _ (by decide)
 | t+1=>by
  show n+sX n t / 2<=2*n;rw[Nat.two_mul];exact yf (IS (agu n t)) n
theorem aio{S:List Int}{f:Int->Nat}(ha:a∈S):f a<=(S.map f).sum:=by
 induction S with
 | nil=>cases ha
 | cons b r ih=>
  rw[yP,zB];rcases yu.mp ha with rfl | h
  ·exact x7 _ _
  ·exact xH (ih h) (zJ _ _)
theorem Rw.rX{S:List Int}{row:List (List Int)}(nd:S.Nodup)(h:Rw S 15 row)(hn:S.length<19)(h1:1<=S.length):(S.map λs=>2^(16-f5 s (row.take (2*S.length-2)))).sum<=2^16:=by
 revert S row;apply e2;intro U;apply(?Z:Tq U);intro S row;intros;have P:=h.wJ nd;have a:=P.sum (2*S.length-2) (by rw[h.len];exact (ai9 _ hn).1);have b:=sum_add S (λs=>wt 15 (f5 s (row.take (2*S.length-2)))) λs=>2^(16-f5 s (row.take (2*S.length-2)));have c:(λs=>wt 15 (f5 s (row.take (2*S.length-2)))+2^(16-f5 s (row.take (2*S.length-2))))=λU=>2^16:=funext λs=>amA 15 _;rw[c,acP] at b;obtain ⟨m,hm⟩:∃m,S.length=m+1:=⟨S.length-1,(BV h1).symm⟩
 rw[hm] at a b ⊢;have e:(2*(m+1)-2)*2^15=m*2^16:=by
  rewrite[show 2*(m+1)-2=2*m from rfl,AN 2 m,Dv];rfl
 rw[e] at a;rw[Dx,CU] at b;exact Nat.le_of_add_le_add_left (a:=m*2^16) (xH (yR a _) (yQ b.symm))
structure bE where
 w:Int
 a:Nat
 s:List Int
 deriving Nonempty
noncomputable def bE.av(c:bE):AV:=.tup [.int c.w,.ref c.a]
def jh(H:AH)(R:List bE):Prop:=∀c∈R,H[c.a]? =J (.list (c.s.map .int))
theorem jh.ext(h:jh H R)(m:Ext H H'):jh H' R:=λc hc=>m.get (h c hc)
theorem eC(u:kM L o H0 H1)(m:Mod (λj=>j=L) H1 H'):Ext H0 H':=⟨xH (u.len▸yY _) m.len,λU U U h=>m.at_ _ _ (u.ne h) (u.old _ _ h)⟩
section
variable{r:Bool}{n:Nat}{H:AH}{Q:AV->AH->Prop}{X:XF}{A B:List bE}{la lb:Nat}
theorem qv(h:k<n)(hn:n<=1000):(k:Int)<1000000:=x9.mpr (xO h (xH hn (by decide)))
theorem jf(h:i<A.length):(A.map bE.av)[i]? =J A[i].av:=by rw[yA,xR h];rfl
theorem dP(h:A.length<=m):(A.map bE.av).length<=m:=by refine Z (xJ _) ?_;exact h
theorem ahq(ha:H[la]? =J (.list (A.map bE.av)))(hb:H[lb]? =J (.list (B.map bE.av)))(lA:A.length<=1000)(lB:B.length<=1000)
  (q:∀H' L R,Ext H H'->H'[L]? =J (.list (R.map bE.av))->Inter A B R->Q (.ref L) H'):call (.run r) (n+1) 562 [.ref la,.ref lb] H Q X:=by
 revert r n H Q X A B la lb;apply e9;intro U;apply(?Z:Tq U);intro r n H Q X A B la lb;intros;refine enter [J (.ref la),J (.ref lb),Jw,Jw,Jw] rfl rfl rfl λL H0 u=>?_;refine jU (λm ρ H'=>∃i j R,ρ=[J (.ref la),J (.ref lb),J (.ref L),J (.int (i:Nat)),J (.int (j:Nat))]/\i<=A.length/\j<=B.length/\m=(A.length-i)+(B.length-j)/\Mod (λj=>j=L) H0 H'/\H'[L]? =J (.list (R.map bE.av))/\Inter (A.take i) (B.take j) R)
  ⟨0,0,[],rfl,yI _,yI _,rfl,.refl,u.self,.nil⟩ λm ρ H1 P h hP=>?_
 obtain ⟨i,j,R,rfl,hi,hj,em,m1,hL,hI⟩:=h;have m9:=eC u m1;have ha1:=m9.get ha;have hb1:=m9.get hb;have eA:=xJ (as:=A) bE.av;have eB:=xJ (as:=B) bE.av;have kA:=dP (xH lA (by decide:1000<=1000000));have kB:=dP (xH lB (by decide:1000<=1000000));have lR:(R.map bE.av).length<1000000:=by
  refine Z (xJ _) (Z hI.len (Z Ai (Z Ai ?_)));exact xN (yZ (xH (BP ..) lA) (xH (BP ..) lB)) (by decide)
 have toL:∀{x:Nat},(x:Int)<(A.map bE.av).length->x<A.length:=λh=>by rw[eA] at h;exact x9.mp h
 have toR:∀{x:Nat},(x:Int)<(B.map bE.av).length->x<B.length:=λh=>by rw[eB] at h;exact x9.mp h
 have pL:∀hi H2,Upd L (.list (R.map bE.av++[A[i].av])) H1 H2->P [J (.ref la),J (.ref lb),J (.ref L),J (.int ((i:Int)+1)),J (.int (j:Nat))] H2:=λhi H2 u2=>
  hP _ _ _ (em▸IT (IK _ _ hi) _) ⟨i+1,j,R++[A[i]],rfl,hi,hj,rfl,m1.trans (u2.mod rfl),by refine Z yq ?_;exact u2.self,by refine Ql (zm hi) ?_;exact .l _ hI⟩
 have pR:∀hj H2,Upd L (.list (R.map bE.av++[B[j].av])) H1 H2->P [J (.ref la),J (.ref lb),J (.ref L),J (.int (i:Nat)),J (.int ((j:Int)+1))] H2:=λhj H2 u2=>
  hP _ _ _ (em▸Bc (IK _ _ hj) _) ⟨i,j+1,R++[B[j]],rfl,hi,hj,rfl,m1.trans (u2.mod rfl),by refine Z yq ?_;exact u2.self,by refine Ql (zm hj) ?_;exact .r _ hI⟩
 refine (λ(body:i<A.length\/j<B.length->_)=>.dO ha1 kA (.dec (λh=>.t (body (.inl (toL h)))) λh=>.dO hb1 kB (.dec (λh'=>body (.inr (toR h'))) λh'=>?fin))) ?body
 case fin=>
  rw[eA] at h;rw[eB] at h';have ei:=yW hi (xX.mp λq=>h (x9.mpr q));have ej:=yW hj (xX.mp λq=>h' (x9.mpr q));subst ei;subst ej;rw[zc,zc] at hI;exact q H1 L R m9 hL hI
 intro h;refine (λstepL stepR=>.dO hb1 kB (.beq (λe=>.t (stepL (h.resolve_right λq=>?_))) λe=>.dO ha1 kA (.dec (λh'=>.list ha1 (nn i) (qv (toL h') lA) (jf (toL h')) (.qY (.list hb1 (nn j) (qv ?_ lB) (jf ?_) (.qY (.dec (λU=>stepL (toL h')) λU=>stepR ?_))))) λh'=>.f (stepR ?_)))) (λhi=>.append hL (.list ha1 (nn i) (qv hi lA) (jf hi) (.append hL lR λH2 u2=>pL hi H2 u2))) λhj=>.append hL (.list hb1 (nn j) (qv hj lB) (jf hj) (.append hL lR λH2 u2=>pR hj H2 u2))
 ·rw[eB] at e;exact absurd q (zr.mp e▸zU _)
 all_goals exact DZ hj λq=>e (by refine Z eB ?_;exact congrArg Ao q)
end
theorem afl:∀n:Nat,yV 0 ((n:Int)-1) 2=(n / 2:Nat)
 | 0=>rfl
 | 1=>rfl
 | m+2=>by
  unfold yV;have e:=Ah ((m+1:Nat):Int) 1;refine Z (if_pos (by decide)) (Z e (Z (if_pos (show (0:Int)<((m+1:Nat):Int) from x9.mpr (Af m))) (Z (Nat.add_div_right _ (by decide)) ?_)));exact Z (show ((m+1:Nat):Int)-0-1=(m:Nat) from (congrArg (· -1) (EN _)).trans (Ah (m:Int) 1)) rfl
theorem apn(n:Nat):(bX 0 ((n:Int)-1) 2).map AV.int=tab (n / 2) λi=>.int (2*i:Nat):=by
 unfold bX tab;refine Z (afl _) (Z (Gn _) (Z zh ?_));refine congrArg (λf=>Hc f (yH (n / 2))) (funext λi=>?_);show AV.int (0+2*(i:Nat))=_;exact Z (Int.zero_add _) rfl
theorem acZ:∀l i {x y:List Int},l[2*i]? =J x->l[2*i+1]? =J y->(il l)[i]? =J (x++y)
 | a::b::l,0,_,_,h,h'=>by cases h;cases h';rfl
 | a::b::l,i+1,_,_,h,h'=>acZ l i h h'
 | [],_,_,_,h,_=>by cases h
 | [_],_,_,_,_,h'=>by cases h'
theorem amC(h:i<n / 2):2*i+1<n:=xO (yM _) (xH (yD 2 (D9 h)) (Fq n 2))
section
variable{r:Bool}{n:Nat}{H:AH}{Q:AV->AH->Prop}{X:XF}{A:List bE}{la:Nat}
structure iq(H:AH)(l:Nat)(A:List bE):Prop where
 at_:H[l]? =J (.list (A.map bE.av))
 co:jh H A
theorem iq.ext(h:iq H l A)(m:Ext H H'):iq H' l A:=⟨m.get h.1,h.2.ext m⟩
theorem iq.snoc{c:bE}(h:iq H0 L R)(ne:∀c∈R,c.a≠L)(u1:kM c.a (.list (c.s.map .int)) H0 H1)(u2:Upd L (.list (R.map bE.av++[c.av])) H1 H2):iq H2 L (R++[c])/\(∀x∈R++[c],x.a≠L):=by
 have n1:=(u1.ne h.1).symm;refine ⟨⟨by exact Z yq u2.self,λx hx=>?_⟩,λx hx=>?_⟩
 ·rcases yz.mp hx with hx | hx
  ·exact u2.ne _ _ (ne x hx) (u1.old _ _ (h.2 x hx))
  ·exact Z (xV.mp hx) (u2.ne _ _ n1 u1.self)
 ·exact (yz.mp hx).elim (ne x) λhx=>xV.mp hx▸n1
theorem ahh(ha:iq H la A)(lA:A.length<=1000)(hb:∀c∈A,c.s.length<=b)(h2:b+b<=1000000)
  (q:∀H' L R,Ext H H'->iq H' L R->R.map bE.s=il (A.map bE.s)->Q (.ref L) H'):call (.run r) (n+1) 569 [.ref la] H Q X:=by
 revert r n H Q X A la b;apply e8;intro U;apply(?Z:Tq U);intro r n H Q X A la b;intros;refine enter [J (.ref la),Jw,Jw,Jw,Jw] rfl rfl rfl λL H0 u=>?_;have eA:=xJ (as:=A) bE.av;have kA:=dP (xH lA (by decide:1000<=1000000));refine .dO (u.old _ _ ha.1) kA (.aiG (by decide) (by decide) (.items (.gB ⟨by decide,by decide⟩ ⟨Ct (AF (by decide) (nn _)),yG (Bu _ (by decide)) (yj.mpr kA)⟩ (by decide) (by decide) ?_)));show forL _ _ _ ((bX 0 (((A.map bE.av).length:Int)-1) 2).map AV.int) _ _;refine Z (apn _) (Z eA ?_);refine ny (λi ρ H'=>(∃o:Nat->Option AV,ρ=[J (.ref la),J (.ref L),o 2,o 3,o 4])/\∃R,Mod (λj=>j=L) H0 H'/\iq H' L R/\(∀c∈R,c.a≠L)/\R.length=i/\R.map bE.s=(il (A.map bE.s)).take i) ⟨⟨λU=>Jw,rfl⟩,(uP [] (.refl) ⟨u.self,nM⟩ nM rfl rfl)⟩ (λi v ρ H1 P hv h hP=>?_) λρ H1 h=>⟨trivial,?_⟩
 ·obtain ⟨hi,rfl⟩:=tabAt hv
  refine Qc λU u6=>?_;obtain ⟨⟨o,rfl⟩,R,m1,hR,ne,lR,eR⟩:=h;refine u6 ?_;have s6:=amC hi;have hi0:=Ed s6;have ha1:=ha.ext (eC u m1);have k0:(((2*i:Nat):Int)+1)=((2*i+1:Nat):Int):=rfl;refine ⟨trivial,.list ha1.1 (nn _) (qv hi0 lA) (jf hi0) (.list ha1.1 (nn (2*i+1)) (qv s6 lA) (jf s6) (.append hR.1 (.qY (.qY (.uC (.uC ⟨_,_,ha1.2 _ (zy hi0),ha1.2 _ (zy s6),?_,λa H2 u2=>.append (u2.old _ _ hR.1) ?_ λH3 u3=>hP _ _ ⟨⟨λj=>[J (.int (2*i:Nat)),J A[2*i].av,J A[2*i+1].av].getD (j-2) Jw,rfl⟩,⟨R++[⟨A[2*i].w+A[2*i+1].w,a,A[2*i].s++A[2*i+1].s⟩],?_⟩⟩⟩))))))⟩
  ·exact Z (xJ _) (Z (xJ _) (xH (yZ (hb _ (zy hi0)) (hb _ (zy s6))) h2))
  ·exact Z (xJ _) (Z lR (xO hi (xH (DI _ _) (xH lA (by decide)))))
  ·rw[<-yq] at u2
   obtain ⟨r1,r2⟩:=hR.snoc (c:=⟨A[2*i].w+A[2*i+1].w,a,A[2*i].s++A[2*i+1].s⟩) ne u2 u3;refine ⟨m1.trans (u2.mod.trans (u3.mod rfl)),r1,r2,by exact Z xK (Z lR rfl),?_⟩;have g0:(A.map bE.s)[2*i]? =J A[2*i].s:=by rw[yA,xR hi0];rfl
   have g1:(A.map bE.s)[2*i+1]? =J A[2*i+1].s:=by rw[yA,xR s6];rfl
   exact Z yq (Z eR (Z List.take_add_one (Z (acZ _ _ g0 g1) rfl)))
 ·rw[aI] at h
  refine Qc λU v6=>?_;obtain ⟨⟨o,rfl⟩,R,m1,hR,_,_,eR⟩:=h;refine v6 ?_;rw[zV (by exact Z (fv _) (Z (xJ _) (xS _)))] at eR;exact q H1 L R (eC u m1) hR eR
end
theorem jd{k:Int}{v:V}(nd:(es.map (·.1)).Nodup)(h:(k,v)∈es):getKey es k=J v:=by
 induction es with
 | nil=>cases h
 | cons e es ih=>
  refine (Bp.mp nd).elim λh1 h2=>?_;unfold getKey;rcases yu.mp h with a | a
  ·rw[<-a,EE (p:=λe:Int×V=>decide (e.1=k)) (decide_eq_true (rfl:k=k))];rfl
  ·rw[HW (p:=λe:Int×V=>decide (e.1=k)) λq=>h1 (yg.mpr (aM _ a ((of_decide_eq_true q:e.1=k).symm)))]
   exact ih h2 a
theorem jc{e:Int×Int}(nd:(ta.map (·.1)).Nodup)(h:e∈ta):getKey (fR ta) e.1=J (.int e.2):=
 jd (by unfold fR;exact Z zh nd) (yg.mpr (aM e h rfl))
theorem aik(h:((fR ta).map λe=>AV.int e.1)[j]? =J v):∃hj:j<ta.length,v= .int ta[j].1:=by
 unfold fR at h;rw[zh,yA] at h;refine aO (yh.mp h) λe h1 h2=>?_;refine (xQ.mp h1).elim λhj q=>?_;exact ⟨hj,by exact Z q h2.symm⟩
theorem dT{l:List α}(f:α->β)(h):(l.take (j+1)).map f=(l.take j).map f++[f l[j]]:=by exact Ql (zm h) (Z yq rfl)
theorem gY{l:List α}(h:(l.map f)[j]? =J v):∃hj:j<l.length,v=f l[j]:=by
 rw[yA] at h;refine aO (yh.mp h) λe h1 h2=>?_;refine (xQ.mp h1).elim λhj q=>?_;exact ⟨hj,by exact Z q h2.symm⟩
section
variable{r:Bool}{n:Nat}{H:AH}{Q:AV->AH->Prop}{X:XF}{d ep:Nat}{ta:List (Int×Int)}
theorem af1(h:ta.length<=m):((fR ta).map λe=>AV.int e.1).length<=m:=by unfold fR;exact Z (xJ _) (Z (xJ _) h)
theorem agI{K:List AV->AH->Prop}{cond:EV->AH->(Bool->AH->Prop)->Prop}{elt:EV->AH->(AV->AH->Prop)->Prop}(f:Int×Int->AV)(hd:H[d]? =J (.aP (fR ta) ep))
  (step:∀e∈ta,∀(acc:List AV) (P:List AV->AH->Prop),P (acc++[f e]) H->cond (ρ++[J (.int e.1)]) H λb H₁=>dI (elt (ρ++[J (.int e.1)]) H₁ λx H₂=>P (acc++[x]) H₂) (P acc H₁) b)
  (q:K (ta.map f) H):jr (λH'=>H'[d]? =J (.aP (fR ta) ep)) (λv=>(oQ true 1 v).map (ρ++ ·)) cond elt ((fR ta).map λe=>AV.int e.1) H [] K:=by
 refine eJ (λj acc H'=>H'=H/\acc=(ta.take j).map f) ⟨rfl,rfl⟩ (λj v acc H' P hv u6 hP=>u6.elim λe1 e2=>?_) λacc H' v6=>v6.elim λe1 e2=>?_
 ·obtain ⟨hj,rfl⟩:=aik hv
  subst e1;exact ⟨hd,step _ (zy hj) acc P (hP _ _ ⟨rfl,by exact Z (dT f hj) (Z e2 rfl)⟩)⟩
 ·subst e1;subst e2
  refine ⟨hd,?_⟩;have:((fR ta).map λe=>AV.int e.1).length=ta.length:=by unfold fR;exact Z (xJ _) (Z (xJ _) rfl)
  exact Z this (Z zc q)
theorem abn(nd:(ta.map (·.1)).Nodup)(hf:∀e e',f e=f e'->e.1=e'.1):(ta.map f).Nodup:=by
 induction ta with
 | nil=>exact .nil
 | cons e ta ih=>
  refine (Bp.mp nd).elim λh1 h2=>?_;refine Bp.mpr ⟨λh=>?_,ih h2⟩;refine aO (yg.mp h) λe' he q=>?_;exact h1 (yg.mpr (aM e' he (hf _ _ q)))
theorem ah9(hd:H[d]? =J (.aP (fR ta) ep))(ok:pW ta)(q:∀H' L R,Ext H H'->iq H' L R->∀T:List Int,R.map bE.s=T.map (λi=>[i])->T.Perm (ta.map (·.1))->Q (.ref L) H'):call (.run r) (n+1) 574 [.ref d] H Q X:=by
 revert r n H Q X d ep ta;apply e8;intro U;apply(?Z:Tq U);intro r n H Q X d ep ta;intros;have l17:ta.length<=1000000:=xH ok.len (by decide);refine enter [J (.ref d),Jw] rfl rfl rfl (.aP hd ⟨af1 l17,agI (λe=>cN (e.2,-e.1)) hd (λe he acc P hP=>.aP hd (jc ok.nd he) (.yes (AF (by decide) (ok.pos e he)) (.aP hd (jc ok.nd he) hP))) λl H1 u1=>?_⟩);refine .oX (ps:=ta.map λe=>(e.2,-e.1)) (by exact Z zh u1.self) ⟨abn ok.nd λU U h=>Int.neg_inj.mp (F9 h).2,by exact Z (xJ _) (xN ok.len (by decide)),λout pm U L H2 u2=>?_⟩;have lo:out.length<=1000000:=by exact Z pm.length_eq (Z (xJ _) l17)
 refine .list u2.self (by exact Z (xJ _) lo) ⟨by exact Z (xJ _) lo,eJ (λj acc H'=>Ext H2 H'/\∃R,acc=R.map bE.av/\jh H' R/\R.map bE.s=(out.take j).map λp=>[-p.2]) ⟨.refl,(bJ [] rfl nM rfl)⟩ (λj v acc H3 P hv u6 hP=>u6.elim λm3 w1q=>fc w1q λR ea hR eR=>?_) λacc H3 u7=>u7.elim λm3 w2q=>fc w2q λR ea hR eR=>?_⟩
 ·obtain ⟨hj,rfl⟩:=gY hv
  refine ⟨m3.get u2.self,.t λa H4 u4=>hP _ _ ⟨m3.trans u4.mod,(bJ (R++[⟨out[j].1,a,[-out[j].2]⟩]) (by exact Z ea (Z yq rfl)) (λc hc=>(yz.mp hc).elim (λhc=>u4.old _ _ (hR c hc)) λhc=>xV.mp hc▸u4.self) (by exact Z yq (Z eR (Z (dT _ hj) rfl))))⟩⟩
 ·refine ⟨m3.get u2.self,λL' H4 u4=>q H4 L' R (u1.mod.trans (u2.mod.trans (m3.trans u4.mod))) ⟨ea▸u4.self,hR.ext u4.mod⟩ (out.map λp=> -p.2) ?_ ?_⟩
  ·rw[xJ,zc] at eR
   exact Z eR (Z zh rfl)
  ·refine (pm.map _).trans (.of_eq ?_)
   exact Z zh (BC λe U=>Int.neg_neg e.1)
end
theorem afF{k k':Int}{v:V}:getKey (br es k v) k'=if k'=k then J v else getKey es k':=by
 unfold br;refine Z (show (es.any λe=>e.1=k)=bj es k from rfl) ?_;cases h:bj es k with
 | true=>
  refine Z (if_pos rfl) ?_;unfold getKey;rw[BJ];have:((λe=>decide (e.1=k'))∘λe=>if e.1=k then (e.1,v) else e)=λe=>decide (e.1=k'):=funext λe=>by
   show decide ((if e.1=k then (e.1,v) else e).1=k')=_;split <;> rfl
  refine Z this ?_;cases q:es.find? λe=>decide (e.1=k') with
  | none=>
   rw[if_neg λe=>?_];· rfl
   refine aO (yg.mp (hH.mp h)) λx hx ex=>?_;exact Ag.mp q x hx (decide_eq_true (ex.trans e.symm))
  | some e=>
   have ek:=of_decide_eq_true (CJ (p:=λe:Int×V=>decide (e.1=k')) q);show J (if e.1=k then (e.1,v) else e).2=_;refine Z ek ?_;split <;> rfl
 | false=>
  refine Z (if_neg x8) ?_;unfold getKey;rw[Js];by_cases e:k'=k
  ·subst e
   have:=Ag.mpr λx hx=>by
    have:=AS.mp h x hx;exact this
   rw[this,if_pos rfl,EE (p:=λe:Int×V=>decide (e.1=k')) (decide_eq_true (rfl:k'=k'))];rfl
  ·rw[if_neg e,HW (p:=λe:Int×V=>decide (e.1=k')) λq=>e (of_decide_eq_true q:k=k').symm]
   cases es.find? (λe=>decide (e.1=k')) <;> rfl
structure uh(l:List Int)(cn:List (Int×Int)):Prop where
 nd:(cn.map (·.1)).Nodup
 ct:∀s,(getKey cn s).getD 0=(l.count s:Nat)
 mem:∀s,s∈cn.map (·.1)↔s∈l
theorem uh.nil:uh [] []:=⟨.nil,λU=>rfl,λU=>.rfl⟩
theorem uh.snoc{x:Int}(h:uh l cn):uh (l++[x]) (oq x cn):=by
 refine ⟨aaP h.nd,λs=>?_,λs=>⟨λq=>?_,λq=>?_⟩⟩
 ·unfold oq
  refine Z afF (Z Gb (Z IA ?_));by_cases e:s=x
  ·refine Z (if_pos e) (Z (if_pos (beq_iff_eq.mpr e.symm)) (Z e ?_));exact congrArg (· +1) (h.ct x)
  ·refine Z (if_neg e) (Z (if_neg (λq=>e (beq_iff_eq.mp q).symm)) (Z (h.ct s) ?_));rfl
 ·obtain ⟨e,he,rfl⟩:=yg.mp q
  rcases jB he with he | he
  ·exact AP _ ((h.mem _).mp (yg.mpr (aM e he rfl)))
  ·refine Z he ?_;exact Bh _ (.head _)
 ·rcases yz.mp q with q | q
  ·exact ab0 ((h.mem s).mpr q)
  ·refine Z (xV.mp q) ?_;exact ab1
structure vW(T:List Int)(sz:List (Int×Int)):Prop where
 nd:(sz.map (·.1)).Nodup
 mem:∀s,s∈sz.map (·.1)↔s∈T
 gB:∀e∈sz,1<=e.2/\e.2<=16
 rX:(sz.map λe=>2^(16-e.2.toNat)).sum<2^16
theorem an0{S T:List Int}{row:List (List Int)}{cn:List (Int×Int)}(eS:S= -1::T)(nd:S.Nodup)(h:Rw S 15 row)(hn:S.length<19)(hT:T≠[])(c:uh (row.take (2*S.length-2)).flatten cn):
  vW T (cn.filter λe=>e.1≠ -1)/\∃v,getKey cn (-1)=J v:=by
 revert S T row cn;apply e4;intro U;apply(?Z:Tq U);intro S T row cn;intros;have kr:=h.rX nd hn (by refine Z eS ?_;exact Af _);have P:=h.wJ nd;generalize hK:2*S.length-2=K at c kr;have oc:∀s,f5 s (row.take K)=(row.take K).flatten.count s:=λs=>List.count_flatten.symm;have nT:=(Bp.mp (eS▸nd)).1;have ndT:=(Bp.mp (eS▸nd)).2;have k2:2^(16-f5 (-1) (row.take K))+(T.map λs=>2^(16-f5 s (row.take K))).sum<=2^16:=by
  rw[eS,yP,zB] at kr;exact kr
 have pos:∀s,1<=2^(16-f5 s (row.take K)):=λs=>Jo;have sT:∀s∈T,s∈(row.take K).flatten:=λs hs=>by
  refine FU.mp (DX λe=>?_);have:=aio (f:=λs=>2^(16-f5 s (row.take K))) hs;rw[oc s,e] at this;exact absurd (xH (yZ (pos (-1)) this) k2) (by decide)
 have s1: -1∈(row.take K).flatten:=by
  refine FU.mp (DX λe=>?_);refine (List.exists_mem_of_ne_nil T hT).elim λt ht=>?_;have:=xH (pos t) (aio (f:=λs=>2^(16-f5 s (row.take K))) ht);rw[oc (-1),e] at k2;exact absurd (xH (yf this _) k2) (by decide)
 have val:∀e∈cn,e.2=(f5 e.1 (row.take K):Nat):=λe he=>by
  refine Z (oc _) (Ql (c.ct e.1) (Z (jd c.nd he) ?_));rfl
 have iff:∀s,s∈(cn.filter λe=>e.1≠ -1).map (·.1)↔s∈T:=λs=>by
  refine ⟨λq=>?_,λq=>?_⟩
  ·obtain ⟨e,he,rfl⟩:=yg.mp q
   refine (B0.mp he).elim λh1 h2=>?_;refine aO (Gv.mp ((c.mem e.1).mp (yg.mpr (aM e h1 rfl)))) λx hx hs=>?_;have:=P.mem x (zD hx) _ hs;rw[eS] at this;exact (yu.mp this).resolve_left (of_decide_eq_true h2)
  ·obtain ⟨e,he,rfl⟩:=yg.mp ((c.mem s).mpr (sT s q))
   exact yg.mpr (aM e (B0.mpr ⟨he,decide_eq_true λq'=>nT (q'▸q)⟩) rfl)
 have nd2:((cn.filter λe=>e.1≠ -1).map (·.1)).Nodup:=(List.filter_sublist.map _).nodup c.nd;refine ⟨⟨nd2,iff,λe he=>?_,?_⟩,?_⟩
 ·have he1:=(B0.mp he).1
  refine Z (val e he1) ?_;refine ⟨yj.mpr ?_,yj.mpr (P.le e.1 K)⟩;refine Z (oc _) ?_;exact FU.mpr (sT _ ((iff _).mp (yg.mpr (aM e he rfl))))
 ·have pm:=(List.perm_ext_iff_of_nodup nd2 ndT).mpr iff
  have:((cn.filter λe=>e.1≠ -1).map λe=>2^(16-e.2.toNat))=((cn.filter λe=>e.1≠ -1).map (·.1)).map λs=>2^(16-f5 s (row.take K)):=by
   refine Z zh ?_;exact BC λe he=>by refine Z (val e (B0.mp he).1) ?_;rfl
  refine Z this (Z ((pm.map _).sum_nat) ?_);exact xO (Ik (pos (-1))) k2
 ·refine aO (yg.mp ((c.mem (-1)).mpr s1)) λe he q=>?_
  exact ⟨e.2,q▸jd c.nd he⟩
theorem aeM:getKey (fR cn) k=(getKey cn k).map AV.int:=by
 unfold getKey fR;rw[BJ];show (Iv _ (cn.find? λe=>decide (e.1=k))).map _=_;cases cn.find? λe=>decide (e.1=k) <;> rfl
theorem afL:jK (fR cn) k=fR (cn.filter λe=>e.1≠k):=by unfold jK fR;exact Z List.filter_map rfl
theorem ahK{l:List (List Int)}(h):(l.take (j+1)).flatten=(l.take j).flatten++l[j]:=by refine Ql (zm h) (Z List.flatten_append ?_);simp
theorem uh.len{S:List Int}(h:uh l cn)(m:∀s∈l,s∈S)(n:S.length<19):cn.length<=18:=by
 have:=h.nd.length_le_of_subset (l₂:=S) λs hs=>m s ((h.mem s).mp hs);rw[xJ] at this;exact xH this (yb n)
section
variable{r:Bool}{n:Nat}{H:AH}{Q:AV->AH->Prop}{X:XF}{d ep:Nat}{ta:List (Int×Int)}
theorem ahQ{RK:List bE}{S:List Int}{L D:Nat}{a0 a1 a2 a3 a4:Option AV}{K:KF}(hS:∀c∈RK.map bE.s,∀s∈c,s∈S)(l19:S.length<19)(lR:RK.length<=1000)(lc:∀c∈RK,c.s.length<=1000000)
  (hL:H[L]? =J (.list (RK.map bE.av))) (hc:jh H RK) (hD:H[D]? =J (.aP [] 0)) (hq:∀(o:Nat->Option AV) H' cn ep,Mod (λj=>j=D) H H'->H'[D]? =J (.aP (fR cn) ep)->uh (RK.map bE.s).flatten cn->K .next [a0,a1,a2,a3,a4,J (.ref D),o 6,o 7,o 8] H'):
  ik (sg (.run r) n) (λv ρ' H' K'=>fS [6,7] v (sg (.run r) n) ρ' H' (λρ₂ H₂=>(aq (cz (aK 8) (aa 7) (aq (ak (kR (aa 5) (aa 8)) (aF .Add (aJ (aa 5) 2 (ae (aa 8) (ae (af (.int 0)) ar))) (af (.int 1))))<|aA))<|aA) (sg (.run r) n) ρ₂ H₂ K' X) X) K [a0,a1,a2,a3,a4,J (.ref D),Jw,Jw,Jw] H (.ref L):=by
 revert r n H X RK S L D a0 a1 a2 a3 a4 K;apply hU;intro U;apply(?Z:Tq U);intro r n H X RK S L D a0 a1 a2 a3;apply e2;intro U;apply(?Y:Tq U);intro a4 K;intros;have neL:=ba hL hD (nf rfl);have lm:=xJ (as:=RK) bE.s;refine dY hL (dP (xH lR (by decide))) (λj ρ H'=>∃(o:Nat->Option AV) (cn:List (Int×Int)) (ep:Nat),ρ=[a0,a1,a2,a3,a4,J (.ref D),o 6,o 7,o 8]/\Mod (λj=>j=D) H H'/\H'[D]? =J (.aP (fR cn) ep)/\uh ((RK.map bE.s).take j).flatten cn) (qy (λU=>Jw) [] 0 rfl (.refl) hD (.nil)) (λj v ρ H1 P hv h hP=>?_) λρ H1 h=>?_
 ·obtain ⟨hj,rfl⟩:=gY hv
  refine Qc λU v6=>?_;obtain ⟨o,cn,ep,rfl,m1,hD1,T1⟩:=h;refine v6 ?_;have cm:=zy hj;have hjs:=lm▸hj;have ejs:(RK.map bE.s)[j]=RK[j].s:=List.getElem_map _;have ca:=hc _ cm;have nc:=ba ca hD (nf rfl);refine ⟨m1.at_ _ _ neL hL,dY (m1.at_ _ _ nc ca) (by exact Z (xJ _) (lc _ cm)) (λi ρ H'=>∃(o:Nat->Option AV) (cn:List (Int×Int)) (ep:Nat),ρ=[a0,a1,a2,a3,a4,J (.ref D),J (.int RK[j].w),J (.ref RK[j].a),o 8]/\Mod (λj=>j=D) H H'/\H'[D]? =J (.aP (fR cn) ep)/\uh (((RK.map bE.s).take j).flatten++RK[j].s.take i) cn) (qy o cn ep rfl m1 hD1 (by exact Z List.take_zero (Z (yB _) T1))) (λi v ρ H2 P2 hv h hP2=>?_) λρ H2 h=>?_⟩
  ·obtain ⟨hi,rfl⟩:=gY hv
   refine Qc λU y6=>?_;obtain ⟨o,cn,ep,rfl,m2,hD2,T2⟩:=h;refine y6 ?_;refine ⟨m2.at_ _ _ nc ca,iR.get hD2 (.vR hD2 ?_)⟩;refine Z acf ?_;have l9:=T2.len (S:=S) (λs hs=>(yz.mp hs).elim (λhs=>aO (Gv.mp hs) λc hc h=>hS c (zD hc) s h) λhs=>hS _ (yg.mpr (aM _ cm rfl)) s (zD hs)) l19;refine .aP hD2 (by unfold fR;exact Z (xJ _) (xN l9 (by decide))) λep' H3 u3=>hP2 _ _ (qy (λU=>J (.int RK[j].s[i])) (oq RK[j].s[i] cn) ep' rfl (m2.trans (u3.mod rfl)) ?_ ?_)
   ·rw[abZ] at u3;exact u3.self
   ·exact Ql (zm hi) (Ql (yt _ _ _) T2.snoc)
  ·refine Qc λU z6=>?_;obtain ⟨o,cn,ep,rfl,m2,hD2,T2⟩:=h;refine z6 ?_
   refine ⟨m2.at_ _ _ nc ca,hP _ _ (qy (λi=>[J (.int RK[j].w),J (.ref RK[j].a),o 8].getD (i-6) Jw) cn ep rfl m2 hD2 ?_)⟩;rw[xJ,zc] at T2;exact Z (ahK hjs) (Z ejs T2)
 ·refine Qc λU u7=>?_;obtain ⟨o,cn,ep,rfl,m1,hD1,T1⟩:=h;refine u7 ?_
  refine ⟨m1.at_ _ _ neL hL,hq o H1 cn ep m1 hD1 ?_⟩;rw[xJ,<-lm,zc] at T1;exact T1
theorem aiw(hd:H[d]? =J (.aP (fR ta) ep))(ok:pW ta)(q:∀H' D sz ep,Ext H H'->H'[D]? =J (.aP (fR sz) ep)->vW (ta.map (·.1)) sz->Q (.ref D) H'):call (.run r) (n+2) 581 [.ref d,.int 16] H Q X:=by
 revert r n H Q X d ep ta;apply e8;intro U;apply(?Z:Tq U);intro r n H Q X d ep ta;intros;refine enter [J (.ref d),J (.int 16),Jw,Jw,Jw,Jw,Jw,Jw,Jw] rfl rfl rfl (ah9 hd ok λH1 L0 R m1 hR T eR pm=>λe0 H2 u2=>⟨_,u2.old _ _ hR.1,u2.self,?_⟩);have lT:T.length<=17:=by rw[pm.length_eq,xJ];exact ok.len
 have lRT:R.length=T.length:=by have:=congrArg Al eR;rw[xJ,xJ] at this;exact this
 have nT: -1∉T:=λh=>by
  refine aO (yg.mp (pm.mem_iff.mp h)) λe he q=>?_;exact absurd (q▸(ok.gB e he).1) (by decide)
 have ndT:=pm.nodup_iff.mpr ok.nd;by_cases hT:T=[]
 ·subst hT
  cases Aj.mp lRT;refine .t λD H3 u3=>q H3 D [] 0 (m1.trans (u2.mod.trans u3.mod)) u3.self ⟨.nil,λs=>?_,nM,by decide⟩;rw[<-pm.mem_iff];exact .rfl
 have hne:(R.map bE.av).isEmpty=false:=by cases R with | nil=>exact absurd (Aj.mp lRT.symm) hT | cons=>rfl
 refine .bf hne λa1 H3 u3 a2 H4 u4=>⟨_,_,u4.self,u4.old _ _ (u3.old _ _ (u2.old _ _ hR.1)),?_,λL H5 u5=>?_⟩
 ·rw[xJ,lRT];exact xH (yf lT 1) (by decide)
 obtain ⟨S,eS⟩:∃S,S= -1::T:=⟨_,rfl⟩
 obtain ⟨R1,eR1⟩:∃R1,R1=bE.mk 0 a1 [-1]::R:=⟨_,rfl⟩
 have m5:=m1.trans (u2.mod.trans (u3.mod.trans (u4.mod.trans u5.mod)));have h1:iq H5 L R1:=⟨eR1▸u5.self,λc hc=>by
  rw[eR1] at hc;rcases yu.mp hc with rfl | hc
  ·exact u5.old _ _ (u4.old _ _ u3.self)
  ·exact u5.old _ _ (u4.old _ _ (u3.old _ _ (u2.old _ _ (hR.2 c hc))))⟩
 have e1:R1.map bE.s=S.map λi=>[i]:=by rw[eR1,eS,yP,eR];rfl
 have l1:R1.length=S.length:=by have:=congrArg Al e1;rw[xJ,xJ] at this;exact this
 have l19:S.length<19:=by rw[eS];exact Dp (xN lT (by decide))
 have nd:=eS▸Bp.mpr ⟨nT,ndT⟩;have k1:R1.length<=1000:=l1▸xH (ya l19) (by decide);have kk:(R1.map bE.av).length<=1000000:=dP (xH k1 (by decide));refine .dO h1.1 kk ⟨iB,by decide,by decide,.no (zg.mpr (yj.mpr (dP (xH k1 (by decide))))) ?_⟩;have rows:∀{lr:Nat} {t:Nat} {Rr:List bE},t<=15->Rw S t (Rr.map bE.s)->Rr.length<=1000/\∀c∈Rr,c.s.length<=2^15:=λ{_ t Rr} ht h=>by
  have a:=h.len;rw[xJ] at a;exact ⟨a▸xH (agu _ _) (xH (yD 2 (ya l19)) (by decide)),λc hc=>xH (h.sym _ (yg.mpr (aM c hc rfl))) (zS (by decide) ht)⟩
 refine .bQ (cq (n:=15) (by decide) rfl (λt ρ H'=>∃o lr Rr,ρ=[J (.ref d),J (.int 16),J (.ref L),J (.ref lr),o,Jw,Jw,Jw,Jw]/\Ext H5 H'/\iq H' lr Rr/\Rw S t (Rr.map bE.s)) (qy Jw L R1 rfl (.refl) h1 (e1▸.z)) (λt ρ H6 P ht h hP=>?_) λρ H6 h=>?_)
 ·obtain ⟨o,lr,Rr,rfl,m6,h6,w6⟩:=h
  refine (rows (lr:=lr) (ya ht) w6).elim λka kb=>?_;refine ahh h6 ka kb (by decide) λH7 L7 R7 m7 h7 e7=>ahq (m7.get (m6.get h1.1)) h7.1 k1 ?_ λH8 L8 R8 m8 h8 I8=>hP _ _ (qy (J (.int t)) L8 R8 rfl (m6.trans (m7.trans m8)) ⟨h8,λc hc=>(I8.mem c hc).elim (λhc=>m8.get (m7.get (m6.get (h1.2 c hc)))) λhc=>m8.get (h7.2 c hc)⟩ (.s w6 ?_))
  ·have:=fv (Rr.map bE.s)
   rw[<-e7,xJ,xJ] at this;rw[this];exact xH (DI _ _) ka
  ·have:=I8.map bE.s
   rw[e1,e7] at this;exact this
 ·obtain ⟨o,lr,Rr,rfl,m6,h6,w6⟩:=h
  refine (rows (lr:=lr) (xS _) w6).elim λka kb=>?_;intro D H7 u7;refine .dO (u7.old _ _ (m6.get h1.1)) kk ⟨ji (xN kk (by decide)),?_⟩;have ek:(2:Int)*((R1.map bE.av).length:Int)-2=((2*S.length-2:Nat):Int):=by
   rw[xJ,l1];exact (BA (HS 2 (by rw[eS];exact Af _))).symm
  show rM _ _ _ Jw (J (.int (2*((R1.map bE.av).length:Int)-2)));rw[ek];refine .list (u7.old _ _ h6.1) (dP (xH ka (by decide))) (nn _) (x9.mpr (xN (xH (zR _ _) (yD 2 (ya l19))) (by decide))) λL8 H8 u8=>?_;rw[<-FQ] at u8;have e8:(Rr.take ((2*S.length-2:Nat):Int).toNat).map bE.s=(Rr.map bE.s).take (2*S.length-2):=FQ;refine ahQ (S:=S) (λc hc s hs=>(w6.wJ nd).mem c (by rw[e8] at hc;exact zD hc) s hs) l19 (xH (by rw[Ai];exact BP ..) ka) (λc hc=>xH (kb c (zD hc)) (by decide)) u8.self (λc hc=>u8.old _ _ (u7.old _ _ (h6.2 c (zD hc)))) (u8.old _ _ u7.self) λo H9 cn ep m9 hD T9=>?_;rw[e8] at T9;refine Qc λU y6=>(an0 eS nd w6 l19 hT T9).elim λsz z6=>z6.elim λv hv=>y6 ?_;have l9:=T9.len (S:=S) (λs hs=>aO (Gv.mp hs) λc hc h=>(w6.wJ nd).mem c (zD hc) s h) l19;refine .pop hD (.pop hD (by unfold fR;rw[xJ];exact xH l9 (by decide)) (by rw[aeM,hv];rfl) λep' H10 jw=>q H10 D (cn.filter λe=>e.1≠ -1) ep' (m5.trans (m6.trans (eC u7 (u8.mod.trans (m9.trans (jw.mod rfl)))))) (by rw[<-afL];exact jw.self) ⟨sz.nd,λs=>(sz.mem s).trans pm.mem_iff,sz.gB,sz.rX⟩)
end
noncomputable def cs(sz:List (Int×Int))(i:Nat):Nat:=(sz.map (·.2)).count ((i:Int)+1)
noncomputable def xq(e:Int×Int):Int×Int:=(e.2,e.1)
structure apa(sz:List (Int×Int))(out:List (Int×Int)):Prop where
 pm:out.Perm (sz.map xq)
 so:out.Pairwise ltPair
noncomputable def kL(c:Nat->Nat):List AV:=tab 16 λi=>.int (c i:Nat)
noncomputable def syV(out:List (Int×Int)):List AV:=out.map λp=>.int p.2
section
variable{r:Bool}{n:Nat}{H:AH}{Q:AV->AH->Prop}{X:XF}{d ep:Nat}{sz:List (Int×Int)}
theorem adR(hd:H[d]? =J (.aP (fR sz) ep))(nd:(sz.map (·.1)).Nodup)(rg:∀e∈sz,1<=e.2/\e.2<=16)(l17:sz.length<=18)(q:∀H' out,Ext H H'->apa sz out->Q (.tup [.tup (kL (cs sz)),.tup (syV out)]) H'):call (.run r) (n+1) 586 [.ref d] H Q X:=by
 revert r n H Q X d ep sz;apply e8;intro U;apply(?Z:Tq U);intro r n H Q X d ep sz;intros;have lz:sz.length<=1000000:=xH l17 (by decide);refine enter [J (.ref d),Jw,Jw,Jw] rfl rfl rfl λa0 H1 u1=>⟨_,u1.self,by decide,by decide,λC H2 u2=>?_⟩
 have m2:Ext H H2:=u1.mod.trans u2.mod;have hd2:=m2.get hd;have nC:=u2.ne (u1.old _ _ hd);refine .items (.aP hd2 (ny (λj ρ H'=>∃o,ρ=[J (.ref d),J (.ref C),o,Jw]/\Mod (λj=>j=C) H2 H'/\H'[C]? =J (.list (kL (cs (sz.take j))))) (bJ Jw rfl (.refl) u2.self) (λj v ρ H3 P hv h hP=>?_) λρ H3 h=>?_))
 ·obtain ⟨hj,rfl⟩:=aik hv
  obtain ⟨o,rfl,m3,hC⟩:=h;have hd3:=m3.at_ _ _ nC hd2;have em:=zy hj;have eg:=jc nd em;obtain ⟨k,ek,k16⟩:∃k:Nat,sz[j].2-1=k/\k<16:=by
   refine (rg _ em).elim λr1 r2=>?_;refine (aM ((sz[j].2-1).toNat) ((zx (An r1)).symm) ((EM (An r1)).mpr (AF (IW r2) (by decide))))
  have sub:∀{Q':AV->AH->Prop} {v:AV},(kL (cs (sz.take j)))[k]? =J v->Q' v H3->fV H3 Q' (.ref C) (.int (sz[j].2-1)):=λe q=>by refine Z ek ?_;exact .list hC (nn k) (wj k16 (by decide)) e q
  refine ⟨hd3,.aP hd3 eg (sub (c6 k16) (.aP hd3 eg ?_))⟩;show n7 _ _ _ (.ref C) (.int (sz[j].2-1));refine Z ek ?_;refine .list hC (nn k) (wj k16 (by decide)) (by rw[kL,aI];exact k16) λH4 u4=>hP _ _ (bJ _ rfl (m3.trans (u4.mod rfl)) ?_);have e2:sz[j].2=(k:Int)+1:=by refine Ql ek ?_;exact (F6 _ _).symm
  have ec:∀i,cs (sz.take (j+1)) i=cs (sz.take j) i+if (k:Int)+1==(i:Int)+1 then 1 else 0:=λi=>by
   unfold cs;exact Z (dT _ hj) (Z Gb (Z IA (Z e2 rfl)))
  have:=u4.self;have e3:kL (cs (sz.take (j+1)))=(kL (cs (sz.take j))).set k (.int ((cs (sz.take j) k:Nat)+1)):=by
   rw[kL,kL,af0 k16];refine congrArg (tab 16) (funext λi=>?_);refine Z (ec i) ?_;by_cases e:i=k
   ·refine Z (if_pos e) (Z e (Z (if_pos (beq_iff_eq.mpr rfl)) ?_));rfl
   ·refine Z (if_neg e) (Z (if_neg λq=>e (AY (zr.mp (show ((k+1:Nat):Int)=((i+1:Nat):Int) from beq_iff_eq.mp q))).symm) ?_);rfl
  refine Z e3 ?_;exact this
 ·obtain ⟨o,rfl,m3,hC⟩:=h
  have hd3:=m3.at_ _ _ nC hd2;have lt:((fR sz).map λe=>AV.int e.1).length=sz.length:=by unfold fR;exact Z (xJ _) (Z (xJ _) rfl)
  rw[lt,zc] at hC;refine ⟨hd3,.aP hd3 ⟨af1 lz,agI (λe=>cN (xq e)) hd3 (λe he acc P hP=>.t (.aP hd3 (jc nd he) hP)) λl H4 u4=>?_⟩⟩;refine .oX (ps:=sz.map xq) (by refine Z zh ?_;exact u4.self) ⟨abn nd λU U h=>(F9 h).2,by refine Z (xJ _) ?_;exact xN l17 (by decide),λout pm so L H5 u5=>?_⟩;have lo:out.length<=1000000:=by refine Z pm.length_eq (Z (xJ _) ?_);exact lz
  have hC5:=u5.old _ _ (u4.old _ _ hC);refine .vE hC5 (by rw[kL,aI];decide) (.list u5.self (by refine Z (xJ _) ?_;exact lo) ⟨by refine Z (xJ _) ?_;exact lo,eJ (λj acc H'=>H'=H5/\acc=(out.take j).map λp=>.int p.2) ⟨rfl,rfl⟩ (λj v acc H6 P hv h hP=>?_) λacc H6 h=>?_⟩)
  ·obtain ⟨rfl,ea⟩:=h
   obtain ⟨hj,rfl⟩:=gY hv;exact ⟨u5.self,.t (hP _ _ ⟨rfl,by exact Z (dT _ hj) (Z ea rfl)⟩)⟩
  ·obtain ⟨rfl,ea⟩:=h
   rw[xJ,zc] at ea;subst ea;exact ⟨u5.self,λl7 H7 u7=>.vE u7.self (by refine Z (xJ _) ?_;exact lo) (q H7 out (u1.mod.trans (eC u2 (m3.trans (u4.mod.trans (u5.mod.trans u7.mod))))) ⟨pm,so⟩)⟩
theorem acL{ta:List (Int×Int)}(hd:H[d]? =J (.aP (fR ta) ep))(ok:pW ta)(q:∀H' sz out,Ext H H'->vW (ta.map (·.1)) sz->apa sz out->Q (.tup [.tup (kL (cs sz)),.tup (syV out)]) H'):call (.run r) (n+3) 594 [.ref d] H Q X:=
 enter [J (.ref d),J (.int 16)] rfl rfl rfl (aiw hd ok λU U sz U m1 h1 ok1=>adR h1 ok1.nd ok1.gB (by
  have:=ok1.nd.length_le_of_subset λs hs=>(ok1.mem s).mp hs;rw[xJ,xJ] at this;exact xH this (Ab ok.len)) λH2 out m2 t=>q H2 sz out (m1.trans m2) ok1 t)
end
noncomputable def cC(c:Nat->Nat):Nat->Nat
 | 0=>0
 | i+1=>(cC c i+c i)*2
noncomputable def cP(c:Nat->Nat):Nat->Nat
 | 0=>0
 | i+1=>cP c i+c i
noncomputable def qx(c:Nat->Nat):Nat->Nat
 | 0=>0
 | i+1=>qx c i+c i*2^(15-i)
theorem ajB(c):∀i,i<=15->cC c i*2^(15-i)=qx c i
 | 0,_=>Bw _
 | i+1,h=>by
  have e:15-i=(15-(i+1))+1:=by exact Ql (Ea _ _ _) ((BV (Gk h)).symm)
  show (cC c i+c i)*2*2^(15-(i+1))=qx c i+c i*2^(15-i);exact Ql (ajB c i (A0 h)) (Ql (Dx _ _ _) (Z e (Z (AM _ _) (Z (Dv _ _ _) (Z (AN 2 _) rfl)))))
theorem ale(c)(h:i<=j):qx c i<=qx c j:=by
 induction h with
 | refl=>exact xS _
 | step _ ih=>exact xH ih (x7 _ _)
theorem ajA{c:Nat->Nat}(h:qx c 16<2^16)(hi:i<16):cC c i+c i<2^(i+1):=by
 have a:(cC c i+c i)*2^(15-i)<2^(i+1)*2^(15-i):=by
  exact Z (Dx _ _ _) (Z (ajB c i (yb hi)) (Ql (GP _ _ _) (Z (AE _ _ _) (Z (Aa (yb hi)) (xN (ale c hi) h)))))
 exact Nat.lt_of_mul_lt_mul_right a
theorem anl(c)(h:j<i):(cC c j+c j)*2^(i-j)<=cC c i:=by
 induction h with
 | refl=>exact Z (Gj (xS j)) (Z (Bx _) (xS _))
 | @step m h ih=>
  exact Z (Gj (ya h)) (Z (AM _ _) (Ql (Dv _ _ _) (Cr 2 (xH ih (x7 _ _)))))
theorem mQ(c)(h:i<=j):cP c i<=cP c j:=by
 induction h with
 | refl=>exact xS _
 | step _ ih=>exact xH ih (x7 _ _)
theorem ajk{c c':Nat->Nat}(h:∀i,c' i=c i+if i=k then 1 else 0):∀n,qx c' n=qx c n+if k<n then 2^(15-k) else 0
 | 0=>rfl
 | n+1=>by
  show qx c' n+c' n*2^(15-n)=qx c n+c n*2^(15-n)+_;rw[ajk h n,h n,Dx,Fs];refine congrArg _ ?_;by_cases e:n=k
  ·subst e;rw[if_neg (zU n),if_pos rfl,if_pos (yM n),CU,zj]
  ·rw[if_neg e,Bw,DQ]
   by_cases l:k<n
   ·rw[if_pos l,if_pos (AZ l)]
   ·rw[if_neg l,if_neg λq=>(yN (yb q)).elim l λq=>e q.symm]
theorem agh{c c':Nat->Nat}(h:∀i,c' i=c i+if i=k then 1 else 0):∀n,cP c' n=cP c n+if k<n then 1 else 0
 | 0=>rfl
 | n+1=>by
  show cP c' n+c' n=cP c n+c n+_;rw[agh h n,h n,Fs];refine congrArg _ ?_;by_cases e:n=k
  ·subst e;rw[if_neg (zU n),if_pos rfl,if_pos (yM n)]
  ·rw[if_neg e,DQ]
   by_cases l:k<n
   ·rw[if_pos l,if_pos (AZ l)]
   ·rw[if_neg l,if_neg λq=>(yN (yb q)).elim l λq=>e q.symm]
theorem anP(n):qx (λU=>0) n=0/\cP (λU=>0) n=0:=by
 induction n with
 | zero=>exact ⟨rfl,rfl⟩
 | succ n ih=>exact ⟨by show qx _ n+0*_=0;exact Z ih.1 (Z (Bw _) rfl),by show cP _ n+0=0;exact Z ih.2 rfl⟩
theorem af2(cs:List (Int×Int)->Nat->Nat)(c0:cs []=λU=>0)(cc:∀e l (k:Nat),e.2=(k:Int)+1->∀i,cs (e::l) i=cs l i+if i=k then 1 else 0):
  ∀sz,(∀e∈sz,1<=e.2/\e.2<=16)->qx (cs sz) 16=(sz.map λe=>2^(16-e.2.toNat)).sum/\cP (cs sz) 16=sz.length
 | [],_=>by exact Z c0 (anP 16)
 | e::l,h=>by
  obtain ⟨a,b⟩:=af2 cs c0 cc l λx hx=>h x (.tail _ hx);refine (h e (.head _)).elim λh1 h2=>?_;obtain ⟨k,ek,k16⟩:∃k:Nat,e.2-1=k/\k<16:=(aM ((e.2-1).toNat) ((zx (An h1)).symm) ((EM (An h1)).mpr (AF (IW h2) (by decide))))
  have e2:e.2=(k:Int)+1:=by exact Ql ek ((F6 _ _).symm)
  have f:=cc e l k e2;exact Z (ajk f 16) (Z (agh f 16) (Z (if_pos k16) (Z (if_pos k16) (Z a (Z b (Z yP (Z zB (Z e2 (Z (show ((k:Int)+1).toNat=k+1 from rfl) ⟨by exact Z (yE _ _) (Z (show 16-(k+1)=15-k from Di 15 1 k) rfl),rfl⟩)))))))))
theorem akY{c:Nat->Nat}(h:j<i):c j+cC c j<=(cC c i+k) / 2^(i-j):=by
 rw[Fc (Ae _),yE (c j)];exact xH (anl c h) (x7 _ _)
section
variable{G:fW}{turn:AV->EV->AH->KF->Prop}{K:KF}{ρ:EV}{H:AH}
theorem aeQ{n:Nat}(hn:n<1000000)(ea:ai=1)(en:ni=(n:Int)+1)(I:Nat->EV->AH->Prop)(h0:I 0 ρ H)(step:∀(j:Nat) ρ H (P:EV->AH->Prop),j<n->I j ρ H->(∀ρ' H',I (j+1) ρ' H'->P ρ' H')->turn (.int (j+1:Nat)) ρ H (bV K P))
  (fin:∀ρ H,I n ρ H->K .next ρ H):ik G turn K ρ H (.gB ai ni 1):=by
 subst en;subst ea;refine .items (.gB ⟨by decide,by decide⟩ (oY (n:=n+1) hn) (by decide) (by decide) ?_);have e:=tF 1 n;rw[yE 1 n] at e;refine Z (show (bX 1 ((n:Int)+1) 1).map AV.int=_ from e) ?_;refine ny I h0 (λj v ρ H P hv h hP=>?_) λρ H h=>⟨trivial,fin ρ H (by rw[aI] at h;exact h)⟩
 obtain ⟨hj,rfl⟩:=tabAt hv;refine Z (yE 1 j) ?_;exact ⟨trivial,step j ρ H P hj h hP⟩
theorem fV.jy{k:Int}{j:Nat}(ek:k=j)(hj:j<1000000)(e:vs[j]? =J v)(q:Q v H):fV H Q (.tup vs) (.int k):=by
 subst ek;exact .tup (nn j) (x9.mpr hj) e q
end
noncomputable def vI(c:Nat->Nat)(i:Nat):AV:=.tup [.int (cC c i:Nat),.int (c i:Nat),.int (cP c i:Nat)]
theorem al9(j):((j+1:Nat):Int)-1=j:=Ah (j:Int) 1
theorem vt(h:j<16):j<1000000:=yL h (by decide)
section
variable{r:Bool}{n:Nat}{H:AH}{Q:AV->AH->Prop}{X:XF}{c:Nat->Nat}{sy:List Int}
theorem akJ(kr:qx c 16<2^16)(q:∀L H',Ext H H'->H.length<=L->H'[L]? =J (.list (tab 16 (vI c)))->Q (.ref L) H'):call (.run r) (n+1) 513 [.tup (kL c)] H Q X:=by
 revert r n H Q X c;apply e6;intro U;apply(?Z:Tq U);intro r n H Q X c;intros;refine enter [J (.tup (kL c)),Jw,Jw,Jw,Jw,Jw] rfl rfl rfl λL H0 u=>?_;refine .tV (by rw[kL,aI];decide) (.q9 (aeQ (n:=16) (by decide) rfl (by rw[kL,aI]) (λj ρ H'=>∃o4 o5:Option AV,ρ=[J (.tup (kL c)),J (.ref L),J (.int (cC c j:Nat)),J (.int (cP c j:Nat)),o4,o5]/\Mod (λj=>j=L) H0 H'/\H'[L]? =J (.list (tab j (vI c)))) (k4 Jw Jw rfl (.refl) u.self) (λj ρ H1 P hj h hP=>?_) λρ H1 h=>?_))
 ·obtain ⟨o4,o5,rfl,m1,hL⟩:=h
  refine .jy (al9 j) (vt hj) (c6 hj) (.append hL (.append hL (by rw[aI];exact vt hj) λH2 u2=>⟨iB,nn _,yj.mpr (xH hj (by decide)),.no (λh=>?_) (.f ⟨ji (b:=2) (by decide),hP _ _ (k4 _ _ rfl (m1.trans (u2.mod rfl)) (by rw[<-cT];exact u2.self))⟩)⟩));have h:(2:Int)^(j+1)<=((cC c j+c j:Nat):Int):=h;rw[show (2:Int)^(j+1)=((2^(j+1):Nat):Int) from (B4 2 _).symm] at h;exact absurd (ajA kr hj) (xX.mpr (yj.mp h))
 ·obtain ⟨o4,o5,rfl,m1,hL⟩:=h
  exact q L H1 (eC u m1) (u.fG (xS _)) hL
theorem af3(c):∀n,(tab n λi=>(c i:Int)).sum=(cP c n:Nat)
 | 0=>rfl
 | n+1=>by refine Ql cT (Z List.sum_append_int (Z (af3 c n) ?_));exact congrArg (_+ ·) (Gp _)
theorem ac2(nd:sy.Nodup)(hj):sy[j]∉sy.take j:=λh=>by
 have e:=Ax j sy;have d:sy[j]∈sy.drop j:=by refine Z (Aw hj) ?_;exact .head _
 exact (B9.mp (e.symm▸nd)).2.2 _ h _ d rfl
theorem ajY(pl:cP c 16=sy.length)(qw:sy.length<=18)(nd:sy.Nodup)(q:∀H',Ext H H'->Q .none H'):call (.run r) (n+1) 520 [.tup (kL c),.tup (sy.map .int)] H Q X:=by
 revert r n H Q X c sy;apply e7;intro U;apply(?Z:Tq U);intro r n H Q X c sy;intros;have ls:(sy.map AV.int).length=sy.length:=xJ _;have lm:(sy.map AV.int).length<=1000000:=ls▸xH qw (by decide);have cb:∀i<16,c i<=18:=λi hi=>xH (xH (zJ _ (cP c i)) (mQ c (i:=i+1) hi)) (pl▸qw);have e16:((kL c).length:Int)=16:=by rw[kL,aI];rfl
 refine enter [J (.tup (kL c)),J (.tup (sy.map .int)),Jw,Jw] rfl rfl rfl ?_;obtain ⟨m,hm,h0⟩:∃m,(tab 16 λi=>(c i:Int)).min? =J m/\0<=m:=by
  cases h:(tab 16 λi=>(c i:Int)).min? with
  | none=>exact absurd (congrArg Al (List.min?_eq_none_iff.mp h)) (by refine Z aI ?_;decide)
  | some m=>
   obtain ⟨i,_,rfl⟩:=yg.mp (List.min?_mem h);exact (aM _ rfl (nn _))
 refine .tV (by rw[kL,aI];decide) (.bf (by refine Z e16 ?_;rfl) (.aow jF hm (.no (zg.mpr h0) ?_)));refine .an3 jF (by refine Z aI ?_;decide) (λi hi=>?_) (.tV lm (.bf (by refine Z (af3 _ _) (Z pl (Z ls ?_));exact bne_self_eq_false _) (.tV lm (.no (zg.mpr (ls▸yj.mpr (xH qw (by decide)))) ?_))))
 ·obtain ⟨k,hk,rfl⟩:=yg.mp hi
  exact ⟨nn _,yj.mpr (xH (cb k (y5.mp hk)) (by decide))⟩
 refine .set λS H1 u1=>.items (.tup (ny (λj ρ H'=>∃o,ρ=[J (.tup (kL c)),J (.tup (sy.map .int)),J (.ref S),o]/\Mod (λj=>j=S) H1 H'/\H'[S]? =J (.set (sy.take j))) (bJ Jw rfl (.refl) u1.self) (λj v ρ H2 P hv h hP=>?_) λρ H2 h=>?_))
 ·obtain ⟨o,rfl,m2,hS⟩:=h
  obtain ⟨hj,rfl⟩:=gY hv;have nt:=ac2 nd hj;refine ⟨trivial,.set hS (.bf (Bv.mpr λh=>nt (zv.mp h)) (.add hS (.add hS nt (xN (by refine Z Ai ?_;exact xH (BP ..) qw) (by decide)) λH3 u3=>hP _ _ (bJ _ rfl (m2.trans (u3.mod rfl)) (by refine Ql (zm hj) ?_;exact u3.self)))))⟩
 ·obtain ⟨o,rfl,m2,hS⟩:=h
  exact ⟨trivial,q H2 (eC u1 m2)⟩
end
section
variable{n:Nat}{H:AH}{Q:AV->AH->Prop}{X:XF}
theorem aem(o):((o.toNat:Int)).toNat.toUInt8=o:=by
 show Gu o.toNat=o;exact UInt8.ofNat_toNat
theorem aoh(o:UInt8):(o.toNat:Int)<256:=x9.mpr o.toNat_lt
theorem uB{o:UInt8}:((o.toNat:Int)==255)=decide (o=255):=by
 by_cases e:o=255
 ·refine Z e ?_;rfl
 ·refine Z (decide_eq_false e) ?_
  exact beq_eq_false_iff_ne.mpr λh=>e (GB.mp (zr.mp h))
theorem aip{x:List UInt8}(hl:(ay x).length<900000)(q:∀H',Ext H H'->Q (.bytes (ay x)) H'):call (.run true) (n+1) 720 [.bytes x] H Q X:=by
 revert n H Q X x;apply e5;intro U;apply(?Z:Tq U);intro n H Q X x;intros;refine enter [J (.bytes x),Jw,Jw] rfl rfl rfl (.bytearray rfl λB H1 u1=>.items (.bytes (ny (λj ρ H'=>∃o,ρ=[J (.bytes x),J (.ref B),o]/\Mod (λj=>j=B) H1 H'/\H'[B]? =J (.fU (ay (x.take j)))) (bJ Jw rfl (.refl) u1.self) (λj v ρ H2 P hv h hP=>?_) λρ H2 h=>?_)))
 ·obtain ⟨hj,rfl⟩:=gY hv
  obtain ⟨o,rfl,m2,hB⟩:=h;have es:ay (x.take (j+1))=ay (x.take j)++kJ x[j]:=by exact Ql (zm hj) (Z (dM _ _) rfl)
  have ll:(ay (x.take j)).length+2<1000000:=by
   have:ay x=ay (x.take j)++ay (x.drop j):=by exact Ql (gF _ _) (Z (Ax _ _) rfl)
   rw[this,xK] at hl;exact xN (yR (xH (x7 _ _) (ya hl)) 2) (by decide)
  have l1:=xN (x7 _ 2) ll;refine ⟨trivial,.bK hB (.bK rfl hB (nn _) (aoh _) l1 λH3 u3=>?_)⟩;rw[aem] at u3;show dI _ _ ((x[j].toNat:Int)==255);refine Z uB ?_;refine .dec (λe=>.bK u3.self (.bK rfl u3.self (by decide) (by decide) (by refine Z xK ?_;exact yL (yM _) ll) λH4 u4=>hP _ _ (bJ _ rfl ((m2.trans (u3.mod rfl)).trans (u4.mod rfl)) ?_))) λe=>hP _ _ (bJ _ rfl (m2.trans (u3.mod rfl)) ?_)
  ·rw[es,kJ,if_pos e];rw[e] at u4;have:=u4.self;rw[yt] at this;exact this
  ·rw[es,kJ,if_neg e];exact u3.self
 ·obtain ⟨o,rfl,m2,hB⟩:=h
  rw[xJ,zc] at hB;exact ⟨trivial,.nH hB (xH (ya hl) (by decide)) (q H2 (eC u1 m2))⟩
theorem alf{L:Nat}(hL:H[L]? =J (.list (xs.map .bytes)))(lx:xs.length<=1000)(hl:(fJ xs).length<900000)(q:∀H',Ext H H'->Q (.bytes (fJ xs)) H'):call (.run true) (n+2) 748 [.ref L] H Q X:=by
 revert n H Q X xs L;apply e6;intro U;apply(?Z:Tq U);intro n H Q X xs L;intros;have ex:=xJ (as:=xs) AV.bytes;refine enter [J (.ref L),Jw,Jw] rfl rfl rfl (.bytearray rfl λB H1 u1=>.dO (u1.old _ _ hL) (ex▸xH lx (by decide)) (.bQ (cq (n:=xs.length) (xH lx (by decide)) (congrArg Ao ex) (λj ρ H'=>∃o,ρ=[J (.ref L),J (.ref B),o]/\Mod (λj=>j=B) H1 H'/\H'[B]? =J (.fU (fJ (xs.take j)))) (bJ Jw rfl (.refl) u1.self) (λj ρ H2 P hj h hP=>?_) λρ H2 h=>?_)))
 ·obtain ⟨o,rfl,m2,hB⟩:=h
  have nL:=ba (u1.old _ _ hL) u1.self (nf rfl);have lt:(xs.take j).length=j:=by rw[Ai];exact Bt (ya hj)
  have es:fJ (xs.take (j+1))=fJ (xs.take j)++((if j=0 then [] else [255,mk8 (j-1)])++ay xs[j]):=by rw[<-zm hj,acb,lt]
  have pre:(fJ (xs.take (j+1))).length<900000:=by
   have z:∀a b,(fJ a).length<=(fJ (a++b)).length:=λa b=>by
    induction b generalizing a with
    | nil=>rw[yB];exact xS _
    | cons x b ih=>
     rw[show a++x::b=(a++[x])++b by rw[yt];rfl];exact xH (by rw[acb,xK];exact x7 _ _) (ih (a++[x]))
   have:=z (xs.take (j+1)) (xs.drop (j+1));have this:=(Ax _ _)▸this;exact xN this hl
  have pre:=xK▸xK▸es▸pre;have p0:=xN (x7 _ _) pre;have p1:=xN (xH (zJ _ _) (zJ _ _)) pre;refine aoT (λH'=>Mod (λj=>j=B) H1 H'/\H'[B]? =J (.fU (fJ (xs.take j)++if j=0 then [] else [255,mk8 (j-1)]))) (λR hR R' hR'=>?_) λH3 u6=>u6.elim λm3 h3=>?_
  ·refine .dec (λh=>?_) λh=>hR' _ (hR _ ⟨m2,?_⟩)
   ·have h:=x9.mp h
    have em:208+((j:Int)-1).fmod 8=(208+(j-1) % 8:Nat):=by
     rw[show (j:Int)-1=((j-1:Nat):Int) from tB h];exact congrArg (208+ ·) (Hs _ _).symm
    have lm:208+(j-1) % 8<256:=xO (Bc (DY _ (by decide)) 208) (by decide);refine .bK hB (.bK rfl hB (by decide) (by decide) (yL p0 (by decide)) λH3 u3=>.bK u3.self ⟨by decide,.bK rfl u3.self (em▸nn _) (em▸x9.mpr lm) (by rw[xK];exact xN p0 (by decide)) λH4 u4=>hR' _ (hR _ ⟨(m2.trans (u3.mod rfl)).trans (u4.mod rfl),?_⟩)⟩);rw[if_neg (zH h)];have:=u4.self;rw[em,yt] at this;exact this
   ·rw[if_pos (EL λh'=>h (x9.mpr h')),yB];exact hB
  ·refine .dV h3 (.list (m3.at_ _ _ nL (u1.old _ _ hL)) (nn j) (qv hj lx) (show (xs.map AV.bytes)[j]? =J (.bytes xs[j]) by rw[yA,xR hj];rfl) (aip p1 λH4 m4=>.dV rfl (m4.get h3) (by rw[xK,zf];exact ya (yL pre (by decide))) λH5 u5=>hP _ _ (bJ _ rfl (m3.trans (m4.mod.trans (u5.mod rfl))) ?_)))
   rw[es,<-yt];exact u5.self
 ·obtain ⟨o,rfl,m2,hB⟩:=h
  have hB:=zc▸hB;exact .nH hB (xH (ya hl) (by decide)) (q H2 (eC u1 m2))
end
theorem dB{c:α}:(p++c::r)[p.length]? =J c:=by rw[yU (xS _),Bx];rfl
theorem pQ{c d:α}:(p++c::d::r)[p.length+1]? =J d:=by
 have:=dB (p:=p++[c]) (r:=r) (c:=d);rw[xK,yt] at this;exact this
theorem adX(o):∃t,kJ o=o::t:=by unfold kJ;split;exact ⟨[0],by rename_i h;rw[h]⟩;exact ⟨[],rfl⟩
section
variable{n:Nat}{H:AH}{Q:AV->AH->Prop}{X:XF}
theorem abO(hl:(ay x).length<900000)(q:∀H',Ext H H'->Q (.bytes x) H'):call (.run true) (n+1) 727 [.bytes (ay x)] H Q X:=by
 revert n H Q X x;apply e5;intro U;apply(?Z:Tq U);intro n H Q X x;intros;have lk:(ay x).length<=1000000:=xH (ya hl) (by decide);refine enter [J (.bytes (ay x)),Jw,Jw] rfl rfl rfl (.bytearray rfl λB H1 u1=>?_);refine jU (λm ρ H'=>∃a b,x=a++b/\b.length=m/\ρ=[J (.bytes (ay x)),J (.ref B),J (.int (ay a).length)]/\Mod (λj=>j=B) H1 H'/\H'[B]? =J (.fU a)) (oy [] x rfl rfl rfl (.refl) u1.self) λm ρ H2 P h hP=>?_;obtain ⟨a,b,eb,em,rfl,m2,hB⟩:=h;cases b with
 | nil=>
  have eb:=(yB _)▸eb;subst eb;exact .kY lk (.no (CK _) (.nH hB (xH (i7 x).1 lk) (q H2 (eC u1 m2))))
 | cons o b=>
  obtain ⟨t,et⟩:=adX o;have e1:ay x=ay a++o::(t++ay b):=by rw[eb,gF,show ay (o::b)=kJ o++ay b from rfl,et];rfl
  have lt:(ay a).length<(ay x).length:=by rw[e1,xK];exact BQ (Af _)
  have g0:(ay x)[(ay a).length]? =J o:=by rw[e1];exact dB
  have lm:=x9.mpr (xO lt lk);have la:=xN (i7 a).1 (xO lt lk);refine .kY lk (.yes (x9.mpr lt) (.bK hB (.bytes (nn _) lm g0 (.bK rfl hB (nn _) (aoh o) la λH3 u3=>.bytes (nn _) lm g0 ?_))));have u3:=(aem _)▸u3;show dI _ _ ((o.toNat:Int)==255);rw[uB];have fin:∀{k:Int},k=(ay (a++[o])).length->P [J (.bytes (ay x)),J (.ref B),J (.int k)] H3:=λ{k} e=>by
   subst e;exact hP b.length _ _ (em▸yM _) (oy (a++[o]) b (by rw[eb,yt];rfl) rfl rfl (m2.trans (u3.mod rfl)) u3.self)
  refine .dec (λe=>?_) λe=>fin (by rw[dM,kJ,if_neg e,xK];rfl);have e2:ay x=ay a++255::0::ay b:=by rw[eb,gF,show ay (o::b)=kJ o++ay b from rfl,kJ,if_pos e];rfl
  have g1:(ay x)[(ay a).length+1]? =J 0:=by rw[e2];exact pQ
  have l1:=(xQ.mp g1).1;refine .kY lk (.no (λh=>absurd (yj.mp h) (AD.mpr l1)) (.bytes (k:=((ay a).length:Int)+1) (nn ((ay a).length+1)) (x9.mpr (xO l1 lk)) g1 (.f (fin (by rw[dM,kJ,if_pos e,xK];rfl)))))
theorem ah4{k:Nat}{v:UInt8}(hl:d.length<1000000)(h:d[k+1]? =J v)(hv:v≠255)(q:Q (.int k) H):call (.run true) (n+1) 734 [.bytes d,.int k] H Q X:=by
 revert n H Q X d k v;apply e7;intro U;apply(?Z:Tq U);intro n H Q X d k v;intros;have l1:=(xQ.mp h).1;refine enter [J (.bytes d),J (.int k)] rfl rfl rfl (jU (n:=0) (λU ρ H'=>ρ=[J (.bytes d),J (.int k)]/\H'=H) ⟨rfl,rfl⟩ λm ρ H2 P h' hP=>?_);obtain ⟨rfl,rfl⟩:=h';refine .kY (ya hl) (.yes (x9.mpr l1) (.bytes (k:=(k:Int)+1) (nn (k+1)) (x9.mpr (yL l1 hl)) h ?_));show dI _ _ ((v.toNat:Int)==255);rw[uB];exact .no hv q
theorem adC(h:sY m)(q:Q (.bool true) H):call (.run true) (n+1) 713 [.int m.toNat] H Q X:=by
 refine enter [J (.int m.toNat)] rfl rfl rfl (.yes (yj.mpr h.1) ?_);have:decide ((m.toNat:Int)<=208+7)=true:=decide_eq_true (yj.mpr h.2);show Q (.bool (decide ((m.toNat:Int)<=208+7))) H;rw[this];exact q
theorem apd(h:sY m):m≠255/\m≠0:=⟨λe=>absurd (e▸h.2) (by decide),λe=>absurd (e▸h.1) (by decide)⟩
theorem akD{p a t:List UInt8}(e:k=p.length+a.length):((p++(a++t)).take k).drop p.length=a:=by
 rw[e,<-yt,<-xK,DU,He]
theorem ait{rest:List (UInt8×List UInt8)}(hR:∀p∈rest,sY p.1)(lr:rest.length<=100)(hl:(ay x++joinR rest).length<900000)(q:∀H' L M,Ext H H'->H'[L]? =J (.list ((x::rest.map (·.2)).map .bytes))->H'[M]? =J (.list ((rest.map λp=>((p.1.toNat:Int)-208)).map .int))->Q (.tup [.ref L,.ref M]) H'):call (.run true) (n+2) 741 [.bytes (ay x++joinR rest)] H Q X:=by
 revert n H Q X x rest;apply e6;intro U;apply(?Z:Tq U);intro n H Q X x rest;intros;obtain ⟨d,ed⟩:∃d,d=ay x++joinR rest:=⟨_,rfl⟩
 rw[<-ed] at hl ⊢;have lk:d.length<1000000:=yL hl (by decide);refine enter [J (.bytes d),Jw,Jw,Jw,Jw,Jw] rfl rfl rfl λL H1 u1 M H2 u2=>?_;have nLM:L≠M:=u2.ne u1.self;refine jU (λk ρ H'=>∃(o:Option AV) (p a b:List UInt8) (r:List (UInt8×List UInt8)) (V:List (List UInt8)) (W:List Int),d=p++(ay (a++b)++joinR r)/\k=d.length-(p.length+(ay a).length)/\ρ=[J (.bytes d),J (.ref L),J (.ref M),J (.int p.length),J (.int (p.length+(ay a).length:Nat)),o]/\Mod (λj=>j=L\/j=M) H2 H'/\H'[L]? =J (.list (V.map .bytes))/\H'[M]? =J (.list (W.map .int))/\V++(a++b)::r.map (·.2)=x::rest.map (·.2)/\W++r.map (λp=>((p.1.toNat:Int)-208))=rest.map (λp=>((p.1.toNat:Int)-208))/\∀z∈r,sY z.1)
  ⟨Jw,[],[],x,rest,[],[],ed,rfl,rfl,.refl,u2.old _ _ u1.self,u2.self,rfl,rfl,hR⟩ λk ρ H3 P h hP=>?_
 refine Qc λU v6=>?_;obtain ⟨o,p,a,b,r,V,W,e1,ek,rfl,m3,hL,hM,eV,eW,hr⟩:=h;refine v6 ?_;have ext:Ext H H3:=⟨xH (kM.mod (P:=λU=>False) u1).len (xH (kM.mod (P:=λU=>False) u2).len m3.len),λj o' U h=>m3.at_ _ _ (λe=>e.elim (u1.ne h) (u2.ne (u1.old _ _ h))) (u2.old _ _ (u1.old _ _ h))⟩
 have e2:d=(p++ay a)++(ay b++joinR r):=by rw[e1,gF,yt,yt]
 have lp:(p++ay a).length=p.length+(ay a).length:=xK;have dl:d.length=p.length+(ay a).length+(ay b++joinR r).length:=by rw[e2,xK,lp]
 have less:∀{c},c≠0->p.length+(ay a).length+c<=d.length->d.length-(p.length+(ay a).length+c)<k:=λhc hle=>by rw[ek,<-Ea];exact AB (Gk (xO (BQ (DX hc)) hle)) (DX hc)
 have lV:(V.map AV.bytes).length<1000000:=by
  have:=congrArg Al eV;rw[xK,Ak,xJ,Ak,xJ] at this;rw[xJ];exact xN (xH (x7 _ _) (xH (yQ this) (Bf lr))) (by decide)
 have lW:(W.map AV.int).length<1000000:=by
  have:=congrArg Al eW;rw[xK,xJ,xJ] at this;rw[xJ];exact xN (xH (x7 _ _) (xH (yQ this) lr)) (by decide)
 have la:(ay a).length<900000:=xN (by rw[dl,AE,yE];exact x7 _ _) hl;have mx:∀{c:Nat},c<d.length->(c:Int)<1000000:=λh=>x9.mpr (yL h lk);cases b with
 | cons o' b=>
  refine (adX o').elim λt et=>?_;have e3:d=(p++ay a)++o'::(t++ay b++joinR r):=by rw[e2,show ay (o'::b)=kJ o'++ay b from rfl,et];rfl
  have g0:d[p.length+(ay a).length]? =J o':=by rw[<-lp,e3];exact dB
  have lt:=(xQ.mp g0).1;have fin:∀{k':Nat},k'=(ay (a++[o'])).length->p.length+k'<=d.length->P [J (.bytes d),J (.ref L),J (.ref M),J (.int p.length),J (.int (p.length+k':Nat)),o] H3:=λ{k'} e hle=>by
   refine Qc λU y6=>?_;subst e;refine y6 ?_;have ea:a++o'::b=(a++[o'])++b:=by rw[yt];rfl
   refine hP _ _ _ ?_ ⟨o,p,a++[o'],b,r,V,W,by rw[<-ea];exact e1,rfl,rfl,m3,hL,hM,by rw[<-ea];exact eV,eW,hr⟩;rw[dM,xK,<-zf] at hle ⊢;exact less (by rw[et];exact Dn _) hle
  refine .kY (ya lk) (.yes (x9.mpr lt) (.bytes (nn _) (mx lt) g0 ?_));show dI _ _ (!((o'.toNat:Int)==255));rw[uB];by_cases e:o'=255
  ·rw[decide_eq_true e]
   have e4:d=(p++ay a)++255::0::(ay b++joinR r):=by rw[e2,show ay (o'::b)=kJ o'++ay b from rfl,kJ,if_pos e];rfl
   have g1:d[p.length+(ay a).length+1]? =J 0:=by rw[<-lp,e4];exact pQ
   have l1:=(xQ.mp g1).1;exact .f (.kY (ya lk) (.yes (x9.mpr l1) (.bytes (k:=((p.length+(ay a).length:Nat):Int)+1) (nn (p.length+(ay a).length+1)) (mx l1) g1 (.t (fin (k':=(ay a).length+2) (by rw[dM,kJ,if_pos e,xK];rfl) l1)))))
  ·rw[decide_eq_false e]
   exact .t (fin (k':=(ay a).length+1) (by rw[dM,kJ,if_neg e,xK];rfl) lt)
 | nil=>
  rw[yB] at e1 eV;cases r with
  | nil=>
   have e1:=(yB _)▸(show joinR []=[] from rfl)▸e1;have e3:d.drop p.length=ay a:=by rw[e1,He]
   have e4:d.length=p.length+(ay a).length:=by rw[e1,xK]
   refine .kY (ya lk) (.no (λh=>absurd (x9.mp h) (xX.mpr (yQ e4))) (.append hL (.from (j:=p.length) (ya lk) (nn _) (x9.mpr (xN (e4▸x7 _ _) lk)) ?_)));show call (.run true) (n+1) 727 [.bytes (d.drop p.length)] H3 _ X;rw[e3];refine abO la λH4 m4=>.append (m4.get hL) lV λH5 u5=>q H5 L M ⟨xH ext.len (xH m4.len (yQ u5.len.symm)),λj o' U h=>u5.ne _ _ (u1.ne h) (m4.get (ext.get h))⟩ ?_ ?_
   ·rw[<-eV,yq];exact u5.self
   ·rw[<-eW,List.map_nil,yB];exact u5.ne _ _ nLM.symm (m4.get hM)
  | cons z r=>
   obtain ⟨m,y⟩:=z;have hm:sY m:=hr (m,y) (.head _);have e3:d=(p++ay a)++255::m::(ay y++joinR r):=e2;have g0:d[p.length+(ay a).length]? =J 255:=by rw[<-lp,e3];exact dB
   have g1:d[p.length+(ay a).length+1]? =J m:=by rw[<-lp,e3];exact pQ
   have lt:=(xQ.mp g0).1;have l1:=(xQ.mp g1).1;have i1:∀{Q':AV->AH->Prop} {H':AH},Q' (.int m.toNat) H'->fV H' Q' (.bytes d) (.int (((p.length+(ay a).length:Nat):Int)+1)):=λh=>.bytes (k:=((p.length+(ay a).length:Nat):Int)+1) (nn (p.length+(ay a).length+1)) (mx l1) g1 h;refine .kY (ya lk) (.yes (x9.mpr lt) (.bytes (nn _) (mx lt) g0 (.bf rfl (.kY (ya lk) (.yes (x9.mpr l1) (i1 (.bf ?_ (ah4 lk g1 (apd hm).1 (.kY (ya lk) (.no (λh=>absurd (yj.mp h) (AD.mpr l1)) (i1 (adC hm (.f ?_)))))))))))))
   ·exact beq_eq_false_iff_ne.mpr λh=>(apd hm).2 (GB.mp (zr.mp h))
   ·refine .append hL (.both (j:=p.length) (k:=(p.length+(ay a).length:Nat)) (ya lk) (nn _) (yj.mpr (x7 _ _)) (mx lt) ?_)
    have es:(d.take (p.length+(ay a).length)).drop p.length=ay a:=by rw[e1];exact akD rfl
    show call (.run true) (n+1) 727 [.bytes ((d.take (p.length+(ay a).length)).drop p.length)] H3 _ X;rw[es];refine abO la λH4 m4=>.append (m4.get hL) lV λH5 u5=>.append (u5.ne _ _ nLM.symm (m4.get hM)) (i1 (.append (u5.ne _ _ nLM.symm (m4.get hM)) lW λH6 u6=>?_));refine hP (d.length-(p.length+(ay a).length+2)) [J (.bytes d),J (.ref L),J (.ref M),J (.int (p.length+(ay a).length+2:Nat)),J (.int (p.length+(ay a).length+2:Nat)),J (.int (p.length+(ay a).length:Nat))] H6 (less (by decide) l1) ⟨J (.int (p.length+(ay a).length:Nat)),p++ay a++[255,m],[],y,r,V++[a],W++[(m.toNat:Int)-208],by rw[e3,yt (p++ay a)];rfl,?_,?_,m3.trans (m4.mod.trans ((u5.mod (.inl rfl)).trans (u6.mod (.inr rfl)))),?_,?_,by rw[yt];exact eV,by rw[yt];exact eW,λz hz=>hr z (.tail _ hz)⟩
    ·rw[xK,lp];rfl
    ·rw[xK,lp];rfl
    ·rw[yq];exact u6.ne _ _ nLM u5.self
    ·rw[yq];exact u6.self
end
structure wG where
 t:Nat
 rw:Nat
 cd:Nat
 es:List (Int×AV)
 deriving Nonempty
def xG(c:Nat->Nat)(sy:List Int)(e:Int×AV):Prop:=∃i k,i<16/\k<c i/\sy[cP c i+k]? =J e.1/\e.2= .tup [.int (cC c i+k:Nat),.int (i+1:Nat)]
structure TabAt(H:AH)(A:wG)(c:Nat->Nat)(sy:List Int):Prop where
 h1:H[A.t]? =J (.inst 551 [(50,.tup (kL c)),(51,.tup (sy.map .int)),(14,.ref A.rw),(52,.ref A.cd)])
 h2:H[A.rw]? =J (.list (tab 16 (vI c)))
 h3:∃ep,H[A.cd]? =J (.aP A.es ep)
 keys:A.es.map (·.1)=sy
 cd:∀e∈A.es,xG c sy e
 pl:cP c 16=sy.length
 qw:sy.length<=18
 kr:qx c 16<2^16
 nd:sy.Nodup
abbrev wG.own(A:wG)(j:Nat):Prop:=j=A.t\/j=A.rw\/j=A.cd
theorem TabAt.mod{c:Nat->Nat}(h:TabAt H A c sy)(m:Mod P H H')(n:∀j,A.own j->¬P j):TabAt H' A c sy:=
 ⟨m.at_ _ _ (n _ (.inl rfl)) h.h1,m.at_ _ _ (n _ (.inr (.inl rfl))) h.h2,h.h3.elim λep h'=>⟨ep,m.at_ _ _ (n _ (.inr (.inr rfl))) h'⟩,h.keys,h.cd,h.pl,h.qw,h.kr,h.nd⟩
theorem TabAt.ext{c:Nat->Nat}(h:TabAt H A c sy)(m:Ext H H'):TabAt H' A c sy:=h.mod m λU U=>id
theorem aiK{c:Nat->Nat}(hi:i<16)(hk:k<c i):cP c i+k<cP c 16:=xO (Bc hk _) (mQ c (i:=i+1) hi)
section
variable{r:Bool}{n:Nat}{H:AH}{Q:AV->AH->Prop}{X:XF}{c:Nat->Nat}{sy:List Int}
theorem ajp(kr:qx c 16<2^16)(pl:cP c 16=sy.length)(qw:sy.length<=18)(nd:sy.Nodup)(q:∀H' A,Ext H H'->(∀j,A.own j->H.length<=j)->TabAt H' A c sy->Q (.ref A.t) H'):iT (sg (.run r) (n+2)) 551 [.tup (kL c),.tup (sy.map .int)] H Q X:=by
 revert r n H Q X c sy;apply e7;intro U;apply(?Z:Tq U);intro r n H Q X c sy;intros;exact .mk λt H1 u1=>by
  have ls:(sy.map AV.int).length=sy.length:=xJ _;refine enter [J (.ref t),J (.tup (kL c)),J (.tup (sy.map .int)),Jw,Jw,Jw,Jw,Jw] rfl rfl rfl (ajY pl qw nd λH2 m2=>.vD (.mk (m2.get u1.self) rfl sW λH3 u3=>.vD (.mk u3.self rfl tR λH4 u4=>.mk u4.self rfl (akJ kr λw H5 m5 lw hw=>.mk (m5.get u4.self) rfl qQ λH6 u6=>λd H7 u7=>.mk (u7.old _ _ u6.self) rfl rV λH8 u8=>?_))));have u34:=u3.upd u4;have nt4:∀{j o},H4[j]? =J o->j<H4.length:=λh=>aS h;have wt:w≠t:=λe=>absurd (aS u4.self) (xX.mpr (e▸lw));have dt:=(u7.ne u6.self).symm;have hw6:=u6.ne _ _ wt hw;have dw:=u7.ne hw6;have hw8:=u8.ne _ _ wt (u7.old _ _ hw6);have hd8:=u8.ne _ _ dt u7.self;have m16:=(m2.mod.trans (u34.mod (P:=λj=>j=t) rfl)).trans (m5.mod.trans (u6.mod rfl));have e06:=eC u1 m16;have up:∀{j o},H[j]? =J o->j≠d/\H8[j]? =J o:=λh=>⟨u7.ne (e06.get h),u8.ne _ _ (u1.ne h) (u7.old _ _ (e06.get h))⟩
  refine .q9 (aeQ (n:=16) (by decide) rfl rfl (λi ρ H'=>∃o,ρ=[J (.ref t),J (.tup (kL c)),J (.tup (sy.map .int)),o 3,o 4,o 5,o 6,o 7]/\Mod (λj=>j=d) H8 H'/\∃es ep,H'[d]? =J (.aP es ep)/\es.map (·.1)=sy.take (cP c i)/\∀e∈es,xG c sy e) (bJ (λU=>Jw) rfl (.refl) (k4 [] 0 hd8 rfl nM)) (λi ρ H9 P hi h hP=>?_) λρ H9 h=>?_)
  ·refine Qc λU v6=>?_;obtain ⟨o,rfl,m9,es,ep,hd,ek,ec⟩:=h;refine v6 ?_
   refine .mk (m9.at_ _ _ dt.symm u8.self) rfl ?_;show fV _ _ _ (.int (((i+1:Nat):Int)-1));refine Z (al9 i) ?_;refine .lY (m9.at_ _ _ dw hw8) hi (by decide) (.bQ (cq (n:=c i) (xH (xH (zJ _ (cP c i)) (mQ c (i:=i+1) hi)) (pl▸xH qw (by decide))) rfl (λk ρ H'=>∃o,ρ=[J (.ref t),J (.tup (kL c)),J (.tup (sy.map .int)),J (.int (i+1:Nat)),J (.int (cC c i:Nat)),J (.int (c i:Nat)),J (.int (cP c i:Nat)),o]/\Mod (λj=>j=d) H8 H'/\∃es ep,H'[d]? =J (.aP es ep)/\es.map (·.1)=sy.take (cP c i+k)/\∀e∈es,xG c sy e) (bJ _ rfl m9 (k4 es ep hd ek ec)) (λk ρ H10 P2 hk h hP2=>?_) λρ H10 h=>?_))
   ·refine Qc λU y6=>?_;obtain ⟨o,rfl,m10,es,ep,hd,ek,ec⟩:=h;refine y6 ?_
    have lp:=pl▸aiK hi hk;have ht:=m10.at_ _ _ dt.symm u8.self;have le:es.length<=18:=by have:=congrArg Al ek;rw[xJ,Ai] at this;refine Z this ?_;exact xH (BP ..) qw
    have hk':=Bv.mpr λh=>ac2 nd lp (ek▸hH.mp h);refine .mk ht rfl (.mk ht rfl (.jy (k:=(cP c i:Int)+k) rfl (xO lp (xH qw (by decide))) (v:=.int sy[cP c i+k]) (by rw[yA,xR lp];rfl) (.aP hd (xN le (by decide)) λep' H11 lI=>hP2 _ _ (bJ _ rfl (m10.trans (lI.mod rfl)) (k4 _ ep' lI.self ?_ ?_)))))
    ·refine Z (jG hk') (Z yq (Z ek ?_));exact zm lp
    ·intro e he
     rw[jG hk'] at he;rcases yz.mp he with he | he
     ·exact ec e he
     ·refine Z (xV.mp he) ?_;exact ⟨i,k,hi,hk,xR lp,rfl⟩
   ·refine Qc λU z6=>?_;obtain ⟨o,rfl,m10,es,ep,hd,ek,ec⟩:=h;refine z6 ?_
    exact hP _ _ (bJ (λj=>[J (.int (i+1:Nat)),J (.int (cC c i:Nat)),J (.int (c i:Nat)),J (.int (cP c i:Nat)),o].getD (j-3) Jw) rfl m10 (k4 es ep hd ek ec))
  ·refine Qc λU v7=>?_;obtain ⟨o,rfl,m9,es,ep,hd,ek,ec⟩:=h;refine v7 ?_
   rw[pl,zc] at ek;refine q H9 ⟨t,w,d,es⟩ ⟨?_,λj o U h=>m9.at_ _ _ (up h).1 (up h).2⟩ (λj h=>h.elim (λe=>e▸u1.fG (xS _)) λh=>h.elim (λe=>e▸xH (xH (u1.len▸yY _) m2.len) (u34.len▸lw)) λe=>e▸u7.fG e06.len) ⟨m9.at_ _ _ dt.symm u8.self,m9.at_ _ _ dw hw8,⟨ep,hd⟩,ek,ec,pl,qw,kr,nd⟩;exact xH e06.len (xH (u7.len▸yY _) (u8.len▸m9.len))
end
noncomputable def rC(es:List (Int×AV))(s:Int):List Bool:=match getKey es s with
 | some (.tup [.int v,.int n])=>bI v.toNat n.toNat
 | _=>[]
section
variable{r:Bool}{n:Nat}{H:AH}{Q:AV->AH->Prop}{X:XF}{c:Nat->Nat}{sy:List Int}{A:wG}{s:Int}{b:Nat}{R:List Bool}
theorem TabAt.code(T:TabAt H A c sy)(h:s∈sy):∃i k,i<16/\k<c i/\sy[cP c i+k]? =J s/\getKey A.es s=J (.tup [.int (cC c i+k:Nat),.int (i+1:Nat)])/\rC A.es s=bI (cC c i+k) (i+1)/\cC c i+k<2^(i+1):=by
 revert H c sy A s;apply e5;intro U;apply(?Z:Tq U);intro H c sy A s;intros;obtain ⟨e,he,rfl⟩:=yg.mp (T.keys▸h);refine Qc λU u6=>(T.cd e he).elim λi v6=>v6.elim λk y6=>y6.elim λh1 z6=>z6.elim λh2 u7=>u7.elim λh3 h4=>u6 ?_;have g:=jd (k:=e.1) (v:=e.2) (T.keys▸T.nd) he;rw[h4] at g;exact ⟨i,k,h1,h2,h3,g,by unfold rC;refine Z g ?_;rfl,xO (Bc h2 _) (ya (ajA T.kr h1))⟩
theorem ae0(T:TabAt H A c sy)(h:s∈sy)(q:∀v m:Nat,m<=16->v<2^m->rC A.es s=bI v m->Q (.tup [.int v,.int m]) H):call (.run r) (n+1) 541 [.ref A.t,.int s] H Q X:=by
 refine uF (T.code h) λi k h1 h2 h3 g e l=>?_;refine T.h3.elim λep hc=>?_;refine enter [J (.ref A.t),J (.int s),Jw] rfl rfl rfl (.mk T.h1 rfl (.get hc (.aoK hc ?_)));refine Z g ?_;exact .f (q _ _ h1 l e)
theorem aj3(V m):V / 2^(m+1)*2+(decide (V / 2^m % 2=1)).toNat=V / 2^m:=by
 exact Z (toNat_mod _) (Z (AM _ _) (Ql (Nat.div_div_eq_div_mul _ _ _) (Z (AN _ _) (Z (Nat.div_add_mod _ _) rfl))))
theorem aed(T:TabAt H A c sy)(h:s∈sy)(w:dZ H b (rC A.es s++R))(nb:¬A.own b)(q:∀H',Mod (λj=>j=b) H H'->dZ H' b R->Q (.int s) H'):call (.run r) (n+2) 548 [.ref A.t,.ref b] H Q X:=by
 revert r n H Q X c sy A s b R;apply ub;intro U;apply(?Z:Tq U);intro r n H Q X c sy A s b R;intros;refine uF (T.code h) λi k h1 h2 h3 g e l=>?_;rw[e] at w;have nt:A.t≠b:=λe=>nb (.inl e.symm);have nw:A.rw≠b:=λe=>nb (.inr (.inl e.symm));refine enter [J (.ref A.t),J (.ref b),Jw,Jw,Jw,Jw] rfl rfl rfl (.mk T.h1 rfl (dY T.h2 (by refine Z aI ?_;decide) (λj ρ H'=>∃o,ρ=[J (.ref A.t),J (.ref b),J (.int ((cC c i+k) / 2^(i+1-j):Nat)),o 3,o 4,o 5]/\j<=i/\Mod (λj=>j=b) H H'/\dZ H' b (bI (cC c i+k) (i+1-j)++R)) (oz (λU=>Jw) (by refine Z (Nat.sub_zero _) (Z (EC l) ?_);rfl) (yI _) (.refl) w) (λj v ρ H1 P hv h hP=>?_) λρ H1 h=>?_))
 ·obtain ⟨o,rfl,hj,m1,w1⟩:=h
  obtain ⟨hj16,rfl⟩:=tabAt hv;refine ⟨m1.at_ _ _ nw T.h2,?_⟩;rw[Gj hj] at w1 ⊢;obtain ⟨fs,hb⟩:∃fs,cS H1 b 502 fs/\fs.lookup 49=Jw:=by obtain ⟨_,_,hb,_⟩:=w1;exact (aM _ hb rfl)
  refine ⟨ji (b:=2) (by decide),aN (k:=.run r) hb.1 hb.2 rfl (aj4 w1 λH2 m2 w2=>?_)⟩;have eb:=aj3 (cC c i+k) (i-j);have ez:((cC c i+k) / 2^(i-j+1):Nat)*(2:Int)+(decide ((cC c i+k) / 2^(i-j) % 2=1)).toNat=((cC c i+k) / 2^(i-j):Nat):=congrArg Ao eb;by_cases lt:j<i
  ·refine .no (λh=>?_) (hP _ _ (oz (λx=>[J (.int (cC c j:Nat)),J (.int (c j:Nat)),J (.int (cP c j:Nat))].getD (x-3) Jw) ?_ lt (m1.trans m2) (by refine Z (Di _ _ _) ?_;exact w2)))
   ·have h:=h
    rw[ez] at h;exact absurd (Int.lt_add_of_sub_right_lt h) (zg.mpr (yj.mpr (akY lt)))
   ·refine Z (Di _ _ _) (Ql ez ?_);rfl
  ·obtain rfl:j=i:=yW hj (xX.mp lt)
   have ek:=(congrArg (· -(cC c j:Int)) (De (cC c j:Int) k)).trans (Ah (k:Int) _);have e0:(cC c j+k) / 2^(j-j)=cC c j+k:=by exact Z (Bx _) (Z (Nat.pow_zero _) (Z (Nat.div_one _) rfl))
   refine .yes ?_ (.mk ((m1.trans m2).at_ _ _ nt T.h1) rfl (.jy (j:=cP c j+k) ?_ ?_ (v:=.int s) (by rw[yA,h3];rfl) (q H2 (m1.trans m2) ?_)))
   ·show ((cC c j+k) / 2^(j-j+1):Nat)*(2:Int)+(decide ((cC c j+k) / 2^(j-j) % 2=1)).toNat-cC c j<c j
    refine Z ez (Z e0 (Z ek ?_));exact x9.mpr h2
   ·show (cP c j:Int)+(((cC c j+k) / 2^(j-j+1):Nat)*(2:Int)+(decide ((cC c j+k) / 2^(j-j) % 2=1)).toNat)-cC c j=(cP c j+k:Nat)
    refine Z ez (Z e0 (Z (Int.add_sub_assoc _ _ _) (Z ek ?_)));rfl
   ·exact xO (aiK h1 h2) (T.pl▸xH T.qw (by decide))
   ·rw[Bx] at w2;exact w2
 ·obtain ⟨o,rfl,hj,_⟩:=h
  rw[aI] at hj;exact absurd h1 (xX.mpr hj)
end
abbrev Told(T:List CE)(seen:List (Nat×Int)):Prop:=∀p∈seen,∃e∈T,e.sp=p.1/\cat p.2∈e.ta.map (·.1)
inductive sE(aT:Nat)(seen:List (Nat×Int))(O:Nat->Prop)(H:AH):Prop
 | mk(c:Nat)(T:List CE)(K:fQ aT c T H)(e:O=tc aT c T)(t:Told T seen):sE aT seen O H
noncomputable def c9(aT:Nat):Sink (List (Nat×Int)) where
 aT:=aT
 C:=702
 uT:=685
 sa:=692
 uU:=699
 St:=sE aT
 vX:=λseen sp d=>sE aT (seen++[(sp,d)])
 upd:=λseen sp d=>seen++[(sp,d)]
 ok:=λU sp d=>sp<3/\d.natAbs<=32768
 out:=λU=>[]
 vH:=λs=>s
theorem fQ.mod{aT c:Nat}{T:List CE}(K:fQ aT c T H)(m:Mod P H H')(n:∀j,tc aT c T j->¬P j):fQ aT c T H':=
 ⟨m.at_ _ _ (n _ (.inl rfl)) K.h1,K.h2.imp (λu6=>u6.elim λa v6=>v6.elim λep h=>⟨a,⟨ep,m.at_ _ _ (n _ (.inr (.inl rfl))) h⟩⟩) λy6=>y6.elim λa h=>⟨a,m.at_ _ _ (n _ (.inr (.inl rfl))) h⟩,
  λe he=>(K.h3 e he).elim λep h=>⟨ep,m.at_ _ _ (n _ (.inr (.inr (aM e he rfl)))) h⟩,K.ok,K.nd,K.na,K.ne,K.l3⟩
theorem afN(aT)(r)(n:Nat):(c9 aT).Ok r n:=by
 revert aT r n;apply e3;intro U;apply(?Z:Tq U);intro aT r n;intros;exact {
  inst:=λs O H z8=>z8.rec λc T K e t=>(oz _ K.h1 rfl rfl rfl)
  tZ:=λs p d O H z9=>z9.rec λc T K e t=>(aM _ K.h1 rfl)
  own:=λs O H z10=>z10.rec λc T K e t=>e▸.inl rfl
  aof:=λs p d O H z11=>z11.rec λc T K e t=>e▸.inl rfl
  lt:=λs O H z12 j h=>z12.rec λc T K e t=>by
   subst e;rcases h with rfl | rfl | ⟨x,hx,rfl⟩
   ·exact aS K.h1
   ·exact K.h2.elim (λz13=>z13.elim λU u14=>u14.elim λU h=>aS h) λv14=>v14.elim λU h=>aS h
   ·refine (K.h3 x hx).elim λU h=>?_;exact aS h
  mod:=λs O H P H' y14 m n=>y14.rec λc T K e t=>⟨c,T,K.mod m (e▸n),e,t⟩
  vM:=rfl
  tQ:=rfl
  vN:=rfl
  sym:=λs p d O H Q X y15 ok q=>y15.rec λc T K e t=>by
   subst e;have cr:=adb ok.2;refine alB K ok.1 cr.1 cr.2 λH' h=>?_;obtain ⟨T',K',m,old,new,g⟩:=h;refine q H' _ m g ⟨c,T',K',rfl,λz hz=>(yz.mp hz).elim (λhz=>?_) λhz=>xV.mp hz▸new⟩;refine fc (t z hz) λx hx e1 e2=>?_;refine fc (old x hx) λy hy e3 e4=>?_;exact (bJ y hy (e3.trans e1) (e4 _ e2))
  bits:=λs p d O H Q X st U U q=>go (k:=.run r) rfl ⟨rfl,q H O .refl (λU=>.inl) st⟩
  skip:=λs p d O H st U=>st
  fin:=λs O H Q X st q=>go (k:=.run r) rfl ⟨rfl,q H O .refl (λU=>.inl) st⟩}
section
variable{r:Bool}{n N:Nat}{H:AH}{Q:AV->AH->Prop}{X:XF}{A:kN}{g:bC}{pr:Nat}{B:oR}{ps:List Nat}{kind lo:Int}
theorem aiI(q:∀H' p t,Ext H H'->H.length<=p->H.length<=t->bB H' p gr kind mid t []->Q (.ref p) H'):iT (sg (.run r) (n+1)) 181 [.ref gr,.int kind,.int mid] H Q X:=.mk λp H1 u1=>go (k:=.run r) rfl ⟨rfl,.mk u1.self rfl sW λH2 u2=>.mk u2.self rfl tR λH3 u3=>.mk u3.self rfl qQ λH4 u4=>λt H5 u5=>.mk (u5.old _ _ u4.self) rfl rV λH6 u6=>by
 have u:=u1.upd ((u2.upd u3).upd u4);have nt:=u5.ne u.self;refine q H6 p t ⟨?_,λj o U h=>u6.ne j o (u.ne h) (u5.old _ _ (u.old _ _ h))⟩ (u.fG (xS _)) (u5.fG (u.len▸yY _)) ⟨u6.self,0,u6.ne _ _ nt.symm u5.self⟩;refine Z u6.len (Z u5.len (Z u.len ?_));exact x7 _ 2⟩
theorem abM(q:∀w H',kM w (.inst 261 [(18,.ref sl),(10,.ref gr),(19,.ref p),(20,.ref aT)]) H H'->Q (.ref w) H'):iT (sg (.run r) (n+1)) 261 [.ref sl,.ref gr,.ref p,.ref aT] H Q X:=.mk λw H1 u1=>go (k:=.run r) rfl ⟨rfl,.mk u1.self rfl sW λH2 u2=>.mk u2.self rfl tR λH3 u3=>.mk u3.self rfl qQ λH4 u4=>.mk u4.self rfl rV λH5 u5=>q w H5 (u1.upd (((u2.upd u3).upd u4).upd u5))⟩
theorem ahR(q:∀H' aT,Ext H H'->H.length<=aT->sE aT [] (tc aT (aT+1) []) H'->Q (.ref aT) H'):iT (sg (.run r) (n+1)) 702 [] H Q X:=.mk λw H1 u1=>go (k:=.run r) rfl ⟨rfl,λc H2 u2=>.mk (u2.old _ _ u1.self) rfl sW λH3 u3=>by
 have nc:=u2.ne u1.self;obtain rfl:c=w+1:=by exact Z u2.eq (Z u1.len (Z u1.eq rfl))
 refine q H3 w ⟨?_,λj o U h=>u3.ne j o (u1.ne h) (u2.old _ _ (u1.old _ _ h))⟩ (u1.fG (xS _)) ⟨w+1,[],⟨u3.self,.inl ⟨rfl,0,u3.ne _ _ nc.symm u2.self⟩,nM,nM,.nil,.nil,nM,nM⟩,rfl,nM⟩;refine Z u3.len (Z u2.len (Z u1.len ?_));exact x7 _ 2⟩
noncomputable def eE(pr:Nat)(lo:Int):Int:=2^((pr:Int)-lo-1).toNat
theorem iK(F:aQ N H A g pr)(S:bx N H B ps kind lo)(h0:0<=lo)(h1:lo<pr)(h2:pr<=64)(q:∀H' p t,Ext H H'->H.length<=p->H.length<=t->bB H' p gr kind (eE pr lo) t []->Q (.ref p) H'):call (.run r) (n+2) 762 [.ref A.f,.ref B.s,.ref gr] H Q X:=by
 refine S.h1.elim λac h=>?_;exact go (k:=.run r) rfl ⟨rfl,.mk h rfl (.mk F.h1 rfl (.mk h rfl (aaC h1 (yG (Bu _ h0) (yj.mpr h2)) (aiI q))))⟩
end
section
variable(S:Nat->Nat->Nat->Int)(kind mid:Int)
noncomputable def iA:List UE->List (Int×AV)->List (Nat×Int)
 | [],_=>[]
 | u::r,es=>(u.1,ux S kind mid es u)::iA r (uu es u)
end
noncomputable def qS(us:List UE)(es:List (Int×AV)):List (Int×AV):=us.foldl uu es
noncomputable def jI(iv:Nat)(z:List (Int×AV)×Nat):List (Int×AV)×Nat:=if 0<iv/\z.2=iv then ([],0) else z
noncomputable def jb(iv:Nat)(un:Nat->List UE):Nat->List (Int×AV)×Nat
 | 0=>([],0)
 | j+1=>(qS (un j) (jI iv (jb iv un j)).1,(jI iv (jb iv un j)).2+1)
noncomputable def nk(iv:Nat)(un:Nat->List UE)(j:Nat):List (Int×AV):=(jI iv (jb iv un j)).1
def VU(E:cG):List UE->List (Int×AV)->Prop
 | [],_=>True
 | u::r,es=>vV E es u/\VU E r (uu es u)
section
variable{σ:Type}{K:Sink σ}{E:cG}{iv:Nat}{un:Nat->List UE}{s0:σ}
theorem mj(us):∀z,j5 K E us z=((iA E.S E.kind E.mid us z.2).foldl (λs p=>K.upd s p.1 p.2) z.1,qS us z.2):=by
 induction us with
 | nil=>intro z;rfl
 | cons u r ih=>intro z;exact ih _
theorem aiS(m:σ->Nat)(hm:∀s p d,m (K.upd s p d)<=m s+1)(B):∀{es:List (Int×AV)} {s:σ},VU E us es->(∀p∈iA E.S E.kind E.mid us es,∀s,m s<B->K.ok s p.1 p.2)->m s+us.length<=B->we K E us (s,es):=by
 induction us with
 | nil=>intro es s _ _ _;trivial
 | cons u r ih=>intro es s h k l;exact ⟨⟨h.1,k _ (.head _) s (xO (BQ (Af _)) l)⟩,ih h.2 (λp hp=>k p (.tail _ hp)) (xH (yR (hm ..) _) (by refine Z (zf _ _ _) (Z (yE 1 _) ?_);exact l))⟩
theorem aia(z):((dg K iv z).es,(dg K iv z).many)=jI iv (z.es,z.many):=by
 unfold dg jI;by_cases h:0<iv/\z.many=iv
 ·exact Z (if_pos h) (Z (if_pos h) rfl)
 ·exact Z (if_neg h) (Z (if_neg h) rfl)
theorem tn:∀j,((gC K E iv un s0 j).es,(gC K E iv un s0 j).many)=jb iv un j
 | 0=>rfl
 | j+1=>by
  have h:=aia (K:=K) (iv:=iv) (gC K E iv un s0 j);rw[tn j] at h;show ((j5 K E (un j) (_,(dg K iv (gC K E iv un s0 j)).es)).2,(dg K iv (gC K E iv un s0 j)).many+1)=_;rw[mj,jb,<-h]
theorem mf(j):(dg K iv (gC K E iv un s0 j)).es=nk iv un j:=by
 have h:=aia (K:=K) (iv:=iv) (gC K E iv un s0 j);rw[tn j] at h;exact congrArg Bs h
end
noncomputable def jn(S:Nat->Nat->Nat->Int)(kind mid:Int)(iv:Nat)(un:Nat->List UE)(j:Nat):List (Nat×Int):=(yH j).flatMap λi=>iA S kind mid (un i) (nk iv un i)
theorem akA(h3:E.m<=3):∀{us:List UE} {es:List (Int×AV)},VU E us es->∀p∈iA E.S E.kind E.mid us es,p.1<3/\p.2.natAbs<=32768:=by
 intro us;induction us with
 | nil=>intro es _ p hp;cases hp
 | cons u r ih=>
  intro es h p hp;rcases yu.mp hp with rfl | hp
  ·exact ⟨xO h.1.d9 h3,hV _ _⟩
  ·exact ih h.2 p hp
theorem amv:∀j,(gC (c9 aT) E iv un [] j).s=jn E.S E.kind E.mid iv un j
 | 0=>rfl
 | j+1=>by
  show (j5 (c9 aT) E (un j) ((dg (c9 aT) iv (gC (c9 aT) E iv un [] j)).s,(dg (c9 aT) iv (gC (c9 aT) E iv un [] j)).es)).1=_;have hs:(dg (c9 aT) iv (gC (c9 aT) E iv un [] j)).s=(gC (c9 aT) E iv un [] j).s:=by unfold dg;split <;> rfl
  refine Z (mj _ _) (Z (mf _) (Z hs (Z (amv j) ?_)));have fl:∀l (s:List (Nat×Int)),l.foldl (λs p=>(c9 aT).upd s p.1 p.2) s=s++l:=λl=>by
   induction l with
   | nil=>intro s;exact (yB s).symm
   | cons p l ih=>intro s;refine Z DA (Z (ih _) ?_);show (s++[(p.1,p.2)])++l=s++p::l;refine Z (yt _ _ _) ?_;rfl
  rw[fl,jn,jn,GU,BD];simp
theorem aQ.up(h:aQ N H A g pr)(l:N<=N'):aQ N' H A g pr:=⟨h.h1,h.h2,h.h3,xO h.l1 l,xO h.l2 l,λk hk=>xO (h.l3 k hk) l⟩
theorem bx.up{ps:List Nat}{kind lo:Int}(h:bx N H B ps kind lo)(l:N<=N'):bx N' H B ps kind lo:=⟨h.h1,h.h2,h.h3,xO h.l1 l,xO h.l2 l,xO h.l3 l⟩
theorem bg.lt(h:bg H a S)(j)(hj:a.own j):j<H.length:=by
 rcases hj with rfl | rfl | ⟨k,hk,rfl⟩ | ⟨k,y,hk,hy,rfl⟩
 ·exact aS h.h1
 ·exact aS h.h2
 ·exact aS (h.h3 k hk)
 ·exact aS (h.h4 k y hk hy)
section
variable{r:Bool}{n N:Nat}{H:AH}{Q:AV->AH->Prop}{X:XF}{A:kN}{g:bC}{pr:Nat}{B:oR}{ps:List Nat}{kind lo:Int}{a:GA}{S:Nat->Nat->Nat->Int}
theorem afM{iv:Nat}(ok:g.Ok)(po:ia g ps)(F:aQ H.length H A g pr)(Sc:bx H.length H B ps kind lo)(sm:a.Small)(gr:bg H a S)(k1:1<=kind)(k7:kind<=7)(h0:0<=lo)(h1:lo<pr)(h2:pr<=64)
  (hv:∀E:cG,E.a=a->E.S=S->E.m=ps.length->∀j,j<aL g ps->VU E (aD g ps j) (nk iv (aD g ps) j)) (hn:aL g ps<90)
  (q:∀H' aT c T,Ext H H'->fQ aT c T H'->Told T (jn S kind (eE pr lo) iv (aD g ps) (aL g ps))->Q (.ref c) H'):call (.run r) (n+7) 769 [.ref A.f,.ref B.s,.ref a.g,.int iv] H Q X:=by
 revert r n H Q X A g pr B ps kind lo a S iv;apply hU;intro U;apply(?Z:Tq U);intro r n H Q X A g pr B ps kind lo;apply e3;intro U;apply(?Y:Tq U);intro a S iv;intros;obtain ⟨ac,hs⟩:=Sc.h1;refine enter [J (.ref A.f),J (.ref B.s),J (.ref a.g),J (.int iv),Jw,Jw] rfl rfl rfl (ahR λH1 aT m1 l1 s1=>.mk (m1.get hs) rfl (iK (F.ext m1) (Sc.ext m1) h0 h1 h2 λH2 p t m2 l2 qQ P2=>abM λw H3 u3=>?_));have m12:=m1.trans m2;have m13:=m12.trans u3.mod;have lw:=u3.fG m12.len;refine ⟨rfl,rfl,λL H4 u4=>?_⟩;have m14:Ext H H4:=m13.trans u4.mod;have ko:=afN aT r (n+2);have lp:=xH m1.len l2;have m24:Ext H2 H4:=Mod.trans u3.mod u4.mod;have m1':=m2.trans m24;obtain ⟨ep,ht⟩:=P2.h2;have cl:=ko.lt _ _ _ s1;have no:∀{j:Nat},H1.length<=j->¬tc aT (aT+1) [] j:=λl h=>absurd (cl _ h) (xX.mpr l);have lts:∀j,tc aT (aT+1) [] j->H.length<=j:=λj h=>h.elim (λe=>e▸l1) λh=>h.elim (λe=>e▸Ab l1) λu7=>aO u7 λU h U=>absurd h BH
 let E:cG:=⟨H.length,a,S,kind,eE pr lo,w,B.sl,p,ps.length⟩
 have eo:E.Ok aT H4:=⟨sm,gr.mod m14 λU U h=>h,gr.lt,k1,k7,u4.old _ _ u3.self,m14.get Sc.h3,po.three,Sc.l3,lp,lw⟩
 refine abN (K:=c9 aT) (E:=E) ok po ko eo (P2.mod m24 id id) (ko.mod _ _ _ _ _ s1 m1' λU U=>id) (F.ext m14) (Sc.ext m14) u4.self m14.len (xH m1.len qQ) (u4.fG m13.len) lts (no qQ) (no l2) (no (xH m2.len (u3.fG (xS _)))) (no (xH (Mod.len (P:=λU=>False) (m2.trans u3.mod)) (u4.fG (xS _))))
  (λj hj=>by refine Z (mf _) ?_;have:=hv E rfl rfl rfl j hj;exact aiS (λU=>0) (λU U U=>yI _) _ this (λp hp U U=>akA po.three this p hp) (xS _)) hn λH5 fo O' m5 hf st eo5=>?_
 obtain ⟨c,T,K,_,t⟩:=st;have t:=t;rw[amv] at t;have:Ext H H5:=⟨xH m14.len m5.len,λj o U h=>m5.at_ j o (AD.mpr (aS h)) (m14.get h)⟩
 exact .mk K.h1 rfl (q H5 aT c T this K t)
end
structure TE where
 sp:Nat
 A:wG
 c:Nat->Nat
 sy:List Int
 deriving Nonempty
noncomputable def qP(T:List TE):List (List Int×AV):=T.map λe=>([0,(e.sp:Int)],.ref e.A.t)
structure dH(H:AH)(D:Nat)(T:List TE):Prop where
 at_:T≠[]/\H[D]? =J (.bD (qP T))
 tab:∀e∈T,TabAt H e.A e.c e.sy
 nd:(T.map (·.sp)).Nodup
abbrev uv(D:Nat)(T:List TE)(j:Nat):Prop:=j=D\/∃e∈T,e.A.own j
theorem dH.mod{T:List TE}(h:dH H D T)(m:Mod P H H')(n:∀j,uv D T j->¬P j):dH H' D T:=
 ⟨⟨h.1.1,m.at_ _ _ (n _ (.inl rfl)) h.1.2⟩,λe he=>(h.2 e he).mod m λj hj=>n j (.inr (aM e he hj)),h.3⟩
theorem afo{K V:Type}[DecidableEq K]{es:List (K×V)}{k:K}{v:V}(h:getKey es k=Jw):br es k v=es++[(k,v)]:=by
 unfold getKey at h;rw[HF,Ag] at h;unfold br;rw[if_neg λq=>?_];refine aO (Cz.mp q) λx hx e=>?_;exact h x hx e
theorem alr{T:List TE}{sp:Nat}:(∃e∈T,e.sp=sp/\getKey (qP T) [0,(sp:Int)]=J (.ref e.A.t))\/(sp∉T.map (·.sp)/\getKey (qP T) [0,(sp:Int)]=Jw):=by
 revert T sp;apply e2;intro U;apply(?Z:Tq U);intro T sp;intros;have z:getKey (qP T) [0,(sp:Int)]=(T.find? λe=>decide (e.sp=sp)).map λe=>.ref e.A.t:=by
  unfold getKey qP;rw[BJ,ER];have:((λe=>decide (e.1=[0,(sp:Int)]))∘λe:TE=>(([0,(e.sp:Int)],AV.ref e.A.t):List Int×AV))=λe=>decide (e.sp=sp):=funext λe=>by
   show decide ([0,(e.sp:Int)]=[0,(sp:Int)])=decide (e.sp=sp);exact decide_eq_decide.mpr ⟨λh=>zr.mp (Bl (Bl h).2).1,λh=>by exact Z h rfl⟩
  refine Z this ?_;rfl
 cases h:T.find? λe=>decide (e.sp=sp) with
 | none=>
  refine .inr ⟨λq=>?_,by refine Z z (Z h ?_);rfl⟩;refine aO (yg.mp q) λe he q=>?_;exact Ag.mp h e he (decide_eq_true q)
 | some e=>exact .inl (bJ e (Bo h) (of_decide_eq_true (CJ (p:=λe:TE=>decide (e.sp=sp)) h)) (by refine Z z (Z h ?_);rfl))
section
variable{r:Bool}{n:Nat}{H:AH}{Q:AV->AH->Prop}{X:XF}{aT c:Nat}{T:List CE}
theorem aly(e)(l)(k:Nat)(h:e.2=(k:Int)+1)(i):cs (e::l) i=cs l i+if i=k then 1 else 0:=by
 unfold cs;refine Z yP (Z DB (Z h ?_));by_cases q:i=k
 ·exact Z (if_pos q) (Z q (Z (if_pos (beq_iff_eq.mpr rfl)) rfl))
 ·exact Z (if_neg q) (Z (if_neg λz=>q (AY (zr.mp (show ((k+1:Nat):Int)=((i+1:Nat):Int) from beq_iff_eq.mp z))).symm) rfl)
theorem ahl{d ep:Nat}(hd:H[d]? =J (.aP (fR ta) ep))(ok:pW ta)(q:∀H1 c (sy:List Int),Ext H H1->qx c 16<2^16->cP c 16=sy.length->sy.length<=18->sy.Nodup->(∀x∈ta.map (·.1),x∈sy)->k (.tup [.tup (kL c),.tup (sy.map .int)]) H1):call (.run r) (n+3) 594 [.ref d] H k X:=
 acL hd ok λH1 sz out m1 ok1 tb=>by
  have qw:sz.length<=18:=by
   have:=ok1.nd.length_le_of_subset λs hs=>(ok1.mem s).mp hs;rw[xJ,xJ] at this;exact xH this (Ab ok.len)
  have lo:out.length=sz.length:=by exact Z tb.pm.length_eq (Z (xJ _) rfl)
  refine (af2 cs rfl aly sz ok1.gB).elim λs1 s2=>?_;have pm:(out.map (·.2)).Perm (sz.map (·.1)):=(tb.pm.map _).trans (.of_eq (by refine Z zh ?_;rfl));have:=q H1 (cs sz) (out.map (·.2)) m1 (s1▸ok1.rX) (by exact Z s2 (Z (xJ _) (Z lo rfl))) (by refine Z (xJ _) (Z lo ?_);exact qw) (pm.nodup_iff.mpr ok1.nd) λx hx=>pm.mem_iff.mpr ((ok1.mem x).mpr hx);rw[zh] at this;exact this
theorem acu(K:fQ aT c T H)(hT:T≠[])(q:∀H' D T',Ext H H'->(∀j,uv D T' j->H.length<=j)->dH H' D T'->(∀e∈T,∃e'∈T',e'.sp=e.sp/\∀x∈e.ta.map (·.1),x∈e'.sy)->Q (.ref D) H'):call (.run r) (n+4) 776 [.ref c] H Q X:=by
 revert r n H Q X aT c T;apply e8;intro U;apply(?Z:Tq U);intro r n H Q X aT c T;intros;refine enter [J (.ref c),Jw,Jw,Jw,Jw] rfl rfl rfl λD H1 u1=>?_;have hc:=(K.h2.resolve_left λz8=>z8.elim λh U=>hT h).2;have K1:=K.mod (P:=λU=>False) u1.mod λU U=>id;have sK:∀e∈T,e.a≠D:=λe he=>(K.h3 e he).elim λU h=>u1.ne h;have nK:∀j,tc aT c T j->¬j=D:=λj h e=>h.elim (λq=>u1.ne K.h1 (q.symm.trans e)) λh=>h.elim (λq=>u1.ne hc (q.symm.trans e)) λu9=>aO u9 λx hx q=>sK x hx (q.symm.trans e);have lT:T.length<=3:=by
  have:=K.nd.length_le_of_subset (l₂:=yH 3) λx hx=>by
   obtain ⟨e,he,rfl⟩:=yg.mp hx;exact y5.mpr (K.l3 e he)
  rw[xJ,zM] at this;exact this
 have nd0:(T.map λe=>((0:Int),(e.sp:Int))).Nodup:=by
  have:=List.Pairwise.map (λs:Nat=>((0:Int),(s:Int))) (S:=(· ≠ ·)) (λa b h e=>h (zr.mp (F9 e).2)) K.nd;rw[zh] at this;exact this
 refine .af7 (ps:=T.map λe=>(0,(e.sp:Int))) (u1.old _ _ hc) (by unfold qd;refine Z zh (Z zh ?_);rfl) ⟨nd0,by refine Z (xJ _) ?_;exact xN lT (by decide),λout pm so L H2 u2=>?_⟩;have nL:=(u2.ne u1.self).symm;have l02:=Mod.len (P:=λU=>False) (u1.mod.trans u2.mod);have lo:out.length<=3:=by refine Z pm.length_eq (Z (xJ _) ?_);exact lT
 refine dY u2.self (by refine Z (xJ _) ?_;exact xH lo (by decide)) (λj ρ H'=>∃(o:Nat->Option AV) (T':List TE),ρ=[J (.ref c),J (.ref D),o 2,o 3,o 4]/\Mod (λj=>j=D) H2 H'/\((T'=[]/\∃ep,H'[D]? =J (.aP [] ep))\/(T'≠[]/\H'[D]? =J (.bD (qP T'))))/\(∀e∈T',TabAt H' e.A e.c e.sy)/\(∀e∈T',∀j,e.A.own j->H2.length<=j)/\T'.map (λe=>((0:Int),(e.sp:Int)))=out.take j/\∀e'∈T',∃e∈T,e.sp=e'.sp/\∀x∈e.ta.map (·.1),x∈e'.sy)
  (uN (λU=>Jw) [] rfl (.refl) (.inl ⟨rfl,⟨0,u2.old _ _ u1.self⟩⟩) nM nM rfl nM) (λj v ρ H3 P hv h hP=>?_) λρ H3 h=>?_
 ·obtain ⟨hj,rfl⟩:=gY hv
  obtain ⟨o,T',rfl,m3,hD,hT',hO,eo,hs⟩:=h;have K3:=K1.mod (P:=λj=>j=D) (u2.mod.trans m3) nK;have hc3:=(K3.h2.resolve_left λy9=>y9.elim λh U=>hT h).2;refine aO (yg.mp (pm.mem_iff.mp (zy hj))) λe0 he0 eq0=>?_;have key:=agF (T:=T) (sp:=e0.sp);have key:=key.resolve_right λz9=>z9.elim λh U=>h (yg.mpr (aM e0 he0 rfl));refine fc key λe he esp eg=>?_;refine (K3.h3 e he).elim λep ha=>?_;refine ⟨m3.at_ _ _ nL u2.self,?_⟩;refine Ql eq0 ?_;refine .bD hc3 rfl eg (ahl ha (K.ok e he) λH4 c4 sy m4 kr pl qw nd al=>ajp kr pl qw nd λH5 A m5 lA TA=>?_);have m35:Ext H3 H5:=m4.trans m5;have nsp:e0.sp∉T'.map (·.sp):=λh=>by
   refine aO (yg.mp h) λx hx ex=>?_;have h1:out[j]∈out.take j:=by refine Ql eo (Ql eq0 (Ql ex ?_));exact yg.mpr (aM x hx rfl)
   have e:=Ax j out;exact (B9.mp (e.symm▸(pm.nodup_iff.mpr nd0))).2.2 _ h1 _ (by refine Z (Aw hj) ?_;exact .head _) rfl
  have lT':T'.length<=3:=by have:=congrArg Al eo;rw[xJ,Ai] at this;refine Z this ?_;exact xH (BP ..) lo
  have nA:∀j,A.own j->j≠D:=λj h e=>by
   have:=xH m4.len (lA j h);rcases hD with ⟨_,_,h'⟩ | ⟨_,h'⟩ <;> exact absurd (aS h') (xX.mpr (e▸this))
  have l23:=xH m3.len m4.len;have fin:∀H6,Upd D (.bD (qP (T'++[⟨e0.sp,A,c4,sy⟩]))) H5 H6->P _ H6:=λH6 u6=>by
   refine hP _ _ (uN (λi=>[J (cN (0,(e0.sp:Int))),J (.tup (kL c4)),J (.tup (sy.map .int))].getD (i-2) Jw) (T'++[⟨e0.sp,A,c4,sy⟩]) rfl (m3.trans (m35.mod.trans (u6.mod rfl))) (.inr ⟨by simp,u6.self⟩) (λx hx=>?_) (λx hx j hj=>?_) ?_ (λx hx=>?_))
   ·rcases yz.mp hx with hx | hx
    ·refine ((hT' x hx).ext m35).mod (P:=λj=>j=D) (u6.mod rfl) λj hj e=>?_
     exact absurd (aS u1.self) (xX.mpr (xH (xH (u2.len▸yY _) (hO x hx j hj)) (yQ e)))
    ·refine Z (xV.mp hx) ?_;exact TA.mod (P:=λj=>j=D) (u6.mod rfl) nA
   ·rcases yz.mp hx with hx | hx
    ·exact hO x hx j hj
    ·rw[xV.mp hx] at hj;exact xH l23 (lA j hj)
   ·refine Z yq (Z eo (Ql (zm hj) (Ql eq0 ?_)));rfl
   ·rcases yz.mp hx with hx | hx
    ·exact hs x hx
    ·refine Z (xV.mp hx) ?_;exact (bJ e he esp al)
  rcases hD with ⟨eT,ep',hD⟩ | ⟨nT,hD⟩
  ·subst eT
   exact .aii (m35.get hD) rfl λH6 u6=>fin H6 u6
  ·refine .bD (m35.get hD) rfl (by unfold qP;refine Z (xJ _) ?_;exact xN lT' (by decide)) λH6 u6=>fin H6 ?_
   have:br (qP T') [0,(e0.sp:Int)] (.ref A.t)=qP (T'++[⟨e0.sp,A,c4,sy⟩]):=by
    rw[afo ((alr (T:=T')).resolve_left λjw=>fc jw λx hx ex U=>nsp (yg.mpr (aM x hx ex))).2,qP,qP,yq];rfl
   refine Ql this ?_;exact u6
 ·obtain ⟨o,T',rfl,m3,hD,hT',hO,eo,hs⟩:=h
  rw[xJ,zc] at eo;have nT:T'≠[]:=λh=>by
   subst h;exact hT (FA.mp (List.perm_nil.mp (eo▸pm.symm:(T.map _).Perm [])))
  have ndT:(T'.map (·.sp)).Nodup:=by
   have h:=eo▸(pm.nodup_iff.mpr nd0);rw[show T'.map (λe=>((0:Int),(e.sp:Int)))=(T'.map (·.sp)).map λs:Nat=>((0:Int),(s:Int)) by refine Z zh ?_;rfl] at h;exact List.Pairwise.of_map _ (λa b h e=>h (by exact Z e rfl)) h
  have lD:=u1.fG (xS _);refine ⟨m3.at_ _ _ nL u2.self,q H3 D T' (eC u1 (u2.mod.trans m3)) (λj h=>h.elim (λe=>e▸lD) λz10=>aO z10 λe he hj=>xH l02 (hO e he j hj)) ⟨hD.resolve_left λv11=>v11.elim λh U=>nT h,hT',ndT⟩ λe he=>?_⟩;obtain ⟨e',he',ee⟩:=yg.mp (eo.symm▸pm.mem_iff.mpr (yg.mpr (aM e he rfl)));have ee:=zr.mp (F9 ee).2;refine fc (hs e' he') λe2 he2 e3 e4=>?_;obtain rfl:=mU K.nd he2 he (e3.trans ee);exact (bJ e' he' ee e4)
end
noncomputable def mE(v s:Int):Int:=if 0<s/\v<2^(s-1).toNat then v-2^s.toNat+1 else v
theorem ajZ(h:cat d<=0):d=0:=by
 unfold cat at h;split at h
 ·rename_i e;exact Int.natAbs_eq_zero.mp (zr.mp e)
 ·exact absurd h (Int.not_le.mpr (AF (by decide) (Fu (nn _) 1)))
theorem pN(h:0<cat d):∃m,cat d=(m+1:Nat)/\2^m<=d.natAbs/\d.natAbs<2^(m+1):=by
 unfold cat at h ⊢;split
 ·rename_i e;rw[if_pos e] at h;exact absurd h (by decide)
 ·rename_i e
  have e:d.natAbs≠0:=λq=>e (congrArg Ao q);exact (bJ d.natAbs.log2 rfl (Nat.log2_self_le e) Nat.lt_log2_self)
theorem anT(m):(2:Int)^m=((2^m:Nat):Int):=(B4 2 m).symm
theorem ae8(h:0<cat d):∃v:Nat,nV d (cat d)=v/\v<2^(cat d).toNat/\mE v (cat d)=d:=by
 refine fc (pN h) λm em l u=>?_;refine Z em ?_;have t1:(((m+1:Nat):Int)).toNat=m+1:=rfl;have t2:(((m+1:Nat):Int)-1).toNat=m:=by exact Z (show ((m+1:Nat):Int)-1=m from Ah (m:Int) 1) rfl
 refine Z t1 ?_;unfold nV mE;rw[t1,t2,anT,anT];by_cases n:d<0
 ·have ea:=Int.eq_neg_natAbs_of_nonpos (zY n)
  refine (bJ (2^(m+1)-1-d.natAbs) ?_ ?_ ?_)
  ·rw[if_pos n,Ea,yE 1,BA (D9 u)]
   generalize d.natAbs=a at*;subst ea;show _=_-((a:Int)+1);rw[<-Ft,De (-(a:Int)),<-Int.sub_eq_add_neg]
  ·exact xN (zR _ _) (AB (Ae _) (by decide))
  ·have lt:2^(m+1)-1-d.natAbs<2^m:=by
    rw[Ea];refine Nat.sub_lt_left_of_lt_add (by rw[yE 1 d.natAbs];exact u) ?_;rw[AM,Eb,yE 1,AE];exact xN (yR l _) (yM _)
   rw[if_pos ⟨x9.mpr (Af m),x9.mpr lt⟩,Ea,yE 1,BA (D9 u)];generalize d.natAbs=a at*;rw[ea,Ft,De ((a+1:Nat):Int),<-Ft,Int.sub_self,Int.zero_sub];show-((a:Int)+1)+1=_;rw[Int.neg_add,Int.neg_add_cancel_right]
 ·have ea:=IZ (zg.mp n)
  refine (bJ d.natAbs (by rw[if_neg n,ea]) u ?_);rw[if_neg λq=>absurd (x9.mp q.2) (xX.mpr l),ea]
theorem anA(h:d.natAbs<=32768)(e:16<=cat d):d.natAbs=32768:=by
 obtain ⟨m,em,l,u⟩:=pN (AF (by decide) e);rw[em] at e;exact yW h (xH (zS (n:=2) (by decide) (BW (yj.mp e):15<=m)) l)
theorem alw{s t:Int}(e:16<=cat (iO s t)):iO s t=32768:=by
 have h:=anA (hV s t) e;have n:iO s t≠ -32768:=by
  unfold iO;have h0:=EO (s-t) (show (0:Int)<65536 by decide);generalize (s-t).fmod 65536=x at*;split
  ·rename_i h;exact λe=>absurd (Int.sub_lt_sub_right h 65536) (e▸(by decide:¬(32768-65536:Int)< -32768))
  ·rename_i h;exact λe=>absurd h0 (e▸(by decide))
 rcases Int.natAbs_eq (iO s t) with q | q
 ·exact Z q (Z h rfl)
 ·rw[h] at q;exact absurd q n
theorem ahO(h0:0<=x)(h1:x<65536):(t+iO x t).fmod 65536=x:=by
 unfold iO;have e:(t+(x-t).fmod 65536).fmod 65536=x:=by
  rw[Cu _ (by decide),Cu _ (by decide),Int.add_emod,Int.emod_emod,<-Int.add_emod,De,F6];exact Int.emod_eq_of_lt h0 h1
 split
 ·rw[<-Int.add_sub_assoc,Cu _ (by decide),Int.sub_emod,Int.emod_self,EN,Int.emod_emod,<-Cu _ (by decide)]
  exact e
 ·exact e
theorem acp:∀{F G:List UInt8},bu F=bu G->F=G
 | [],[],_=>rfl
 | [],o::G,h=>by have:=congrArg Al h;have this:=(cF _)▸(cF _)▸this;cases this
 | o::F,[],h=>by have:=congrArg Al h;rw[cF,cF] at this;cases this
 | o::F,p::G,h=>by
  have h:=h;obtain ⟨h1,h2⟩:=List.append_inj h (by rw[bA,bA]);have e:=congrArg bz h1;rw[gD,gD,zX (UInt8.toNat_lt o),zX (UInt8.toNat_lt p)] at e;rw[GB.mp e,acp h2]
def sR(l:List Bool):List UInt8:=HZ λF=>bu F=l
theorem agj(h:bu F=l):sR l=F:=acp ((G9 (p:=λF=>bu F=l) ⟨F,h⟩).trans h.symm)
structure CS where
 bits:List Bool
 cnt:Nat
noncomputable def ti(T:List TE)(p:Nat):Option TE:=T.find? λe=>decide (e.sp=p)
noncomputable def qC(T:List TE)(p:Nat)(s:Int):List Bool:=match ti T p with
 | some e=>rC e.A.es s
 | none=>[]
noncomputable def jq(d:Int):List Bool:=if 0<cat d/\cat d<16 then bI (nV d (cat d)).toNat (cat d).toNat else []
noncomputable def jZ(T:List TE)(p:Nat)(d:Int):List Bool:=qC T p (cat d)++jq d
theorem gE{T:List TE}{e:TE}(h:ti T p=J e):e∈T/\e.sp=p/\getKey (qP T) [0,(p:Int)]=J (.ref e.A.t):=by
 refine (bU (Bo h) (of_decide_eq_true (CJ (p:=λe:TE=>decide (e.sp=p)) h)) ?_);unfold getKey qP;rw[BJ,ER];have:((λe=>decide (e.1=[0,(p:Int)]))∘λe:TE=>(([0,(e.sp:Int)],AV.ref e.A.t):List Int×AV))=λe=>decide (e.sp=p):=funext λe=>by
  show decide ([0,(e.sp:Int)]=[0,(p:Int)])=decide (e.sp=p);exact decide_eq_decide.mpr ⟨λh=>zr.mp (Bl (Bl h).2).1,λh=>by exact Z h rfl⟩
 refine Z this (Z (show (T.find? λe=>decide (e.sp=p))=J e from h) ?_);rfl
theorem amG{T:List TE}{e:TE}(nd:(T.map (·.sp)).Nodup)(h:e∈T):ti T e.sp=J e:=by
 cases q:ti T e.sp with
 | none=>exact absurd (decide_eq_true rfl) (Ag.mp q e h)
 | some x=>exact Z (mU nd (gE q).1 h (gE q).2.1) rfl
abbrev uX(aT bw f D:Nat)(T:List TE)(j:Nat):Prop:=j=aT\/qf bw f j\/uv D T j
structure jT(aT bw f D:Nat)(T:List TE)(bits:List Bool)(k:Nat)(H:AH):Prop where
 i:cS H aT 660 [(26,.ref D),(56,.ref bw)]
 t:dH H D T
 w:∃F R,qT H bw f F R/\wbits F R=bits/\R.length<8/\F.length<=3*k
inductive wa(aT D:Nat)(T:List TE)(bits:List Bool)(k:Nat)(O:Nat->Prop)(H:AH):Prop
 | mk(bw f:Nat)(c:jT aT bw f D T bits k H)(e:O=uX aT bw f D T):wa aT D T bits k O H
def bc(aT D:Nat)(T:List TE):Sink CS where
 aT:=aT
 C:=660
 uT:=643
 sa:=650
 uU:=657
 St:=λs O H=>wa aT D T s.bits (2*s.cnt) O H/\s.cnt<=10000
 vX:=λs p d O H=>wa aT D T (s.bits++qC T p (cat d)) (2*s.cnt+1) O H/\s.cnt<10000
 upd:=λs p d=>⟨s.bits++jZ T p d,s.cnt+1⟩
 ok:=λs p d=>(∃e,ti T p=J e/\cat d∈e.sy)/\s.cnt<10000
 out:=λs=>sR (s.bits++qm (s.bits.length % 8))
 vH:=λs=>⟨[],s.cnt⟩
section
variable{n:Nat}{H H':AH}{Q:AV->AH->Prop}{X:XF}{aT bw f D:Nat}{T:List TE}{bits:List Bool}{k:Nat}
theorem jT.ne(c:jT aT bw f D T bits k H):(∀j,uv D T j->¬qf bw f j)/\¬qf bw f aT/\aT≠D/\(∀e∈T,∀j,e.A.own j->j≠aT):=by
 revert H aT bw f D T bits k;apply e8;intro U;apply(?Z:Tq U);intro H aT bw f D T bits k;intros;refine kT c.w λF R w U=>?_;refine (iu (λj h q=>?_) (λq=>q.elim (ba c.i w.h1 λh=>by cases h) (ba c.i w.h2 (nf rfl))) (ba c.i c.t.1.2 (nf rfl)) (λe he j h=>?_))
 ·rcases h with rfl | ⟨e,he,h⟩
  ·exact q.elim (ba c.t.1.2 w.h1 (nf rfl)) (ba c.t.1.2 w.h2 (nf rfl))
  ·have te:=c.t.2 e he
   refine te.h3.elim λep h3=>?_;rcases h with rfl | rfl | rfl
   ·exact q.elim (ba te.h1 w.h1 λh=>by cases h) (ba te.h1 w.h2 (nf rfl))
   ·exact q.elim (ba te.h2 w.h1 (nf rfl)) (ba te.h2 w.h2 (nf rfl))
   ·exact q.elim (ba h3 w.h1 (nf rfl)) (ba h3 w.h2 (nf rfl))
 ·have te:=c.t.2 e he
  refine te.h3.elim λep h3=>?_;rcases h with rfl | rfl | rfl
  ·exact ba te.h1 c.i λh=>by cases h
  ·exact ba te.h2 c.i (nf rfl)
  ·exact ba h3 c.i (nf rfl)
theorem jT.mod(c:jT aT bw f D T bits k H)(m:Mod P H H')(n:∀j,uX aT bw f D T j->¬P j):jT aT bw f D T bits k H':=
 ⟨m.at_ _ _ (n _ (.inl rfl)) c.i,c.t.mod m λj h=>n j (.inr (.inr h)),kT c.w λF R w a=>(mc F R (w.mod m (n _ (.inr (.inl (.inl rfl)))) (n _ (.inr (.inl (.inr rfl))))) a)⟩
theorem ajR{v s:Nat}{vi si:Int}(c:jT aT bw f D T bits k H)(hk:k<30000)(hs:s<=16)(hv:v<2^s)(ev:vi=v)(es:si=s)(q:∀H',Mod (qf bw f) H H'->jT aT bw f D T (bits++bI v s) (k+1) H'->Q .none H'):call (.run true) (n+1) 443 [.ref bw,.int vi,.int si] H Q X:=by
 refine qj c.w λF R w hb hR hF=>?_;refine sM c.ne λn1 n2 U U=>?_;have lF:F.length+3<1000000:=xN (yR (xH hF (yD 3 (ya hk))) 3) (by decide);refine afU lF w hR hs hv ev es λH' F' R' m w' hR' hw hF'=>q H' m ⟨m.at_ _ _ n2 c.i,c.t.mod m n1,F',R',w',by exact Z hw (Z hb rfl),hR',?_⟩;refine Z (By _ _) ?_;exact xH hF' (yR hF 3)
theorem jT.lt(c:jT aT bw f D T bits k H)(j)(h:uX aT bw f D T j):j<H.length:=by
 refine kT c.w λF R w U=>?_;rcases h with rfl | (rfl | rfl) | rfl | ⟨e,he,rfl | rfl | rfl⟩
 ·exact aS c.i
 ·exact aS w.h1
 ·exact aS w.h2
 ·exact aS c.t.1.2
 ·exact aS (c.t.2 e he).h1
 ·exact aS (c.t.2 e he).h2
 ·refine ((c.t.2 e he).h3).elim λep h3=>?_;exact aS h3
theorem jT.le(c:jT aT bw f D T bits k H)(h:k<=k'):jT aT bw f D T bits k' H:=⟨c.i,c.t,qj c.w λF R a b d e=>(mZ F R a b d (xH e (yD 3 h)))⟩
end
theorem ae2(aT D:Nat)(T:List TE)(n:Nat):(bc aT D T).Ok true (n+1):=by
 revert aT D T n;apply e4;intro U;apply(?Z:Tq U);intro aT D T n;intros;exact {
  inst:=λs O H ⟨⟨bw,f,c,e⟩,_⟩=>(oz _ c.i rfl rfl rfl)
  tZ:=λs p d O H ⟨⟨bw,f,c,e⟩,_⟩=>(aM _ c.i rfl)
  own:=λs O H ⟨⟨bw,f,c,e⟩,_⟩=>e▸.inl rfl
  aof:=λs p d O H ⟨⟨bw,f,c,e⟩,_⟩=>e▸.inl rfl
  lt:=λs O H ⟨⟨bw,f,c,e⟩,_⟩ j h=>by subst e;exact c.lt j h
  mod:=λs O H P H' ⟨⟨bw,f,c,e⟩,hk⟩ m n=>⟨⟨bw,f,c.mod m (e▸n),e⟩,hk⟩
  vM:=rfl
  tQ:=rfl
  vN:=rfl
  sym:=λs p d O H Q X ⟨⟨bw,f,c,e⟩,_⟩ ok q=>by
   subst e;refine Qc λU u6=>ok.elim λv6 hk=>aO v6 λe he hs=>u6 ?_;refine ou (gE he) λe1 e2 e3=>?_;have te:=c.t.2 e e1;refine enter [J (.ref aT),J (.tup [.int 0,.int p]),J (.int (cat d)),Jw,Jw] rfl rfl rfl (.mk c.i rfl (.bD c.t.1.2 rfl e3 (aN (k:=.run true) te.h1 rfl rfl (ae0 te hs λv m hm hv hb=>.mk c.i rfl ?_))));refine kT (id c.w) λF R w U=>?_;refine aN (k:=.run true) w.h1 rfl rfl (ajR c (xN (yD 2 (ya hk)) (by decide)) hm hv rfl rfl λH' m' c'=>q H' _ (m'.mono λj h=>.inr (.inl h)) (λj h=>.inl h) ⟨⟨bw,f,?_,rfl⟩,hk⟩);rw[show qC T p (cat d)=bI v m by unfold qC;rw[he];exact hb];exact c'
  bits:=λs p d O H Q X ⟨⟨bw,f,c,e⟩,hk⟩ h0 h1 q=>by
   subst e;refine fc (ae8 h0) λv ev lv U=>?_;refine fc (pN h0) λm em U U=>?_;refine kT (id c.w) λF R w U=>?_;have h16:=ya (x9.mp (em▸h1));have lv:v<2^(m+1):=by rw[em] at lv;exact lv
   refine enter [J (.ref aT),J (.int (nV d (cat d))),J (.int (cat d))] rfl rfl rfl (.mk c.i rfl (aN (k:=.run true) w.h1 rfl rfl (ajR c (xN (Bf (yD 2 (ya hk))) (by decide)) h16 lv ev em λH' m' c'=>q H' _ (m'.mono λj h=>.inr (.inl h)) (λj h=>.inl h) ⟨⟨bw,f,?_,rfl⟩,hk⟩)));show jT aT bw f D T (s.bits++jZ T p d) (2*s.cnt+2) H';have e:jq d=bI v (m+1):=by rw[jq,if_pos ⟨h0,h1⟩,ev,em];rfl
   rw[jZ,e,<-yt];exact c'
  skip:=λs p d O H ⟨⟨bw,f,c,e⟩,hk⟩ h=>⟨⟨bw,f,(by
   show jT aT bw f D T (s.bits++jZ T p d) (2*s.cnt+2) H;rw[jZ,jq,if_neg h,yB];exact c.le (yY _)),e⟩,hk⟩
  fin:=λs O H Q X ⟨⟨bw,f,c,e⟩,hk⟩ q=>by
   subst e;refine qj (id c.w) λF R w hb hR hF=>?_;refine sM c.ne λn1 n2 n3 n4=>?_;have lF:F.length+6<1000000:=xN (yR (xH hF (yD 3 (yD 2 hk))) 6) (by decide);refine enter [J (.ref aT),Jw] rfl rfl rfl (.mk c.i rfl (aN (k:=.run true) w.h1 rfl rfl (amY (xN (yf (by decide) _) lF) w hR λH1 F1 m1 w1 hb1 hF1=>?_)));have i1:=m1.at_ _ _ n2 c.i;have l1:=xH hF1 (ya (xN (yf (by decide) _) lF));refine .mk i1 rfl (aN (k:=.run true) w1.h1 rfl rfl (ahn l1 w1 (aj0 λH2 bw2 f2 m2 lb lf w2=>.mk (m2.get i1) rfl qQ λH3 u3=>?_)));have t3:=(c.t.mod m1 n1).mod (P:=λj=>j=aT) (m2.mod.trans (u3.mod rfl)) λj h e=>h.elim (λh=>n3 (e.symm.trans h)) λv22=>aO v22 λx hx h=>n4 x hx j h e;have nb:∀{j},H1.length<=j->j≠aT:=λh e=>absurd (aS i1) (xX.mpr (e▸h));have out:sR (s.bits++qm (s.bits.length % 8))=F1:=agj (by
    rw[hb1,<-hb,kP,ES,zX hR];rfl)
   have:=q H3 (uX aT bw2 f2 D T) ((m1.mono λj h=>.inr (.inl h)).trans (m2.mod.trans (u3.mod (.inl rfl)))) (λj h=>h.elim (λh=>.inl (.inl h)) λh=>h.elim (λh=>.inr (h.elim (λe=>e▸xH m1.len lb) λe=>e▸xH m1.len lf)) λh=>.inl (.inr (.inr h)))
    ⟨⟨bw2,f2,⟨u3.self,t3,[],[],w2.mod (P:=λj=>j=aT) (u3.mod rfl) (nb lb) (nb lf),rfl,by decide,yI _⟩,rfl⟩,hk⟩
   show Q (.bytes F1) H3;rw[<-out];exact this}
theorem ajV{T:List TE}(t:dH H D T)(q:∀H' aT bw f,Ext H H'->H.length<=aT->H.length<=bw->H.length<=f->(bc aT D T).St ⟨[],0⟩ (uX aT bw f D T) H'->Q (.ref aT) H'):iT (sg (.run true) (n+2)) 660 [.ref D] H Q X:=.mk λaT H1 u1=>go (k:=.run true) rfl ⟨rfl,.mk u1.self rfl sW λH2 u2=>aj0 λH3 bw f m3 lb lf w3=>.mk (m3.get u2.self) rfl tR λH4 u4=>by
 have u:=u1.upd u2;have nb:∀{j},H2.length<=j->j≠aT:=λh e=>absurd (aS u2.self) (xX.mpr (e▸h));have l2:H.length<=H2.length:=u.len▸yY _;have ex:Ext H H4:=⟨xH l2 (u4.len▸m3.len),λj o U h=>u4.ne j o (u.ne h) (m3.get (u.old j o h))⟩
 exact q H4 aT bw f ex (u.fG (xS _)) (xH l2 lb) (xH l2 lf) ⟨⟨bw,f,⟨u4.self,t.mod (P:=λU=>False) ex λU U=>id,[],[],w3.mod (P:=λj=>j=aT) (u4.mod rfl) (nb lb) (nb lf),rfl,by decide,yI _⟩,rfl⟩,yI _⟩⟩
structure cY where
 N:Nat
 a:GA
 S:Nat->Nat->Nat->Int
 kind:Int
 mid:Int
 rd:Nat
 sl:Nat
 p:Nat
 m:Nat
 D:Nat
 T:List TE
 most:Int
 deriving Nonempty
structure RI(E:cY)(b t:Nat)(R:List Bool)(es:List (Int×AV))(S':Nat->Nat->Nat->Int)(H:AH):Prop where
 i:cS H E.rd 303 [(18,.ref E.sl),(10,.ref E.a.g),(19,.ref E.p),(26,.ref E.D),(27,.int E.most),(24,.ref b)]
 r:dZ H b R
 P:bB H E.p E.a.g E.kind E.mid t es
 g:bg H E.a S'
 ok:E.a.Ok
 T:dH H E.D E.T
 tl:∀j,uv E.D E.T j->j<E.N
 sl:H[E.sl]? =J (.list (tab E.m λj=>.int j))
 tm:E.sl<E.N
 m3:E.m<=3
 low:∀j,E.a.own j->E.N<=j
 Nt:E.N<=t
 Nb:E.N<=b
 k1:1<=E.kind
 k7:E.kind<=7
abbrev oH(E:cY)(b t j:Nat):Prop:=j=t\/j=b\/E.a.own j
theorem bg.j8(g:bg H a S)(h:H[j]? =J o)(n1:∀xs,o≠.list xs)(n2:∀fs,o≠.inst 214 fs):¬a.own j:=λq=>by
 have z:∀{i o'},j=i->H[i]? =J o'->o=o':=λe h'=>by subst e;exact xT (h.symm.trans h')
 rcases q with e | e | ⟨k,hk,e⟩ | ⟨k,y,hk,hy,e⟩
 ·exact n2 _ (z e g.h1)
 ·exact n1 _ (z e g.h2)
 ·exact n1 _ (z e (g.h3 k hk))
 ·exact n1 _ (z e (g.h4 k y hk hy))
section
variable{n:Nat}{H H':AH}{Q:AV->AH->Prop}{X:XF}{E:cY}{b t:Nat}{R:List Bool}{es:List (Int×AV)}{S':Nat->Nat->Nat->Int}
theorem dZ.inst(w:dZ H b R):∃fs,cS H b 502 fs/\fs.lookup 49=Jw/\fs.lookup 24=Jw/\fs.lookup 29=Jw:=by obtain ⟨_,_,h,_⟩:=w;exact (oz _ h rfl rfl rfl)
theorem RI.nb(w:RI E b t R es S' H):¬E.a.own b:=by refine aO w.r.inst λU h U=>?_;exact w.g.j8 h (λU h=>by cases h) λU h=>by cases h
theorem RI.nt(w:RI E b t R es S' H):¬E.a.own t:=by refine w.P.h2.elim λU h=>?_;exact w.g.j8 h (λU h=>by cases h) (λU h=>by cases h)
theorem RI.bt(w:RI E b t R es S' H):b≠t:=by refine w.P.h2.elim λU h=>?_;refine aO w.r.inst λU h' U=>?_;exact ba h' h (nf rfl)
theorem RI.np(w:RI E b t R es S' H):¬oH E b t E.p:=by
 exact λq=>by
  refine w.P.h2.elim λU h=>?_;refine aO w.r.inst λU h' U=>?_;exact q.elim (ba w.P.h1 h (nf rfl)) λq=>q.elim (ba w.P.h1 h' λh=>by cases h) (w.g.j8 w.P.h1 (λU h=>by cases h) λU h=>by cases h)
theorem RI.wM(w:RI E b t R es S' H):¬oH E b t E.rd:=by
 revert H E b t R es S';apply e7;intro U;apply(?Z:Tq U);intro H E b t R es S';intros;exact λq=>by
  refine w.P.h2.elim λU h=>?_;refine aO w.r.inst λU h' U=>?_;exact q.elim (ba w.i h (nf rfl)) λq=>q.elim (ba w.i h' λh=>by cases h) (w.g.j8 w.i (λU h=>by cases h) λU h=>by cases h)
theorem RI.lo(w:RI E b t R es S' H):∀j,oH E b t j->E.N<=j:=λj h=>h.elim (λe=>e▸w.Nt) λh=>h.elim (λe=>e▸w.Nb) (w.low j)
theorem RI.turn(w:RI E b t R es S' H)(m:Mod (oH E b t) H H')(r:dZ H' b R')(P:bB H' E.p E.a.g E.kind E.mid t es')(g:bg H' E.a S2):RI E b t R' es' S2 H':=
 ⟨m.at_ _ _ w.wM w.i,r,P,g,w.ok,w.T.mod m λj h q=>absurd (w.tl j h) (xX.mpr (w.lo j q)),w.tl,m.at_ _ _ (λq=>absurd w.tm (xX.mpr (w.lo _ q))) w.sl,w.tm,w.m3,w.low,w.Nt,w.Nb,w.k1,w.k7⟩
theorem RI.bits(w:RI E b t R es S' H)(m:Mod (λj=>j=b) H H')(r:dZ H' b R'):Mod (oH E b t) H H'/\RI E b t R' es S' H':=
 have m':=m.mono λU e=>.inr (.inl e)
 ⟨m',w.turn m' r (w.P.mod m (λe=>w.np (.inr (.inl e))) w.bt.symm) (w.g.mod m λU h e=>w.nb (e▸h))⟩
theorem aid{v s:Int}(h1:s<=16)(q:Q (.int (mE v s)) H):call (.run true) (n+1) 122 [.int v,.int s] H Q X:=by
 refine enter [J (.int v),J (.int s)] rfl rfl rfl ?_;unfold mE at q;refine .dec (λh0=>⟨iB,An h0,yG (Bu _ (by decide)) (yG h1 (by decide)),.dec (λh=>⟨iB,zY h0,yG h1 (by decide),rZ (Q:=λi=>Q (.int i) H) ⟨h0,h⟩ q⟩) λh=>qz (Q:=λi=>Q (.int i) H) (λz=>h z.2) q⟩) λh0=>.f (qz (Q:=λi=>Q (.int i) H) (λz=>h0 z.1) q)
noncomputable def dE(E:cY)(es:List (Int×AV))(u:UE):Int:=ux E.S E.kind E.mid es u
structure ao9(E:cY)(es:List (Int×AV))(S':Nat->Nat->Nat->Int)(u:UE):Prop where
 d9:u.1<E.m
 k:u.2.1<E.a.m
 x:u.2.2.1<E.a.w u.2.1
 y:u.2.2.2<E.a.h u.2.1
 hi:∃i,getKey (dG es u.2.1 u.2.2.2) u.2.1=J (.int i)
 hf:c8 es u.2.1 u.2.2.2=false->1<=u.2.2.2
 el:es.length<1000
 told:jY S' E.kind E.mid (c8 es u.2.1 u.2.2.2) u.2.1 u.2.2.2 u.2.2.1=jY E.S E.kind E.mid (c8 es u.2.1 u.2.2.2) u.2.1 u.2.2.2 u.2.2.1
 tab:∃e,ti E.T u.1=J e/\cat (dE E es u)∈e.sy
 s0:0<=E.S u.2.1 u.2.2.2 u.2.2.1
 s1:E.S u.2.1 u.2.2.2 u.2.2.1<65536
 s2:E.S u.2.1 u.2.2.2 u.2.2.1<=E.most
theorem ah0(d)(h:0<cat d):∃A,bI (nV d (cat d)).toNat (cat d).toNat=A/\cat d=A.length/\mE (bz A:Nat) (cat d)=d:=by
 refine fc (ae8 h) λv e1 l e2=>?_;refine (bJ _ rfl ?_ ?_)
 ·exact Z (bA _ _) ((zx (zY h)).symm)
 ·exact Z (gD _ _) (Z e1 (Z (show (v:Int).toNat=v from rfl) (Z (zX l) e2)))
theorem akN{d9 k x y:Nat}(w:RI E b t (jZ E.T d9 (dE E es (d9,k,x,y))++R) es S' H)(u:ao9 E es S' (d9,k,x,y))
  (q:∀H',Mod (oH E b t) H H'->RI E b t R (dG es k y) (ur S' k y x (E.S k y x)) H'->Q .none H'):call (.run true) (n+3) 293 [.ref E.rd,.int d9,.int k,.int x,.int y] H Q X:=by
 revert n H Q X E b t R es S' d9 k x y;apply hU;intro U;apply(?Z:Tq U);intro n H Q X E b t R es S' d9 k;apply e2;intro U;apply(?Y:Tq U);intro x y;intros;obtain ⟨u1,u2,u3,u4,u5,u6,u7,u8,u9,s0,s1,s2⟩:=u;refine aO u9 λe he hs=>?_;refine ou (gE he) λe1 e2 e3=>?_;have te:=w.T.2 e e1;have nbT:¬e.A.own b:=λh=>absurd (w.tl b (.inr (aM e e1 h))) (xX.mpr w.Nb);have wr:=w.r;obtain ⟨d,ed⟩:∃d,d=dE E es (d9,k,x,y):=⟨_,rfl⟩
 rw[<-ed] at hs wr;rw[jZ,show qC E.T d9 (cat d)=rC e.A.es (cat d) by unfold qC;exact Z he rfl,yt] at wr;have db:d.natAbs<=32768:=ed▸hV _ _;have cr:=adb db;refine enter [J (.ref E.rd),J (.int d9),J (.int k),J (.int x),J (.int y),Jw,Jw,Jw] rfl rfl rfl (.mk w.i rfl (.mk w.i rfl (.list w.sl (nn d9) (mV u1 w.m3) (c6 u1) (.bD w.T.1.2 rfl e3 (aN (k:=.run true) te.h1 rfl rfl (.mk w.i rfl (aed te hs wr nbT λH1 m1 r1=>?_)))))));refine (w.bits m1 r1).elim λm1 w1=>?_;have i16:(16:Int)<=cat d->d=32768:=λh=>by rw[ed] at h ⊢;exact alw h
 refine .no (zg.mpr cr.2) ?_;refine dS (cut (λρ' H'=>ρ'=[J (.ref E.rd),J (.int d9),J (.int k),J (.int x),J (.int y),J (.int (cat d)),J (.int d),Jw]/\Mod (oH E b t) H H'/\RI E b t R es S' H') (λJy hZ=>?_) λρ' H2 h=>?_)
 ·refine .beq (λe=>?_) λne=>.dec (λh0=>?_) λh0=>?_
  ·have e0:jq d=[]:=if_neg λh=>absurd h.2 (e▸CK _)
   rw[e0,GV] at w1;exact hZ _ _ (bU (by exact Z (i16 (Int.le_of_eq e.symm)) rfl) m1 w1)
  ·have h0:=h0
   refine fc (ah0 d h0) λA eA lA vA=>?_;have e0:jq d=A:=by rw[jq,if_pos ⟨h0,I0.mpr ⟨cr.2,ne⟩⟩];exact eA
   rw[e0] at w1;refine o9 w1.r.inst λU ib U ib2 U=>?_;refine .mk w1.i rfl (aN (k:=.run true) ib ib2 rfl (aef w1.r (yj.mp (lA▸cr.2)) lA λH2 m2 r2=>aid cr.2 ?_));refine (w1.bits m2 r2).elim λm2 w2=>?_;exact Z vA (hZ _ _ (bU rfl (m1.trans m2) w2))
  ·have z:=ajZ (zg.mp h0)
   have e0:jq d=[]:=if_neg λh=>h0 h.1;rw[e0,GV] at w1;exact hZ _ _ (bU (by exact Z z rfl) m1 w1)
 ·obtain ⟨rfl,m2,w2⟩:=h
  refine .mk w2.i rfl (aN (k:=.run true) w2.P.h1 rfl rfl (afZ w2.ok.sm w2.P w2.g w2.nt u2 u4 u3 w2.k1 w2.k7 u5 u6 u7 λH3 m3 P3=>ad9 ?_));have m3':Mod (oH E b t) H2 H3:=m3.mono λj e=>.inl e;have w3:=w2.turn m3' (w2.r.mod m3 w2.bt) P3 (w2.g.mod m3 λj h e=>w2.nt (e▸h));have eS:(jY S' E.kind E.mid (c8 es k y) k y x+d).fmod 65536=E.S k y x:=by
   exact Z u8 (Z ed (ahO s0 s1))
  refine Z eS ?_;refine .mk w3.i rfl (.no (zg.mpr s2) (.mk w3.i rfl (aN (k:=.run true) w3.g.h1 rfl rfl (aiH w3.ok w3.g u2 u4 u3 λH4 m4 g4=>?_))));have ow:E.a.own (E.a.ra k y):=.inr (.inr (.inr (k4 k y u2 u4 rfl)));have m4':Mod (oH E b t) H3 H4:=m4.mono λj e=>.inr (.inr (e▸ow));exact q H4 ((m2.trans m3').trans m4') (w3.turn m4' (w3.r.mod m4 λe=>w3.nb (e▸ow)) (w3.P.mod m4 (λe=>w3.np (.inr (.inr (e▸ow)))) λe=>w3.nt (e▸ow)) g4)
end
section
variable{n:Nat}{H H':AH}{Q:AV->AH->Prop}{X:XF}{E:cY}{b b' t:Nat}{R R':List Bool}{es:List (Int×AV)}{S':Nat->Nat->Nat->Int}
theorem lt6(a b c d e f:Nat×AV):[a,b,c,d,e,f].length<1000:=(by decide:6<1000)
theorem acV{v:AV}(i:cS H E.rd 303 [(18,.ref E.sl),(10,.ref E.a.g),(19,.ref E.p),(26,.ref E.D),(27,.int E.most),(24,v)])(P:bB H E.p E.a.g E.kind E.mid t es)(q:∀H' t',Mod (λj=>j=E.p\/j=E.rd) H H'->H.length<=t'->bB H' E.p E.a.g E.kind E.mid t' []->cS H' E.rd 303 [(18,.ref E.sl),(10,.ref E.a.g),(19,.ref E.p),(26,.ref E.D),(27,.int E.most),(24,.ref b')]->Q .none H'):call (.run true) (n+2) 286 [.ref E.rd,.ref b'] H Q X:=by
 revert n H Q X E b' t es v;apply e9;intro U;apply(?Z:Tq U);intro n H Q X E b' t es v;intros;have npr:=ba i P.h1 λe=>by cases e
 refine enter [J (.ref E.rd),J (.ref b')] rfl rfl rfl (.mk i rfl (aN (k:=.run true) P.h1 rfl rfl (aaE P λH1 t' m1 l1 P1=>.mk (m1.at_ _ _ npr i) rfl (lt6 _ _ _ _ _ _) λH2 u2=>?_)));have ntr:t'≠E.rd:=λe=>absurd (aS i) (xX.mpr (e▸l1));exact q H2 t' ((m1.mono λU e=>.inl e).trans (u2.mod (.inr rfl))) l1 (P1.mod (P:=λj=>j=E.rd) (u2.mod rfl) npr.symm ntr) u2.self
structure RJ(E:cY)(S':Nat->Nat->Nat->Int)(H:AH):Prop where
 g:bg H E.a S'
 ok:E.a.Ok
 T:dH H E.D E.T
 tl:∀j,uv E.D E.T j->j<E.N
 sl:H[E.sl]? =J (.list (tab E.m λj=>.int j))
 tm:E.sl<E.N
 m3:E.m<=3
 low:∀j,E.a.own j->E.N<=j
 k1:1<=E.kind
 k7:E.kind<=7
 Np:E.N<=E.p
 Nr:E.N<=E.rd
theorem RJ.start(w:RJ E S' H)(m:Mod (λj=>j=E.p\/j=E.rd) H H')(np:¬E.a.own E.p)(nr:¬E.a.own E.rd)(hN:E.N<=H.length)(Nb:E.N<=b')(l:H.length<=t)(r:dZ H' b' R')(P:bB H' E.p E.a.g E.kind E.mid t [])(i:cS H' E.rd 303 [(18,.ref E.sl),(10,.ref E.a.g),(19,.ref E.p),(26,.ref E.D),(27,.int E.most),(24,.ref b')]):RI E b' t R' [] S' H':=
 have lo:∀{j},j<E.N->¬(j=E.p\/j=E.rd):=λh q=>q.elim (λe=>absurd h (xX.mpr (e▸w.Np))) λe=>absurd h (xX.mpr (e▸w.Nr))
 ⟨i,r,P,w.g.mod m λU h q=>q.elim (λe=>np (e▸h)) λe=>nr (e▸h),w.ok,w.T.mod m λj h=>lo (w.tl j h),w.tl,m.at_ _ _ (lo w.tm) w.sl,w.tm,w.m3,w.low,xH hN l,Nb,w.k1,w.k7⟩
theorem RI.rj(w:RI E b t R es S' H)(Np:E.N<=E.p)(Nr:E.N<=E.rd):RJ E S' H:=⟨w.g,w.ok,w.T,w.tl,w.sl,w.tm,w.m3,w.low,w.k1,w.k7,Np,Nr⟩
theorem age(w:RI E b t (yr k true) es S' H)(hk:k<=7)(q:∀H',Mod (oH E b t) H H'->RI E b t [] es S' H'->Q .none H'):call (.run true) (n+3) 300 [.ref E.rd] H Q X:=by
 revert n H Q X E b t es S' k;apply rD;intro U;apply(?Z:Tq U);intro n H Q X E b t es S' k;intros;refine o9 w.r.inst λU ib U i24 i29=>?_;have lk:(yr k true).length=k:=B7;have l7:(yr k true).length<=7:=by exact Z lk hk
 have vt:(yr k true).length<=16:=xH l7 (by decide);have l64:(yr k true).length<=64:=xH l7 (by decide);refine enter [J (.ref E.rd),Jw] rfl rfl rfl (.mk w.i rfl (aN (k:=.run true) ib i29 rfl (agv w.r (.no (λh=>absurd (x9.mp h) (xX.mpr l7)) (.dec (λh=>?_) λh=>.f ?_)))))
 ·have wr:=w.r
  have wr:=(Hu (yB (yr k true)))▸wr;refine .mk w.i rfl (aN (k:=.run true) ib i24 rfl (aef wr vt rfl λH2 m2 r2=>⟨kS,nn _,yj.mpr l64,.bf ?_ ?_⟩))
  ·show (((bz (yr k true):Nat):Int) !=1*2^(yr k true).length-1)=false
   exact Z (ones _) (Z (mF _) (Z lk (bne_self_eq_false _)))
  ·refine (w.bits m2 r2).elim λm2 w2=>?_
   exact q H2 m2 w2
 ·have z:=EL λh'=>h (x9.mpr (lk.symm▸h'))
  subst z;exact q H .refl w
theorem afk(q:∀rd H',kM rd (.inst 303 [(18,.ref E.sl),(10,.ref E.a.g),(19,.ref E.p),(26,.ref E.D),(27,.int E.most),(24,.none)]) H H'->Q (.ref rd) H'):iT (sg (.run true) (n+1)) 303 [.ref E.sl,.ref E.a.g,.ref E.p,.ref E.D,.int E.most] H Q X:=by
 revert n H Q X E;apply e5;intro U;apply(?Z:Tq U);intro n H Q X E;intros;exact .mk λw H1 u1=>go (k:=.run true) rfl ⟨rfl,.mk u1.self rfl sW λH2 u2=>.mk u2.self rfl tR λH3 u3=>.mk u3.self rfl qQ λH4 u4=>.mk u4.self rfl rV λH5 u5=>.mk u5.self rfl (xw _ _ _ _) λH6 u6=>.mk u6.self rfl (by decide:5<1000) λH7 u7=>q w H7 (u1.upd (((((u2.upd u3).upd u4).upd u5).upd u6).upd u7))⟩
end
structure BS where
 zs:List (List Bool)
 cur:List Bool
 deriving Nonempty
noncomputable def jm(T:List TE)(l:List (Nat×Int)):List Bool:=l.flatMap λp=>jZ T p.1 p.2
noncomputable def fT(iv many:Nat)(z:BS):BS:=if 0<iv/\many=iv then ⟨z.zs++[z.cur],[]⟩ else z
section
variable(T:List TE)(S:Nat->Nat->Nat->Int)(kind mid:Int)(iv:Nat)(un:Nat->List UE)
noncomputable def eM:Nat->BS
 | 0=>⟨[],[]⟩
 | j+1=>⟨(fT iv (jb iv un j).2 (eM j)).zs,(fT iv (jb iv un j).2 (eM j)).cur++jm T (iA S kind mid (un j) (nk iv un j))⟩
end
structure rR(z z':BS):Prop where
 len:z.zs.length<=z'.zs.length
 old:∀i,i<z.zs.length->z'.zs[i]? =z.zs[i]?
 cur:∃r,(z'.zs++[z'.cur])[z.zs.length]? =J (z.cur++r)
theorem rR.refl(z):rR z z:=⟨xS _,λU U=>rfl,[],by exact Z (yB _) dB⟩
theorem rR.trans{a b c:BS}(x:rR a b)(y:rR b c):rR a c:=by
 revert a b c;apply e3;intro U;apply(?Z:Tq U);intro a b c;intros;obtain ⟨l1,o1,r1,e1⟩:=x;obtain ⟨l2,o2,r2,e2⟩:=y;refine ⟨xH l1 l2,λi hi=>(o2 i (xO hi l1)).trans (o1 i hi),?_⟩;by_cases h:a.zs.length<b.zs.length
 ·refine ⟨r1,?_⟩
  rw[yw h] at e1;rw[yw (xO h l2),o2 _ h,e1]
 ·have e:=yW l1 (xX.mp h)
  rw[e] at e1 ⊢;rw[dB] at e1;exact ⟨r1++r2,by exact Z e2 (Z (xT e1) (Z (yt _ _ _) rfl))⟩
theorem rR.add(z)(r):rR z ⟨z.zs,z.cur++r⟩:=⟨xS _,λU U=>rfl,r,dB⟩
theorem rR.cut(iv many)(z):rR z (fT iv many z):=by
 unfold fT;split
 ·refine ⟨by exact Z xK (x7 _ _),λi hi=>yw hi,[],?_⟩
  exact Z (yB _) (Z (yt _ _ _) dB)
 ·exact .refl z
section
variable{T:List TE}{S:Nat->Nat->Nat->Int}{kind mid:Int}{iv:Nat}{un:Nat->List UE}
theorem ae7(j):rR (fT iv (jb iv un j).2 (eM T S kind mid iv un j)) (eM T S kind mid iv un (j+1)):=.add _ _
theorem aj1(h:j<=m):rR (eM T S kind mid iv un j) (eM T S kind mid iv un m):=by
 induction h with
 | refl=>exact .refl _
 | step _ ih=>exact ih.trans ((rR.cut _ _ _).trans (ae7 _))
def sQ(bits:List Bool):List UInt8:=sR (bits++qm (bits.length % 8))
theorem adK:∀j,(gC (bc aT D T) E iv un ⟨[],0⟩ j).outs=(eM T E.S E.kind E.mid iv un j).zs.map sQ/\(gC (bc aT D T) E iv un ⟨[],0⟩ j).s.bits=(eM T E.S E.kind E.mid iv un j).cur
 | 0=>⟨rfl,rfl⟩
 | j+1=>by
  refine (adK (aT:=aT) (D:=D) (E:=E) j).elim λh1 h2=>?_;have hm:(gC (bc aT D T) E iv un ⟨[],0⟩ j).many=(jb iv un j).2:=congrArg BG (tn j);have hc:(dg (bc aT D T) iv (gC (bc aT D T) E iv un ⟨[],0⟩ j)).outs=(fT iv (jb iv un j).2 (eM T E.S E.kind E.mid iv un j)).zs.map sQ/\(dg (bc aT D T) iv (gC (bc aT D T) E iv un ⟨[],0⟩ j)).s.bits=(fT iv (jb iv un j).2 (eM T E.S E.kind E.mid iv un j)).cur:=by
   unfold dg fT;refine Z hm ?_;split
   ·refine ⟨?_,rfl⟩
    show _++[sR ((gC (bc aT D T) E iv un ⟨[],0⟩ j).s.bits++_)]=_;exact Z h1 (Z h2 (Z yq rfl))
   ·exact ⟨h1,h2⟩
  have fl:∀l s,(l.foldl (λs p=>(bc aT D T).upd s p.1 p.2) s).bits=s.bits++jm T l:=λl=>by
   induction l with
   | nil=>intro s;exact (yB _).symm
   | cons p l ih=>intro s;refine Z DA (Z (ih _) ?_);show (s.bits++jZ T p.1 p.2)++_=s.bits++(jZ T p.1 p.2++_);exact Z (yt _ _ _) rfl
  refine ⟨hc.1,?_⟩;show (j5 (bc aT D T) E (un j) ((dg _ iv (gC (bc aT D T) E iv un ⟨[],0⟩ j)).s,(dg _ iv (gC (bc aT D T) E iv un ⟨[],0⟩ j)).es)).1.bits=_;exact Z (mj _ _) (Z (mf _) (Z (fl _ _) (Z hc.2 rfl)))
end
noncomputable def jv(E:cY)(us:List UE)(S':Nat->Nat->Nat->Int):Nat->Nat->Nat->Int:=us.foldl (λS' u=>ur S' u.2.1 u.2.2.2 u.2.2.1 (E.S u.2.1 u.2.2.2 u.2.2.1)) S'
def RU(E:cY):List UE->List (Int×AV)->(Nat->Nat->Nat->Int)->Prop
 | [],_,_=>True
 | u::r,es,S'=>ao9 E es S' u/\RU E r (uu es u) (ur S' u.2.1 u.2.2.2 u.2.2.1 (E.S u.2.1 u.2.2.2 u.2.2.1))
section
variable{n:Nat}{H:AH}{X:XF}{E:cY}{b t:Nat}{R:List Bool}{es:List (Int×AV)}{S':Nat->Nat->Nat->Int}
theorem anM(a c):∀es S',RU E (a++c) es S'->RU E c (qS a es) (jv E a S'):=by
 induction a with
 | nil=>intro es S' h;exact h
 | cons u a ih=>intro es S' h;exact ih _ _ h.2
theorem aiE{KK:KF}{u L iv Lb:Nat}{at_ many:Int}{us:List UE}{o:Nat->Option AV}(hu:H[u]? =J (.list (us.map UE.av)))(hl:us.length<=1000000)(w:RI E b t (jm E.T (iA E.S E.kind E.mid us es)++R) es S' H)(nu:¬oH E b t u)(ok:RU E us es S')
  (q:∀H' (o:Nat->Option AV),Mod (oH E b t) H H'->RI E b t R (qS us es) (jv E us S') H'->KK .next [J (.ref L),J (.int iv),J (.ref E.rd),J (.ref Lb),J (.int at_),J (.int many),J (.ref u),o 7,o 8,o 9,o 10] H'):
  cz (fS [7,8,9,10]) (aa 6) (aq (aV (aJ (aa 2) 28 (ae (aa 7) (ae (aa 8) (ae (aa 9) (ae (aa 10) ar)))))) aA) (tb.sig true (n+5)) [J (.ref L),J (.int iv),J (.ref E.rd),J (.ref Lb),J (.int at_),J (.int many),J (.ref u),o 7,o 8,o 9,o 10] H KK X:=by
 revert n H X E b t R es S' KK u L iv Lb at_ many us o;apply hU;intro U;apply(?Z:Tq U);intro n H X E b t R es S' KK u L;apply e6;intro U;apply(?Y:Tq U);intro iv Lb at_ many us o;intros;refine dY hu (by exact Z (xJ _) hl) (λi ρ H'=>(∃o,ρ=[J (.ref L),J (.int iv),J (.ref E.rd),J (.ref Lb),J (.int at_),J (.int many),J (.ref u),o 7,o 8,o 9,o 10])/\Mod (oH E b t) H H'/\RI E b t (jm E.T (iA E.S E.kind E.mid (us.drop i) (qS (us.take i) es))++R) (qS (us.take i) es) (jv E (us.take i) S') H') (bU ⟨o,rfl⟩ (.refl) w) (λi v ρ H1 P hv h hP=>?_) λρ H1 h=>?_
 ·obtain ⟨⟨o,rfl⟩,m1,w1⟩:=h
  obtain ⟨⟨sp,k,x,y⟩,hx,rfl⟩:=ai4 hv;obtain ⟨e1,e2⟩:=agG hx;have ok1:=anM (us.take i) ((sp,k,x,y)::us.drop (i+1)) es S' (by exact Ql e1 ok);have ed:us.drop i=(sp,k,x,y)::us.drop (i+1):=by
   obtain ⟨hi,e⟩:=xQ.mp hx;exact Z (Aw hi) (Z e rfl)
  rw[ed] at w1;have w1:RI E b t (jZ E.T sp (dE E (qS (us.take i) es) (sp,k,x,y))++(jm E.T (iA E.S E.kind E.mid (us.drop (i+1)) (uu (qS (us.take i) es) (sp,k,x,y)))++R)) (qS (us.take i) es) (jv E (us.take i) S') H1:=by
   exact Ql (yt _ _ _) w1
  refine ⟨m1.at_ _ _ nu hu,aN (k:=.run true) w1.i rfl rfl (akN w1 ok1.1 λH2 m2 w2=>hP _ _ (bU ⟨λj=>[J (.int sp),J (.int k),J (.int x),J (.int y)].getD (j-7) Jw,rfl⟩ (m1.trans m2) ?_))⟩;have a1:qS (us.take (i+1)) es=uu (qS (us.take i) es) (sp,k,x,y):=by rw[e2,qS,D4];rfl
  have a2:jv E (us.take (i+1)) S'=ur (jv E (us.take i) S') k y x (E.S k y x):=by rw[e2,jv,D4];rfl
  exact Z a1 (Z a2 w2)
 ·obtain ⟨⟨o,rfl⟩,m1,w1⟩:=h
  rw[xJ,zc,Ex] at w1;exact ⟨m1.at_ _ _ nu hu,q H1 o m1 w1⟩
end
noncomputable abbrev fE(z:List Bool):List Bool:=z++qm (z.length % 8)
structure RK(E:cY)(A:kN)(g:bC)(pr:Nat)(B:oR)(ps:List Nat)(kind lo:Int)(bs:List Nat)(Jy:List (List Bool))(Lb L c:Nat)(cur:List Bool)(b t:Nat)(R:List Bool)(es:List (Int×AV))(S':Nat->Nat->Nat->Int)(H0 H:AH):Prop where
 w:RI E b t R es S' H
 hb:bs[c]? =J b
 hz:∃z,Jy[c]? =J z/\cur++R=fE z
 rs:∀i b' z',c<i->bs[i]? =J b'->Jy[i]? =J z'->dZ H b' (fE z')
 qR:H[Lb]? =J (.list (bs.map .ref))
 hL:∃k vs,H[L]? =J (.gen k vs)
 F:aQ E.N H A g pr
 S:bx E.N H B ps kind lo
 m:qU E.N H0 H
 len:E.N<=H.length
structure RS(E:cY)(bs:List Nat)(Lb L:Nat):Prop where
 wi:¬E.a.own Lb
 xy:E.N<=Lb
 lL:E.N<=L
 Np:E.N<=E.p
 Nr:E.N<=E.rd
 bN:∀b∈bs,E.N<=b
 nd:bs.Nodup
 vP:bs.length<=100
theorem aiU{bs:List Nat}(nd:bs.Nodup){i j b b':Nat}(h:bs[i]? =J b)(h':bs[j]? =J b')(ne:i≠j):b≠b':=λe=>by
 refine (xQ.mp h).elim λhi e1=>?_;refine (xQ.mp h').elim λhj e2=>?_;exact ne ((List.getElem_inj nd).mp (e1.trans (e.trans e2.symm)))
section
variable{n:Nat}{H H' H0:AH}{Q:AV->AH->Prop}{X:XF}{E:cY}{A:kN}{g:bC}{pr:Nat}{B:oR}{ps:List Nat}{kind lo:Int}{bs:List Nat}{Jy:List (List Bool)}{Lb L c b t:Nat}{cur R R':List Bool}{es es':List (Int×AV)}{S' S2:Nat->Nat->Nat->Int}
theorem RK.wi(k:RK E A g pr B ps kind lo bs Jy Lb L c cur b t R es S' H0 H)(s:RS E bs Lb L):¬oH E b t Lb:=λq=>by
 refine k.w.P.h2.elim λU h=>?_;refine aO k.w.r.inst λU h' U=>?_;exact q.elim (ba k.qR h (nf rfl)) λq=>q.elim (ba k.qR h' (nf rfl)) s.wi
theorem RK.nL(k:RK E A g pr B ps kind lo bs Jy Lb L c cur b t R es S' H0 H):¬oH E b t L:=λq=>by
 refine k.w.P.h2.elim λU h=>?_;refine aO k.w.r.inst λU h' U=>?_;refine gX k.hL λU U hL=>?_;exact q.elim (ba hL h (nf rfl)) λq=>q.elim (ba hL h' (nf rfl)) (k.w.g.j8 hL (λU h=>by cases h) (λU h=>by cases h))
theorem RK.nb(k:RK E A g pr B ps kind lo bs Jy Lb L c cur b t R es S' H0 H)(s:RS E bs Lb L){i b':Nat}(hi:c<i)(h:bs[i]? =J b')(r:dZ H b' R'):¬oH E b t b':=λq=>by
 refine k.w.P.h2.elim λU ht=>?_;refine aO r.inst λU h' U=>?_;exact q.elim (ba h' ht (nf rfl)) λq=>q.elim (aiU s.nd h k.hb (zH hi)) (k.w.g.j8 h' (λU h=>by cases h) λU h=>by cases h)
theorem RK.turn(k:RK E A g pr B ps kind lo bs Jy Lb L c cur b t R es S' H0 H)(s:RS E bs Lb L)(m:Mod (oH E b t) H H')(w:RI E b t R' es' S2 H')(hz:∃z,Jy[c]? =J z/\cur'++R'=fE z):RK E A g pr B ps kind lo bs Jy Lb L c cur' b t R' es' S2 H0 H':=
 ⟨w,k.hb,hz,λi b' z' hi h h'=>(k.rs i b' z' hi h h').mod m (k.nb s hi h (k.rs i b' z' hi h h')),m.at_ _ _ (k.wi s) k.qR,gX k.hL λa b h=>(jj a b (m.at_ _ _ k.nL h)),k.F.mod m k.w.lo,k.S.mod m k.w.lo,k.m.trans (m.mono k.w.lo),xH k.len m.len⟩
theorem RK.start(k:RK E A g pr B ps kind lo bs Jy Lb L c cur b t R es S' H0 H)(s:RS E bs Lb L)(m:Mod (λj=>j=E.p\/j=E.rd) H H')(hb:bs[c+1]? =J b')(hz:Jy[c+1]? =J z')(l:H.length<=t')(P:bB H' E.p E.a.g E.kind E.mid t' [])(i:cS H' E.rd 303 [(18,.ref E.sl),(10,.ref E.a.g),(19,.ref E.p),(26,.ref E.D),(27,.int E.most),(24,.ref b')]):RK E A g pr B ps kind lo bs Jy Lb L (c+1) [] b' t' (fE z') [] S' H0 H':=by
 have np:∀{j o},H[j]? =J o->(∀fs,o≠.inst 181 fs)->(∀fs,o≠.inst 303 fs)->¬(j=E.p\/j=E.rd):=λh n1 n2 q=>q.elim (ba h k.w.P.h1 (n1 _)) (ba h k.w.i (n2 _));have rd:∀i b' z',c<i->bs[i]? =J b'->Jy[i]? =J z'->dZ H' b' (fE z'):=λi b' z' hi h h'=>by
  have r:=k.rs i b' z' hi h h';refine aO r.inst λU h2 U=>?_;exact r.mod m (np h2 (λU e=>by cases e) λU e=>by cases e)
 have lo:∀j,(j=E.p\/j=E.rd)->E.N<=j:=λj h=>h.elim (λe=>e▸s.Np) λe=>e▸s.Nr;exact ⟨(k.w.rj s.Np s.Nr).start m (k.w.g.j8 k.w.P.h1 (λU h=>by cases h) λU e=>by cases e) (k.w.g.j8 k.w.i (λU h=>by cases h) λU e=>by cases e) k.len (s.bN _ (ye hb)) l (rd _ _ _ (yM c) hb hz) P i,hb,⟨z',hz,rfl⟩,λi b' z' hi=>rd i b' z' (Ed hi),m.at_ _ _ (np k.qR (λU h=>by cases h) (λU h=>by cases h)) k.qR,let ⟨a,b,h⟩:=k.hL;(jj a b (m.at_ _ _ (np h (λU h=>by cases h) (λU h=>by cases h)) h)),k.F.mod m lo,k.S.mod m lo,k.m.trans (m.mono lo),xH k.len m.len⟩
theorem RK.gen(k:RK E A g pr B ps kind lo bs Jy Lb L c cur b t R es S' H0 H)(s:RS E bs Lb L)(m:Mod (λj=>j=L) H H')(hL:∃k vs,H'[L]? =J (.gen k vs)):RK E A g pr B ps kind lo bs Jy Lb L c cur b t R es S' H0 H':=by
 refine gX k.hL λU U h0=>?_;have ne:∀{j o},H[j]? =J o->(∀k vs,o≠.gen k vs)->¬j=L:=λh n=>ba h h0 (n _ _);have lo:∀j,j=L->E.N<=j:=λj e=>e▸s.lL;refine k.w.P.h2.elim λU ht=>?_;refine aO k.w.r.inst λU hb U=>?_;have w:=k.w;exact ⟨⟨m.at_ _ _ (ne w.i nofun) w.i,w.r.mod m (ne hb nofun),w.P.mod m (ne w.P.h1 nofun) (ne ht nofun),w.g.mod m λj hj e=>w.g.j8 h0 nofun nofun (e▸hj),w.ok,w.T.mod m λj hj e=>absurd (w.tl j hj) (xX.mpr (e▸s.lL)),w.tl,m.at_ _ _ (ne w.sl nofun) w.sl,w.tm,w.m3,w.low,w.Nt,w.Nb,w.k1,w.k7⟩,
  k.hb,k.hz,λi b' z' hi h h'=>by
   have r:=k.rs i b' z' hi h h';refine aO r.inst λU h2 U=>?_;exact r.mod m (ne h2 nofun),m.at_ _ _ (ne k.qR nofun) k.qR,hL,k.F.mod m lo,k.S.mod m lo,k.m.trans (m.mono lo),xH k.len m.len⟩
noncomputable abbrev sJ(L:Nat)(iv:Int)(E:cY)(Lb:Nat)(c many:Nat)(o:Nat->Option AV):EV:=[J (.ref L),J (.int iv),J (.ref E.rd),J (.ref Lb),J (.int c),J (.int many),o 6,o 7,o 8,o 9,o 10]
theorem aoe(z:List Bool):∃k,qm (z.length % 8)=yr k true/\k<=7:=(aM _ rfl (yb (DY _ (by decide))))
theorem akO{iv many:Nat}{o:Nat->Option AV}{KK:KF}(k:RK E A g pr B ps kind lo bs Jy Lb L c cur b t R es S' H0 H)(s:RS E bs Lb L)(hc:0<iv/\many=iv->Jy[c]? =J cur/\∃z',Jy[c+1]? =J z')
  (q0:¬(0<iv/\many=iv)->KK .next (sJ L iv E Lb c many o) H) (q1:0<iv/\many=iv->∀H' b' t' R',Mod (λj=>oH E b t j\/j=E.p\/j=E.rd) H H'->RK E A g pr B ps kind lo bs Jy Lb L (c+1) [] b' t' R' [] S' H0 H'->KK .next (sJ L iv E Lb (c+1) 0 o) H') (x:0<iv/\many=iv->bs.length=c+1->∀H',qU E.N H0 H'->X 75 H'):
  bh (kW (aR (aa 1) (aH .Gt (af (.int 0)))) (aR (aa 5) (aH .Eq (aa 1))))
   (aq (aV (aJ (aa 2) 25 ar))<|
   (aq (sH 4 (af (.int 1)))<|
   (aq (bh (aR (aa 4) (aH .Eq (aC .len (ae (aa 3) ar))))
    (aq (bF 75 (ae (af (.str "a scan with too few intervals")) ar))<|
    aA)
    aA)<|
   (aq (aV (aJ (aa 2) 21 (ae (a7 (aa 3) (aa 4)) ar)))<|
   (aq (ak (aK 5) (af (.int 0)))<|
   aA)))))
   aA (tb.sig true (n+5)) (sJ L iv E Lb c many o) H KK X:=by
 refine .dec (λh0=>uf (λhe=>?_) λhe=>q0 λh=>he h.2) λh0=>.f (q0 λh=>h0 (x9.mpr h.1));have hh:0<iv/\many=iv:=⟨x9.mp h0,he⟩
 refine (hc hh).elim λz1 u6=>u6.elim λz' z2=>?_;refine aO k.hz λz e1 e2=>?_;obtain rfl:cur=z:=xT (z1.symm.trans e1);have eR:=Ey e2;refine aO (aoe cur) λpk p1 p7=>?_;have w:=k.w;rw[eR,p1] at w;refine aN (k:=.run true) w.i rfl rfl (age w p7 λH1 m1 w1=>?_);have k1:=k.turn s m1 w1 (aM cur z1 (yB _));have lb:(bs.map AV.ref).length=bs.length:=xJ _;refine .dO k1.qR (lb▸xH s.vP (by decide)) (.beq (λe=>⟨rfl,x hh (zr.mp (lb▸e)).symm _ k1.m⟩) λne=>?_);have lc:=(xQ.mp k.hb).1;have lc1:=DZ lc λe=>ne (by refine Z lb (Ql e ?_);rfl);have hb':=xR lc1;refine aN (k:=.run true) k1.w.i rfl rfl (.list k1.qR (nn (c+1)) (x9.mpr (xO lc1 (xH s.vP (by decide)))) (show (bs.map AV.ref)[c+1]? =J (.ref bs[c+1]) by rw[yA,hb'];rfl) (acV k1.w.i k1.w.P λH2 t' m2 l2 P2 i2=>q1 hh H2 _ _ _ ((m1.mono λU h=>.inl h).trans (m2.mono λU h=>.inr h)) (k1.start s m2 hb' z2 l2 P2 i2)))
end
noncomputable def fg(un:Nat->List UE)(j:Nat):List UE:=(yH j).flatMap un
noncomputable def iz(z:BS):List (List Bool):=z.zs++[z.cur]
section
variable{n:Nat}{H:AH}{Q:AV->AH->Prop}{X:XF}{E:cY}{A:kN}{g:bC}{pr:Nat}{B:oR}{ps:List Nat}{kind lo:Int}{bs:List Nat}{Lb L:Nat}{es:List (Int×AV)}{S0:Nat->Nat->Nat->Int}{t:Nat}
theorem acW(un)(j):fg un (j+1)=fg un j++un j:=by unfold fg;exact Z (gM _ _) rfl
theorem aie(un)(j):jv E (fg un (j+1)) S0=jv E (un j) (jv E (fg un j) S0):=by rw[acW,jv,D4];rfl
theorem ag6{v:AV}(ok:g.Ok)(po:ia g ps)(i:cS H E.rd 303 [(18,.ref E.sl),(10,.ref E.a.g),(19,.ref E.p),(26,.ref E.D),(27,.int E.most),(24,v)])(P:bB H E.p E.a.g E.kind E.mid t es)(rj:RJ E S0 H)(F:aQ E.N H A g pr)(S:bx E.N H B ps kind lo)(hL:H[L]? =J (.gen 1 [.ref A.f,.ref B.s]))
  (hN:E.N<=H.length) (s:RS E bs Lb L) (qR:H[Lb]? =J (.list (bs.map .ref))) (b1:1<=bs.length)
  (rb:∀(i b:Nat) (z:List Bool),bs[i]? =J b->(iz (eM E.T E.S E.kind E.mid iv (aD g ps) (aL g ps)))[i]? =J z->dZ H b (fE z))
  (hv:∀j,j<aL g ps->RU E (aD g ps j) (nk iv (aD g ps) j) (jv E (fg (aD g ps) j) S0))
  (q:bs.length=(eM E.T E.S E.kind E.mid iv (aD g ps) (aL g ps)).zs.length+1->∀H',qU E.N H H'->bg H' E.a (jv E (fg (aD g ps) (aL g ps)) S0)->Q .none H')
  (x:bs.length≠(eM E.T E.S E.kind E.mid iv (aD g ps) (aL g ps)).zs.length+1->∀H',qU E.N H H'->X 75 H'):call (.run true) (n+6) 328 [.ref L,.int iv,.ref E.rd,.ref Lb] H Q X:=by
 revert n H Q X E A g pr B ps kind lo bs Lb L es S0 t iv v;apply hU;intro U;apply(?Z:Tq U);intro n H Q X E A g pr B ps kind lo;apply e8;intro U;apply(?Y:Tq U);intro bs Lb L es S0 t iv v;intros;obtain ⟨Jy,eZ⟩:∃Jy,Jy=iz (eM E.T E.S E.kind E.mid iv (aD g ps) (aL g ps)):=⟨_,rfl⟩
 rw[<-eZ] at rb;have lZ:Jy.length=(eM E.T E.S E.kind E.mid iv (aD g ps) (aL g ps)).zs.length+1:=by rw[eZ,iz,xK];rfl
 rw[<-lZ] at q x;have zle:∀{z:BS},rR z (eM E.T E.S E.kind E.mid iv (aD g ps) (aL g ps))->∃r,Jy[z.zs.length]? =J (z.cur++r):=λh=>by refine Z eZ ?_;exact h.cur
 obtain ⟨b0,rest,eb⟩:∃b0 rest,bs=b0::rest:=by cases hb:bs with | nil=>rw[hb] at b1;exact absurd b1 (by decide) | cons a r=>exact (jj a r rfl)
 have hb0:bs[0]? =J b0:=by refine Z eb ?_;rfl
 refine (zle (aj1 (yI _))).elim λr0 hz0=>?_;have hz0:=hz0;refine enter [J (.ref L),J (.int iv),J (.ref E.rd),J (.ref Lb),Jw,Jw,Jw,Jw,Jw,Jw,Jw] rfl rfl rfl ?_;refine aN (k:=.run true) i rfl rfl (.zero qR (show (bs.map AV.ref)[0]? =J (.ref b0) by rw[yA,hb0];rfl) (acV i P λH1 t1 m1 l1 P1 i1=>?_));have np:∀{j o},H[j]? =J o->(∀fs,o≠.inst 181 fs)->(∀fs,o≠.inst 303 fs)->¬(j=E.p\/j=E.rd):=λh n1 n2 q=>q.elim (ba h P.h1 (n1 _)) (ba h i (n2 _));have lo1:∀j,(j=E.p\/j=E.rd)->E.N<=j:=λj h=>h.elim (λe=>e▸s.Np) λe=>e▸s.Nr;have rd1:∀i b' z',bs[i]? =J b'->Jy[i]? =J z'->dZ H1 b' (fE z'):=λi b' z' h h'=>by
  have r:=rb i b' z' h h';refine aO r.inst λU h2 U=>?_;exact r.mod m1 (np h2 (λU e=>by cases e) λU e=>by cases e)
 have w1:=rj.start m1 (rj.g.j8 P.h1 (λU h=>by cases h) λU e=>by cases e) (rj.g.j8 i (λU h=>by cases h) λU e=>by cases e) hN (s.bN _ (ye hb0)) l1 (rd1 0 _ _ hb0 hz0) P1 i1;have k1:RK E A g pr B ps kind lo bs Jy Lb L 0 [] b0 t1 (fE r0) [] S0 H H1:=⟨w1,hb0,⟨r0,hz0,rfl⟩,λi b' z' U=>rd1 i b' z',m1.at_ _ _ (np qR (λU h=>by cases h) (λU h=>by cases h)) qR,⟨_,_,m1.at_ _ _ (np hL (λU h=>by cases h) (λU h=>by cases h)) hL⟩,F.mod m1 lo1,S.mod m1 lo1,m1.mono lo1,xH hN m1.len⟩
 refine ac6 (A:=A) (pr:=pr) (B:=B) (kind:=kind) (lo:=lo) (N:=E.N) ok po (I:=λj ρ H'=>∃(o:Nat->Option AV) (b t:Nat) (R:List Bool),ρ=sJ L iv E Lb (eM E.T E.S E.kind E.mid iv (aD g ps) j).zs.length (jb iv (aD g ps) j).2 o/\RK E A g pr B ps kind lo bs Jy Lb L (eM E.T E.S E.kind E.mid iv (aD g ps) j).zs.length (eM E.T E.S E.kind E.mid iv (aD g ps) j).cur b t R (jb iv (aD g ps) j).1 (jv E (fg (aD g ps) j) S0) H H')
  ⟨λj ρ H3 H4 k vs h m hg=>?_,λj ρ H3 h=>?_,λj ρ H3 h=>?_,λj ρ H3 h=>?_⟩ ⟨λU=>Jw,b0,t1,_,rfl,k1⟩ (m1.at_ _ _ (np hL (λU h=>by cases h) (λU h=>by cases h)) hL) (λj u ρ H3 H4 PP kk vs hj h m34 hu hu2 hg hP=>?_) λρ H3 h=>?_
 ·refine uE h λo b t R e w=>?_
  exact ⟨o,b,t,R,e,w.gen s m (jj k vs hg)⟩
 ·refine uE h λo b t R e w=>?_;exact w.F
 ·refine uE h λo b t R e w=>?_;exact w.S
 ·refine uE h λo b t R e w=>?_;exact w.len
 ·obtain ⟨o,b,t,R,rfl,w⟩:=h
  have w4:=w.gen s m34 (jj kk vs hg);have hvj:=hv j hj;have ele:rR (eM E.T E.S E.kind E.mid iv (aD g ps) (j+1)) (eM E.T E.S E.kind E.mid iv (aD g ps) (aL g ps)):=aj1 hj;have cle:=(ae7 (T:=E.T) (S:=E.S) (kind:=E.kind) (mid:=E.mid) (iv:=iv) (un:=aD g ps) j).trans ele;have ez:eM E.T E.S E.kind E.mid iv (aD g ps) (j+1)=⟨(fT iv (jb iv (aD g ps) j).2 (eM E.T E.S E.kind E.mid iv (aD g ps) j)).zs,(fT iv (jb iv (aD g ps) j).2 (eM E.T E.S E.kind E.mid iv (aD g ps) j)).cur++jm E.T (iA E.S E.kind E.mid (aD g ps j) (nk iv (aD g ps) j))⟩:=rfl;have eg:jb iv (aD g ps) (j+1)=(qS (aD g ps j) (nk iv (aD g ps) j),(jI iv (jb iv (aD g ps) j)).2+1):=rfl;rw[ez,eg,aie] at hP;rw[ez] at ele;have egc:(jI iv (jb iv (aD g ps) j)).1=nk iv (aD g ps) j:=rfl;generalize nk iv (aD g ps) j=ge at*;generalize jb iv (aD g ps) j=y at*;generalize eM E.T E.S E.kind E.mid iv (aD g ps) j=z at*;generalize jv E (fg (aD g ps) j) S0=Sj at*;have j8:¬E.a.own u:=λh=>absurd (w.w.g.lt u h) (xX.mpr hu);have wM:∀{H' b t R es S'},RI E b t R es S' H'->H'[u]? =J (.list ((aD g ps j).map UE.av))->¬oH E b t u:=λw h q=>by
   refine w.P.h2.elim λU ht=>?_;refine aO w.r.inst λU h' U=>?_;exact q.elim (ba h ht (nf rfl)) λq=>q.elim (ba h h' (nf rfl)) j8
  have nrL:∀{H' b t R es S' kk vs},RI E b t R es S' H'->H'[L]? =J (.gen kk vs)->¬oH E b t L:=λw h q=>by
   refine w.P.h2.elim λU ht=>?_;refine aO w.r.inst λU h' U=>?_;exact q.elim (ba h ht (nf rfl)) λq=>q.elim (ba h h' (nf rfl)) (w.g.j8 h (λU h=>by cases h) (λU h=>by cases h))
  show aq _ _ _ (sJ L iv E Lb z.zs.length y.2 λi=>[J (.ref u),o 7,o 8,o 9,o 10].getD (i-6) Jw) _ _ _;refine cut (λρ' H'=>∃b' t' R',ρ'=sJ L iv E Lb (fT iv y.2 z).zs.length (jI iv y).2 (λi=>[J (.ref u),o 7,o 8,o 9,o 10].getD (i-6) Jw)/\RK E A g pr B ps kind lo bs Jy Lb L (fT iv y.2 z).zs.length (fT iv y.2 z).cur b' t' R' (jI iv y).1 Sj H H'/\H'[u]? =J (.list ((aD g ps j).map UE.av))/\H'[L]? =J (.gen kk vs)) (λRR hRR=>?_) λρ' H5 h=>?_
  ·refine akO w4 s (λhh=>?_) (λhh=>hRR _ _ ?_) (λhh H' b' t' R' m k5=>hRR _ _ ?_) (λhh e H' m=>x (λe'=>?_) H' m)
   ·have eb:fT iv y.2 z=⟨z.zs++[z.cur],[]⟩:=if_pos hh
    rw[eb] at cle;refine (zle cle).elim λrr hr=>?_;refine ⟨?_,?_⟩
    ·have:=cle.old z.zs.length (by refine Z xK ?_;exact yM _)
     rw[eZ,iz,yw (xO (by refine Z xK ?_;exact yM _) cle.len),this];exact dB
    ·rw[xK] at hr;exact ⟨_,hr⟩
   ·have eb:fT iv y.2 z=z:=if_neg hh
    have ec:jI iv y=y:=if_neg hh;refine Z eb (Z ec ?_);exact (qy b t R rfl w4 hu2 hg)
   ·have eb:fT iv y.2 z=⟨z.zs++[z.cur],[]⟩:=if_pos hh
    have ec:jI iv y=([],0):=if_pos hh;refine Z eb (Z ec ?_);have l1:(z.zs++[z.cur]).length=z.zs.length+1:=xK;refine (qy b' t' R' (by exact Z l1 rfl) (by refine Z l1 ?_;exact k5) (m.at_ _ _ (λq=>q.elim (wM w4.w hu2) λq=>q.elim (ba hu2 w4.w.P.h1 (nf rfl)) (ba hu2 w4.w.i (nf rfl))) hu2) (m.at_ _ _ (λq=>q.elim w4.nL λq=>q.elim (ba hg w4.w.P.h1 (nf rfl)) (ba hg w4.w.i (nf rfl))) hg))
   ·have eb:fT iv y.2 z=⟨z.zs++[z.cur],[]⟩:=if_pos hh
    rw[eb] at cle;refine (zle cle).elim λrr hr=>?_;rw[xK] at hr;have hr:Jy[z.zs.length+1]? =_:=hr;rw[<-e,e'] at hr;exact absurd (xQ.mp hr).1 (zU _)
  ·obtain ⟨b',t',R',rfl,k5,hu5,hg5⟩:=h
   refine aO k5.hz λzz hz hR=>?_;refine (zle ele).elim λrr hr=>?_;have ezz:=xT (hz.symm.trans hr);rw[ezz,fE,yt,yt] at hR;have eR:=Ey hR;have w5:=k5.w;rw[eR,egc] at w5;refine q7 (aiE hu5 (adM ok po j) w5 (wM w5 hu5) hvj λH6 o6 m6 w6=>hP _ _ ⟨λi=>[J (.ref u),o6 7,o6 8,o6 9,o6 10].getD (i-6) Jw,b',t',_,rfl,k5.turn s m6 w6 (aM _ hr ?_)⟩ (m6.at_ _ _ (nrL w5 hg5) hg5));rw[<-ezz,fE,ezz];simp only[yt]
 ·obtain ⟨o,b,t,R,rfl,w⟩:=h
  refine aO w.hz λzz hz hR=>?_;have ezz:Jy[(eM E.T E.S E.kind E.mid iv (aD g ps) (aL g ps)).zs.length]? =J (eM E.T E.S E.kind E.mid iv (aD g ps) (aL g ps)).cur:=by refine Z eZ ?_;exact dB
  have ezz:=xT (hz.symm.trans ezz);rw[ezz] at hR;have eR:=Ey hR;refine aO (aoe (eM E.T E.S E.kind E.mid iv (aD g ps) (aL g ps)).cur) λpk p1 p7=>?_;have w5:=w.w;rw[eR,p1] at w5;refine aN (k:=.run true) w5.i rfl rfl (age w5 p7 λH4 m4 w6=>?_);have lb:(bs.map AV.ref).length=bs.length:=xJ _;refine .dO (m4.at_ _ _ (w.wi s) w.qR) (lb▸xH s.vP (by decide)) (.bne (λne=>⟨rfl,x (λe=>ne (by refine Z lb (Z e (Z lZ ?_));rfl)) H4 (w.m.trans (m4.mono w.w.lo))⟩) λe=>q ?_ H4 (w.m.trans (m4.mono w.w.lo)) w6.g);rw[lb] at e;refine Z lZ ?_;exact (zr.mp e).symm
end
section
variable{r:Bool}{n N:Nat}{H:AH}{Q:AV->AH->Prop}{X:XF}{A:kN}{g:bC}{pr:Nat}{B:oR}{ps:List Nat}{kind lo:Int}
theorem dI.aoi[Decidable p](h:p)(q:y):dI x y (!decide p):=by refine Z (decide_eq_true h) ?_;exact .f q
theorem dI.nno[Decidable p](h:¬p)(q:x):dI x y (!decide p):=by refine Z (decide_eq_false h) ?_;exact .t q
theorem r9(a b:Nat):(a:Int).fmod b=(a % b:Nat):=(Hs a b).symm
theorem ack{a iv:Nat}(ha:1<=a)(h:iv % a=0)(q:Q .none H):call (.run r) (n+1) 314 [.int a,.int iv] H Q X:=by
 refine enter [J (.int a),J (.int iv)] rfl rfl rfl (.no (zg.mpr (nn iv)) ⟨Ac.mpr (zH ha),.bf ?_ q⟩);refine Z (r9 _ _) (Z h ?_);rfl
theorem ae4{a iv:Nat}(ha:1<=a)(h:iv % a≠0)(q:X 63 H):call (.run true) (n+1) 314 [.int a,.int iv] H Q X:=by
 refine enter [J (.int a),J (.int iv)] rfl rfl rfl (.no (zg.mpr (nn iv)) ⟨Ac.mpr (zH ha),.bt ?_ ⟨rfl,q⟩⟩);refine Z (r9 _ _) ?_;exact bne_iff_ne.mpr (Ac.mpr h)
theorem hW(F:aQ N H A g pr)(S:bx N H B ps kind lo)(k1:1<=kind)(k7:kind<=7)(h0:0<=lo)(h1:lo<pr)(q:Q .none H):call (.run r) (n+1) 755 [.ref A.f,.ref B.s] H Q X:=by
 refine S.h1.elim λac h=>?_;exact enter [J (.ref A.f),J (.ref B.s)] rfl rfl rfl (.mk h rfl (.yes k1 (.aoi k7 (.mk h rfl (.bf rfl (.mk h rfl (.bf rfl (.mk h rfl (.yes h0 (.mk F.h1 rfl (.aoi h1 q)))))))))))
theorem acK(S:bx N H B ps kind lo)(k1:1<=kind)(k8:¬kind<=7)(q:X 63 H):call (.run true) (n+1) 755 [.ref A.f,.ref B.s] H Q X:=by
 refine S.h1.elim λac h=>?_;exact enter [J (.ref A.f),J (.ref B.s)] rfl rfl rfl (.mk h rfl (.yes k1 (.nno k8 (.t ⟨rfl,q⟩))))
theorem aea{M:Nat}{xs:List Int}(hM:H[M]? =J (.list (xs.map .int)))(l:xs.length<=1000)(q:(∀(k:Nat) (v:Int),xs[k]? =J v->v=(k % 8:Nat))->Q .none H)(x:(∃(k:Nat) (v:Int),xs[k]? =J v/\v≠(k % 8:Nat))->X 75 H):call (.run true) (n+1) 790 [.ref M] H Q X:=by
 revert n H Q X M xs;apply e6;intro U;apply(?Z:Tq U);intro n H Q X M xs;intros;have ex:=xJ (as:=xs) AV.int;refine enter [J (.ref M),Jw] rfl rfl rfl (.dO hM (ex▸xH l (by decide)) (.bQ (cq (n:=xs.length) (xH l (by decide)) (congrArg Ao ex) (λj ρ H'=>H'=H/\(∃o,ρ=[J (.ref M),o])/\∀k v,k<j->xs[k]? =J v->v=(k % 8:Nat)) (bU rfl ⟨Jw,rfl⟩ (λk U h=>absurd h (zT k))) (λj ρ H1 P hj h hP=>?_) λρ H1 h=>?_)))
 ·obtain ⟨rfl,⟨o,rfl⟩,hk⟩:=h
  refine .list hM (nn j) (qv hj l) (show (xs.map AV.int)[j]? =J (.int xs[j]) by rw[yA,xR hj];rfl) ⟨by decide,.bne (λne=>⟨rfl,x (mc j xs[j] (xR hj) (λe=>ne (e.trans (r9 j 8).symm)))⟩) λe=>hP _ _ (bU rfl ⟨_,rfl⟩ (λk v hk' hv=>?_))⟩;rcases yN (yb hk') with h | rfl
  ·exact hk k v h hv
  ·rw[xR hj] at hv
   cases hv;exact e.trans (r9 _ 8)
 ·obtain ⟨rfl,⟨o,rfl⟩,hk⟩:=h
  exact q λk v h=>hk k v (xQ.mp h).1 h
theorem afj{xs:List (List UInt8)}{Q:AV->AH->Prop}{a0 a1 a2 a3 a4 a5 a6 a8 a9 a10 a11:Option AV}(hL:H[L]? =J (.list (xs.map .bytes)))(l:xs.length<=100)(lx:∀x∈xs,x.length<=100000)
  (q:∀H' Lb (bs:List Nat),Ext H H'->H.length<=Lb->H'[Lb]? =J (.list (bs.map .ref))->bs.length=xs.length->bs.Nodup->(∀b∈bs,H.length<=b)->(∀(i b:Nat) (x:List UInt8),bs[i]? =J b->xs[i]? =J x->dZ H' b (bu x))->Q (.ref Lb) H'):
  cW (b5 502 (ae (aa 12) ar)) true 1 (aa 7) dr (sg (.run true) (n+2)) [a0,a1,a2,a3,a4,a5,a6,J (.ref L),a8,a9,a10,a11] H Q X:=by
 revert n H X L xs Q a0 a1 a2 a3 a4 a5 a6 a8 a9 a10 a11;apply hU;intro U;apply(?Z:Tq U);intro n H X L xs Q a0 a1 a2 a3 a4 a5;apply e5;intro U;apply(?Y:Tq U);intro a6 a8 a9 a10 a11;intros;refine .list hL (by refine Z (xJ _) ?_;exact xH l (by decide)) ⟨by refine Z (xJ _) ?_;exact xH l (by decide),eJ (λj acc H'=>∃bs,acc=bs.map .ref/\Ext H H'/\bs.length=j/\bs.Nodup/\(∀b∈bs,H.length<=b/\b<H'.length)/\∀(i b:Nat) x,bs[i]? =J b->xs[i]? =J x->dZ H' b (bu x)) ⟨[],rfl,.refl,rfl,.nil,nM,nofun⟩ (λj v acc H1 P hv h hP=>?_) λacc H1 h=>?_⟩
 ·obtain ⟨hj,rfl⟩:=gY hv
  refine Qc λU u6=>?_;obtain ⟨bs,rfl,m1,lb,nd,lo,rd⟩:=h;refine u6 ?_;refine ⟨m1.get hL,.t (amW (r:=false) (n:=n+1) (lx _ (zy hj)) λb H2 u2=>hP _ _ ⟨bs++[b],by refine Z yq ?_;rfl,m1.trans u2.mod,by refine Z xK (Z lb ?_);rfl,B9.mpr ⟨nd,CO _ _,λx hx y hy e=>?_⟩,λx hx=>?_,λi b' x hb hx=>?_⟩)⟩
  ·have e:=(xV.mp hy)▸e
   exact absurd (lo x hx).2 (xX.mpr (e▸u2.fG (xS _)))
  ·rcases yz.mp hx with hx | hx
   ·exact ⟨(lo x hx).1,xO (lo x hx).2 (u2.len▸yY _)⟩
   ·refine Z (xV.mp hx) ?_;exact ⟨u2.fG m1.len,aS u2.self⟩
  ·by_cases h:i<bs.length
   ·rw[yw h] at hb
    exact (rd i b' x hb hx).mod (P:=λU=>False) u2.mod id
   ·have e:=yW (yb (by have:=(xQ.mp hb).1;have this:=xK▸this;exact this)) (xX.mp h)
    refine Qc λU y6=>?_;subst e;refine y6 ?_;have hb:=dB▸hb;refine Qc λU z6=>?_;cases hb;refine z6 ?_;rw[lb,xR hj] at hx;refine Qc λU u7=>?_;cases hx;refine u7 ?_;exact ⟨_,0,u2.self,lx _ (zy hj),yI _,rfl⟩
 ·refine Qc λU v6=>?_;obtain ⟨bs,rfl,m1,lb,nd,lo,rd⟩:=h;refine v6 ?_
  have lb:=(xJ _)▸lb;exact ⟨m1.get hL,λLb H2 u2=>q H2 Lb bs (m1.trans u2.mod) (u2.fG m1.len) u2.self lb nd (λb hb=>(lo b hb).1) λi b x hb hx=>(rd i b x hb hx).mod (P:=λU=>False) u2.mod id⟩
end
theorem ac1:∀m l,l.length=8*m->∃F,bu F=l/\F.length=m
 | 0,l,h=>⟨[],(Aj.mp h).symm,rfl⟩
 | m+1,l,h=>by
  obtain ⟨F,e1,e2⟩:=ac1 m (l.drop 8) (by exact Z Gw (Z h (Z (By _ _) (Z (FY _ _) rfl))));have h8:(l.take 8).length=8:=by refine Z Ai (Z h ?_);exact Bt (By 8 m▸zJ _ _)
  refine (aM ((bz (l.take 8)).toUInt8::F) ?_ (congrArg (· +1) e2));have:=(agM h8).1;show bI _ 8++bu F=l;refine Z e1 ?_;have e:bI (bz (l.take 8)).toUInt8.toNat 8=l.take 8:=(yB _).symm.trans this;exact Z e (Z (Ax _ _) rfl)
theorem akU(z):∃m,(fE z).length=8*m/\8*m<=z.length+7:=by
 have e:(fE z).length=z.length+(8-z.length % 8) % 8:=by rw[fE,xK,qm,B7]
 have t:(fE z).length % 8=0:=by
  refine Z e (Z (Nat.add_mod_mod _ _ _) (Ql (Nat.mod_add_mod _ _ _) ?_));exact Z (Nat.add_sub_of_le (ya (DY _ (by decide)))) rfl
 exact aM ((fE z).length / 8) (Nat.mul_div_cancel' (Nat.dvd_of_mod_eq_zero t)).symm (xH (Fq _ _) (e▸yf (yb (DY _ (by decide))) _))
theorem agi(z):bu (sQ z)=fE z/\8*(sQ z).length<=z.length+7:=by
 refine aO (akU z) λm h1 h2=>?_;refine aO (ac1 m _ h1) λF e1 e2=>?_;have:sQ z=F:=agj e1;refine Z this (Z e1 (Z e2 ?_));exact ⟨rfl,h2⟩
section
variable{n N:Nat}{H:AH}{Q:AV->AH->Prop}{X:XF}{A:kN}{g:bC}{pr:Nat}{B:oR}{ps:List Nat}{kind lo:Int}{T:List TE}{D:Nat}{iv:Nat}{S:Nat->Nat->Nat->Int}{mid:Int}
abbrev kH(T:List TE)(l:List (Nat×Int)):Prop:=∀p∈l,∃e,ti T p.1=J e/\cat p.2∈e.sy
theorem ail(t:dH H D T){p:Nat×Int}(h:∃e,ti T p.1=J e/\cat p.2∈e.sy):(jZ T p.1 p.2).length<=32:=by
 refine aO h λe h1 h2=>?_;refine uF ((t.2 e (gE h1).1).code h2) λi k hi U U U he U=>?_;have a:(qC T p.1 (cat p.2)).length<=16:=by unfold qC;refine Z h1 ?_;show (rC e.A.es _).length<=16;refine Z he (Z (bA _ _) ?_);exact hi
 have b:(jq p.2).length<=16:=by
  unfold jq;split
  ·rename_i h;refine Z (bA _ _) ?_;exact ya ((EM (zY h.1)).mpr h.2)
  ·exact yI _
 rw[jZ,xK];exact yZ a b
theorem qX(ok:g.Ok)(po:ia g ps)(j):(aD g ps j).length<=12:=by
 unfold aD mG;split
 ·exact (by decide:1<=12)
 ·exact xH (gR ok _ _ _) (yD 4 po.three)
theorem adW(us):∀es,(iA S kind mid us es).length=us.length:=by
 induction us with
 | nil=>intro es;rfl
 | cons u r ih=>intro es;exact congrArg (· +1) (ih _)
theorem acN(t:dH H D T):∀l,kH T l->(jm T l).length<=32*l.length
 | [],_=>xS _
 | p::l,h=>by
  show (jZ T p.1 p.2++jm T l).length<=32*(l.length+1);refine Z xK (Z (By _ _) (Z (yE _ _) ?_));exact yZ (acN t l λq hq=>h q (.tail _ hq)) (ail t (h p (.head _)))
theorem agN(ok:g.Ok)(po:ia g ps)(t:dH H D T)(h:kH T (jn S kind mid iv (aD g ps) n)):∀j,j<=n->(eM T S kind mid iv (aD g ps) j).zs.length<=j/\∀z∈iz (eM T S kind mid iv (aD g ps) j),z.length<=384*j
 | 0,_=>⟨xS _,λz hz=>by rw[show iz (eM T S kind mid iv (aD g ps) 0)=[[]] from rfl] at hz;refine Z (xV.mp hz) ?_;exact yI _⟩
 | j+1,hj=>by
  obtain ⟨a,b⟩:=agN ok po t h j (A0 hj);have ez:eM T S kind mid iv (aD g ps) (j+1)=⟨(fT iv (jb iv (aD g ps) j).2 (eM T S kind mid iv (aD g ps) j)).zs,(fT iv (jb iv (aD g ps) j).2 (eM T S kind mid iv (aD g ps) j)).cur++jm T (iA S kind mid (aD g ps j) (nk iv (aD g ps) j))⟩:=rfl;have c:(fT iv (jb iv (aD g ps) j).2 (eM T S kind mid iv (aD g ps) j)).zs.length<=j+1/\∀z∈iz (fT iv (jb iv (aD g ps) j).2 (eM T S kind mid iv (aD g ps) j)),z.length<=384*j:=by
   unfold fT;split
   ·refine ⟨by refine Z xK ?_;exact Bf a,λz hz=>?_⟩
    rcases yz.mp hz with hz | hz
    ·exact b z hz
    ·refine Z (xV.mp hz) ?_;exact yI _
   ·exact ⟨Ab a,b⟩
  refine Z ez ?_;refine ⟨c.1,λz hz=>?_⟩;have su:(jm T (iA S kind mid (aD g ps j) (nk iv (aD g ps) j))).length<=384:=by
   refine xH (acN t _ λp hp=>h p (Cy.mpr (aM j (y5.mpr hj) hp))) ?_;refine Z (adW _ _) ?_;exact yD 32 (qX ok po j)
  refine Z (By _ _) ?_;rcases yz.mp hz with hz | hz
  ·exact Be (c.2 z (AP _ hz))
  ·refine Z (xV.mp hz) (Z xK ?_)
   exact yZ (c.2 _ (Bh _ (.head _))) su
theorem aeF:∀xs,(∀x∈xs,x.length<=m)->(fJ xs).length<=xs.length*(2*m+2):=by
 have z:∀a k,(∀x∈a,x.length<=m)->(joinR (restOf k a)).length<=a.length*(2*m+2):=λa=>by
  induction a with
  | nil=>intro k _;exact yI _
  | cons x a ih=>
   intro k h;show (255::mk8 k::ay x++joinR (restOf (k+1) a)).length<=(a.length+1)*(2*m+2);refine Z xK (Z (EJ _ _) (Z (yE _ _) ?_));exact yZ (ih (k+1) λy hy=>h y (.tail _ hy)) (yR (xH (i7 x).2 (yD 2 (h x (.head _)))) 2)
 intro xs h;cases xs with
 | nil=>exact yI _
 | cons x a=>
  show (ay x++joinR (restOf 0 a)).length<=(a.length+1)*_;refine Z xK (Z (EJ _ _) (Z (yE _ _) ?_));exact yZ (z a 0 λy hy=>h y (.tail _ hy)) (Be (xH (i7 x).2 (yD 2 (h x (.head _)))))
def j7(z:BS):List (List UInt8):=(iz z).map sQ
theorem aej(ok:g.Ok)(po:ia g ps)(t:dH H D T)(hn:aL g ps<90)(h:kH T (jn S kind mid iv (aD g ps) (aL g ps))):(j7 (eM T S kind mid iv (aD g ps) (aL g ps))).length<=90/\∀x∈j7 (eM T S kind mid iv (aD g ps) (aL g ps)),x.length<=4320:=by
 refine (agN ok po t h _ (xS _)).elim λa b=>?_;refine ⟨by rw[j7,xJ,iz,xK];exact xH (Bf a) hn,λx hx=>?_⟩;obtain ⟨z,hz,rfl⟩:=yg.mp hx;have:=xH (agi z).2 (yR (xH (b z hz) (yD 384 (ya hn))) 7);exact yb (Nat.lt_of_mul_lt_mul_left (a:=8) (xN this (by decide)))
end
section
variable{n N:Nat}{H:AH}{Q:AV->AH->Prop}{X:XF}{A:kN}{g:bC}{pr:Nat}{B:oR}{ps:List Nat}{kind lo:Int}{T:List TE}{D:Nat}{iv:Nat}{a:GA}{S:Nat->Nat->Nat->Int}
theorem ac8{aT D:Nat}:∀(l:List (Nat×Int)) s,(l.foldl (λs p=>(bc aT D T).upd s p.1 p.2) s).cnt=s.cnt+l.length
 | [],_=>rfl
 | p::l,s=>by
  refine Z DA (Z (ac8 l _) ?_);show s.cnt+1+l.length=s.cnt+(l.length+1);exact Z (zf _ _ _) (Z (yE 1 _) rfl)
theorem afT{aT D:Nat}(ok:g.Ok)(po:ia g ps):∀j,(dg (bc aT D T) iv (gC (bc aT D T) E iv (aD g ps) ⟨[],0⟩ j)).s.cnt<=12*j
 | 0=>by
  unfold dg;split <;> exact xS 0
 | j+1=>by
  have ih:=afT (aT:=aT) (D:=D) (E:=E) ok po j;have e:(gC (bc aT D T) E iv (aD g ps) ⟨[],0⟩ (j+1)).s.cnt<=12*(j+1):=by
   show (j5 (bc aT D T) E (aD g ps j) ((dg _ iv (gC (bc aT D T) E iv (aD g ps) ⟨[],0⟩ j)).s,_)).1.cnt<=_;refine Z (mj _ _) (Z (ac8 _ _) (Z (adW _ _) (Z (By _ _) ?_)));exact yZ ih (qX ok po j)
  unfold dg;split
  ·exact e
  ·exact e
theorem afc(ok:g.Ok)(po:ia g ps)(F:aQ N H A g pr)(Sc:bx N H B ps kind lo)(sm:a.Small)(gr:bg H a S)(low:∀j,a.own j->j<N)(t:dH H D T)(tl:∀j,uv D T j->N<=j)(hN:N<=H.length)(k1:1<=kind)(k7:kind<=7)(h0:0<=lo)(h1:lo<pr)(h2:pr<=64)
  (hi:iv % g.ua ps=0) (hv:∀E:cG,E.a=a->E.S=S->E.m=ps.length->∀j,j<aL g ps->VU E (aD g ps j) (nk iv (aD g ps) j)) (hn:aL g ps<90) (hc:kH T (jn S kind (eE pr lo) iv (aD g ps) (aL g ps)))
  (q:∀H',qU N H H'->dH H' D T->Q (.bytes (fJ (j7 (eM T S kind (eE pr lo) iv (aD g ps) (aL g ps))))) H'):call (.run true) (n+7) 783 [.ref A.f,.ref B.s,.ref a.g,.int iv,.ref D] H Q X:=by
 revert n N H Q X A g pr B ps kind lo T D iv a S;apply hU;intro U;apply(?Z:Tq U);intro n N H Q X A g pr B ps kind lo;apply e5;intro U;apply(?Y:Tq U);intro T D iv a S;intros;refine Sc.h1.elim λac hs=>?_;refine enter [J (.ref A.f),J (.ref B.s),J (.ref a.g),J (.int iv),J (.ref D),Jw,Jw] rfl rfl rfl (hW F Sc k1 k7 h0 h1 ?_);refine i6 F ok Sc po λH1 m1=>ack (kQ ok) hi ?_;have uw:=m1.get hs;refine iK (F.ext m1) (Sc.ext m1) h0 h1 h2 λH2 p tt m2 l2 qQ P2=>.mk (m2.get uw) rfl ?_;have m12:=m1.trans m2;refine ajV (t.mod (P:=λU=>False) m12 λU U=>id) λH3 aT bw f m3 ls lb lf st3=>abM λw H4 u4=>?_;have m13:=m12.trans m3;have m14:=m13.trans u4.mod;refine ⟨rfl,rfl,λL H5 u5=>?_⟩;have m15:Ext H H5:=m14.trans u5.mod;have m35:Ext H3 H5:=Mod.trans u4.mod u5.mod;have m25:=m3.trans m35;have ko:=ae2 aT D T (n+1);have st5:=ko.mod _ _ _ _ _ st3 m35 λU U=>id;have lO:∀{j},uX aT bw f D T j->N<=j/\j<H3.length:=λ{j} h=>⟨h.elim (λe=>e▸xH hN (xH m12.len ls)) λh=>h.elim (λh=>h.elim (λe=>e▸xH hN (xH m12.len lb)) λe=>e▸xH hN (xH m12.len lf)) (tl j),ko.lt _ _ _ st3 j h⟩
 refine P2.h2.elim λep ht=>?_;have nO2:∀{j:Nat} {o},H2[j]? =J o->(∀e∈T,¬e.A.own j)->j≠D->¬uX aT bw f D T j:=λ{j o} hj nT nD h=>by
  have l:=aS hj;rcases h with e | (e | e) | e | ⟨x,hx,h⟩
  ·exact absurd l (xX.mpr (e▸ls))
  ·exact absurd l (xX.mpr (e▸lb))
  ·exact absurd l (xX.mpr (e▸lf))
  ·exact nD e
  ·exact nT x hx h
 have tH:=t.1.2;have lt0':∀{j},uv D T j->j<H.length:=λh=>by
  rcases h with rfl | ⟨e,he,rfl | rfl | rfl⟩
  ·exact aS tH
  ·exact aS (t.2 e he).h1
  ·exact aS (t.2 e he).h2
  ·refine ((t.2 e he).h3).elim λU h3=>?_;exact aS h3
 have nN:∀{j:Nat},H.length<=j->j<H2.length->¬uX aT bw f D T j:=λ{j} l l' h=>by
  rcases h with e | (e | e) | h
  ·exact absurd l' (xX.mpr (e▸ls))
  ·exact absurd l' (xX.mpr (e▸lb))
  ·exact absurd l' (xX.mpr (e▸lf))
  ·exact absurd (lt0' h) (xX.mpr l)
 have nW:∀{j:Nat},H3.length<=j->¬uX aT bw f D T j:=λl h=>absurd (lO h).2 (xX.mpr l);have lp:=xH m1.len l2;have ltt:=xH m1.len qQ
 let E:cG:=⟨N,a,S,kind,eE pr lo,w,B.sl,p,ps.length⟩
 have eo:E.Ok aT H5:=⟨sm,gr.mod m15 λU U h=>h,low,k1,k7,u5.old _ _ u4.self,m15.get Sc.h3,po.three,Sc.l3,xH hN lp,u4.fG (xH hN m13.len)⟩
 refine abN (K:=bc aT D T) (E:=E) ok po ko eo (P2.mod m25 id id) st5 (F.ext m15) (Sc.ext m15) u5.self (xH hN m15.len) (xH hN ltt) (u5.fG (xH hN m14.len)) (λj h=>(lO h).1) (nN ltt (aS ht)) (nN lp (aS P2.h1)) (nW (u4.fG (xS _))) (nW (u5.fG (u4.len▸yY _)))
  (λj hj=>?_) hn λH6 fo O' m6 hf st eo6=>?_
 ·refine Z (mf _) ?_
  have vu:=hv E rfl rfl rfl j hj;refine aiS (λs:CS=>s.cnt) (λU U U=>xS _) 10000 vu (λp hp s hs=>⟨hc p (Cy.mpr (aM j (y5.mpr hj) hp)),hs⟩) (xH (yZ (afT ok po j) (qX ok po j)) (xH (yR (yD 12 (ya (yL hj hn))) 12) (by decide)))
 ·refine (adK (aT:=aT) (D:=D) (T:=T) (iv:=iv) (un:=aD g ps) (E:=E) (aL g ps)).elim λb1 b2=>?_
  have eo:(gC (bc aT D T) E iv (aD g ps) ⟨[],0⟩ (aL g ps)).outs++[(bc aT D T).out (gC (bc aT D T) E iv (aD g ps) ⟨[],0⟩ (aL g ps)).s]=j7 (eM T S kind (eE pr lo) iv (aD g ps) (aL g ps)):=by
   show _++[sR ((gC (bc aT D T) E iv (aD g ps) ⟨[],0⟩ (aL g ps)).s.bits++_)]=_;rw[b1,b2,j7,iz,yq];rfl
  rw[eo] at hf;refine (aej ok po t hn hc).elim λc1 c2=>?_;have lj:(fJ (j7 (eM T S kind (eE pr lo) iv (aD g ps) (aL g ps)))).length<900000:=xN (aeF _ c2) (xN (Cr _ c1) (by decide));obtain ⟨⟨bw',f',c,_⟩,_⟩:=st;exact alf hf (xH c1 (by decide)) lj λH7 m7=>q H7 (m15.mod.trans (m6.trans m7.mod)) (c.t.mod (P:=λU=>False) m7 λU U=>id)
end
noncomputable def pJ(S:Nat->Nat->Nat->Int)(us:List UE)(S':Nat->Nat->Nat->Int):Nat->Nat->Nat->Int:=us.foldl (λS' u=>ur S' u.2.1 u.2.2.2 u.2.2.1 (S u.2.1 u.2.2.2 u.2.2.1)) S'
section
variable{n N:Nat}{H:AH}{Q:AV->AH->Prop}{X:XF}{A:kN}{g:bC}{pr:Nat}{B:oR}{ps:List Nat}{kind lo:Int}{T:List TE}{D:Nat}{iv:Nat}{a:GA}{S S0:Nat->Nat->Nat->Int}
structure vg(N:Nat)(H:AH)(A:kN)(g:bC)(pr:Nat)(B:oR)(ps:List Nat)(kind lo:Int)(a:GA)(S0:Nat->Nat->Nat->Int)(D:Nat)(T:List TE):Prop where
 ok:g.Ok
 po:ia g ps
 F:aQ N H A g pr
 S:bx N H B ps kind lo
 g:bg H a S0
 kF:a.Ok
 low:∀j,a.own j->N<=j
 t:dH H D T
 tl:∀j,uv D T j->j<N
 hN:N<=H.length
 k1:1<=kind
 h0:0<=lo
 h1:lo<pr
 h2:pr<=64
theorem adn(R:vg N H A g pr B ps kind lo a S0 D T)(k8:¬kind<=7)(x:X 63 H):call (.run true) (n+7) 795 [.ref A.f,.ref B.s,.ref a.g,.int iv,.ref D,d] H Q X:=
 enter [J (.ref A.f),J (.ref B.s),J (.ref a.g),J (.int iv),J (.ref D),J d,Jw,Jw,Jw,Jw,Jw,Jw] rfl rfl rfl (acK R.S R.k1 k8 x)
theorem adm(R:vg N H A g pr B ps kind lo a S0 D T)(k7:kind<=7)(hi:iv % g.ua ps≠0)(x:∀H',Ext H H'->X 63 H'):call (.run true) (n+7) 795 [.ref A.f,.ref B.s,.ref a.g,.int iv,.ref D,d] H Q X:=
 enter [J (.ref A.f),J (.ref B.s),J (.ref a.g),J (.int iv),J (.ref D),J d,Jw,Jw,Jw,Jw,Jw,Jw] rfl rfl rfl (hW R.F R.S R.k1 k7 R.h0 R.h1 (i6 R.F R.ok R.S R.po λH1 m1=>ae4 (kQ R.ok) hi (x H1 m1)))
theorem aee(R:vg N H A g pr B ps kind lo a S0 D T){x:List UInt8}{rest:List (UInt8×List UInt8)}(k7:kind<=7)(hi:iv % g.ua ps=0)(hs:∀j,j<ps.length->∃e,ti T j=J e)(hR:∀p∈rest,sY p.1)(lr:rest.length<100)(lx:∀y∈x::rest.map (·.2),y.length<=100000)(hl:(ay x++joinR rest).length<900000)
  (hb:∀(i:Nat) y z,(x::rest.map (·.2))[i]? =J y->(iz (eM T S kind (eE pr lo) iv (aD g ps) (aL g ps)))[i]? =J z->bu y=fE z)
  (hv:∀E:cY,E.a=a->E.S=S->E.kind=kind->E.mid=eE pr lo->E.m=ps.length->E.T=T->E.most=2^((pr:Int)-lo).toNat-1->∀j,j<aL g ps->RU E (aD g ps j) (nk iv (aD g ps) j) (pJ S (fg (aD g ps) j) S0))
  (q:(∀(k:Nat) (v:Int),(rest.map λp=>((p.1.toNat:Int)-208))[k]? =J v->v=(k % 8:Nat))->rest.length=(eM T S kind (eE pr lo) iv (aD g ps) (aL g ps)).zs.length->∀H',qU N H H'->bg H' a (pJ S (fg (aD g ps) (aL g ps)) S0)->Q .none H')
  (xx:(∃(k:Nat) (v:Int),(rest.map λp=>((p.1.toNat:Int)-208))[k]? =J v/\v≠(k % 8:Nat))\/rest.length≠(eM T S kind (eE pr lo) iv (aD g ps) (aL g ps)).zs.length->∀H',qU N H H'->X 75 H'):
  call (.run true) (n+7) 795 [.ref A.f,.ref B.s,.ref a.g,.int iv,.ref D,.bytes (ay x++joinR rest)] H Q X:=by
 revert n N H Q X A g pr B ps kind lo T D iv a S S0 x rest;apply hU;intro U;apply(?Z:Tq U);intro n N H Q X A g pr B ps kind lo;apply e6;intro U;apply(?Y:Tq U);intro T D iv a S S0;intro R;apply e2;intro U;apply(?X:Tq U);intro x rest;intros;obtain ⟨ok,po,F,Sc,gr,kF,low,t,tl,hN,k1,h0,h1,h2⟩:=R;refine enter [J (.ref A.f),J (.ref B.s),J (.ref a.g),J (.int iv),J (.ref D),J (.bytes (ay x++joinR rest)),Jw,Jw,Jw,Jw,Jw,Jw] rfl rfl rfl (hW F Sc k1 k7 h0 h1 (i6 F ok Sc po λH1 m1=>ack (kQ ok) hi ?_));have Sc1:=Sc.ext m1;refine Sc1.h1.elim λac uw=>?_;have t1:=t.mod (P:=λU=>False) m1 λU U=>id;refine .mk uw rfl (dY Sc1.h3 (by refine Z aI ?_;exact xH po.three (by decide)) (λj ρ H'=>H'=H1/\∃o:Option AV,ρ=[J (.ref A.f),J (.ref B.s),J (.ref a.g),J (.int iv),J (.ref D),J (.bytes (ay x++joinR rest)),o,Jw,Jw,Jw,Jw,Jw]) ⟨rfl,Jw,rfl⟩ (λj v ρ H2 P hv' h hP=>?_) λρ H2 h=>?_)
 ·obtain ⟨rfl,o,rfl⟩:=h
  obtain ⟨hj,rfl⟩:=tabAt hv';refine (hs j hj).elim λe he=>?_;have hk:bj (qP T) [0,(j:Int)]=true:=by
   cases hh:bj (qP T) [0,(j:Int)] with
   | true=>rfl
   | false=>
    have g:=(gE he).2.2;unfold getKey at g;refine aO (yh.mp g) λz hz U=>?_;have:=AS.mp hh z (Bo hz);exact absurd (CJ hz) this
  exact ⟨Sc1.h3,trivial,.bD t1.1.2 rfl (by refine Z hk ?_;exact .f (hP _ _ ⟨rfl,_,rfl⟩))⟩
 ·obtain ⟨rfl,o,rfl⟩:=h
  refine ⟨Sc1.h3,ait hR (ya lr) hl λH3 Li M m3 hLi hM=>?_⟩;have m13:Ext H H3:=m1.trans m3;refine aea hM (by refine Z (xJ _) ?_;exact xH (ya lr) (by decide)) (λhr=>?_) λhr=>xx (.inl hr) H3 m13.mod;refine iK (F.ext m13) (Sc.ext m13) h0 h1 h2 λH4 p tt m4 l4 xw P4=>?_;have m14:=m13.trans m4;refine ((Sc.ext m14).h1).elim λac hs4=>?_;have F4:=F.ext m14;have e64:=yG (Bu _ h0) (yj.mpr h2);refine .mk F4.h1 rfl (.mk hs4 rfl ⟨kS,An (zY h1),e64,?_⟩);refine .mk hs4 rfl ?_
  let E0:cY:=⟨N,a,S,kind,eE pr lo,0,B.sl,p,ps.length,D,T,1*2^((pr:Int)-lo).toNat-1⟩
  refine afk (E:=E0) λrd H5 u5=>?_;have m15:=m14.trans u5.mod;refine ⟨rfl,rfl,λL H6 u6=>?_⟩;have m16:=m15.trans u6.mod;have m36:Ext H3 H6:=m4.trans (Mod.trans u5.mod u6.mod);have m46:Ext H4 H6:=Mod.trans u5.mod u6.mod;refine afj (X:=X) (m36.get hLi) (by refine Z Ak (Z (xJ _) ?_);exact lr) lx λH7 Lb bs m7 xy qR lbs nd lb rb=>?_;rw[Ak,xJ] at lbs;have m17:Ext H H7:=m16.trans m7;have m47:=m46.trans m7;have m57:Ext H5 H7:=Mod.trans u6.mod m7
  let E:cY:=⟨N,a,S,kind,eE pr lo,rd,B.sl,p,ps.length,D,T,1*2^((pr:Int)-lo).toNat-1⟩
  have lp:=xH m13.len l4;have lrd:=u5.fG m14.len;have gl:=gr.lt;have P7:=P4.mod (P:=λU=>False) m47 id id;have rj:RJ E S0 H7:=⟨gr.mod m17 λU U h=>h,kF,t.mod (P:=λU=>False) m17 λU U=>id,tl,m17.get Sc.h3,Sc.l3,po.three,low,k1,k7,xH hN lp,xH hN lrd⟩
  have l6:=xH hN m16.len;have wi:¬a.own Lb:=λh=>absurd (gl Lb h) (xX.mpr (xH m16.len xy));refine ag6 (E:=E) (A:=A) (g:=g) (pr:=pr) (B:=B) (ps:=ps) (kind:=kind) (lo:=lo) (S0:=S0) (bs:=bs) ok po (m57.get u5.self) P7 rj (F.ext m17) (Sc.ext m17) (m7.get u6.self) (xH hN m17.len) ⟨wi,xH l6 xy,u6.fG (xH hN m15.len),xH hN lp,xH hN lrd,λb hb=>xH l6 (lb b hb),nd,lbs▸lr⟩ qR (lbs▸Af _) (λi b z hb' hz=>?_) (hv E rfl rfl rfl rfl rfl rfl ?_) (λe H8 m8 g8=>q hr (AY (lbs.symm.trans e)) H8 (m17.mod.trans m8) g8) λe H8 m8=>xx (.inr λe'=>e (by exact Z lbs (Z e' rfl))) H8 (m17.mod.trans m8)
  ·have hi:i<(x::rest.map (·.2)).length:=by refine Z Ak (Z (xJ _) (Ql lbs ?_));exact (xQ.mp hb').1
   have:=rb i b _ hb' (xR hi);rw[hb i _ z (xR hi) hz] at this;exact this
  ·show (1:Int)*2^((pr:Int)-lo).toNat-1=_
   exact Z (Cs _) rfl
end
noncomputable def kK(b:Nat)(h:Nat->Nat):Nat->Nat
 | 0=>b
 | k+1=>kK b h k+(2*h k+1)
theorem ki(b)(h)(l:i<=j):kK b h i<=kK b h j:=by
 induction l with
 | refl=>exact xS _
 | step _ ih=>exact xH ih (x7 _ _)
noncomputable def qB(g b m:Nat)(w h:Nat->Nat):GA:=⟨g,kK b h m,m,λk=>kK b h k+2*h k,λk y=>kK b h k+(2*y+1),w,h⟩
theorem mM{h:Nat->Nat}(hy:y<h k):kK b h k+(2*y+1)<kK b h k+2*h k:=Bc (xO (yM _) (yD 2 hy)) _
theorem qk{h:Nat->Nat}(hk:k<m):kK b h k+2*h k<kK b h m:=xO (yM _) (ki b h (j:=m) hk)
theorem ajs{w h:Nat->Nat}(hg:g<b)(hm:m<=16)(hw:∀k,w k<=16)(hh:∀k,h k<=16):(qB g b m w h).Ok where
 sm:=⟨hm,hw,hh⟩
 ng:=λk y U U (e:kK b h k+(2*y+1)=g)=>absurd hg (xX.mpr (xH (ki b h (yI k)) (xH (x7 _ _) (yQ e))))
 nr:=λk y hk hy e=>absurd e (zt (yL (mM hy) (qk hk)))
 np:=λk y k' hk hy hk' (e:kK b h k+(2*y+1)=kK b h k'+2*h k')=>by
  rcases Ec k k' with l | rfl | l
  ·exact absurd e (zt (xO (yL (mM hy) (qk l)) (x7 _ _)))
  ·exact absurd e (zt (mM hy))
  ·exact absurd e.symm (zt (xO (qk l) (x7 _ _)))
 nn:=λk y k' y' hk hy hk' hy' (e:kK b h k+(2*y+1)=kK b h k'+(2*y'+1))=>by
  rcases Ec k k' with l | rfl | l
  ·exact absurd e (zt (xO (yL (mM hy) (qk l)) (x7 _ _)))
  ·exact ⟨rfl,Nat.eq_of_mul_eq_mul_left (by decide:0<2) (AY (Ja e))⟩
  ·exact absurd e.symm (zt (xO (yL (mM hy') (qk l)) (x7 _ _)))
theorem ahD{w h:Nat->Nat}(hg:N<=g)(hb:N<=b):∀j,(qB g b m w h).own j->N<=j:=λj q=>by
 have z:∀k,N<=kK b h k:=λk=>xH hb (ki b h (yI k));rcases q with rfl | rfl | ⟨k,_,rfl⟩ | ⟨k,y,_,_,rfl⟩
 ·exact hg
 ·exact z m
 ·exact xH (z k) (x7 _ _)
 ·exact xH (z k) (x7 _ _)
theorem akw(n)(x:α):yr n x=tab n λU=>x:=by rw[tab,List.map_const',zM]
section
variable{n:Nat}{H:AH}{Q:AV->AH->Prop}{X:XF}
theorem aeK{w h:Nat->Nat}(hL:H[L]? =J (.list (tab m λk=>.tup [.int (w k:Nat),.int (h k:Nat)])))(hm:m<=16)(hw:∀k,w k<=16)(hh:∀k,h k<=16)
   (q:∀H' a,Ext H H'->a.m=m->a.w=w->a.h=h->a.Ok->(∀j,a.own j->H.length<=j)->bg H' a (λU U U=>0)->Q (.ref a.g) H') {r:Bool}:iT (sg (.run r) (n+1)) 214 [.ref L] H Q X:=by
 revert n H Q X L m w h r;apply e8;intro U;apply(?Z:Tq U);intro n H Q X L m w h;intro hL hm hw hh q;apply e1;intro U;apply(?Y:Tq U);intro r;intros;exact .mk λgr H1 u1=>by
  have hL1:=u1.old _ _ hL;have l1:H1.length=gr+1:=by exact Z u1.len (Z u1.eq rfl)
  refine go (k:=.run r) rfl ⟨rfl,.list hL1 (by refine Z aI ?_;exact xH hm (by decide)) ⟨by refine Z aI ?_;exact xH hm (by decide),eJ (λk acc H'=>acc=tab k (λk=>.ref (kK (gr+1) h k+2*h k))/\Ext H1 H'/\H'.length=kK (gr+1) h k/\∀k',k'<k->H'[kK (gr+1) h k'+2*h k']? =J (.list (tab (h k') λy=>.ref (kK (gr+1) h k'+(2*y+1))))/\∀y,y<h k'->H'[kK (gr+1) h k'+(2*y+1)]? =J (.list (tab (w k') λU=>.int 0)))
   (iu rfl (.refl) l1 (λk' h=>absurd h (zT _))) (λk v acc H2 P hv h' hP=>?_) λacc H2 h'=>?_⟩⟩
  ·obtain ⟨hk,rfl⟩:=tabAt hv
   obtain ⟨rfl,m2,l2,f2⟩:=h';refine ⟨m2.get hL1,.t (.bQ (.gB ⟨by decide,by decide⟩ (oY (xH (hh k) (by decide))) (by decide) (by decide) ?_))⟩;have e:=tF 0 (h k);have e:=(zj _)▸e;refine Z (show (bX 0 (h k) 1).map AV.int=_ from e) ?_;refine ⟨by refine Z aI ?_;exact xH (hh k) (by decide),eJ (λy acc H'=>acc=tab y (λy=>.ref (kK (gr+1) h k+(2*y+1)))/\Ext H2 H'/\H'.length=kK (gr+1) h k+2*y/\∀y',y'<y->H'[kK (gr+1) h k+(2*y'+1)]? =J (.list (tab (w k) λU=>.int 0)))
    (iu rfl (.refl) l2 (λy' h=>absurd h (zT _))) (λy v acc H3 P3 hv3 h3 hP3=>?_) λacc H3 h3=>?_⟩
   ·obtain ⟨rfl,m3,l3,f3⟩:=h3
    refine ⟨trivial,.t λa0 H4 u4=>⟨_,u4.self,nn _,yj.mpr (xH (hw k) (by decide)),λa1 H5 u5=>hP3 _ _ (iu ?_ (m3.trans (u4.mod.trans u5.mod)) ?_ (λy' hy'=>?_))⟩⟩
    ·refine Ql cT (Z u5.eq (Z u4.len (Z l3 ?_)));rfl
    ·refine Z u5.len (Z u4.len (Z l3 ?_));rfl
    ·rcases yN (yb hy') with h | rfl
     ·exact u5.old _ _ (u4.old _ _ (f3 y' h))
     ·have e5:a1=kK (gr+1) h k+(2*y'+1):=by refine Z u5.eq (Z u4.len (Z l3 ?_));rfl
      refine Ql e5 (Ql (akw _ _) ?_);exact u5.self
   ·obtain ⟨rfl,m3,l3,f3⟩:=h3
    rw[aI] at l3 f3;refine ⟨trivial,λpl H4 u4=>hP _ _ (iu ?_ (m2.trans (m3.trans u4.mod)) ?_ (λk' hk'=>?_))⟩
    ·exact Ql cT (Z u4.eq (Z l3 rfl))
    ·refine Z u4.len (Z l3 ?_);rfl
    ·rcases yN (yb hk') with h' | rfl
     ·exact ⟨u4.old _ _ (m3.get (f2 k' h').1),λy hy=>u4.old _ _ (m3.get ((f2 k' h').2 y hy))⟩
     ·have e4:pl=kK (gr+1) h k'+2*h k':=by exact Z u4.eq (Z l3 rfl)
      have u4:=aI▸u4;exact ⟨e4▸u4.self,λy hy=>u4.old _ _ (f3 y hy)⟩
  ·obtain ⟨rfl,m2,l2,f2⟩:=h'
   rw[aI] at l2 f2;refine ⟨m2.get hL1,λrr H3 u3=>.mk (u3.old _ _ (m2.get u1.self)) rfl sW λH4 u4=>?_⟩;have u3:=aI▸u3;have er:rr=kK (gr+1) h m:=by exact Z u3.eq (Z l2 rfl)
   have gl:=yM gr;have nb:∀{j},gr+1<=j->j≠gr:=λh e=>absurd h (AD.mpr (e▸yM _));have b0:∀k,gr+1<=kK (gr+1) h k:=λk=>ki (gr+1) h (yI k);have eg:=u1.eq;refine q H4 (qB gr (gr+1) m w h) ⟨?_,λj o U hj=>u4.ne _ _ (u1.ne hj) (u3.old _ _ (m2.get (u1.old _ _ hj)))⟩ rfl rfl rfl (ajs gl hm hw hh) (ahD (yQ eg.symm) (eg▸yY _)) ⟨?_,?_,λk hk=>?_,λk y hk hy=>?_⟩
   ·refine Z u4.len (Z u3.len ?_);exact Ab (xH (u1.len▸yY _) m2.len)
   ·refine Z (show (qB gr (gr+1) m w h).rr=rr from er.symm) ?_;exact u4.self
   ·refine Z (show (qB gr (gr+1) m w h).rr=rr from er.symm) ?_
    exact u4.ne _ _ (er▸nb (b0 m)) u3.self
   ·exact u4.ne _ _ (nb (Be (b0 k))) (u3.old _ _ (f2 k hk).1)
   ·exact u4.ne _ _ (nb (Be (b0 k))) (u3.old _ _ ((f2 k hk).2 y hy))
end
section
variable{n:Nat}{r:Bool}{H:AH}{Q:AV->AH->Prop}{X:XF}{L:Nat}
theorem aaG{i a d e:AV}(q:∀c H',kM c (.inst 352 [(31,i),(32,a),(33,d),(34,e)]) H H'->Q (.ref c) H'):iT (sg (.run r) (n+1)) 352 [i,a,d,e] H Q X:=.mk λc H1 u1=>go (k:=.run r) rfl ⟨rfl,.mk u1.self rfl sW λH2 u2=>.mk u2.self rfl tR λH3 u3=>.mk u3.self rfl qQ λH4 u4=>.mk u4.self rfl rV λH5 u5=>q c H5 (u1.upd (((u2.upd u3).upd u4).upd u5))⟩
theorem ahG{a b c d e f:AV}(q:∀x H',kM x (.inst 418 [(11,a),(35,b),(36,c),(37,d),(38,e),(39,f)]) H H'->Q (.ref x) H'):iT (sg (.run r) (n+1)) 418 [a,b,c,d,e,f] H Q X:=.mk λw H1 u1=>go (k:=.run r) rfl ⟨rfl,.mk u1.self rfl sW λH2 u2=>.mk u2.self rfl tR λH3 u3=>.mk u3.self rfl qQ λH4 u4=>.mk u4.self rfl rV λH5 u5=>.mk u5.self rfl (by decide:4<1000) λH6 u6=>.mk u6.self rfl (by decide:5<1000) λH7 u7=>q w H7 (u1.upd (((((u2.upd u3).upd u4).upd u5).upd u6).upd u7))⟩
theorem nh{a b c d e:α}{i:Nat}(h:[a,b,c,d,e][i]? =J v):v=a\/v=b\/v=c\/v=d\/v=e:=by
 have:=ye h;simpa using this
theorem ajE(p:b8 H L)(q:∀H' A g pr,Mod (λj=>j=L) H H'->b8 H' L->g.Ok->aQ H'.length H' A g pr->(∀j,(j=A.f\/j=A.cl\/∃k,k<g.many/\j=A.ca k)->H.length<=j)->2<=pr->pr<=16->Q (.ref A.f) H'):call (.run r) (n+3) 905 [.ref L] H Q X:=by
 revert n r H Q X L;apply e6;intro U;apply(?Z:Tq U);intro n r H Q X L;intros;have lL:L<H.length:=by obtain ⟨_,_,h,_,_⟩:=p;exact aS h
 refine enter [J (.ref L),Jw,Jw,Jw,Jw,Jw] rfl rfl rfl λc1 H1 u1=>?_;have nl:∀{H':AH} {c:Nat},H.length<=H'.length->H'.length<=c->c≠L:=λa b e=>absurd lL (xX.mpr (e▸xH a b));have p1:=p.mod (P:=λU=>False) u1.mod id;refine rh p1 u1.self (nl (xS _) (u1.fG (xS _))) (by decide) (by decide) λH2 d2 v2 g2 m2 p2=>λc3 H3 u3=>?_;have l12:H.length<=H2.length:=xH (u1.len▸yY _) m2.len;have p3:=p2.mod (P:=λU=>False) u3.mod id;refine rh p3 u3.self (nl l12 (u3.fG (xS _))) (by decide) (by decide) λH4 d4 v4 g4 m4 p4=>λc5 H5 u5=>?_;have l14:=xH l12 (xH (u3.len▸yY _) m4.len);have p5:=p4.mod (P:=λU=>False) u5.mod id;obtain ⟨many,em,m1,m3⟩:∃many:Nat,v2= .int many/\1<=many/\many<=3:=by
  rcases nh g2 with rfl | rfl | rfl | rfl | rfl
  ·exact (bJ 1 rfl (by decide) (by decide))
  ·exact (bJ 1 rfl (by decide) (by decide))
  ·exact (bJ 2 rfl (by decide) (by decide))
  ·exact (bJ 2 rfl (by decide) (by decide))
  ·exact (bJ 3 rfl (by decide) (by decide))
 obtain ⟨pr,ep,pr2,pr16⟩:∃pr:Nat,v4= .int pr/\2<=pr/\pr<=16:=by
  rcases nh g4 with rfl | rfl | rfl | rfl | rfl
  ·exact (bJ 2 rfl (by decide) (by decide))
  ·exact (bJ 3 rfl (by decide) (by decide))
  ·exact (bJ 8 rfl (by decide) (by decide))
  ·exact (bJ 12 rfl (by decide) (by decide))
  ·exact (bJ 16 rfl (by decide) (by decide))
 subst em;subst ep;refine rh p5 u5.self (nl l14 (u5.fG (xS _))) (by decide) (by decide) λH6 d6 v6 g6 m6 p6=>?_;obtain ⟨a,d,ev,a1,a2,d1,d2⟩:∃a d:Nat,v6= .tup [.int a,.int d]/\1<=a/\a<=2/\1<=d/\d<=2:=by
  rcases nh g6 with rfl | rfl | rfl | rfl | rfl
  ·exact (oy 1 1 rfl (by decide) (by decide) (by decide) (by decide))
  ·exact (oy 1 1 rfl (by decide) (by decide) (by decide) (by decide))
  ·exact (oy 2 1 rfl (by decide) (by decide) (by decide) (by decide))
  ·exact (oy 1 2 rfl (by decide) (by decide) (by decide) (by decide))
  ·exact (oy 2 2 rfl (by decide) (by decide) (by decide) (by decide))
 subst ev;have m16:=(u1.mod.trans m2).trans ((u3.mod.trans m4).trans (u5.mod.trans m6));refine aaG λc0 H7 u7 l0 H8 u8=>?_;have m1':=oJ many m1;have l1m:many-1<=1000000:=xH (zR _ _) (xH m3 (by decide));refine .bQ ?_;show fO H8 _ (.gB 0 ((many:Int)-1) 1);refine Z m1' ?_;refine .gB ⟨by decide,by decide⟩ (oY l1m) (by decide) (by decide) ?_;refine Z (show (bX 0 (many-1:Nat) 1).map AV.int=tab (many-1) λi=>.int (i:Nat) from (show (bX 0 (many-1:Nat) 1).map AV.int=_ from (zj (many-1)▸tF 0 (many-1))).trans (congrArg (tab (many-1)) (funext λi=>by rw[zj]))) ?_;refine ⟨by refine Z aI ?_;exact l1m,eJ (λj acc H'=>acc=tab j (λk=>.ref (H8.length+k))/\Ext H8 H'/\H'.length=H8.length+j/\∀k,k<j->∃i,H'[H8.length+k]? =J (.inst 352 [(31,.int i),(32,.int 1),(33,.int 1),(34,.int 0)])) (iu rfl (.refl) rfl (λk h=>absurd h (zT _))) (λj v acc H9 P hv h hP=>?_) λacc H9 h=>?_⟩
 ·obtain ⟨hj,rfl⟩:=tabAt hv
  obtain ⟨rfl,m9,l9,f9⟩:=h;refine ⟨trivial,.t (aaG (r:=false) λc H10 jw=>hP _ _ (iu ?_ (m9.trans jw.mod) (by refine Z jw.len (Z l9 ?_);rfl) (λk hk=>?_)))⟩
  ·exact Ql cT (Z jw.eq (Z l9 rfl))
  ·rcases yN (yb hk) with h | rfl
   ·obtain ⟨i,e⟩:=f9 k h;exact ⟨i,jw.old _ _ e⟩
   ·exact ⟨_,(show c=H8.length+k by exact Z jw.eq (Z l9 rfl))▸jw.self⟩
 ·obtain ⟨rfl,m9,l9,f9⟩:=h
  rw[aI] at l9 f9;refine ⟨trivial,λl2 H10 jw=>⟨_,_,jw.old _ _ (m9.get u8.self),jw.self,by refine Z aI (Z aI ?_);exact xH (yf (xH (zR _ _) m3) 1) (by decide),λcl H11 lI=>?_⟩⟩;have vt:=m16.len;have m611:Ext H6 H11:=u7.mod.trans (u8.mod.trans (m9.trans (jw.mod.trans lI.mod)));have p11:=p6.mod (P:=λU=>False) m611 id;refine dR p11 (m:=2) rfl (by decide) (by decide) λH12 dh lh m12 p12=>dR p12 (m:=3) rfl (by decide) (by decide) λH13 dw lw m13 p13=>ahG λx H14 u14=>?_;have mL:=m12.trans (m13.trans u14.mod);have l7:=u7.fG vt;have l8:=xH vt (Mod.len (P:=λU=>False) (u7.mod.trans u8.mod));have l11:=lI.fG (xH l8 (xH m9.len (jw.len▸yY _)));have nL:∀{j},H.length<=j->¬j=L:=λh e=>absurd lL (xX.mpr (e▸h))
  let A:kN:=⟨x,cl,λk=>if k=0 then c0 else H8.length+(k-1)⟩
  let g:bC:=⟨many,a,d,1+dw,1+dh⟩
  have hcl:H14[cl]? =J (.list (tab g.many λk=>.ref (A.ca k))):=by
   have e:tab many (λk=>AV.ref (A.ca k))= .ref c0::tab (many-1) (λk=>.ref (H8.length+k)):=by
    obtain ⟨m',hm⟩:∃m',many=m'+1:=⟨many-1,(BV m1).symm⟩
    rw[hm,tab,HV,yP,zh];rfl
   refine Z (show g.many=many from rfl) (Z e ?_);have h:=lI.self;rw[aI] at h;exact mL.at_ _ _ (nL l11) h
  have hc:∀k,k<g.many->∃i,H14[A.ca k]? =J (.inst 352 [(31,.int i),(32,.int (g.ax k)),(33,.int (g.dy k)),(34,.int 0)]):=λk hk=>by
   cases k with
   | zero=>
    have:=lI.old _ _ (jw.old _ _ (m9.get (u8.old _ _ u7.self)));exact ⟨7,mL.at_ _ _ (nL l7) this⟩
   | succ k=>
    obtain ⟨i,e⟩:=f9 k (Nat.lt_sub_of_add_lt hk);exact ⟨i,mL.at_ _ _ (nL (xH l8 (x7 _ _))) (lI.old _ _ (jw.old _ _ e))⟩
  refine q H14 A g pr ((m16.trans m611.mod).trans mL) (p13.mod (P:=λU=>False) u14.mod id) ⟨m1,m3,a1,a2,d1,d2,x7 1 dw,yf (yb lw) 1,x7 1 dh,yf (yb lh) 1⟩ ⟨u14.self,hcl,hc,aS u14.self,aS hcl,λk hk=>(hc k hk).elim λU e=>aS e⟩ (λj h=>?_) pr2 pr16;rcases h with rfl | rfl | ⟨k,hk,rfl⟩
  ·exact u14.fG (xH (xH vt m611.len) (xH m12.len m13.len))
  ·exact l11
  ·cases k with
   | zero=>exact l7
   | succ k=>exact xH l8 (x7 _ _)
end
structure uk(E:cY)(g:bC)(ps:List Nat)(S:Nat->Nat->Nat->Int)(kind mid:Int)(T:List TE)(most:Int):Prop where
 am:E.a.m=g.many
 aw:E.a.w=λk=>g.ma*g.ax k
 ah:E.a.h=λk=>g.md*g.dy k
 eS:E.S=S
 ek:E.kind=kind
 ed:E.mid=mid
 el:E.m=ps.length
 eT:E.T=T
 eo:E.most=most
section
variable{n:Nat}{H:AH}{Q:AV->AH->Prop}{X:XF}{A:kN}{g:bC}{pr:Nat}{B:oR}{ps:List Nat}{kind lo:Int}{T:List TE}{D:Nat}{iv:Nat}{S:Nat->Nat->Nat->Int}
theorem qU.ext(m:qU H.length H H'):Ext H H':=⟨m.len,λj U U h=>m.at_ j _ (AD.mpr (aS h)) h⟩
theorem bC.Ok.wR(ok:g.Ok):g.ma<=8:=df (xH ok.w3 (by decide)) ok.a2
theorem bC.Ok.wQ(ok:g.Ok):g.md<=8:=df (xH ok.h2 (by decide)) ok.d2
theorem tG(n:Nat):(bX 0 n 1).map AV.int=tab n λi=>.int (i:Nat):=by
 have e:=tF 0 n;have e:=(zj _)▸e;exact (show (bX 0 n 1).map AV.int=_ from e).trans (congrArg (tab n) (funext λi=>by exact Z (zj _) rfl))
structure oE(H:AH)(A:kN)(g:bC)(pr:Nat)(B:oR)(ps:List Nat)(kind lo:Int)(D:Nat)(T:List TE):Prop where
 ok:g.Ok
 po:ia g ps
 F:aQ H.length H A g pr
 S:bx H.length H B ps kind lo
 t:dH H D T
 k1:1<=kind
 h0:0<=lo
 h1:lo<pr
 h2:pr<=64
theorem dH.lt(t:dH H D T):∀j,uv D T j->j<H.length:=λj h=>by
 rcases h with rfl | ⟨e,he,rfl | rfl | rfl⟩
 ·exact aS t.1.2
 ·exact aS (t.2 e he).h1
 ·exact aS (t.2 e he).h2
 ·refine ((t.2 e he).h3).elim λU h3=>?_;exact aS h3
theorem kZ(F:aQ H.length H A g pr)(ok:g.Ok){iv D d:AV}{KK:KF}{bb:ST}
  (q:∀H' a L,Ext H H'->a.m=g.many->(a.w=λk=>g.ma*g.ax k)->(a.h=λk=>g.md*g.dy k)->a.Ok->(∀j,a.own j->H.length<=j)->bg H' a (λU U U=>0)->bb (sg (.run true) (n+4)) [J (.ref A.f),J (.ref B.s),J iv,J D,J d,J (.ref L),J (.ref a.g)] H' KK X):
  aq (ak (aK 5) (cW (aJ (aa 0) 15 (ae (aa 7) ar)) true 1 (aC .range (ae (aC .len (ae (aE (aa 0) 38) ar)) ar)) dr)) (aq (ak (aK 6) (b5 214 (ae (aa 5) ar))) bb) (sg (.run true) (n+4)) [J (.ref A.f),J (.ref B.s),J iv,J D,J d,Jw,Jw] H KK X:=by
 revert n H X A g pr B iv D d KK bb;apply e7;intro U;apply(?Z:Tq U);intro n H X A g pr B;intro F ok;apply e5;intro U;apply(?Y:Tq U);intro iv D d KK bb;intros;have l3:g.many<=1000000:=xH ok.m3 (by decide);refine .mk F.h1 rfl (.dO F.h2 (by rw[aI];exact l3) (.bQ (.gB ⟨by decide,by decide⟩ (oY (by rw[aI];exact l3)) (by decide) (by decide) ?_)));rw[aI,tG];refine ⟨by rw[aI];exact l3,eJ (λk acc H'=>acc=tab k (λk=>.tup [.int (g.ma*g.ax k:Nat),.int (g.md*g.dy k:Nat)])/\Ext H H') ⟨rfl,.refl⟩ (λk v acc H1 P hv h hP=>?_) λacc H1 h=>?_⟩
 ·obtain ⟨hk,rfl⟩:=tabAt hv
  obtain ⟨rfl,m1⟩:=h;have F1:=F.ext m1;exact ⟨trivial,.t (aN (k:=.run false) F1.h1 rfl rfl (i9 (k:=.run false) F1 ok hk λH2 m2=>hP _ _ ⟨cT,m1.trans m2⟩))⟩
 ·obtain ⟨rfl,m1⟩:=h
  refine ⟨trivial,λL H2 u2=>?_⟩;have u2:=aI▸u2;have m2:=m1.trans u2.mod;exact aeK (r:=true) (w:=λk=>g.ma*g.ax k) (h:=λk=>g.md*g.dy k) u2.self (xH ok.m3 (by decide)) (λk=>za ok.wR (ok.sf k)) (λk=>za ok.wQ (ok.sd k)) λH3 a m3 e1 e2 e3 e4 lo gr=>q H3 a L (m2.trans m3) e1 e2 e3 e4 (λj h=>xH m2.len (lo j h)) gr
theorem oE.rd(R:oE H A g pr B ps kind lo D T)(m:Ext H H')(ok:a.Ok)(low:∀j,a.own j->H.length<=j)(gr:bg H' a (λU U U=>0)):vg H.length H' A g pr B ps kind lo a (λU U U=>0) D T:=
 ⟨R.ok,R.po,R.F.ext m,R.S.ext m,gr,ok,low,R.t.mod (P:=λU=>False) m λU U=>id,R.t.lt,m.len,R.k1,R.h0,R.h1,R.h2⟩
theorem aeC(R:oE H A g pr B ps kind lo D T){d:AV}(k8:¬kind<=7)(q:∀H',Ext H H'->Q (.str (AK "scan")) H'):call (.run true) (n+8) 924 [.ref A.f,.ref B.s,.int iv,.ref D,d] H Q X:=by
 refine enter [J (.ref A.f),J (.ref B.s),J (.int iv),J (.ref D),J d,Jw,Jw] rfl rfl rfl (kZ R.F R.ok λH1 a L m1 e1 e2 e3 ok low gr=>?_);exact adn (R.rd m1 ok low gr) k8 ⟨rfl,.f ⟨rfl,.t (q H1 m1)⟩⟩
theorem aeB(R:oE H A g pr B ps kind lo D T){d:AV}(k7:kind<=7)(hi:iv % g.ua ps≠0)(q:∀H',Ext H H'->Q (.str (AK "scan")) H'):call (.run true) (n+8) 924 [.ref A.f,.ref B.s,.int iv,.ref D,d] H Q X:=by
 refine enter [J (.ref A.f),J (.ref B.s),J (.int iv),J (.ref D),J d,Jw,Jw] rfl rfl rfl (kZ R.F R.ok λH1 a L m1 e1 e2 e3 ok low gr=>?_);exact adm (R.rd m1 ok low gr) k7 hi λH2 m2=>⟨rfl,.f ⟨rfl,.t (q H2 (m1.trans m2))⟩⟩
theorem aca(R:oE H A g pr B ps kind lo D T){x:List UInt8}{rest:List (UInt8×List UInt8)}(k7:kind<=7)(hi:iv % g.ua ps=0)(hs:∀j,j<ps.length->∃e,ti T j=J e)(hR:∀p∈rest,sY p.1)(lr:rest.length<100)(lx:∀y∈x::rest.map (·.2),y.length<=100000)(hl:(ay x++joinR rest).length<900000)
  (hb:∀(i:Nat) y z,(x::rest.map (·.2))[i]? =J y->(iz (eM T S kind (eE pr lo) iv (aD g ps) (aL g ps)))[i]? =J z->bu y=fE z)
  (hv:∀E:cY,uk E g ps S kind (eE pr lo) T (2^((pr:Int)-lo).toNat-1)->∀j,j<aL g ps->RU E (aD g ps j) (nk iv (aD g ps) j) (pJ S (fg (aD g ps) j) λU U U=>0))
  (q:(∀(k:Nat) (v:Int),(rest.map λp=>((p.1.toNat:Int)-208))[k]? =J v->v=(k % 8:Nat))->rest.length=(eM T S kind (eE pr lo) iv (aD g ps) (aL g ps)).zs.length->∀H' a,Ext H H'->a.m=g.many->(a.w=λk=>g.ma*g.ax k)->(a.h=λk=>g.md*g.dy k)->a.Ok->bg H' a (pJ S (fg (aD g ps) (aL g ps)) λU U U=>0)->Q (.ref a.g) H')
  (xx:(∃(k:Nat) (v:Int),(rest.map λp=>((p.1.toNat:Int)-208))[k]? =J v/\v≠(k % 8:Nat))\/rest.length≠(eM T S kind (eE pr lo) iv (aD g ps) (aL g ps)).zs.length->∀H',Ext H H'->Q (.str (AK "code")) H'):
  call (.run true) (n+8) 924 [.ref A.f,.ref B.s,.int iv,.ref D,.bytes (ay x++joinR rest)] H Q X:=by
 refine enter [J (.ref A.f),J (.ref B.s),J (.int iv),J (.ref D),J (.bytes (ay x++joinR rest)),Jw,Jw] rfl rfl rfl (kZ R.F R.ok λH1 a L m1 e1 e2 e3 ok low gr=>?_);exact aee (R.rd m1 ok low gr) k7 hi hs hR lr lx hl hb (λE h1 h2 h3 h4 h5 h6 h7=>hv E ⟨h1▸e1,h1▸e2,h1▸e3,h2,h3,h4,h5,h6,h7⟩) (λhr hn H2 m2 g2=>q hr hn H2 a (qU.ext (m1.mod.trans m2)) e1 e2 e3 ok g2) λh H2 m2=>⟨rfl,.t (xx h H2 (qU.ext (m1.mod.trans m2)))⟩
end
structure vZ where
 l:Nat
 m:Nat
 o:Nat->Nat
 rr:Nat->Nat
 row:Nat->Nat->Nat
 w:Nat->Nat
 h:Nat->Nat
 deriving Nonempty
structure oA(H:AH)(P:vZ)(V:Nat->Nat->Nat->Int):Prop where
 h1:H[P.l]? =J (.list (tab P.m λk=>.ref (P.o k)))
 h2:∀k,k<P.m->cS H (P.o k) 826 [(37,.int (P.w k:Nat)),(36,.int (P.h k:Nat)),(14,.ref (P.rr k))]
 h3:∀k,k<P.m->H[P.rr k]? =J (.list (tab (P.h k) λy=>.ref (P.row k y)))
 h4:∀k y,k<P.m->y<P.h k->H[P.row k y]? =J (.list (tab (P.w k) λx=>.int (V k y x)))
 m3:P.m<=3
 w6:∀k,1<=P.w k/\P.w k<=16
 h6:∀k,1<=P.h k/\P.h k<=16
theorem oA.ext(p:oA H P V)(m:Ext H H'):oA H' P V:=
 ⟨m.get p.h1,λk hk=>m.get (p.h2 k hk),λk hk=>m.get (p.h3 k hk),λk y hk hy=>m.get (p.h4 k y hk hy),p.m3,p.w6,p.h6⟩
noncomputable def kept(v n:Nat):Nat:=if v<n then v else n-1
theorem ja(h:1<=n):kept v n<n:=by unfold kept;split;assumption;exact AB h (by decide)
theorem bg.congr(g:bg H a S)(e:∀k y x,k<a.m->y<a.h k->x<a.w k->S k y x=S' k y x):bg H a S':=
 ⟨g.h1,g.h2,g.h3,λk y hk hy=>(g.h4 k y hk hy).trans (congrArg (λl=>J (AO.list l)) (BC λx hx=>congrArg AV.int (e k y x hk hy (y5.mp hx))))⟩
section
variable{n:Nat}{r:Bool}{H:AH}{Q:AV->AH->Prop}{X:XF}{A:kN}{g:bC}{pr:Nat}{P:vZ}{V:Nat->Nat->Nat->Int}
theorem agx(h:1<=m)(q:Q (.int (kept v m:Nat)) H):call (.run r) (n+1) 837 [.int v,.int m] H Q X:=by
 refine enter [J (.int v),J (.int m)] rfl rfl rfl (.no (zg.mpr (nn v)) (.dec (λl=>?_) λl=>?_))
 ·rw[kept,if_pos (x9.mp l)] at q;exact q
 ·rw[kept,if_neg λh=>l (x9.mpr h)] at q
  show Q (.int ((m:Int)-1)) H;refine Z (oJ m h) ?_;exact q
theorem ao6{k x y:Nat}(p:oA H P V)(hk:k<P.m)(q:Q (.int (V k (kept y (P.h k)) (kept x (P.w k)))) H):call (.run r) (n+2) 816 [.ref (P.o k),.int x,.int y] H Q X:=by
 revert n r H Q X P V k x y;apply rD;intro U;apply(?Z:Tq U);intro n r H Q X P V k x y;intros;have h2:=p.h2 k hk;have ly:=ja (v:=y) (p.h6 k).1;have lx:=ja (v:=x) (p.w6 k).1;exact enter [J (.ref (P.o k)),J (.int x),J (.int y)] rfl rfl rfl (.mk h2 rfl (.mk h2 rfl (agx (p.h6 k).1 (.lY (p.h3 k hk) ly (p.h6 k).2 (.mk h2 rfl (agx (p.w6 k).1 (.lY (p.h4 k _ hk ly) lx (p.w6 k).2 q)))))))
noncomputable def cX(P:vZ)(V:Nat->Nat->Nat->Int)(lo:Int):Nat->Nat->Nat->Int:=λk y x=>(V k (kept y (P.h k)) (kept x (P.w k))).fdiv (2^lo.toNat)
def xo(k y x k' y' x':Nat):Prop:=k'<k\/(k'=k/\(y'<y\/(y'=y/\x'<x)))
theorem als{lo:Int}(F:aQ H.length H A g pr)(ok:g.Ok)(p:oA H P V)(em:P.m=g.many)(h0:0<=lo)(h1:lo<=64)
  (q:∀H' a,Ext H H'->a.m=g.many->(a.w=λk=>g.ma*g.ax k)->(a.h=λk=>g.md*g.dy k)->a.Ok->(∀j,a.own j->H.length<=j/\j<H'.length)->bg H' a (cX P V lo)->Q (.ref a.g) H'):call (.run true) (n+5) 223 [.ref A.f,.ref P.l,.int lo] H Q X:=by
 revert n H Q X A g pr P V lo;apply rD;intro U;apply(?Z:Tq U);intro n H Q X A g pr P V lo;intros;have l3:P.m<=1000000:=xH p.m3 (by decide);refine enter [J (.ref A.f),J (.ref P.l),J (.int lo),Jw,Jw,Jw,Jw,Jw,Jw,Jw] rfl rfl rfl (.dO p.h1 (by rw[aI];exact l3) (.bQ (.gB ⟨by decide,by decide⟩ (oY (by rw[aI];exact l3)) (by decide) (by decide) ?_)));rw[aI,tG];refine ⟨by rw[aI];exact l3,eJ (λk acc H'=>acc=tab k (λk=>.tup [.int (g.ma*g.ax k:Nat),.int (g.md*g.dy k:Nat)])/\Ext H H') ⟨rfl,.refl⟩ (λk v acc H1 P' hv h hP=>?_) λacc H1 h=>?_⟩
 ·obtain ⟨hk,rfl⟩:=tabAt hv
  obtain ⟨rfl,m1⟩:=h;have F1:=F.ext m1;exact ⟨trivial,.t (aN (k:=.run false) F1.h1 rfl rfl (i9 (k:=.run false) F1 ok (em▸hk) λH2 m2=>hP _ _ ⟨cT,m1.trans m2⟩))⟩
 ·obtain ⟨rfl,m1⟩:=h
  refine ⟨trivial,λL H2 u2=>?_⟩;have u2:=em▸aI▸u2;have m2:=m1.trans u2.mod;refine aeK (r:=true) (w:=λk=>g.ma*g.ax k) (h:=λk=>g.md*g.dy k) u2.self (xH ok.m3 (by decide)) (λk=>za ok.wR (ok.sf k)) (λk=>za ok.wQ (ok.sd k)) λH3 a m3 e1 e2 e3 kF lo3 gr=>?_;have m23:Ext H H3:=m2.trans m3;have oN:∀j,a.own j->H.length<=j:=λj h=>xH m2.len (lo3 j h);have bq:∀{H'},Mod a.own H3 H'->Ext H H':=λm=>⟨xH m23.len m.len,λj o U h=>m.at_ _ _ (λq=>absurd (aS h) (xX.mpr (oN j q))) (m23.get h)⟩
  refine cq (n:=g.many) (em▸l3) (by rw[em]) (λk ρ H'=>(∃o,ρ=[J (.ref A.f),J (.ref P.l),J (.int lo),J (.gB 0 (P.m:Nat) 1),o 4,J (.ref a.g),o 6,o 7,o 8,o 9])/\Mod a.own H3 H'/\∃S',bg H' a S'/\∀k' y' x',x'<g.ma*g.ax k'->y'<g.md*g.dy k'->xo k 0 0 k' y' x'->S' k' y' x'=cX P V lo k' y' x') (bU ⟨λU=>Jw,rfl⟩ (.refl) (aM _ gr (λk' y' x' U U h=>?_))) (λk ρ H4 P4 hk h hP=>?_) λρ H4 h=>?_
  ·exact h.elim (λh=>absurd h (zT _)) λh=>h.2.elim (λh=>absurd h (zT _)) λh=>absurd h.2 (zT _)
  ·refine Qc λU y7=>?_;obtain ⟨⟨o,rfl⟩,m4,S4,g4,v4⟩:=h;refine y7 ?_
   have F4:=F.ext (bq m4);refine aN (k:=.run true) F4.h1 rfl rfl (i9 F4 ok hk λH5 m5=>.bQ (cq (n:=g.md*g.dy k) (xH (za ok.wQ (ok.sd k)) (by decide)) rfl (λy ρ H'=>(∃o,ρ=[J (.ref A.f),J (.ref P.l),J (.int lo),J (.gB 0 (P.m:Nat) 1),J (.int k),J (.ref a.g),J (.int (g.ma*g.ax k:Nat)),J (.int (g.md*g.dy k:Nat)),o 8,o 9])/\Mod a.own H3 H'/\∃S',bg H' a S'/\∀k' y' x',x'<g.ma*g.ax k'->y'<g.md*g.dy k'->xo k y 0 k' y' x'->S' k' y' x'=cX P V lo k' y' x') (bU ⟨o,rfl⟩ (m4.trans m5.mod) (aM S4 (g4.mod m5 λU U h=>h) v4)) (λy ρ H6 P6 hy h hP6=>?_) λρ H6 h=>?_))
   ·refine Qc λU z7=>?_;obtain ⟨⟨o,rfl⟩,m6,S6,g6,v6⟩:=h;refine z7 ?_
    refine .bQ (cq (n:=g.ma*g.ax k) (xH (za ok.wR (ok.sf k)) (by decide)) rfl (λx ρ H'=>(∃o,ρ=[J (.ref A.f),J (.ref P.l),J (.int lo),J (.gB 0 (P.m:Nat) 1),J (.int k),J (.ref a.g),J (.int (g.ma*g.ax k:Nat)),J (.int (g.md*g.dy k:Nat)),J (.int y),o 9])/\Mod a.own H3 H'/\∃S',bg H' a S'/\∀k' y' x',x'<g.ma*g.ax k'->y'<g.md*g.dy k'->xo k y x k' y' x'->S' k' y' x'=cX P V lo k' y' x') (bU ⟨o,rfl⟩ m6 (aM S6 g6 v6)) (λx ρ H7 P7 hx h hP7=>?_) λρ H7 h=>?_)
    ·refine Qc λU u8=>?_;obtain ⟨⟨o,rfl⟩,m7,S7,g7,v7⟩:=h;refine u8 ?_
     have p7:=p.ext (bq m7);have hk':=em▸hk;refine aN (k:=.run true) g7.h1 rfl rfl (.lY p7.h1 hk' (xH p.m3 (by decide)) (aN (k:=.run true) (p7.h2 k hk') rfl rfl (ao6 p7 hk' ⟨h0,h1,aiH kF g7 (e1▸hk) (e3▸hy) (e2▸hx) λH8 m8 g8=>hP7 _ _ (bU ⟨λU=>J (.int x),rfl⟩ (m7.trans (m8.mono λj e=>?_)) (aM _ g8 (λk' y' x' hx' hy' hv=>?_)))⟩)))
     ·exact .inr (.inr (.inr (k4 k y (e1▸hk) (e3▸hy) e)))
     ·unfold ur
      by_cases e:k'=k/\y'=y/\x'=x
      ·rw[if_pos e,e.1,e.2.1,e.2.2];rfl
      ·rw[if_neg e]
       refine v7 k' y' x' hx' hy' (hv.imp id λu6=>u6.elim λa b=>⟨a,b.imp id λy6=>y6.elim λb c=>⟨b,DZ (yb c) λd=>e (bU a b d)⟩⟩)
    ·refine Qc λU v8=>?_;obtain ⟨⟨o,rfl⟩,m7,S7,g7,v7⟩:=h;refine v8 ?_
     exact hP6 _ _ (bU ⟨λi=>[J (.int y),o 9].getD (i-8) Jw,rfl⟩ m7 (aM S7 g7 (λk' y' x' hx' hy' hv=>v7 k' y' x' hx' hy' (hv.imp id λz6=>z6.elim λa b=>⟨a,b.elim (λb=>(yN (yb b)).imp id λb=>⟨b,a▸hx'⟩) λb=>absurd b.2 (zT _)⟩))))
   ·refine Qc λU y8=>?_;obtain ⟨⟨o,rfl⟩,m6,S6,g6,v6⟩:=h;refine y8 ?_
    exact hP _ _ (bU ⟨λi=>[J (.int k),Jw,J (.int (g.ma*g.ax k:Nat)),J (.int (g.md*g.dy k:Nat)),o 8,o 9].getD (i-4) Jw,rfl⟩ m6 (aM S6 g6 (λk' y' x' hx' hy' hv=>v6 k' y' x' hx' hy' (hv.elim (λb=>(yN (yb b)).imp id λb=>⟨b,.inl (b▸hy')⟩) λu7=>u7.elim λU b=>b.elim (λb=>absurd b (zT _)) λb=>absurd b.2 (zT _)))))
  ·refine Qc λU z8=>?_;obtain ⟨⟨o,rfl⟩,m4,S4,g4,v4⟩:=h;refine z8 ?_
   exact q H4 a (bq m4) e1 e2 e3 kF (λj h=>⟨oN j h,g4.lt j h⟩) (g4.congr λk y x hk hy hx=>v4 k y x (by have hx:=e2▸hx;exact hx) (by have hy:=e3▸hy;exact hy) (.inl (e1▸hk)))
end
structure h9(H:AH)(w:Nat)(most:Int)(rs:List Nat)(vs:List (List Int)):Prop where
 len:rs.length=vs.length
 at_:∀(i r:Nat) (v:List Int),rs[i]? =J r->vs[i]? =J v->H[r]? =J (.list (v.map .int))/\v.length=w/\∀x∈v,0<=x/\x<=most
section
variable{n:Nat}{r:Bool}{H:AH}{Q:AV->AH->Prop}{X:XF}{L:Nat}
theorem h9.mod(h:h9 H w most rs vs)(m:Mod P H H')(n:∀r∈rs,¬P r):h9 H' w most rs vs:=
 ⟨h.1,λi r v a b=>⟨m.at_ _ _ (n r (ye a)) (h.2 i r v a b).1,(h.2 i r v a b).2⟩⟩
theorem h9.snoc{c:Nat}(h:h9 H w most rs vs)(hc:H[c]? =J (.list (v.map .int)))(lv:v.length=w)(hv:∀x∈v,0<=x/\x<=most):h9 H w most (rs++[c]) (vs++[v]):=by
 refine ⟨by refine Z xK (Z xK (Z h.1 ?_));rfl,λi r z a b=>?_⟩;by_cases l:i<rs.length
 ·rw[yw l] at a
  rw[yw (h.1▸l)] at b;exact h.2 i r z a b
 ·have e:=yW (yb (by have:=(xQ.mp a).1;have this:=xK▸this;exact this)) (xX.mp l)
  subst e;have a:=dB▸a;have b:=dB▸h.1▸b;cases a;cases b;exact (bU hc lv hv)
theorem ahb{a b c:AV}(q:∀x H',kM x (.inst 826 [(37,a),(36,b),(14,c)]) H H'->Q (.ref x) H'):iT (sg (.run r) (n+1)) 826 [a,b,c] H Q X:=.mk λw H1 u1=>go (k:=.run r) rfl ⟨rfl,.mk u1.self rfl sW λH2 u2=>.mk u2.self rfl tR λH3 u3=>.mk u3.self rfl qQ λH4 u4=>q w H4 (u1.upd ((u2.upd u3).upd u4))⟩
theorem lt5{P:Nat->Prop}{d:Nat}(h:d<5)(a:P 0)(b:P 1)(c:P 2)(e:P 3)(f:P 4):P d:=
 (yN (yb h)).elim (λh=>(yN (yb h)).elim (λh=>(yN (yb h)).elim (λh=>(yN (yb h)).elim (λh=>Hp.mp h▸a) (· ▸b)) (· ▸c)) (· ▸e)) (· ▸f)
theorem aiM{w h:Nat}{most:Nat}(p:b8 H L)(hw:w<=16)(hh:h<=16)(hm:most<65536)(q:∀H' o rr rs vs,Mod (λj=>j=L) H H'->b8 H' L->cS H' o 826 [(37,.int w),(36,.int h),(14,.ref rr)]->H'[rr]? =J (.list (rs.map .ref))->h9 H' w most rs vs->rs.length=h->(∀j,(j=o\/j=rr\/j∈rs)->H.length<=j)->Q (.ref o) H'):call (.run r) (n+2) 900 [.ref L,.int w,.int h,.int most] H Q X:=by
 revert n r H Q X L w h most;apply e9;intro U;apply(?Z:Tq U);intro n r H Q X L w h most;intros;have lL:L<H.length:=by obtain ⟨_,_,h,_,_⟩:=p;exact aS h
 refine enter [J (.ref L),J (.int w),J (.int h),J (.int most),Jw,Jw,Jw,Jw,Jw,Jw] rfl rfl rfl λR H1 u1=>⟨by decide,iB,?_⟩
 have nR:R≠L:=λe=>absurd lL (xX.mpr (e▸u1.fG (xS _)));have lR:=u1.fG (xS H.length);have v0:0<=(most:Int).fdiv 2/\(most:Int).fdiv 2<=most:=by
  refine Z (show (most:Int).fdiv 2=(most / 2:Nat) from (D0 most 2).symm) ?_;exact ⟨nn _,yj.mpr (DI _ _)⟩
 let O:Nat->Prop:=λj=>j=L\/H.length<=j
 refine .bQ (cq (n:=h) (xH hh (by decide)) rfl (λy ρ H'=>∃(o:Nat->Option AV) (v:Int) (rs:List Nat) (vs:List (List Int)),ρ=[J (.ref L),J (.int w),J (.int h),J (.int most),J (.ref R),J (.int v),o 6,o 7,o 8,o 9]/\0<=v/\v<=most/\Mod (λj=>j=L) H H'/\b8 H' L/\H'[R]? =J (.list (rs.map .ref))/\h9 H' w most rs vs/\rs.length=y/\∀r∈rs,H.length<=r/\r≠R) ⟨λU=>Jw,_,[],[],rfl,v0.1,v0.2,u1.mod,p.mod (P:=λU=>False) u1.mod id,u1.self,⟨rfl,nofun⟩,rfl,nM⟩ (λy ρ H2 P hy hI hP=>?_) λρ H2 hI=>?_)
 ·refine Qc λU u6=>?_;obtain ⟨o,v,rs,vs,rfl,v1,v2,m2,p2,hR,hrs,ly,lo⟩:=hI;refine u6 ?_
  intro C H3 u3;have lC:=u3.fG m2.len;have nC:C≠L:=λe=>absurd lL (xX.mpr (e▸lC));have nCR:=(u3.ne hR).symm;have nrC:∀r∈rs,r≠C:=λr hr=>by
   refine Qc λU v7=>(IV hr).elim λi y7=>y7.elim λhi e=>v7 ?_;have:=(hrs.2 i r _ (e▸xR hi) (xR (hrs.1▸hi))).1;exact u3.ne this
  have nrL:∀r∈rs,r≠L:=λr hr e=>absurd lL (xX.mpr (e▸(lo r hr).1));refine .bQ (cq (n:=w) (xH hw (by decide)) rfl (λx ρ H'=>∃(o:Nat->Option AV) (v:Int) (z:List Int),ρ=[J (.ref L),J (.int w),J (.int h),J (.int most),J (.ref R),J (.int v),J (.int y),J (.ref C),o 8,o 9]/\0<=v/\v<=most/\Mod (λj=>j=L\/j=C) H3 H'/\b8 H' L/\H'[C]? =J (.list (z.map .int))/\z.length=x/\∀x∈z,0<=x/\x<=most) ⟨o,v,[],rfl,v1,v2,.refl,p2.mod (P:=λU=>False) u3.mod id,u3.self,rfl,nM⟩ (λx ρ H4 P4 hx hI hP4=>?_) λρ H4 hI=>?_)
  ·refine Qc λU v6=>?_;obtain ⟨o,v,z,rfl,v1,v2,m4,p4,hC,lz,hz⟩:=hI;refine v6 ?_
   refine dR p4 (m:=5) rfl (by decide) (by decide) λH5 d ld m5 p5=>?_;refine .min2 (dR p5 (m:=most+1) rfl (Af _) (xH hm (by decide)) λH6 dd ldd m6 p6=>λt H7 u7=>?_);have mn:0<=(if v+1<most then v+1 else (most:Int))/\(if v+1<most then v+1 else (most:Int))<=most:=by
    split
    ·rename_i h;exact ⟨yG v1 (zY (Int.lt_succ v)),zY h⟩
    ·exact ⟨nn most,Dy _⟩
   obtain ⟨v',ev,w1,w2⟩:∃v',[AV.int 0,.int most,.int v,.int (if v+1<most then v+1 else (most:Int)),.int dd][d]? =J (.int v')/\0<=v'/\v'<=most:=by
    exact lt5 (P:=λd=>∃v',[AV.int 0,.int most,.int v,.int (if v+1<most then v+1 else (most:Int)),.int dd][d]? =J (.int v')/\0<=v'/\v'<=most) ld ⟨_,rfl,Dy _,nn _⟩ ⟨_,rfl,nn _,Dy _⟩ ⟨_,rfl,v1,v2⟩ ⟨_,rfl,mn.1,mn.2⟩ (bJ _ rfl (nn _) (yj.mpr (yb ldd)))
   have m47:=m5.trans (m6.trans u7.mod);have hC7:=m47.at_ _ _ nC hC;refine .list u7.self (nn d) (wj ld (by decide)) ev (.append hC7 (.append hC7 (by refine Z (xJ _) (Z lz ?_);exact xO hx (xH hw (by decide))) λH8 u8=>hP4 _ _ ⟨λi=>[J (.int x),J (.int d)].getD (i-8) Jw,v',z++[v'],rfl,w1,w2,(m4.trans (m47.mono λU e=>.inl e)).trans (u8.mod (.inr rfl)),?_,?_,by refine Z xK (Z lz ?_);rfl,λx hx=>?_⟩))
   ·exact (p6.mod (P:=λU=>False) u7.mod id).mod (P:=λj=>j=C) (u8.mod rfl) nC.symm
   ·refine Z yq ?_;exact u8.self
   ·exact (yz.mp hx).elim (hz x) λh=>xV.mp h▸⟨w1,w2⟩
  ·refine Qc λU y6=>?_;obtain ⟨o,v,z,rfl,v1,v2,m4,p4,hC,lz,hz⟩:=hI;refine y6 ?_
   have hR4:=m4.at_ _ _ (λe=>e.elim nR λe=>nCR e.symm) (u3.old _ _ hR);have hrs4:=(hrs.mod (P:=λU=>False) u3.mod λU U=>id).mod m4 λr hr e=>e.elim (nrL r hr) (nrC r hr);have m24:Mod (λj=>j=L) H H4:=⟨xH m2.len (xH (u3.len▸yY _) m4.len),λj o nj hj=>m4.at_ _ _ (λe=>e.elim nj λe=>absurd (aS hj) (xX.mpr (e▸lC))) (u3.old _ _ (m2.at_ _ _ nj hj))⟩
   refine .append hR4 (.append hR4 (by refine Z (xJ _) (Z ly ?_);exact xO hy (xH hh (by decide))) λH5 u5=>hP _ _ ⟨λi=>[J (.int y),J (.ref C),o 8,o 9].getD (i-6) Jw,v,rs++[C],vs++[z],rfl,v1,v2,?_,p4.mod (P:=λj=>j=R) (u5.mod rfl) nR.symm,?_,?_,by refine Z xK (Z ly ?_);rfl,λr hr=>?_⟩)
   ·exact ⟨u5.len.symm▸m24.len,λj o nj hj=>u5.ne _ _ (λe=>absurd (aS hj) (xX.mpr (e▸lR))) (m24.at_ _ _ nj hj)⟩
   ·refine Z yq ?_;exact u5.self
   ·exact (hrs4.mod (P:=λj=>j=R) (u5.mod rfl) λr hr=>(lo r hr).2).snoc (u5.ne _ _ nCR hC) lz hz
   ·exact (yz.mp hr).elim (lo r) λh=>xV.mp h▸⟨lC,nCR⟩
 ·refine Qc λU z6=>?_;obtain ⟨o,v,rs,vs,rfl,v1,v2,m2,p2,hR,hrs,ly,lo⟩:=hI;refine z6 ?_
  refine ahb λx H3 u3=>q H3 x R rs vs (m2.trans u3.mod) (p2.mod (P:=λU=>False) u3.mod id) u3.self (u3.old _ _ hR) (hrs.mod (P:=λU=>False) u3.mod λU U=>id) ly λj h=>h.elim (λe=>e▸u3.fG m2.len) λh=>h.elim (λe=>e▸lR) λh=>(lo j h).1
end
noncomputable def bC.sw(g:bC)(ps:List Nat)(k:Nat):Nat:=if ps.length==1 then g.pw k else g.ma*g.ax k
noncomputable def bC.sh(g:bC)(ps:List Nat)(k:Nat):Nat:=if ps.length==1 then g.ph k else g.md*g.dy k
theorem aei:∀w<4,∀a<3,∀x<3,1<=a->1<=x->dq (w*x) a<=dq w a*x:=by decide
theorem bC.Ok.an1{g:bC}(ok:g.Ok)(ps)(k):g.sw ps k<=g.ma*g.ax k/\g.sh ps k<=g.md*g.dy k:=by
 unfold bC.sw bC.sh;cases ps.length==1 with
 | false=>exact ⟨xS _,xS _⟩
 | true=>exact ⟨aei _ (As ok.w3) _ (As ok.a2) _ (As (ok.sf k)) ok.a1 (ok.w8 k),aei _ (xN ok.h2 (by decide)) _ (As ok.d2) _ (As (ok.sd k)) ok.d1 (ok.w7 k)⟩
section
variable{n N:Nat}{r:Bool}{H:AH}{Q:AV->AH->Prop}{X:XF}{A:kN}{g:bC}{pr:Nat}{P:vZ}{V:Nat->Nat->Nat->Int}{lo:Int}{ps:List Nat}{a:GA}{S:Nat->Nat->Nat->Int}
theorem aks{K:EV->AH->Prop}(e:v= .tup vs)(h:putAll l vs ρ=J ρ')(q:K ρ' H):fS l v G ρ H K X:=by
 subst e;show iF (putAll l vs ρ) _;refine Z h ?_;exact q
theorem aeq{v m:Nat}(h:1<=m):(if ((m:Int)-1)<v then ((m:Int)-1) else (v:Int))=(kept v m:Nat):=by
 unfold kept;refine Z (oJ m h) ?_;by_cases l:v<m
 ·exact Z (if_pos l) (Z (if_neg λq=>absurd (x9.mp q) (xX.mpr (AR l))) rfl)
 ·exact Z (if_neg l) (Z (if_pos (x9.mpr (xO (AB h (by decide)) (xX.mp l)))) rfl)
theorem ans{k x y:Nat}{f:AV}(p:oA H P V)(hk:k<P.m)(h0:0<=lo)(h1:lo<=64)(q:Q (.int (cX P V lo k y x)) H):call (.run r) (n+1) 912 [f,.ref P.l,.int k,.int x,.int y,.int lo] H Q X:=by
 revert n r H Q X P V lo k x y f;apply hU;intro U;apply(?Z:Tq U);intro n r H Q X P V lo k x y f;intros;have h2:=p.h2 k hk;have ly:=ja (v:=y) (p.h6 k).1;have lx:=ja (v:=x) (p.w6 k).1;have l6:∀{m:Nat},m<=16->m<=1000000:=λh=>xH h (by decide);refine enter [J f,J (.ref P.l),J (.int k),J (.int x),J (.int y),J (.int lo),Jw,Jw] rfl rfl rfl (.lY p.h1 hk (xH p.m3 (by decide)) (.mk h2 rfl (.dO (p.h3 k hk) (by refine Z aI ?_;exact l6 (p.h6 k).2) (.min2 ?_))));refine Z aI (Z (aeq (p.h6 k).1) ?_);refine .lY (p.h3 k hk) ly (p.h6 k).2 (.dO (p.h4 k _ hk ly) (by refine Z aI ?_;exact l6 (p.w6 k).2) (.min2 ?_));refine Z aI (Z (aeq (p.w6 k).1) ?_);have e2:(2:Int)^lo.toNat=((2^lo.toNat:Nat):Int):=(B4 2 _).symm;refine .lY (p.h4 k _ hk ly) lx (p.w6 k).2 ⟨iB,h0,h1,e2▸Ac.mpr (zH (Ae _)),e2▸?_,q⟩;exact Nat.pow_lt_pow_right (by decide) (xN ((Il).mpr h1) (by decide))
theorem ahC{c:Nat}(F:aQ N H A g pr)(ok:g.Ok)(po:ia g ps)(hc:H[c]? =J (.list (ps.map λp=>.int (p:Nat))))(p:oA H P V)(em:P.m=g.many)(gr:bg H a S)(sm:a.Small)(e1:a.m=g.many)(e2:a.w=λk=>g.ma*g.ax k)(e3:a.h=λk=>g.md*g.dy k)(h0:0<=lo)(h1:lo<=64)
  (eq:∀k y x,k∈ps->y<g.sh ps k->x<g.sw ps k->S k y x=cX P V lo k y x) (q:∀H',Ext H H'->Q (.bool true) H'):call (.run r) (n+4) 919 [.ref A.f,.ref P.l,.int lo,.ref a.g,.ref c] H Q X:=by
 revert n N r H Q X A g pr P V lo ps a S c;apply hU;intro U;apply(?Z:Tq U);intro n N r H Q X A g pr P V lo;apply e4;intro U;apply(?Y:Tq U);intro ps a S c;intros;have lc:=xJ (as:=ps) λp=>AV.int (p:Nat);have l3:(ps.map λp=>AV.int (p:Nat)).length<=1000000:=lc▸xH po.three (by decide);refine enter [J (.ref A.f),J (.ref P.l),J (.int lo),J (.ref a.g),J (.ref c),Jw,Jw,Jw,Jw,Jw] rfl rfl rfl ?_;refine dY hc l3 (λj ρ H'=>Ext H H'/\∃o:Nat->Option AV,ρ=[J (.ref A.f),J (.ref P.l),J (.int lo),J (.ref a.g),J (.ref c),o 5,o 6,o 7,o 8,o 9]) ⟨.refl,λU=>Jw,rfl⟩ (λj v ρ H1 R hv h hR=>?_) λρ H1 h=>?_
 ·obtain ⟨m1,o,rfl⟩:=h
  obtain ⟨hj,rfl⟩:=gY hv;have hk:=zy hj;have kl:=po.lt _ hk;generalize ps[j]=k at*;have F1:=F.ext m1;refine ⟨m1.get hc,aN F1.h1 rfl rfl (i9 F1 ok kl λH2 m2=>?_)⟩;refine aks (ρ':=[J (.ref A.f),J (.ref P.l),J (.int lo),J (.ref a.g),J (.ref c),J (.int k),J (.int (g.ma*g.ax k:Nat)),J (.int (g.md*g.dy k:Nat)),o 8,o 9]) rfl rfl ?_;refine dS (cut (λρ' H'=>Ext H H'/\∃o:Nat->Option AV,ρ'=[J (.ref A.f),J (.ref P.l),J (.int lo),J (.ref a.g),J (.ref c),J (.int k),J (.int (g.sw ps k:Nat)),J (.int (g.sh ps k:Nat)),o 8,o 9]) (λJy hZ=>?_) λρ' H3 h=>?_)
  ·refine .dO (m2.get (m1.get hc)) l3 ?_
   refine Z lc ?_;refine uf (λe=>?_) λe=>?_
   ·have F2:=F1.ext m2
    refine aN F2.h1 rfl rfl (dm F2 ok kl λH3 m3=>hZ _ _ ⟨m1.trans (m2.trans m3),o,?_⟩);rw[bC.sw,bC.sh,e];rfl
   ·refine hZ _ _ ⟨m1.trans m2,o,?_⟩
    rw[bC.sw,bC.sh,beq_eq_false_iff_ne.mpr e];rfl
  ·obtain ⟨m3,o,rfl⟩:=h
   refine (ok.an1 ps k).elim λsw sh=>?_;refine .bQ (cq (n:=g.sh ps k) (xH sh (xH (za ok.wQ (ok.sd k)) (by decide))) rfl (λy ρ H'=>H'=H3/\∃o:Nat->Option AV,ρ=[J (.ref A.f),J (.ref P.l),J (.int lo),J (.ref a.g),J (.ref c),J (.int k),J (.int (g.sw ps k:Nat)),J (.int (g.sh ps k:Nat)),o 8,o 9]) ⟨rfl,o,rfl⟩ (λy ρ H4 R4 hy h hR4=>?_) λρ H4 h=>?_)
   ·obtain ⟨rfl,o,rfl⟩:=h
    refine .bQ (cq (n:=g.sw ps k) (xH sw (xH (za ok.wR (ok.sf k)) (by decide))) rfl (λx ρ H'=>H'=H4/\∃o:Nat->Option AV,ρ=[J (.ref A.f),J (.ref P.l),J (.int lo),J (.ref a.g),J (.ref c),J (.int k),J (.int (g.sw ps k:Nat)),J (.int (g.sh ps k:Nat)),J (.int y),o 9]) ⟨rfl,o,rfl⟩ (λx ρ H5 R5 hx h hR5=>?_) λρ H5 h=>?_)
    ·obtain ⟨rfl,o,rfl⟩:=h
     have g4:=gr.mod m3 λU U h=>h;refine aN g4.h1 rfl rfl (rx sm g4 (e1▸kl) (e3▸xO hy sh) (e2▸xO hx sw) (ans (p.ext m3) (em▸kl) h0 h1 (.bf ?_ (hR5 _ _ ⟨rfl,λU=>J (.int x),rfl⟩))));refine Z (eq k y x hk hy hx) ?_;exact bne_self_eq_false _
    ·obtain ⟨rfl,o,rfl⟩:=h
     exact hR4 _ _ ⟨rfl,λi=>[J (.int y),o 9].getD (i-8) Jw,rfl⟩
   ·obtain ⟨rfl,o,rfl⟩:=h
    exact hR _ _ ⟨m3,λi=>[J (.int k),J (.int (g.sw ps k:Nat)),J (.int (g.sh ps k:Nat)),o 8,o 9].getD (i-5) Jw,rfl⟩
 ·obtain ⟨m1,o,rfl⟩:=h
  exact ⟨m1.get hc,q H1 m1⟩
end
theorem pB(l:List α)(f:α->β)(d):l.map f=tab l.length λi=>f (l.getD i d):=by
 refine D5 λi=>?_;rw[yA];by_cases h:i<l.length
 ·rw[c6 h,xR h,zq,xR h];rfl
 ·rw[Az (CA h),Az (by refine Z aI ?_;exact CA h)];rfl
structure sq where
 o:Nat
 rr:Nat
 rs:List Nat
 vs:List (List Int)
 deriving Inhabited
structure RecAt(H:AH)(L:Nat)(w h most N:Nat)(p:sq):Prop where
 i:cS H p.o 826 [(37,.int w),(36,.int h),(14,.ref p.rr)]
 r:H[p.rr]? =J (.list (p.rs.map .ref))
 v:h9 H w most p.rs p.vs
 l:p.rs.length=h
 lo:∀j,(j=p.o\/j=p.rr\/j∈p.rs)->N<=j
theorem RecAt.mod{L w h most N:Nat}(x:RecAt H L w h most N p)(m:Mod P H H')(n:∀j,N<=j->j<H.length->¬P j):RecAt H' L w h most N p:=
 ⟨m.at_ _ _ (n _ (x.lo _ (.inl rfl)) (aS x.i)) x.i,m.at_ _ _ (n _ (x.lo _ (.inr (.inl rfl))) (aS x.r)) x.r,x.v.mod m λr hr=>n r (x.lo r (.inr (.inr hr))) (by
  refine (IV hr).elim λi u6=>u6.elim λhi e=>?_;exact aS (x.v.2 i r _ (e▸xR hi) (xR (x.v.1▸hi))).1),x.l,x.lo⟩
noncomputable def aob(l m:Nat)(R:List sq)(w h:Nat->Nat):vZ:=⟨l,m,λk=>(R.getD k default).o,λk=>(R.getD k default).rr,λk y=>(R.getD k default).rs.getD y 0,w,h⟩
noncomputable def uD(R:List sq):Nat->Nat->Nat->Int:=λk y x=>((R.getD k default).vs.getD y []).getD x 0
section
variable{n:Nat}{H:AH}{Q:AV->AH->Prop}{X:XF}{L:Nat}{A:kN}{g:bC}{pr N:Nat}
theorem akM{R:List sq}{w h:Nat->Nat}(hl:H[l]? =J (.list (R.map λp=>.ref p.o)))(h3:R.length<=3)(ww:∀k,1<=w k/\w k<=16)(hh:∀k,1<=h k/\h k<=16)(f:∀(i:Nat) p,R[i]? =J p->RecAt H L (w i) (h i) most N p):
  oA H (aob l R.length R w h) (uD R)/\∀k y x,k<R.length->y<h k->x<w k->0<=uD R k y x/\uD R k y x<=most:=by
 have at_:∀k,k<R.length->RecAt H L (w k) (h k) most N (R.getD k default):=λk hk=>f k _ (by rw[zq,xR hk];rfl);have rows:∀k y,k<R.length->y<h k->∃v,(R.getD k default).vs[y]? =J v/\(R.getD k default).vs.getD y []=v/\H[(R.getD k default).rs.getD y 0]? =J (.list (v.map .int))/\v.length=w k/\∀x∈v,0<=x/\x<=most:=λk y hk hy=>by
  have a:=at_ k hk;have l1:=a.l.symm▸hy;have l2:=a.v.1▸l1;have:=a.v.2 y _ _ (xR l1) (xR l2);exact (oz _ (xR l2) (by rw[zq,xR l2];rfl) (by rw[zq,xR l1];exact this.1) this.2)
 refine ⟨⟨by rw[pB _ _ default] at hl;exact hl,λk hk=>(at_ k hk).i,λk hk=>?_,λk y hk hy=>?_,h3,ww,hh⟩,λk y x hk hy hx=>?_⟩
 ·have a:=at_ k hk
  have:=a.r;rw[pB _ _ 0,a.l] at this;exact this
 ·refine tK (rows k y hk hy) λv U e hv lv U=>?_
  rw[pB v _ 0,lv] at hv;show H[(R.getD k default).rs.getD y 0]? =J (.list (tab (w k) λx=>.int (((R.getD k default).vs.getD y []).getD x 0)));refine Z e ?_;exact hv
 ·refine tK (rows k y hk hy) λv U e U lv rg=>?_
  unfold uD;refine Z e ?_;have lx:=lv.symm▸hx;rw[zq,xR lx];exact rg _ (zy lx)
end
section
variable{n N:Nat}{H:AH}{Q:AV->AH->Prop}{X:XF}{L:Nat}{A:kN}{g:bC}{pr:Nat}
abbrev kN.own(A:kN)(g:bC)(j:Nat):Prop:=j=A.f\/j=A.cl\/∃k,k<g.many/\j=A.ca k
theorem aQ.sV(h:aQ N H A g pr)(m:Mod P H H')(n:∀j,A.own g j->¬P j):aQ N H' A g pr:=
 ⟨m.at_ _ _ (n _ (.inl rfl)) h.h1,m.at_ _ _ (n _ (.inr (.inl rfl))) h.h2,λk hk=>(h.h3 k hk).elim λi e=>⟨i,m.at_ _ _ (n _ (.inr (.inr (aM k hk rfl)))) e⟩,h.l1,h.l2,h.l3⟩
theorem bC.Ok.xr(ok:g.Ok)(k):1<=g.pw k/\g.pw k<=16:=⟨dN (za ok.w1 (ok.w8 k)) ok.a1,xH (df (za ok.w3 (ok.sf k)) ok.a2) (by decide)⟩
theorem bC.Ok.xt(ok:g.Ok)(k):1<=g.ph k/\g.ph k<=16:=⟨dN (za ok.h1 (ok.w7 k)) ok.d1,xH (df (xH (za ok.h2 (ok.sd k)) (by decide)) ok.d2) (by decide)⟩
theorem akF(F:aQ N H A g pr)(ok:g.Ok)(q:∀z H',Ext H H'->H.length<=z->H'[z]? =J (.list (tab g.many λk=>.tup [.int (g.pw k),.int (g.ph k)]))->Q (.ref z) H'):
  cW (aJ (aa 2) 42 (ae (aa 19) ar)) true 1 (aC .range (ae (aC .len (ae (aE (aa 2) 38) ar)) ar)) dr (sg (.run true) (n+2)) [a0,a1,J (.ref A.f),Jw,Jw,Jw,Jw,Jw,Jw,Jw,Jw,Jw,Jw,Jw,Jw,Jw,Jw,Jw,Jw] H Q X:=by
 revert n N H Q X A g pr a0 a1;apply rD;intro U;apply(?Z:Tq U);intro n N H Q X A g pr a0 a1;intros;have l3:g.many<=1000000:=xH ok.m3 (by decide);refine .mk F.h1 rfl (.dO F.h2 (by rw[aI];exact l3) (.bQ (.gB ⟨by decide,by decide⟩ (oY (by rw[aI];exact l3)) (by decide) (by decide) ?_)));rw[aI,tG];refine ⟨by rw[aI];exact l3,eJ (λk acc H'=>acc=tab k (λk=>.tup [.int (g.pw k),.int (g.ph k)])/\Ext H H') ⟨rfl,.refl⟩ (λk v acc H1 P hv h hP=>?_) λacc H1 h=>?_⟩
 ·obtain ⟨hk,rfl⟩:=tabAt hv
  obtain ⟨rfl,m1⟩:=h;have F1:=F.ext m1;exact ⟨trivial,.t (aN (k:=.run false) F1.h1 rfl rfl (dm (k:=.run false) F1 ok hk λH2 m2=>hP _ _ ⟨cT,m1.trans m2⟩))⟩
 ·obtain ⟨rfl,m1⟩:=h
  refine ⟨trivial,λz H2 u2=>q z H2 (m1.trans u2.mod) (u2.fG m1.len) ?_⟩;have:=u2.self;have this:=aI▸this;exact this
theorem aiL{z:Nat}(p:b8 H L)(F:aQ N H A g pr)(ok:g.Ok)(nA:∀j,A.own g j->j≠L)(hz:H[z]? =J (.list (tab g.many λk=>.tup [.int (g.pw k),.int (g.ph k)])))(nz:z≠L)(h16:pr<=16)
  (q:∀H' P V,Mod (λj=>j=L) H H'->b8 H' L->P.m=g.many->P.w=g.pw->P.h=g.ph->(∀H'',Mod (λj=>j=L) H' H''->oA H'' P V)->H.length<=P.l->(∀k y x,k<g.many->y<g.ph k->x<g.pw k->0<=V k y x/\V k y x<=(2^pr-1:Nat))->Q (.ref P.l) H'):
  cW (aG 900 (ae (aa 1) (ae (aa 19) (ae (aa 20) (ae (aF .Sub (aF .Pow (af (.int 2)) (aE (aa 2) 35)) (af (.int 1))) ar))))) false 2 (aa 3) dr (sg (.run true) (n+2)) [a0,J (.ref L),J (.ref A.f),J (.ref z),Jw,Jw,Jw,Jw,Jw,Jw,Jw,Jw,Jw,Jw,Jw,Jw,Jw,Jw,Jw] H Q X:=by
 revert n N H Q X L A g pr z a0;apply ub;intro U;apply(?Z:Tq U);intro n N H Q X L A g pr z a0;intros;have l3:g.many<=1000000:=xH ok.m3 (by decide);have lL:L<H.length:=by obtain ⟨_,_,h,_,_⟩:=p;exact aS h
 have em:(2:Int)^((pr:Nat):Int).toNat-1=((2^pr-1:Nat):Int):=by
  have:=ones pr;have this:=(Cs _)▸this;exact this
 have lm:2^pr-1<65536:=xO (AB (Ae pr) (by decide)) (zS (n:=2) (by decide) h16);refine .list hz (by refine Z aI ?_;exact l3) ⟨by refine Z aI ?_;exact l3,eJ (λk acc H'=>∃R,acc=R.map (λp=>.ref p.o)/\R.length=k/\Mod (λj=>j=L) H H'/\b8 H' L/\∀i p,R[i]? =J p->RecAt H' L (g.pw i) (g.ph i) (2^pr-1:Nat) H.length p) (uP [] rfl rfl (.refl) p nofun) (λk v acc H1 P hv h hP=>?_) λacc H1 h=>?_⟩
 ·obtain ⟨hk,rfl⟩:=tabAt hv
  obtain ⟨R,rfl,lR,m1,p1,f1⟩:=h;have F1:=F.sV m1 nA;refine ⟨m1.at_ _ _ nz hz,.t (.mk F1.h1 rfl ⟨iB,nn pr,yj.mpr (xH h16 (by decide)),?_⟩)⟩;show call (.run false) (n+2) 900 [.ref L,.int (g.pw k),.int (g.ph k),.int ((2:Int)^((pr:Nat):Int).toNat-1)] H1 _ _;refine Z em ?_;refine aiM p1 (ok.xr k).2 (ok.xt k).2 lm λH2 o rr rs vs m2 p2 i2 r2 v2 l2 lo2=>hP _ _ (uP (R++[⟨o,rr,rs,vs⟩]) (by refine Z yq ?_;rfl) (by refine Z xK (Z lR ?_);rfl) (m1.trans m2) p2 (λi x hx=>?_));by_cases h:i<R.length
  ·rw[yw h] at hx
   exact (f1 i x hx).mod m2 λj hj U e=>absurd lL (xX.mpr (e▸hj))
  ·have e:=yW (yb (by have:=(xQ.mp hx).1;have this:=xK▸this;exact this)) (xX.mp h)
   subst e;have hx:=dB▸hx;cases hx;refine Z lR ?_;exact ⟨i2,r2,v2,l2,λj h=>xH m1.len (lo2 j h)⟩
 ·obtain ⟨R,rfl,lR,m1,p1,f1⟩:=h
  have lR:=aI▸lR;refine ⟨m1.at_ _ _ nz hz,λl H2 u2=>?_⟩;have lz:=u2.fG m1.len;have all:∀H'',Mod (λj=>j=L) H2 H''->_:=λH'' m=>akM (H:=H'') (L:=L) (N:=H.length) (most:=2^pr-1) (w:=g.pw) (h:=g.ph) (m.at_ _ _ (λe=>absurd lL (xX.mpr (e▸lz))) u2.self) (lR▸ok.m3) ok.xr ok.xt λi x hx=>(f1 i x hx).mod (P:=λj=>j=L) (u2.mod.trans m) λj hj U e=>absurd lL (xX.mpr (e▸hj));exact q H2 _ _ (m1.trans u2.mod) (p1.mod (P:=λU=>False) u2.mod id) lR rfl rfl (λH'' m=>(all H'' m).1) lz λk y x hk hy hx=>(all H2 .refl).2 k y x (lR.symm▸hk) hy hx
end
abbrev Tp:=List (Nat×Nat)
abbrev Vs:=List (Nat×Nat×Nat)
noncomputable def lJ(tp:Tp)(k y:Nat):Tp:=if tp.any (λe=>e.1==k) then tp else tp++[(k,y)]
noncomputable def lE(tp:Tp)(k y:Nat):Bool:=match (lJ tp k y).find? (λe=>e.1==k) with | some e=>e.2==y | none=>false
noncomputable def tP(f:Bool)(k y:Nat):Nat->Vs
 | 0=>if f then [] else [(k,y-1,0)]
 | x+1=>if f then [(k,y,x)] else [(k,y,x),(k,y-1,x+1),(k,y-1,x)]
noncomputable def qA(vs:Vs)(p:Nat×Nat×Nat):Bool:=vs.any λq=>q.1==p.1&&(q.2.1==p.2.1&&q.2.2==p.2.2)
noncomputable def okN(g:bC)(m:Nat):List UE->Tp->Vs->Bool
 | [],_,_=>true
 | u::r,tp,vs=>(Ee u.1 m&&(Ee u.2.1 g.many&&(Ee u.2.2.1 (g.ma*g.ax u.2.1)&&(Ee u.2.2.2 (g.md*g.dy u.2.1)&&(Ee tp.length 20&&((lE tp u.2.1 u.2.2.2||Ee 0 u.2.2.2)&&(tP (lE tp u.2.1 u.2.2.2) u.2.1 u.2.2.2 u.2.2.1).all (qA vs)))))))&&okN g m r (lJ tp u.2.1 u.2.2.2) ((u.2.1,u.2.2.2,u.2.2.1)::vs)
noncomputable def xp(us:List UE)(tp:Tp):Tp:=us.foldl (λtp u=>lJ tp u.2.1 u.2.2.2) tp
noncomputable def sF(us:List UE)(vs:Vs):Vs:=us.foldl (λvs u=>(u.2.1,u.2.2.2,u.2.2.1)::vs) vs
noncomputable def iL(iv:Nat)(z:Tp×Nat):Tp×Nat:=if 0<iv/\z.2=iv then ([],0) else z
noncomputable def uY(g:bC)(ps:List Nat)(iv:Nat):Nat->Nat->Tp×Nat->Vs->Bool
 | 0,_,_,vs=>ps.all λk=>(yH (if ps.length==1 then g.ph k else g.md*g.dy k)).all λy=>(yH (if ps.length==1 then g.pw k else g.ma*g.ax k)).all λx=>qA vs (k,y,x)
 | n+1,j,z,vs=>okN g ps.length (aD g ps j) (iL iv z).1 vs&&uY g ps iv n (j+1) (xp (aD g ps j) (iL iv z).1,(iL iv z).2+1) (sF (aD g ps j) vs)
noncomputable def aoW(g:bC)(ps:List Nat)(q:Nat):Bool:=Ee (aL g ps) 20&&uY g ps (g.ua ps*q) (aL g ps) 0 ([],0) []
noncomputable def apx(P:bC->List Nat->Nat->Bool):Bool:=[1,2,3].all λm=>[1,2].all λa=>[1,2].all λd=>[1,2,3].all λw=>[1,2].all λh=>[0,1,2].all λq=>P ⟨m,a,d,w,h⟩ (yH m) q&&(yH m).all λk=>P ⟨m,a,d,w,h⟩ [k] q
theorem alS:apx aoW=true:=by decide+kernel
theorem anx{ps:List Nat}{q:Nat}(ok:g.Ok)(hp:ps=yH g.many\/∃k,k<g.many/\ps=[k])(hq:q<=2):aoW g ps q=true:=by
 revert g ps q;apply e3;intro U;apply(?Z:Tq U);intro g ps q;intros;have A:=alS;have i12:∀{i:Nat},1<=i->i<=2->i∈[1,2]:=λa b=>(by decide:∀i,i<3->1<=i->i∈[1,2]) _ (As b) a;have i13:∀{i:Nat},1<=i->i<=3->i∈[1,2,3]:=λa b=>(by decide:∀i,i<4->1<=i->i∈[1,2,3]) _ (As b) a;have i02:∀{i:Nat},i<=2->i∈[0,1,2]:=λb=>(by decide:∀i,i<3->i∈[0,1,2]) _ (As b);have B:=yx.mp (yx.mp (yx.mp (yx.mp (yx.mp (yx.mp A _ (i13 ok.m1 ok.m3)) _ (i12 ok.a1 ok.a2)) _ (i12 ok.d1 ok.d2)) _ (i13 ok.w1 ok.w3)) _ (i12 ok.h1 ok.h2)) q (i02 hq);refine (xZ.mp B).elim λB1 B2=>?_;rcases hp with rfl | ⟨k,hk,rfl⟩
 ·exact B1
 ·exact yx.mp B2 k (y5.mpr hk)
noncomputable def eF(tp:Tp):List (Int×AV):=tp.map λe=>((e.1:Int),.int (e.2:Nat))
theorem ajq(tp)(k:Nat):bj (eF tp) (k:Int)=tp.any λe=>e.1==k:=by
 unfold bj eF;refine Z List.any_map ?_;refine congrArg (λf=>tp.any f) (funext λe=>?_);show decide ((e.1:Int)=k)=(e.1==k);exact DC.mpr ⟨λh=>beq_iff_eq.mpr (zr.mp (of_decide_eq_true h)),λh=>decide_eq_true (congrArg Ao (beq_iff_eq.mp h))⟩
theorem jX(tp)(k y:Nat):dG (eF tp) k y=eF (lJ tp k y):=by
 unfold dG lJ;rw[ajq];cases h:tp.any λe=>e.1==k with
 | true=>rfl
 | false=>
  rw[if_neg x8,if_neg x8,jG (by rw[ajq];exact h),eF,eF,yq];rfl
theorem anh(tp:Tp)(k:Nat):getKey (eF tp) (k:Int)=(tp.find? λe=>e.1==k).map λe=>.int (e.2:Nat):=by
 unfold getKey eF;rw[BJ,ER];have:((λe=>decide (e.1=(k:Int)))∘λe:Nat×Nat=>(((e.1:Int),AV.int (e.2:Nat)):Int×AV))=λe=>e.1==k:=funext λe=>by
  show decide ((e.1:Int)=k)=(e.1==k);exact DC.mpr ⟨λh=>beq_iff_eq.mpr (zr.mp (of_decide_eq_true h)),λh=>decide_eq_true (congrArg Ao (beq_iff_eq.mp h))⟩
 exact Z this rfl
theorem agX(tp)(k y):∃e,(lJ tp k y).find? (λe=>e.1==k)=J e:=by
 unfold lJ;cases h:tp.any λe=>e.1==k with
 | true=>
  refine Z (if_pos rfl) ?_;cases q:tp.find? λe=>e.1==k with
  | some e=>exact ⟨e,rfl⟩
  | none=>
   refine aO (Cz.mp h) λx hx hk=>?_;exact absurd hk (Ag.mp q x hx)
 | false=>
  rw[if_neg x8,Js];have:=Ag.mpr λx hx=>AS.mp h x hx;exact ⟨(k,y),by rw[this,Option.none_or,EE (p:=λe:Nat×Nat=>e.1==k) (beq_iff_eq.mpr rfl)]⟩
theorem aeR(tp)(k y):c8 (eF tp) k y=lE tp k y/\∃i,getKey (dG (eF tp) k y) k=J (.int i):=by
 refine (agX tp k y).elim λe he=>?_;unfold c8 lE;rw[jX,anh,he];refine ⟨?_,_,rfl⟩;show ((e.2:Int)==(y:Int))=(e.2==y);exact DC.mpr ⟨λh=>beq_iff_eq.mpr (zr.mp (beq_iff_eq.mp h)),λh=>beq_iff_eq.mpr (congrArg Ao (beq_iff_eq.mp h))⟩
theorem blt_iff:Ee a b=true↔a<b:=⟨Dh,λh=>Nat.ble_eq_true_of_le h⟩
structure Ok1(g:bC)(m:Nat)(u:UE)(tp:Tp)(vs:Vs):Prop where
 sp:u.1<m
 k:u.2.1<g.many
 x:u.2.2.1<g.ma*g.ax u.2.1
 y:u.2.2.2<g.md*g.dy u.2.1
 l:tp.length<20
 f:lE tp u.2.1 u.2.2.2=false->1<=u.2.2.2
 n:(tP (lE tp u.2.1 u.2.2.2) u.2.1 u.2.2.2 u.2.2.1).all (qA vs)=true
theorem aek(h:okN g m (u::r) tp vs=true):Ok1 g m u tp vs/\okN g m r (lJ tp u.2.1 u.2.2.2) ((u.2.1,u.2.2.2,u.2.2.1)::vs)=true:=by
 revert g m u r tp vs;apply e6;intro U;apply(?Z:Tq U);intro g m u r tp vs;intros;refine (xZ.mp h).elim λh hr=>?_;refine (xZ.mp h).elim λh1 h=>?_;refine (xZ.mp h).elim λh2 h=>?_;refine (xZ.mp h).elim λh3 h=>?_;refine (xZ.mp h).elim λh4 h=>?_;refine (xZ.mp h).elim λh5 h=>?_;refine (xZ.mp h).elim λh6 h7=>?_;exact ⟨⟨blt_iff.mp h1,blt_iff.mp h2,blt_iff.mp h3,blt_iff.mp h4,blt_iff.mp h5,λe=>(FJ.mp h6).elim (λq=>absurd (e.symm.trans q) x8) λq=>blt_iff.mp q,h7⟩,hr⟩
theorem alX(em:E.m=m)(am:E.a.m=g.many)(aw:E.a.w=λk=>g.ma*g.ax k)(ah:E.a.h=λk=>g.md*g.dy k):∀us tp vs,okN g m us tp vs=true->VU E us (eF tp)
 | [],_,_,_=>trivial
 | u::r,tp,vs,h=>by
  refine (aek h).elim λo hr=>?_;refine (aeR tp u.2.1 u.2.2.2).elim λf1 f2=>?_;refine ⟨⟨em▸o.sp,am▸o.k,by exact Z aw o.x,by exact Z ah o.y,f2,λq=>o.f (f1▸q),by unfold eF;exact Z (xJ _) (yL o.l (by decide))⟩,?_⟩;show VU E r (dG (eF tp) u.2.1 u.2.2.2);exact Z (jX _ _ _) (alX em am aw ah r _ _ hr)
def vC(S' S:Nat->Nat->Nat->Int)(vs:Vs):Prop:=∀k y x,qA vs (k,y,x)=true->S' k y x=S k y x
theorem ahB(h:qA (q::vs) (k,y,x)=true):(q.1=k/\q.2.1=y/\q.2.2=x)\/qA vs (k,y,x)=true:=by
 rcases FJ.mp h with h | h
 ·refine (xZ.mp h).elim λa h=>?_
  refine (xZ.mp h).elim λb c=>?_;exact .inl (bU (beq_iff_eq.mp a) (beq_iff_eq.mp b) (beq_iff_eq.mp c))
 ·exact .inr h
theorem vC.up(h:vC S' S vs):vC (ur S' k y x (S k y x)) S ((k,y,x)::vs):=λk' y' x' hv=>by
 unfold ur;by_cases e:k'=k/\y'=y/\x'=x
 ·exact Z (if_pos e) (Z e.1 (Z e.2.1 (Z e.2.2 rfl)))
 ·refine Z (if_neg e) ?_
  rcases ahB hv with ⟨a,b,c⟩ | hv
  ·exact absurd (bU a.symm b.symm c.symm) e
  ·exact h k' y' x' hv
theorem aku{f:Bool}{k y x:Nat}(h:vC S' S vs)(n:(tP f k y x).all (qA vs)=true):jY S' kind mid f k y x=jY S kind mid f k y x:=by
 revert S' S vs kind mid f k y x;apply e9;intro U;apply(?Z:Tq U);intro S' S vs kind mid f k y x;intros;have a:=yx.mp n;cases x with
 | zero=>
  unfold jY;cases f with
  | true=>rfl
  | false=>exact h _ _ _ (a (k,y-1,0) (.head _))
 | succ x=>
  unfold jY;cases f with
  | true=>exact h _ _ _ (a (k,y,x) (.head _))
  | false=>
   have h1:=h _ _ _ (a (k,y,x) (.head _));have h2:=h _ _ _ (a (k,y-1,x+1) (.tail _ (.head _)));have h3:=h _ _ _ (a (k,y-1,x) (.tail _ (.tail _ (.head _))));show rS kind (S' k y x) (S' k (y-1) (x+1)) (S' k (y-1) x)=rS kind (S k y x) (S k (y-1) (x+1)) (S k (y-1) x);exact Z h1 (Z h2 (Z h3 rfl))
section
variable{g:bC}{ps:List Nat}{S:Nat->Nat->Nat->Int}{kind mid most:Int}{T:List TE}
theorem anq(us):∀tp,qS us (eF tp)=eF (xp us tp):=by
 induction us with
 | nil=>intro tp;rfl
 | cons u r ih=>
  intro tp;show qS r (dG (eF tp) u.2.1 u.2.2.2)=_;refine Z (jX _ _ _) ?_;exact ih _
theorem ake(us):∀{S':Nat->Nat->Nat->Int} {vs:Vs},vC S' S vs->vC (pJ S us S') S (sF us vs):=by
 induction us with
 | nil=>intro S' vs h;exact h
 | cons u r ih=>intro S' vs h;exact ih h.up
abbrev vd(g:bC)(S:Nat->Nat->Nat->Int)(most:Int):Prop:=∀k y x,k<g.many->0<=S k y x/\S k y x<65536/\S k y x<=most
theorem al7(e:uk E g ps S kind mid T most)(fit:vd g S most):∀(us:List UE) tp (vs:Vs) (S':Nat->Nat->Nat->Int),okN g ps.length us tp vs=true->vC S' S vs->kH T (iA S kind mid us (eF tp))->RU E us (eF tp) S'
 | [],_,_,_,_,_,_=>trivial
 | u::r,tp,vs,S',h,ag,cd=>by
  refine (aek h).elim λo hr=>?_;refine (aeR tp u.2.1 u.2.2.2).elim λf1 f2=>?_;refine ou (fit u.2.1 u.2.2.2 u.2.2.1 o.k) λb0 b1 b2=>?_;refine ⟨⟨e.el▸o.sp,e.am▸o.k,by refine Z e.aw ?_;exact o.x,by refine Z e.ah ?_;exact o.y,f2,λq=>o.f (f1▸q),by unfold eF;refine Z (xJ _) ?_;exact yL o.l (by decide),?_,?_,by refine Z e.eS ?_;exact b0,by refine Z e.eS ?_;exact b1,by refine Z e.eS (Z e.eo ?_);exact b2⟩,?_⟩
  ·refine Z f1 (Z e.eS ?_);exact aku ag o.n
  ·have:=cd _ (.head _)
   rw[e.eT,dE,e.eS,e.ek,e.ed];exact this
  ·show RU E r (dG (eF tp) u.2.1 u.2.2.2) (ur S' u.2.1 u.2.2.2 u.2.2.1 (E.S u.2.1 u.2.2.2 u.2.2.1))
   refine Z (jX _ _ _) (Z e.eS ?_);exact al7 e fit r _ _ _ hr ag.up λp hp=>cd p (.tail _ (by show p∈iA S kind mid r (dG (eF tp) u.2.1 u.2.2.2);refine Z (jX _ _ _) ?_;exact hp))
noncomputable def pG(iv:Nat)(un:Nat->List UE):Nat->Tp×Nat
 | 0=>([],0)
 | j+1=>(xp (un j) (iL iv (pG iv un j)).1,(iL iv (pG iv un j)).2+1)
theorem ajz(iv)(z):jI iv (eF z.1,z.2)=(eF (iL iv z).1,(iL iv z).2):=by
 unfold jI iL;by_cases h:0<iv/\z.2=iv
 ·refine Z (if_pos h) (Z (if_pos h) ?_);rfl
 ·exact Z (if_neg h) (Z (if_neg h) rfl)
theorem aml(iv)(un):∀j,jb iv un j=(eF (pG iv un j).1,(pG iv un j).2)
 | 0=>rfl
 | j+1=>by
  show (qS (un j) (jI iv (jb iv un j)).1,(jI iv (jb iv un j)).2+1)=_;refine Z (aml iv un j) (Z (ajz _ _) (Z (anq _ _) ?_));rfl
theorem amm(iv)(un)(j):nk iv un j=eF (iL iv (pG iv un j)).1:=by rw[nk,aml,ajz]
theorem akn(a b)(vs):sF (a++b) vs=sF b (sF a vs):=D4
theorem ae3:∀n j,uY g ps iv n j (pG iv (aD g ps) j) (sF (fg (aD g ps) j) [])=true->
  (∀i,j<=i->i<j+n->okN g ps.length (aD g ps i) (iL iv (pG iv (aD g ps) i)).1 (sF (fg (aD g ps) i) [])=true)/\uY g ps iv 0 (j+n) (pG iv (aD g ps) (j+n)) (sF (fg (aD g ps) (j+n)) [])=true
 | 0,j,h=>⟨λi a b=>absurd b (xX.mpr a),h⟩
 | n+1,j,h=>by
  refine (xZ.mp h).elim λh1 h2=>?_;have e:sF (aD g ps j) (sF (fg (aD g ps) j) [])=sF (fg (aD g ps) (j+1)) []:=by exact Z (acW _ _) (Z (akn _ _ _) rfl)
  rw[e] at h2;refine (ae3 n (j+1) h2).elim λa b=>?_;rw[zf,yE 1] at b;refine ⟨λi hi hl=>?_,b⟩;rcases yN hi with l | rfl
  ·exact a i l (by refine Z (zf _ _ _) (Z (yE 1 _) ?_);exact hl)
  ·exact h1
end
section
variable{g:bC}{ps:List Nat}{q:Nat}{S:Nat->Nat->Nat->Int}{kind mid most:Int}{T:List TE}
structure jR(g:bC)(ps:List Nat)(iv:Nat):Prop where
 n:aL g ps<20
 ok:∀j,j<aL g ps->okN g ps.length (aD g ps j) (iL iv (pG iv (aD g ps) j)).1 (sF (fg (aD g ps) j) [])=true
 xE:∀k y x,k∈ps->y<g.sh ps k->x<g.sw ps k->qA (sF (fg (aD g ps) (aL g ps)) []) (k,y,x)=true
theorem alo(ok:g.Ok)(hp:ps=yH g.many\/∃k,k<g.many/\ps=[k])(hq:q<=2):jR g ps (g.ua ps*q):=by
 revert g ps q;apply e3;intro U;apply(?Z:Tq U);intro g ps q;intros;refine (xZ.mp (anx ok hp hq)).elim λh1 h2=>?_;refine (ae3 (g:=g) (ps:=ps) (iv:=g.ua ps*q) (aL g ps) 0 h2).elim λa b=>?_;rw[zj] at b a;refine ⟨blt_iff.mp h1,λj hj=>a j (yI _) hj,λk y x hk hy hx=>?_⟩;have c:=yx.mp b k hk;have d:=yx.mp c y (y5.mpr hy);exact yx.mp d x (y5.mpr hx)
theorem jR.vu(G:jR g ps iv)(em:E.m=ps.length)(am:E.a.m=g.many)(aw:E.a.w=λk=>g.ma*g.ax k)(ah:E.a.h=λk=>g.md*g.dy k)(j)(hj:j<aL g ps):VU E (aD g ps j) (nk iv (aD g ps) j):=by
 exact Z (amm _ _ _) (alX em am aw ah _ _ _ (G.ok j hj))
theorem agT:vC S' S []:=λU U U h=>by cases h
theorem jR.ru(G:jR g ps iv)(e:uk E g ps S kind mid T most)(fit:vd g S most)(cd:kH T (jn S kind mid iv (aD g ps) (aL g ps)))(j)(hj:j<aL g ps):RU E (aD g ps j) (nk iv (aD g ps) j) (pJ S (fg (aD g ps) j) λU U U=>0):=by
 have c:kH T (iA S kind mid (aD g ps j) (nk iv (aD g ps) j)):=λp hp=>cd p (Cy.mpr (aM j (y5.mpr hj) hp));rw[amm] at c ⊢;exact al7 e fit _ _ _ _ (G.ok j hj) (ake _ agT) c
theorem jR.fin(G:jR g ps iv)(k y x)(hk:k∈ps)(hy:y<g.sh ps k)(hx:x<g.sw ps k):pJ S (fg (aD g ps) (aL g ps)) (λU U U=>0) k y x=S k y x:=ake _ agT _ _ _ (G.xE k y x hk hy hx)
end
section
variable{g:bC}{ps:List Nat}{S:Nat->Nat->Nat->Int}{kind mid:Int}{T:List TE}{iv:Nat}
theorem adV:∀us es,u∈us->∃d,(u.1,d)∈iA S kind mid us es
 | v::r,es,h=>by
  rcases yu.mp h with rfl | h
  ·exact ⟨_,.head _⟩
  ·refine (adV r (uu es v) h).elim λd hd=>?_
   exact ⟨d,.tail _ hd⟩
theorem amB(ok:g.Ok):1<=g.ud ps:=by
 unfold bC.ud;split
 ·exact dN (za ok.h1 (ok.w7 _)) ok.d1
 ·exact dN ok.h1 ok.d1
theorem ame(ok:g.Ok):0<aL g ps:=Nat.mul_pos (kQ ok) (amB ok)
theorem acR(ok:g.Ok)(po:ia g ps){j:Nat}(hj:j<ps.length):∃d,(j,d)∈jn S kind mid iv (aD g ps) (aL g ps):=by
 have hu:∃u∈aD g ps 0,u.1=j:=by
  unfold aD mG;cases e:ps.length==1 with
  | true=>exact ⟨_,.head _,(Hp.mp (beq_iff_eq.mp e▸hj)).symm⟩
  | false=>
   refine (aM (j,ps.getD j 0,0 % g.ua ps*g.ax (ps.getD j 0)+0,0 / g.ua ps*g.dy (ps.getD j 0)+0) (Cy.mpr (aM j (y5.mpr hj) (Cy.mpr (aM 0 (y5.mpr (ok.w7 _)) (yg.mpr (aM 0 (y5.mpr (ok.w8 _)) rfl)))))) rfl)
 obtain ⟨u,hu,rfl⟩:=hu;refine (adV (S:=S) (kind:=kind) (mid:=mid) _ (nk iv (aD g ps) 0) hu).elim λd hd=>?_;exact ⟨d,Cy.mpr (aM 0 (y5.mpr (ame ok)) hd)⟩
theorem aiv(ok:g.Ok)(po:ia g ps)(cd:kH T (jn S kind mid iv (aD g ps) (aL g ps)))(j)(hj:j<ps.length):∃e,ti T j=J e:=by
 refine (acR (S:=S) (kind:=kind) (mid:=mid) (iv:=iv) ok po hj).elim λd hd=>?_;refine aO (cd _ hd) λe he U=>?_;exact ⟨e,he⟩
theorem ajU(nd:(T.map (·.sp)).Nodup)(t:Told C l)(h:∀e∈C,∃e'∈T,e'.sp=e.sp/\∀x∈e.ta.map (·.1),x∈e'.sy):kH T l:=λp hp=>by
 refine fc (t p hp) λe he e1 e2=>?_;refine fc (h e he) λe' he' e3 e4=>?_;exact (aM e' (by exact Ql e1 (Ql e3 (amG nd he'))) (e4 _ e2))
end
section
variable{n:Nat}{r:Bool}{H:AH}{Q:AV->AH->Prop}{X:XF}{g:bC}{pr:Nat}{P:vZ}{V:Nat->Nat->Nat->Int}
theorem aiz{a b c d e f h:AV}(q:∀x H',kM x (.inst 868 [(55,a),(62,b),(63,c),(21,d),(59,e),(60,f),(61,h)]) H H'->Q (.ref x) H'):iT (sg (.run r) (n+1)) 868 [a,b,c,d,e,f,h] H Q X:=.mk λw H1 u1=>go (k:=.run r) rfl ⟨rfl,.mk u1.self rfl sW λH2 u2=>.mk u2.self rfl tR λH3 u3=>.mk u3.self rfl qQ λH4 u4=>.mk u4.self rfl rV λH5 u5=>.mk u5.self rfl (by decide:4<1000) λH6 u6=>.mk u6.self rfl (by decide:5<1000) λH7 u7=>.mk u7.self rfl (by decide:6<1000) λH8 u8=>q w H8 (u1.upd ((((((u2.upd u3).upd u4).upd u5).upd u6).upd u7).upd u8))⟩
theorem anm{lo:Nat}(hl:lo<=pr)(h16:pr<=16)(em:P.m=g.many)(pw:∀k,1<=P.w k)(ph:∀k,1<=P.h k)(hv:∀k y x,k<g.many->y<P.h k->x<P.w k->0<=V k y x/\V k y x<=(2^pr-1:Nat)):vd g (cX P V lo) (2^((pr:Int)-lo).toNat-1):=λk y x hk=>by
 refine (hv k _ _ hk (ja (v:=y) (ph k)) (ja (v:=x) (pw k))).elim λh0 h1=>?_;unfold cX;generalize V k (kept y (P.h k)) (kept x (P.w k))=v at*;obtain ⟨m,rfl⟩:=HX h0;have h1:=yj.mp h1;have e:=qG m lo;have e2:((pr:Int)-lo).toNat=pr-lo:=by refine Z (tB hl) ?_;rfl
 have e3:(2:Int)^(pr-lo)-1=(2^(pr-lo)-1:Nat):=by have:=ones (pr-lo);rw[Cs] at this;exact this
 have lt:m / 2^lo<2^(pr-lo):=by
  refine IQ ?_;refine Ql (GP _ _ _) (Z (Aa hl) ?_);exact xN h1 (AB (Ae _) (by decide))
 refine Z e (Z e2 (Z e3 ?_));exact (bU (nn _) (x9.mpr (xO lt (xH (zS (by decide) (zR _ _)) (zS (n:=2) (by decide) h16)))) (yj.mpr (AR lt)))
theorem ahj{z:BS}:∃x rest,fJ (j7 z)=ay x++joinR rest/\rest=restOf 0 (rest.map (·.2))/\x::rest.map (·.2)=j7 z/\rest.length=z.zs.length:=by
 revert z;apply e1;intro U;apply(?Z:Tq U);intro z;intros;have hl:(j7 z).length=z.zs.length+1:=by rw[j7,xJ,iz,xK];rfl
 cases e:j7 z with
 | nil=>have hl:=e▸hl;cases hl
 | cons x r=>
  have hl:=e▸hl;refine (mZ x (restOf 0 r) rfl (by exact Z (jA _ _) rfl) (by exact Z (jA _ _) rfl) ?_);refine Z (abX _ _) ?_;exact AY hl
theorem ahk{z:BS}(i:Nat)(y)(w)(h:(j7 z)[i]? =J y)(h':(iz z)[i]? =J w):bu y=fE w:=by
 revert z i y w;apply e4;intro U;apply(?Z:Tq U);intro z i y w;intros;rw[j7,yA,h'] at h;cases h;exact (agi w).1
end
theorem ab2{m s:Nat}(hm:m<=6)(hs:s<=2):dq m s<=7:=xH (DI _ _) (Nat.sub_le_sub_right (yZ hm hs) 1)
theorem bC.Ok.ud7{g:bC}(ok:g.Ok)(ps):g.ud ps<=7:=by
 unfold bC.ud;split
 ·exact ab2 (xH (za ok.h2 (ok.sd _)) (by decide)) ok.d2
 ·exact ab2 (xH ok.h2 (by decide)) ok.d2
theorem aeb{ua ud iv:Nat}(h:1<=ua*ud)(hi:ua<=iv)(h0:0<iv):∃k,k<=ud/\((ua:Int)*ud+iv-1).fdiv iv-1=(k:Nat):=by
 have e:(ua:Int)*ud+iv-1=((ua*ud+iv-1:Nat):Int):=by
  exact Z (BA (xH h (x7 _ _))) (Z (G8 _ _) (Z (ET _ _) rfl))
 have l:1<=(ua*ud+iv-1) / iv:=(Fc h0).mpr (by exact Z (CU _) (Z (yE _ _) (Z (Ef h _) (x7 _ _))));refine (aM ((ua*ud+iv-1) / iv-1) (Nat.sub_le_of_le_add (IS (xH (zR _ _) ?_))) ?_)
 ·exact Z (By _ _) (yR (Cr _ hi) _)
 ·exact Z e (Ql (D0 _ _) ((BA l).symm))
theorem alQ(x y)(r):((ay x++joinR ((208,y)::r)).take (ay x).length++[255,209])++(ay x++joinR ((208,y)::r)).drop ((ay x).length+2)=ay x++joinR ((209,y)::r):=by
 exact Z DU (Ql List.drop_drop (Z He (Z (yt _ _ _) rfl)))
theorem aj6(x y)(r):(ay x++joinR ((209,y)::r)).length=(ay x++joinR ((208,y)::r)).length:=by rw[xK,xK];rfl
theorem ant(x y)(r):(ay x++joinR ((208,y)::r)).take (ay x).length=ay x++joinR []:=by exact Z DU ((yB _).symm)
theorem ak4(x)(rest)(m):(ay x++joinR rest)++[255,m]=ay x++joinR (rest++[(m,[])]):=by
 rw[yt,joinR,joinR,BD];rfl
theorem am8(h:k<=7):∃m,sY m/\octets [.int 255,.int (208+(k:Nat))]=J [255,m]:=by
 match k,h with
 | 0,_=>exact ⟨208,⟨by decide,by decide⟩,rfl⟩
 | 1,_=>exact ⟨209,⟨by decide,by decide⟩,rfl⟩
 | 2,_=>exact ⟨210,⟨by decide,by decide⟩,rfl⟩
 | 3,_=>exact ⟨211,⟨by decide,by decide⟩,rfl⟩
 | 4,_=>exact ⟨212,⟨by decide,by decide⟩,rfl⟩
 | 5,_=>exact ⟨213,⟨by decide,by decide⟩,rfl⟩
 | 6,_=>exact ⟨214,⟨by decide,by decide⟩,rfl⟩
 | 7,_=>exact ⟨215,⟨by decide,by decide⟩,rfl⟩
 | k+8,h=>exact absurd h (AD.mpr (xO (by decide:7<8) (zJ _ _)))
theorem ahp{Jy:List (List Bool)}(l:Jy.length=rest.length+1)(hb:∀(i:Nat) y z,(x::rest.map (·.2))[i]? =J y->Jy[i]? =J z->bu y=fE z)(i:Nat)(y)(z)(h:(x::Hc (λp:UInt8×List UInt8=>p.2) (rest++[(m,[])]))[i]? =J y)(h':Jy[i]? =J z):bu y=fE z:=by
 refine hb i y z ?_ h';rw[yq,<-List.cons_append,yw] at h
 ·exact h
 ·exact Z Ak (Z (xJ _) (Ql l ((xQ.mp h').1)))
section
variable{n:Nat}{H:AH}{Q:AV->AH->Prop}{X:XF}{A:kN}{g:bC}{pr:Nat}{B:oR}{ps:List Nat}{kind lo:Int}{T:List TE}{D:Nat}{iv:Nat}{S:Nat->Nat->Nat->Int}
theorem oE.ext(R:oE H A g pr B ps kind lo D T)(m:Ext H H'):oE H' A g pr B ps kind lo D T:=
 ⟨R.ok,R.po,(R.F.ext m).up m.len,(R.S.ext m).up m.len,R.t.mod (P:=λU=>False) m λU U=>id,R.k1,R.h0,R.h1,R.h2⟩
theorem gZ(R:oE H A g pr B ps kind lo D T)(e:d=ay x++joinR rest)(k7:kind<=7)(hi:iv % g.ua ps=0)(hs:∀j,j<ps.length->∃e,ti T j=J e)(hR:∀p∈rest,sY p.1)(lr:rest.length<100)(lx:∀y∈x::rest.map (·.2),y.length<=100000)(hl:d.length<900000)
  (hb:∀(i:Nat) y z,(x::rest.map (·.2))[i]? =J y->(iz (eM T S kind (eE pr lo) iv (aD g ps) (aL g ps)))[i]? =J z->bu y=fE z)
  (hv:∀E:cY,uk E g ps S kind (eE pr lo) T (2^((pr:Int)-lo).toNat-1)->∀j,j<aL g ps->RU E (aD g ps j) (nk iv (aD g ps) j) (pJ S (fg (aD g ps) j) λU U U=>0))
  (bad:(∃(k:Nat) (v:Int),(rest.map λp=>((p.1.toNat:Int)-208))[k]? =J v/\v≠(k % 8:Nat))\/rest.length≠(eM T S kind (eE pr lo) iv (aD g ps) (aL g ps)).zs.length) (q:∀H',Ext H H'->Q (.str (AK "code")) H'):
  call (.run true) (n+8) 924 [.ref A.f,.ref B.s,.int iv,.ref D,.bytes d] H Q X:=by
 subst e;exact aca R k7 hi hs hR lr lx hl hb hv (λhr hn=>bad.elim (λu6=>kT u6 λk v h1 h2=>absurd (hr k v h1) h2) λh=>absurd hn h) λU=>q
end
section
variable{n:Nat}{H:AH}{Q:AV->AH->Prop}{X:XF}{L:Nat}{A:kN}{g:bC}{pr N:Nat}{P:vZ}{V:Nat->Nat->Nat->Int}
theorem ajX(p:b8 H L)(pl:oA H P V)(nP:P.l≠L)(m1:1<=P.m)(q:∀c H' ps,Mod (λj=>j=L) H H'->b8 H' L->H.length<=c->H'[c]? =J (.list (ps.map λp=>.int (p:Nat)))->(ps=yH P.m\/∃k,k<P.m/\ps=[k])->Q (.ref c) H'):
  tM (aR (aG 886 (ae (aa 1) (ae (af (.int 3)) ar))) (aH .Gt (af (.int 0)))) (aC .list (ae (aC .range (ae (aC .len (ae (aa 4) ar)) ar)) ar)) (cV (ae (aG 886 (ae (aa 1) (ae (aC .len (ae (aa 4) ar)) ar))) ar))
   (sg (.run true) (n+1)) [a0,J (.ref L),J (.ref A.f),a3,J (.ref P.l),a5,a6,Jw,Jw,Jw,Jw,Jw,Jw,Jw,Jw,Jw,Jw,Jw,Jw] H Q X:=by
 revert n H Q X L A P V a0 a3 a5 a6;apply hU;intro U;apply(?Z:Tq U);intro n H Q X L A P V a0 a3 a5 a6;intros;have l3:P.m<=1000000:=xH pl.m3 (by decide);refine dR p (m:=3) rfl (by decide) (by decide) λH1 d ld mm1 p1=>?_;have h1:=mm1.at_ _ _ nP pl.h1;have lk:(tab P.m λk=>AV.ref (P.o k)).length<=1000000:=by rw[aI];exact l3
 refine .dec (λU=>.dO h1 lk (.bQ (.tU ⟨by decide,by decide⟩ (oY lk) (by decide) (by decide) ?_))) λU=>.dO h1 lk ?_
 ·rw[aI,tG]
  exact λc H2 u2=>q c H2 (yH P.m) (mm1.trans u2.mod) (p1.mod (P:=λU=>False) u2.mod id) (u2.fG mm1.len) u2.self (.inl rfl)
 ·rw[aI]
  refine dR p1 (m:=P.m) rfl m1 l3 λH2 k lk m2 p2=>λc H3 u3=>q c H3 [k] ((mm1.trans m2).trans u3.mod) (p2.mod (P:=λU=>False) u3.mod id) (u3.fG (xH mm1.len m2.len)) u3.self (.inr (aM k lk rfl))
theorem afW{K:EV->AH->Prop}(e:ρ.set i (J v)=ρ')(q:K ρ' H):aK i v G ρ H K X:=by subst e;exact q
theorem aic{K:EV->AH->Prop}(eb:b=b')(e:ρ.set i (J (.bytes b'))=ρ')(q:K ρ' H):aK i (.bytes b) G ρ H K X:=by subst eb;subst e;exact q
theorem aib{K:EV->AH->Prop}(eb:b=b')(e:ρ.set i (J (.int b'))=ρ')(q:K ρ' H):aK i (.int b) G ρ H K X:=by subst eb;subst e;exact q
theorem aim{K:EV->AH->Prop}(e:v= .tup vs)(h:putAll l vs.reverse ρ=J ρ')(q:K ρ' H):lK l v G ρ H K X:=by
 subst e;show iF (putAll l vs.reverse ρ) _;rw[h];exact q
theorem abW:∀a j k (v:Int),((restOf j a).map λp=>((p.1.toNat:Int)-208))[k]? =J v->v=((j+k) % 8:Nat)
 | x::a,j,0,v,h=>by
  have h:J (((mk8 j).toNat:Int)-208)=J v:=h;rw[<-xT h,agp];exact (congrArg (· -(208:Int)) (De 208 ((j % 8:Nat):Int))).trans (Ah _ _)
 | x::a,j,k+1,v,h=>by
  have:=abW a (j+1) k v h;rw[this,zf,yE 1]
noncomputable def km(l L f z p lo kd c sc:Nat)(r:EV):EV:=J (.ref l)::J (.ref L)::J (.ref f)::J (.ref z)::J (.ref p)::J (.int lo)::J (.int (1+kd:Nat))::J (.ref c)::J (.ref sc)::r
theorem ane{l kk:Nat}{ws:List xP}{xs:List Int}(hl:H[l]? =J (.fix ws kk (xs.map .int)))(lx:xs.length<=1000)(q:∀H',H'[l]? =J (.fix ws kk (xs.map .int))->Q (.bool true) H'):call (.run true) (n+11) 929 [.ref l] H Q X:=by
 revert n H Q X l kk ws xs;apply e8;intro U;apply(?Z:Tq U);intro n H Q X l kk ws xs;intros;refine enter [J (.ref l),Jw,Jw,Jw,Jw,Jw,Jw,Jw,Jw,Jw,Jw,Jw,Jw,Jw,Jw,Jw,Jw,Jw,Jw] rfl rfl rfl (akS hl lx λL H1 m1 l1 p1=>ajE p1 λH2 A g pr m2 p2 ok F2 ow pr2 pr16=>akF (X:=X) F2 ok λz H3 m3 lz hz=>?_);have lL1:L<H1.length:=by obtain ⟨_,_,h,_,_⟩:=p1;exact aS h
 have nA:∀j,A.own g j->j≠L:=λj h e=>absurd lL1 (xX.mpr (e▸ow j h));have nz:z≠L:=λe=>absurd lL1 (xX.mpr (e▸xH m2.len lz));refine aiL (X:=X) (p2.mod (P:=λU=>False) m3 id) (F2.ext m3) ok nA hz nz pr16 λH4 P V m4 p4 em pw ph pl lP hv=>?_;have F4:=(F2.ext m3).sV m4 nA;have nl:l≠L:=λe=>absurd (aS hl) (xX.mpr (e▸l1));have hl4:=m4.at_ _ _ nl (m3.get (m2.at_ _ _ nl (m1.get hl)));have e4:(if (4:Int)<pr then (4:Int) else pr)=((if 4<pr then 4 else pr:Nat):Int):=by
  by_cases h:4<pr
  ·rw[if_pos h,if_pos (show (4:Int)<pr from x9.mpr h)];rfl
  ·rw[if_neg h,if_neg λq:(4:Int)<pr=>h (x9.mp q)]
 have b4:1<=(if 4<pr then 4 else pr)/\(if 4<pr then 4 else pr)<=pr/\(if 4<pr then 4 else pr)<=1000000:=by
  split
  ·rename_i h;exact (bU (by decide) (ya h) (by decide))
  ·exact (bU (xH (by decide) pr2) (xS _) (xH pr16 (by decide)))
 refine .mk F4.h1 rfl (.min2 (dR p4 (m:=if 4<pr then 4 else pr) e4 b4.1 b4.2.2 λH5 lo llo m5 p5=>dR p5 (m:=7) rfl (by decide) (by decide) λH6 kd lkd m6 p6=>?_));have lol:=xO llo b4.2.1;have m46:=m5.trans m6;have lL3:=xO lL1 (xH m2.len m3.len);have nP:P.l≠L:=λe=>absurd lL3 (xX.mpr (e▸lP));refine ajX p6 (pl H6 m46) nP (em▸ok.m1) λc H7 ps m7 p7 lc hc hps=>?_;have po:ia g ps:=by
  rcases hps with rfl | ⟨k,hk,rfl⟩
  ·exact ⟨by rw[zM,em];exact ok.m1,by rw[zM,em];exact ok.m3,λp hp=>em▸y5.mp hp⟩
  ·exact ⟨xS 1,(by decide:1<=3),λp hp=>by rw[xV.mp hp];exact em▸hk⟩
 have lps:=xJ (as:=ps) λp=>AV.int (p:Nat);have l3:(ps.map λp=>AV.int (p:Nat)).length<=1000000:=lps▸xH po.three (by decide);refine .dO hc l3 (.bQ (.tU ⟨by decide,by decide⟩ (oY l3) (by decide) (by decide) ?_));rw[lps,tG];refine λsl H8 u8=>λz0 H9 u9=>.dO (u9.old _ _ (u8.old _ _ hc)) l3 ⟨_,u9.self,nn _,yj.mpr l3,λac H10 jw=>aiz λsc H11 lI=>?_⟩;have m711:Ext H7 H11:=u8.mod.trans (u9.mod.trans (jw.mod.trans lI.mod));have m411:=m46.trans (m7.trans m711.mod);have F11:=F4.sV m411 nA;have pl11:=pl H11 m411;have p11:=p7.mod (P:=λU=>False) m711 id;have hc11:=m711.get hc;refine afW (ρ':=km l L A.f z P.l lo kd c sc [Jw,Jw,Jw,Jw,Jw,Jw,Jw,Jw,Jw,Jw]) rfl ?_;refine dS (cut (λρ' H'=>Ext H11 H'/\ρ'=km l L A.f z P.l lo kd c sc [J (.int (g.ua ps)),Jw,Jw,Jw,Jw,Jw,Jw,Jw,Jw,Jw]) (λJy hZ=>?_) λρ' H12 h=>?_)
 ·refine .dO hc11 l3 ?_
  rw[lps];refine uf (λe=>?_) λe=>?_
  ·have eu:g.ua ps=g.pw ps.head! :=by rw[bC.ua,e];rfl
   refine aN (k:=.run true) F11.h1 rfl rfl (.zero hc11 (ke po.one) (dm F11 ok (po.lt _ (head_mem po.one)) λH12 m12=>.qY (hZ _ _ ⟨m12,by rw[eu];rfl⟩)))
  ·have eu:g.ua ps=g.ma:=by rw[bC.ua,beq_eq_false_iff_ne.mpr e];rfl
   refine aN (k:=.run true) F11.h1 rfl rfl (j9 F11 ok λH12 m12=>hZ _ _ ⟨m12,by rw[eu];rfl⟩)
 ·obtain ⟨m12,rfl⟩:=h
  have p12:=p11.mod (P:=λU=>False) m12 id;refine dR p12 (m:=3) rfl (by decide) (by decide) λH13 qq lqq m13 p13=>⟨ji (b:=qq) (yL lqq (by decide)),?_⟩
  have m4d:=m411.trans (m12.mod.trans m13);have l213:=xH (xH m3.len m4.len) m4d.len;have F13:=(F4.sV m4d nA).up l213;refine als F13 ok (pl H13 m4d) em (nn lo) (yj.mpr (xH (ya lol) (xH pr16 (by decide)))) λH14 a m14 e1 e2 e3 kF lo14 gr=>?_;have sc13:bx H13.length H13 ⟨sc,c,sl⟩ ps (1+kd:Nat) lo:=by
   have mm:=m12.mod.trans m13;have lL7:=xO lL3 (xH m4.len (xH m46.len m7.len));have nn7:∀{j},H7.length<=j->¬j=L:=λh e=>absurd lL7 (xX.mpr (e▸h));have nc:¬c=L:=λe=>absurd (xO lL3 (xH m4.len m46.len)) (xX.mpr (e▸lc));have tm:=u8.fG (xS _);have lsc:=lI.fG (Mod.len (P:=λU=>False) (u8.mod.trans (u9.mod.trans jw.mod)));have h1:=mm.at_ _ _ (nn7 lsc) lI.self;have h2:=mm.at_ _ _ nc hc11;have h3:=mm.at_ _ _ (nn7 tm) (lI.old _ _ (jw.old _ _ (u9.old _ _ u8.self)));exact ⟨⟨_,h1⟩,h2,h3,aS h1,aS h2,aS h3⟩
  have F14:=(F13.ext m14).up m14.len;have Sc14:=(sc13.ext m14).up m14.len;have G:=alo (q:=qq) ok (em▸hps) (yb lqq);have k1:=yj.mpr (x7 1 kd);have k7:=yj.mpr (yf (yb lkd) 1);have h1:(lo:Int)<pr:=x9.mpr lol;have p64:pr<=64:=xH pr16 (by decide);have hv':∀E,E.a=a->E.S=cX P V lo->E.m=ps.length->∀j,j<aL g ps->VU E (aD g ps j) (nk (g.ua ps*qq) (aD g ps) j):=λE h1 U h3 j hj=>G.vu h3 (h1▸e1) (h1▸e2) (h1▸e3) j hj;have n90:=yL G.n (by decide:20<90);have ei:((g.ua ps:Nat):Int)*qq=((g.ua ps*qq:Nat):Int):=(ET _ _).symm;refine aim (G:=sg (.run true) (n+10)) (X:=X) (ρ':=km l L A.f z P.l lo kd c sc [J (.int (g.ua ps)),J (.int (((g.ua ps:Nat):Int)*qq)),J (.ref a.g),Jw,Jw,Jw,Jw,Jw,Jw,Jw]) rfl rfl ?_;rw[ei];have imod:g.ua ps*qq % g.ua ps=0:=Nat.mul_mod_right _ _;generalize hiv:g.ua ps*qq=iv at*;refine afM (A:=A) (B:=⟨sc,c,sl⟩) (a:=a) (S:=cX P V lo) (iv:=iv) ok po F14 Sc14 kF.sm gr k1 k7 (nn lo) h1 p64 hv' n90 λH15 aT cc C m15 KC told=>?_;have hT:C≠[]:=λe=>by
   obtain ⟨d,hd⟩:=acR (S:=cX P V lo) (kind:=(1+kd:Nat)) (mid:=eE pr lo) (iv:=iv) ok po (show 0<ps.length from po.one);refine aO (told _ hd) λx hx U=>?_;have hx:=e▸hx;cases hx
  refine acu KC hT λH16 D T m16 lD tT xE=>?_;have cd:=ajU tT.nd told xE;have m146:Ext H14 H16:=m15.trans m16;refine afc (A:=A) (B:=⟨sc,c,sl⟩) (a:=a) (S:=cX P V lo) (iv:=iv) (T:=T) (D:=D) (N:=H14.length) ok po (F14.ext m146) (Sc14.ext m146) kF.sm (gr.mod m146 λU U h=>h) (λj h=>(lo14 j h).2) tT (λj h=>xH m15.len (lD j h)) m146.len k1 k7 (nn lo) h1 p64 imod hv' n90 cd λH17 m17 tT17=>?_;have m1417:qU H14.length H14 H17:=m146.mod.trans m17;have F17:=(F14.mod m1417 λU h=>h).up m1417.len;have Sc17:=(Sc14.mod m1417 λU h=>h).up m1417.len;have R17:oE H17 A g pr ⟨sc,c,sl⟩ ps (1+kd:Nat) lo D T:=⟨ok,po,F17,Sc17,tT17,k1,nn lo,h1,p64⟩
  have pm:P.m=g.many:=em;have fit:vd g (cX P V lo) (2^((pr:Int)-lo).toNat-1):=anm (ya lol) pr16 pm (λk=>pw▸(ok.xr k).1) (λk=>ph▸(ok.xt k).1) λk y x hk hy hx=>hv k y x hk (ph▸hy) (pw▸hx);refine (aej ok po tT n90 cd).elim λo1 o2=>?_;have oj:=aeF _ o2;refine qj (ahj (z:=eM T (cX P V lo) (1+kd:Nat) (eE pr lo) iv (aD g ps) (aL g ps))) λx rest ej er ex el=>?_;have oj:=ej▸oj;rw[ej];have er':∀p∈rest,sY p.1:=by rw[er];exact aec _ _
  have lx:∀y∈x::rest.map (·.2),y.length<=100000:=λy hy=>xH (o2 y (ex▸hy)) (by decide);have lr:rest.length<100:=by
   have:=congrArg Al ex;rw[Ak,xJ] at this;exact xO (xO (yM _) (yQ this)) (xH o1 (by decide))
  have lj:(ay x++joinR rest).length<900000:=xN oj (xN (Cr _ o1) (by decide));have hb:∀i y w,(x::rest.map (·.2))[i]? =J y->(iz (eM T (cX P V lo) (1+kd:Nat) (eE pr lo) iv (aD g ps) (aL g ps)))[i]? =J w->bu y=fE w:=λi y w h h'=>ahk i y w (ex▸h) h';have slots:=aiv ok po cd;have ru:∀E,uk E g ps (cX P V lo) (1+kd:Nat) (eE pr lo) T (2^((pr:Int)-lo).toNat-1)->∀j,j<aL g ps->RU E (aD g ps j) (nk iv (aD g ps) j) (pJ (cX P V lo) (fg (aD g ps) j) λU U U=>0):=λE e j hj=>G.ru e fit cd j hj;have right:∀k (v:Int),(rest.map λp=>((p.1.toNat:Int)-208))[k]? =J v->v=(k % 8:Nat):=λk v h=>by
   have h:=er▸h;exact abW _ 0 k v h |>.trans (by rw[zj])
  refine aca (A:=A) (B:=⟨sc,c,sl⟩) (S:=cX P V lo) R17 k7 imod slots er' lr lx lj hb ru (λU U H18 a2 m18 f1 f2 f3 f4 gr2=>?_) λh=>?_
  ·have m1719:∀{z1 H19 o},kM z1 o H18 H19->Ext H17 H19:=λu=>m18.trans u.mod
   refine λz1 H19 u19=>.inst (bs:=[AK "code",AK "scan"]) u19.self (u19.old _ _ gr2.h1) (.f ?_);have e17:=qU.ext m1417;have pl19:=(pl H13 m4d).ext (m14.trans (e17.trans (m1719 u19)));refine ahC (A:=A) (P:=P) (V:=V) (F17.ext (m1719 u19)) ok po ((Sc17.ext (m1719 u19)).h2) pl19 em (gr2.mod (P:=λU=>False) u19.mod λU U=>id) f4.sm f1 f2 f3 (nn lo) (yj.mpr (xH (ya lol) p64)) (λk y x hk hy hx=>G.fin k y x hk hy hx) λH20 m20=>.f ?_;have ld:(ay x++joinR rest).length<=1000000:=xH (ya lj) (by decide);refine .find λz2 H21 u21=>.pO (x:=[255,208]) u21.self rfl (by decide) (.find rfl ld ?_);obtain ⟨at_,ea⟩:∃i,i=findB (ay x++joinR rest) [255,208] (ay x++joinR rest).length:=⟨_,rfl⟩
   rw[<-ea];refine afW (ρ':=km l L A.f z P.l lo kd c sc [J (.int (g.ua ps)),J (.int iv),J (.ref a.g),J (.ref D),J (.bytes (ay x++joinR rest)),J (.ref a2.g),J (.int at_),Jw,Jw,Jw]) rfl ?_;refine dS (cut (λρ' H'=>Ext H21 H'/\∃o,ρ'=km l L A.f z P.l lo kd c sc [J (.int (g.ua ps)),J (.int iv),J (.ref a.g),J (.ref D),J (.bytes (ay x++joinR rest)),J (.ref a2.g),J (.int at_),o,Jw,Jw]) (λJy hZ=>?_) λρ' H22 h=>?_)
   ·cases rest with
    | nil=>exact .no (λh=>absurd (ea▸h) (by rw[find_none];decide)) (hZ _ _ ⟨.refl,⟨Jw,rfl⟩⟩)
    | cons mm r=>
     obtain ⟨m0,y⟩:=mm;have e0:m0=208:=congrArg Bs (Bl er).1;subst e0;rw[afI] at ea;subst ea;have lxd:(ay x).length<=(ay x++joinR ((208,y)::r)).length:=by rw[xK];exact x7 _ _
     have lxm:((ay x).length:Int)<1000000:=x9.mpr (xN lxd (yL lj (by decide)));have lxm2:((ay x).length:Int)+2<1000000:=AF (Int.add_lt_add_right (x9.mpr (xN lxd lj)) 2) (by decide:((900000:Nat):Int)+2<=1000000);have eb:=alQ x y r;have lb:(ay x++joinR ((209,y)::r)).length<900000:=aj6 x y r▸lj;have lb0:((ay x++joinR ((208,y)::r)).take (ay x).length).length+2<=1000000:=by rw[DU];exact xH (yR (xH lxd (ya lj)) 2) (by decide:900000+2<=1000000)
     refine .yes (nn _) (.to ld (nn _) lxm λz3 H22 u22=>.pO (x:=[255,209]) u22.self rfl (by decide) ⟨lb0,.from ld (yG (nn _) (Int.le_add_of_nonneg_right (by decide))) lxm2 ⟨?_,?_⟩⟩)
     ·rw[<-xK];rw[show ((ay x).length+2:Int).toNat=(ay x).length+2 from rfl,show ((ay x).length:Int).toNat=(ay x).length from rfl,eb];exact xH (ya lb) (by decide)
     ·refine aic eb (ρ':=km l L A.f z P.l lo kd c sc [J (.int (g.ua ps)),J (.int iv),J (.ref a.g),J (.ref D),J (.bytes (ay x++joinR ((208,y)::r))),J (.ref a2.g),J (.int (ay x).length),J (.bytes (ay x++joinR ((209,y)::r))),Jw,Jw]) rfl ?_
      have m1722:Ext H17 H22:=(m18.trans u19.mod).trans (m20.trans (Mod.trans u21.mod u22.mod));refine dS (gZ (A:=A) (B:=⟨sc,c,sl⟩) (S:=cX P V lo) (R17.ext m1722) rfl k7 imod slots (λp hp=>(yu.mp hp).elim (λe=>e▸⟨(by decide:208<=(209:UInt8).toNat),(by decide:(209:UInt8).toNat<=215)⟩) λh=>er' p (.tail _ h)) lr lx lb hb ru (.inl (mc 0 1 rfl (by decide))) λH23 m23=>.bf (bne_self_eq_false _) ?_);refine dS (.to ld (nn _) lxm (gZ (A:=A) (B:=⟨sc,c,sl⟩) (S:=cX P V lo) (rest:=[]) ((R17.ext m1722).ext m23) (ant x y r) k7 imod slots (λU h=>by cases h) (by decide) (λy h=>lx y (xV.mp h▸.head _)) (by rw[show ((ay x).length:Int).toNat=(ay x).length from rfl,DU];exact xN lxd lj) (λi w v h1 h2=>hb i w v (match i,h1 with | 0,h1=>h1) h2) ru (.inr (λe=>Dn _ (el.trans e.symm))) λH24 m24=>λz4 H25 u25=>⟨trivial,.an6 (bs:=[AK "code"]) u25.self (.bf rfl (dS (hZ _ _ ⟨.trans u22.mod (m23.trans (m24.trans u25.mod)),⟨_,rfl⟩⟩)))⟩))
   ·obtain ⟨m22,o16,rfl⟩:=h
    have F22:=(F17.ext (m18.trans u19.mod)).ext (m20.trans (Mod.trans u21.mod m22));have hc22:H22[c]? =J (.list (ps.map λp=>.int (p:Nat))):=((Sc17.ext (m18.trans u19.mod)).ext (m20.trans (Mod.trans u21.mod m22))).h2;refine cut (λρ' H'=>Ext H22 H'/\ρ'=km l L A.f z P.l lo kd c sc [J (.int (g.ua ps)),J (.int iv),J (.ref a.g),J (.ref D),J (.bytes (ay x++joinR rest)),J (.ref a2.g),J (.int at_),o16,J (.int (g.ud ps)),Jw]) (λJy hZ=>?_) λρ' H23 h=>?_
    ·refine .dO hc22 l3 ?_
     rw[lps];refine uf (λe=>?_) λe=>?_
     ·have eu:g.ud ps=g.ph ps.head! :=by rw[bC.ud,e];rfl
      refine aN (k:=.run true) F22.h1 rfl rfl (.zero hc22 (ke po.one) (dm F22 ok (po.lt _ (head_mem po.one)) λH23 m23=>.uC (hZ _ _ ⟨m23,by rw[eu];rfl⟩)))
     ·have eu:g.ud ps=g.md:=by rw[bC.ud,beq_eq_false_iff_ne.mpr e];rfl
      refine aN (k:=.run true) F22.h1 rfl rfl (mW F22 ok λH23 m23=>hZ _ _ ⟨m23,by rw[eu];rfl⟩)
    ·obtain ⟨m23,rfl⟩:=h
     have m1723:Ext H17 H23:=((m18.trans u19.mod).trans (m20.trans (Mod.trans u21.mod m22))).trans m23;have lr1:rest.length<99:=by
      have:=congrArg Al ex;rw[Ak,xJ] at this;exact xO (xO (yM _) (yQ this)) (xH o1 (by decide))
     have lj2:(ay x++joinR rest).length+2<900000:=xN (yR (xH oj (Cr _ o1)) 2) (by decide);refine cut (λρ' H'=>H'=H23/\∃k:Nat,k<=7/\ρ'=km l L A.f z P.l lo kd c sc [J (.int (g.ua ps)),J (.int iv),J (.ref a.g),J (.ref D),J (.bytes (ay x++joinR rest)),J (.ref a2.g),J (.int at_),o16,J (.int (g.ud ps)),J (.int k)]) (λJy hZ=>.dec (λh=>?_) λU=>hZ _ _ ⟨rfl,(aM 0 (by decide) rfl)⟩) λρ' H24 h=>?_
     ·have h0:0<iv:=x9.mp h
      refine aO (aeb (ame (ps:=ps) ok) (Nat.le_of_dvd h0 ⟨qq,hiv.symm⟩) h0) λk hk e=>?_;refine ⟨ji (b:=g.ud ps) (xN (ok.ud7 ps) (by decide)),Ac.mpr (zH h0),xN (hiv▸za (tx ok) (yb lqq):iv<=8*2) (by decide),?_⟩;exact aib (G:=sg (.run true) (n+10)) (X:=X) e rfl (hZ _ _ ⟨rfl,(aM k (xH hk (ok.ud7 ps)) rfl)⟩)
     ·obtain ⟨rfl,k,hk,rfl⟩:=h
      refine aO (am8 hk) λm hm eo=>?_;have ld:(ay x++joinR rest).length+[255,m].length<=1000000:=xH (ya lj2) (by decide);refine λz5 H25 u25=>.pO u25.self eo (show 2<=1000000 by decide) ⟨ld,gZ (A:=A) (B:=⟨sc,c,sl⟩) (S:=cX P V lo) (R17.ext (m1723.trans u25.mod)) (ak4 x rest m) k7 imod slots (λp hp=>(yz.mp hp).elim (er' p) λh=>by rw[xV.mp h];exact hm) (by rw[xK];exact Dp lr1) (λy hy=>?_) (by rw[xK];exact lj2) (ahp (by rw[iz,xK,el];rfl) hb) ru (.inr (by rw[xK,el];exact Nat.succ_ne_self _)) λH26 m26=>.bf (bne_self_eq_false _) (dS ?_)⟩
      ·have hy:=(Hu List.cons_append)▸yq▸hy
       exact (yz.mp hy).elim (lx y) λh=>by rw[xV.mp h];exact yI _
      ·have m1726:Ext H17 H26:=(m1723.trans u25.mod).trans m26
       refine cut (λρ' H'=>Ext H17 H'/\ρ'=km l L A.f z P.l lo kd c sc [J (.int (g.ua ps)),J (.int iv),J (.ref a.g),J (.ref D),J (.bytes (ay x++joinR rest)),J (.ref a2.g),J (.int at_),o16,J (.int (g.ud ps)),J (.int k)]) (λJy hZ=>.dec (λh=>aeB (A:=A) (B:=⟨sc,c,sl⟩) (iv:=g.ua ps+1) (R17.ext m1726) k7 ?_ λH27 m27=>.bf (bne_self_eq_false _) (hZ _ _ ⟨m1726.trans m27,rfl⟩)) λU=>.f (hZ _ _ ⟨m1726,rfl⟩)) λρ' H27 h=>?_
       ·have h:1<g.ua ps:=x9.mp h
        rw[Nat.add_mod_left,zX h];exact Nat.one_ne_zero
       ·obtain ⟨m27,rfl⟩:=h
        refine Sc17.h1.elim λac hs=>?_;have m710:Ext H7 H10:=u8.mod.trans (u9.mod.trans jw.mod);have F10:=F4.sV (m46.trans (m7.trans m710.mod)) nA;have nA2:∀j,A.own g j->¬j=sc:=λj h=>by
         rcases h with rfl | rfl | ⟨k,hk,rfl⟩
         ·exact lI.ne F10.h1
         ·exact lI.ne F10.h2
         ·refine (F10.h3 k hk).elim λU h=>?_;exact lI.ne h
        have ls:sc<H14.length:=let ⟨_,h⟩:=Sc14.h1;aS h
        refine .mk (m27.get hs) rfl (show 7<1000 by decide) λH28 u28=>?_;have m28:Mod (λj=>j=sc) H27 H28:=u28.mod rfl;have m1728:Mod (λj=>j=sc) H17 H28:=m27.mod.trans m28;refine dS (aeC (A:=A) (B:=⟨sc,c,sl⟩) (kind:=8) (T:=T) ⟨ok,po,(F17.sV m1728 nA2).up m1728.len,⟨⟨_,u28.self⟩,m28.at_ _ _ (lI.ne (m710.get hc)) (m27.get Sc17.h2),m28.at_ _ _ (lI.ne (jw.old _ _ (u9.old _ _ u8.self))) (m27.get Sc17.h3),?_,?_,?_⟩,tT17.mod m1728 λj h e=>absurd ls (xX.mpr (e▸xH m15.len (lD j h))),by decide,nn lo,h1,p64⟩ (by decide) λH29 m29=>?_)
        ·exact xO Sc17.l1 m1728.len
        ·exact xO Sc17.l2 m1728.len
        ·exact xO Sc17.l3 m1728.len
        ·exact q H29 (m29.get (m1728.at_ _ _ (lI.ne ((m46.trans (m7.trans m710.mod)).at_ _ _ nl hl4)) (m1417.at_ _ _ (AD.mpr (aS (m14.get (m4d.at_ _ _ nl hl4)))) (m14.get (m4d.at_ _ _ nl hl4)))))
  ·exact absurd h (λh=>h.elim (λ⟨k,v,h1,h2⟩=>h2 (right k v h1)) λh=>h el)
end
section
variable{w:World}{h:yJ}{u:UP}(S:Seen h)
include S
omit S in
theorem pe(e:[x][i]? =J y):i=0/\y=x:=match i,e with | 0,e=>⟨rfl,(xT e).symm⟩
theorem ag4{s:xM}(st:h.StaysIn s.heap)(hg:s.gens= #[])(ha:s.heap.get? a=J {cls:=.type "list",dict:=Jw,data:=.seq ws.toArray k,slots:= #[]})(hn:h.get? a=Jw)(hv:bS [⟨a,[],[]⟩] s.heap xs ws):
  Cx (eP w h u S) [] [⟨a,[],[]⟩] [.fix ws k xs] s:=by
 refine ⟨st,⟨rfl,λi p ao e1 e2=>?_,λi j p q e1 e2 ne=>?_,λb hb=>?_,λg hg=>?_⟩,λU m=>absurd m BH,λb hb=>hb.elim λx k=>absurd k.1 BH,AllBare.of_eq hg⟩
 ·obtain ⟨rfl,rfl⟩:=pe e1
  obtain ⟨_,rfl⟩:=pe e2;exact ⟨rfl,rfl,ha,hv⟩
 ·exact absurd ((pe e1).1.trans (pe e2).1.symm) ne
 ·obtain ⟨p,m,hb⟩:=hb
  cases xV.mp m;rcases hb with e | e
  ·refine Z e ?_;exact ⟨hn,(aM _ ha (bp.not (λe=>absurd (Eu (show DO "list"= .type "tuple" from e)) (by decide)) λe=>absurd (Eu (show DO "list"= .type "range" from e)) (by decide)))⟩
  ·cases e
 ·obtain ⟨p,m,hb⟩:=hg
  cases xV.mp m;cases hb
theorem aje(Jx:ug u){s:xM}{a k:Nat}{ws:List xP}{xs:List Int}(st:h.StaysIn s.heap)(hg:s.gens= #[])(ha:s.heap.get? a=J {cls:=.type "list",dict:=Jw,data:=.seq ws.toArray k,slots:= #[]})(hn:h.get? a=Jw)(hv:bS [⟨a,[],[]⟩] s.heap (xs.map .int) ws)(lx:xs.length<=1000):
  aB true (yK pw w) Jl (G6 (.ref 929) [.ref a]) (λv s'=>v= .bool true/\OldK s.heap s'.heap/\s'.os=s.os/\AllBare s'.gens) (λU U=>False) s:=by
 revert w h u s a k ws xs;apply e3;intro U;apply(?Z:Tq U);intro w h u;intro S Jx;apply e5;intro U;apply(?Y:Tq U);intro s a k ws xs;intros;have C:=ag4 (w:=w) (u:=u) S st hg ha hn hv;have L:dW (eP w h u S) true 11 929 [.ref 0] [.fix ws k (xs.map .int)] (λv H'=>v= .bool true/\H'[0]? =J (.fix ws k (xs.map .int))) (λU U=>False):=
  (aiP S Jx true 11).ip _ _ _ _ _ (ane (n:=0) (l:=0) rfl lx λH' e=>⟨rfl,e⟩)
 refine aB.call ((L Jl [] default _ s [.ref a] ⟨by decide,by decide,λU=>rfl,rfl⟩ C (.cons (.ref 0 ⟨a,[],[]⟩ rfl) .nil)).mono λr s' x=>?_);refine vS r x (λv x=>?_) λe x=>?_
 ·
  obtain ⟨W',H',av,q,C',y,stp⟩:=x;obtain ⟨rfl,e⟩:=q;have ev:v= .bool true:=by cases y;rfl
  refine (iu ev ?_ stp.os C'.bare);have same:∀b o,s.heap.get? b=J o->s'.heap.get? b=J o:=λb o eb=>by
   by_cases c:b=a
   ·subst c
    have eb:=ha▸eb;cases eb;refine fc (stp.pre 0 _ rfl) λp' hp ea U=>?_;obtain ⟨_,_,e',_⟩:=C'.hr.rel 0 p' _ hp e;have e':=ea▸e';exact e'
   ·exact stp.same eb (λu9=>u9.elim λp v9=>v9.elim λm hb=>by cases xV.mp m;exact hb.elim c (λh=>by cases h)) (λx=>x.elim) λhb=>hb.elim λx k=>absurd k.1 BH
  exact .of_keep same
 ·cases x with | mk _ _ _ _ _ x=>exact x.2.elim
end
theorem agA:∀{xs:List WData},Gs R xs .int=true->∃is:List Int,xs=is.map .int
 | [],_=>⟨[],rfl⟩
 | x::r,e=>by
  have e:WShape.has R x .int=true/\Gs R r .int=true:=by simpa[Gs] using e
  obtain ⟨i,rfl⟩:=hasW_int e.1;obtain ⟨is,rfl⟩:=agA e.2;exact ⟨i::is,rfl⟩
theorem lay_ints{R:WRecords}{cl:ze->Option yk}{P:Params}{ord:List BY->List BY}{W:WD}{h:yJ}:∀(is:List Int) s r,layAllW R cl P ord (is.map .int) s=J r->r.2.heap=s.heap/\bS W h (is.map .int) r.1
 | [],s,r,e=>by cases xT e;exact ⟨rfl,.nil⟩
 | i::is,s,r,e=>by
  obtain ⟨a,q,e1,e2,rfl⟩:=layAllW_cons e;cases xT e1;have:=lay_ints (W:=W) (h:=h) is _ q e2;exact ⟨this.1,.cons (.int _ _) this.2⟩
noncomputable abbrev lw:OpenLaw:=PySem.Challenge.rw_nt0576_01
theorem akR(e:lw.pre.holds [] {args:=[.list xs]}=true):xs.length<=1000:=by
 have hm:lw.most=J 63:=rfl;have hb:lw.bound=Jw:=rfl;refine Gy λc=>?_;have l:less? (.int 63) (.int xs.length)=J true:=congrArg J (decide_eq_true (x9.mpr (yL (by decide:63<1000) (AD.mp c))));simp[OpenLaw.pre,WTm.holds,WTm.value,hm,hb,l] at e
noncomputable abbrev lc:ClaimW:=lw.row.toRowW.claim
theorem aiq{s:xM}(hg:s.heap.Ns zA mg)(hf:mg "law"=J (.ref 929))
  (h:aB true (yK pw w) Jl (G6 (.ref 929) [.ref a]) (λv s'=>Q (.done (.ret v)) s') E s):
  aB true (yK pw w) Jl (do match<-nsGet mainNs "law" with
   | some f=>do ret (<-G6 f [.ref a])
   | none=>Hx "claim.caller:no-such-global") Q E s:=
 aB.bind (aB.of (wpAny_nsGet hg (by refine Z hf ?_;exact aB.bind (h.mono (λU U x=>aB.pure x) λU U x=>x))))
theorem aeD{is:List Int}{s S5:xM}{vs:List xP}(e:layAllW R cl P ord [.list (is.map .int)] s=J (vs,S5)):
  ∃a ws,vs=[.ref a]/\S5.heap.get? a=J {cls:=.type "list",data:=.seq ws.toArray}/\s.heap.get? a=Jw/\∀W,bS W S5.heap (is.map .int) ws:=by
 revert R cl P ord is s S5 vs;apply e8;intro U;apply(?Z:Tq U);intro R cl P ord is s S5 vs;intros;obtain ⟨a,q,e1,e2,e3⟩:=layAllW_cons e;cases xT e2;obtain ⟨q,e4,rfl⟩:=layW_list e1;cases e3;have hq:=(lay_ints (W:=[]) (h:=s.heap) is s q e4).1;exact (mZ _ _ rfl (yC _ rfl) (hq▸zF (xS _)) (λW=>(lay_ints is s q e4).2))
theorem ajg:frees lw.row.toRowW=true:=by kernel_rfl
theorem ajf{is:List Int}:lc.post [.list (is.map .int)] (.bool true) [.list (is.map .int)]=true:=by kernel_rfl
theorem ajh{u:UP}(Jx:ug u){s:xM}(S:Seen s.heap)(hz:s.asleep)(hgens:s.gens= #[])(has:∀c,(lw.row.toRowW.records.fields? c).isSome=true->(classAt s.heap c).isSome=true){free:yk->Prop}{gens:Prop}{kept:yJ->Prop}(hk:∀h,kept h):
  lc.CallFrom (callStub lw.row.name) w free gens kept s:=by
 revert w u s free gens kept;apply e2;intro U;apply(?Z:Tq U);intro w u;intro Jx;apply e1;intro U;apply(?Y:Tq U);intro s;intro S hz hgens has;apply e3;intro U;apply(?X:Tq U);intro free gens kept;intros;intro args hpre hlay ord hord;refine (pre_splitW hpre).elim λhsh hp=>?_;obtain ⟨⟨vs,S5⟩,hlaid⟩:=CC.mp (layAllW_isSome (P:=w.params) (ord:=ord) has args lw.row.args s hsh);have keeps:=layAllW_keeps _ _ _ hlaid;have hal:=layAllW_rest _ _ _ hlaid;obtain ⟨as,hrd,hin,hold⟩:=reads_layAllW hord _ _ _ hlaid hlay S5.heap (λU U e=>e);have L:Laid lc.records w s S5 args vs as:=⟨(aM ord hord hlaid),hrd,hin,hold,keeps,hal.1.trans hgens,hal.2.2.1⟩
 obtain ⟨d,r,rfl,hd,hr⟩:=hasAllW_cons hsh;cases hasAllW_nil hr;obtain ⟨xs,rfl,hx⟩:=hasW_list hd;obtain ⟨is,rfl⟩:=agA hx;have lx:=akR hp;rw[xJ] at lx;obtain ⟨a,ws,rfl,ha,hn,hv⟩:=aeD hlaid;have h:=aje (w:=w) (k:=0) S Jx keeps L.gens ha hn (hv _) lx;refine aod (frees_parts ajg) λhsame hu hau hap U=>?_;obtain ⟨k,r,s',s'',hrun,hsched,hfo,hcase,hos⟩:=adk (prog:=pw) (w:=w) (R:=λr s'=>lc.Ends s [.list (is.map .int)] [.ref a] S5 r s'/\s'.os=s.os)
  (Shared.asleep_of_life hal.2.2.2 hz) (aiq (S.gl.keeps keeps) (S.fn ("law",929) (by decide+kernel)) (h.mono (λv s' x=>x.elim λev k=>by
   subst ev;have g:=GoodWG.laid (c:=lc) hsame rfl (ident_freeW hu hau hap) L ⟨.inl ⟨_,.bool true,[],rfl,λU=>rfl,.bool true,ajf,λU=>⟨.nil,λU h=>by cases h⟩⟩,k⟩;exact (bJ _ rfl ⟨g.1,g.2.1⟩ (leftWithCleanup_false_of_bare g.2.2))) λU U x=>x.elim))
 refine aod (Shared.forget_eq hfo) λeh U U eo U=>?_;have hcase:=hcase.congr eh;rw[<-eo] at hos;have hlife:=(runN_life _ _ _ hrun).trans hal.2.2.2;refine (mc _ _ hlaid ⟨k,_,s',hsched,?_,λU i x hx=>by rw[hgens] at hx;simp at hx,hk _,by exact Z hlife rfl,Shared.rest_eq hos⟩);rcases hcase with ⟨v,rfl,d1,d2,d3,d4,d5⟩ | ⟨e,ob,cls,rfl,d1,d2,d3,d4,d5⟩
 ·exact .inl ⟨v,rfl,d1,d2,d3,λb o y U=>d4 b o y,d5⟩
 ·exact .inr ⟨e,ob,cls,rfl,d1,d2,d3,d4,λb o y U=>d5 b o y⟩
def vq:AG:=view pw [92]
def vl:List ze:=pw.boundNames.filter λx=>x !=("law":ze)
theorem akt(w:World)(os:ED):(q8 pw w 11 (J (.ref 6)) 20000 (qH w.params os) (topStub pw)).map (λs=>((staticsOk (CX pw.main.body) (Co w.params) s.abs.heap&&namesBound pw s.abs.heap&&gensDone s.abs&&laidKept (Co w.params) s.abs.heap),
   openSeen vq vl (CX pw.main.body) (λU=>true) true s.abs))=J (true,openGood vq vl):=by kernel_rfl
theorem aih(w:World)(os:ED):(q8 pw w 11 (J (.ref 6)) 20000 (qH w.params os) (topStub pw)).map (λs=>amh (kh s))=J goodG:=by kernel_rfl
theorem left:LeftO pw vq vl (λU=>true) (λs=>Seen s.heap) (λU=>True) 20000 true:=aja rfl rfl akt λw os s e=>eq_true (akI (alm s) (by have:=aih w os;rw[e] at this;exact xT this))
abbrev uL:DefRec:=⟨"law",(dj 92).args,(dj 92).body,(dj 92).scope,⟨623,0,652,67⟩⟩
theorem ald:defOf vq "law"=J (uL,[]):=by kernel_rfl
theorem alb:pw.theDef "law"=J (uL.params,uL.body,uL.scope):=by kernel_rfl
theorem aji:pw.bare:=⟨rfl,rfl,rfl,rfl,rfl,by decide+kernel⟩
theorem aa0:lw.row.toRowW.promised:=⟨[.list [.int 3,.int 1]],by kernel_rfl,by kernel_rfl⟩
theorem ahz:opensWell pw=true:=by kernel_rfl
theorem ab9:chainsOk vq=true:=by kernel_rfl
def strN(x:ze):Nat:=x.cps.toList.foldl (λa c=>a*256+c) 1
theorem am1{l:List ze}{n:ze}(h:((l.map strN).contains (strN n))=false):l.contains n=false:=Bv.mpr λe=>Bv.mp h (zv.mpr (CD (zv.mp e)))
theorem akc{a b:List ze}(h:(let m:=b.map strN;(a.map strN).all λn=>!m.contains n)=true):a.all (λn=>!b.contains n)=true:=yx.mpr λx hx=>(AX _).mpr (am1 ((AX _).mp (yx.mp h _ (CD hx))))
theorem amS:sreFenced pw.main=true:=(congrFun PySem.W.Fast.te11788848310118352699 _).trans (by kernel_rfl)
theorem amR:noRoadLSs {strict:=!(CX pw.main.body).all cThrough.contains,foot:=Jw,bare:=(["vars","dir","locals"]:List ze).filter (readsOut pw pw.main.body)} pw.main.body=true:=(congrFun (congrFun PySem.W.Fast.te8326940854005059898 _) _).trans (by kernel_rfl)
theorem amQ:namesMeet pw pw.main.body (λU n=>attrL n)=true:=by rw[PySem.W.Fast.te17868728402115742887];kernel_rfl
theorem amP:looksOpen lw.row.prog=true:=
 (DH (DH (DH (DH (DH amS (by kernel_rfl:((moduleNames pw.main.body).isEmpty||lookedIntoSs (moduleNames pw.main.body) pw.main.body)=true)) (by kernel_rfl:namesResolve pw=true)) (akc (a:=pw.boundNames) (b:=worldNames) (by kernel_rfl))) amR) amQ:looksOpen pw=true)
theorem amO:lw.row.partSaid=true:=by
 unfold OpenRow.partSaid
 repeat' (first | with_reducible refine DH ?_ ?_ | with_reducible exact amP)
 all_goals kernel_rfl
theorem amN:lw.row.wellSaid=true:=
 (DH (DH amO (by kernel_rfl:lw.row.prog.boundNames.contains lw.row.name=true)) (by kernel_rfl:(!startupNames.contains lw.row.name)=true):(lw.row.partSaid&&lw.row.prog.boundNames.contains lw.row.name&&!startupNames.contains lw.row.name)=true)
theorem ajd:lw.wellSaid=true:=by
 unfold OpenLaw.wellSaid
 repeat' (first | with_reducible refine DH ?_ ?_ | with_reducible exact amN)
 all_goals kernel_rfl
theorem alc(said:lw.row.wellSaid=true):lw.row.Holds:=
 ⟨said,aa0,⟨aji,ahz,rfl⟩,aa0.witness,λw=>⟨(left.behind (XP:=λU U=>True) (λU U=>trivial) ab9 w).1,λs' hs'=>by
  obtain ⟨s₀,hf,hg0,s,hT,hz,hgens,hg,G,y⟩:=(left.behind (XP:=λU U=>True) (λU U=>trivial) ab9 w).2 s' hs';have S:Seen s.heap:=of_eq_true y;obtain ⟨u,Jx⟩:=adL;refine ⟨s₀,hf,hg0,s,hT,λn hn=>?_,λx hx=>(nomatch hx),λx hx=>(nomatch hx),ajh Jx S hz (Array.eq_empty_of_size_eq_zero (beq_iff_eq.mp hgens)) (λc e=>(nomatch e)) λh=>?_⟩
  ·cases xV.mp hn
   exact pinned_of_view hg G ald alb rfl
  ·exact nofun⟩⟩
end
end Mine.Internal
theorem PySem.Challenge.cw_nt0576_01_holds : PySem.Challenge.rw_nt0576_01.Holds :=
 holds_law Mine.Internal.ajd Mine.Internal.alc
