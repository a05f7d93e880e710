import PyProof.Rows.All
import Wide.All
import OpenK.AllK
import Wide.FinOn
import PySem.Challenge.RW_nn0388_01
open PySem renaming Value->Ac,Shared->Aj,wpAny_bind->Ak,wpAny->Au,wpAny_pure->AF,Params->AK,wpAny_mono->AN,World->A7,sizeLine->Bc,NameKind->Bi,Around->BB,Scope->BF,DictEntry->Ck,rawInt->Cm,starEach->Dj,treeTable->Dl,backTo->DA,cLine->DC,holding->DK,standAt->DL,wpAny_holding->Et,isTrue->Eu,SetTable->EK,sizeLine_eq->Ft,CmpOp->FL,mainGlobals->FO,scanBound->Gj,pyNext->Gl,sliceBounds->Gn,Const->GR,model->Hw,wpAny_standAt->Hx,codeAny->Hy,pyIter->Hz,Builtin->HE,truthy->Ih,BoolOp->Ii,assign->Ij,call->Ik,letOwnedTupleGo->Im,UnaryOp->Jv,wpAny_newObj_type->Jw,swapsWith->Jx,strKind->JC,wpAny_setState_of->JD,start->JK,callEnv->JM,hashStr->Kv,spliced->Kw,Operator->Kx,codeAny_mono->Ky,FuncData->Kz,backToKw->KA,keywordEach->KB,attributeBase->KC,foldedSetIterable->KF,stored->KI,codeAny_builtin->KL,Program->LX,call_meets->L0,fresh->L2,wpAny_call_entry->L5,wpAny_rule->L6,eqIsQuiet->L7,plain->L8,relayAll->L9,setField->Mc,sysModules->NC,execs->ND,methodCallPos->NI,Result->NK,wpAny_specialOf->NM,plainId_quiet->NP,OsState->Qk,Model->Ql,nsFind->Qm,builtinsNs->Qn,storeName->Qp,swappedStores->Qt,PyData->Qv,cellsFrom->QC,compEnvC->QG,sliceRange->QH,atKey->QJ,wpAny_setField_rec->QL,getAttr->Tv,behindInMarks->Tw,letTemporaryGo->Tx,newList->Tz,wpAny_truthy_bool->TA,assignInOrder->TB,swapsWithSole->TC,wpAny_call->TE,callWith->TG,methodCall->TH,wpAny_askSetting->TK,IsPair->TN,relabel->TQ,valueAt->TS,pyHash->TT,wpAny_seqItems->TW,entryOfKey->TX,layNew->TZ,entryFor->Ue,argsOk->Uf,pickOrder->Uh,setNext->Ui,wpAny_typeOf->Up,collect->Uq,importedModules->Ur,reduceHash->XE,getMethod->XG,bootBuiltins->XH,newTuple->XI,wpAny_execs_nil->XJ,codeAny_of_tree->XK,slot_list_getitem->XQ,seqIndex?->XR,getMethod_builtin->XS,methodCallForm->XZ,contains->X5,wpAny_pyIter_list->X9,wpAny_assign_Name->Yb,slicePick->Ye,wpAny_isInstance->Yl,slot_dict_contains->Yn,typeLookup_type->Ys,builtinLookup_eq_fast->Yt,isSubtype_type->Yu,setEntries->Yx,raiseNew->Yz,wpAny_newList->YE,wpAny_ite_split->YF,intItems->YH,foldedForSure->YM,constantsAlone->YN,Arguments->YR,wpAny_release->yB,wpAny_storeName_local->yC,markedBehindIn_of_false->yF,wpAny_bindName->yG,arm_assign_Tuple->yH,wpAny_Assign_stores->yI,theTreesLotGoes->yJ,recursionLimit->zB,wpAny_loadPart->zE,wpAny_pyIter_enum->zG,wpAny_pyIter_zip->zL,wpAny_comprehension_free->zP,valueAt_of_get->zR,slot_dict_getitem->zT,wpAny_pyHash_int->zW,wpAny_pyHash_str->zX,beq_builtin_none->zY,wpAny_forIn_list->Aaa,wpAny_storeSet_of->Aai,fits_of_scanBound->Aaj,wpAny_pyNext_list_end->Aal,wpAny_pyNext_list_item->Aan,wpAny_pyIter_slot->Aat,wpAny_callSpecial?_slot->Aav,Fin->AaD,wpAny_updateSeq->AaJ,wpAny_eqBool_int->AaM,eval_Dict_empty->AaO
open List renaming length_map->Ai,length_append->AY,getElem?_eq_some_iff->A5,mem_of_getElem?->A8,mem_map->Bj,mem_cons->Bo,getElem?_map->Bp,map_append->Bs,map_map->BC,getElem?_eq_getElem->BG,range->BN,mem_singleton->B3,replicate->Cy,mem_append_left->CW,append_nil->C8,mem_append->C9,getD_eq_getElem?_getD->Dk,mem_map_of_mem->Dz,size_toArray->DB,append_assoc->DE,getElem?_of_mem->DM,map_cons->EO,all_eq_true->EP,length->EQ,length_cons->Fc,mem_iff_getElem?->Fs,take_add_one->Fu,getElem?_append_left->Fv,getElem?_set_ne->FP,toArray->FQ,length_range->FS,map_congr_left->Gm,take_of_length_le->Gp,mem_of_mem_take->Gq,not_mem_nil->GS,filterMap->GV,filterMap_cons->HB,nodup_cons->Ig,nodup_nil->Il,getElem?_eq_none->Ip,filterMap_append->Iu,lookup_cons->Ju,mem_range->JE,length_take->JI,mem_filter->JJ,getElem?_range->KE,pairwise_map->KN,mem_append_right->KP,length_zipIdx->KQ,getElem?_append_right->KR,getElem?_inj->LY,cons_append->L1,map_take->Me,mem_flatMap->Mg,getElem_mem->NN,nodup_append->NO,any->NS,length_filterMap_le->NT,reverse_cons->Qi,getElem?_zip_eq_some->Qu,foldl->QA,foldl_cons->QB,lt_irrefl->QN,take_sublist->QP,take_length->QV,map_filterMap->QW,length_filter_le->QX,map_id->QY,filter_append->QZ,getElem?_set_self->Q1,length_replicate->Q2,nil_append->TD,drop_of_length_le->Uc,drop_eq_getElem_cons->Ud,length_eq_zero_iff->Ug,ext_getElem?->Uo,length_set->Uw,length_take_le'->Ux,filter_cons->Uy,map_fst_zip->XU,getElem?_replicate->XW,find?_cons->X0,getElem?_zipIdx->X6,getElem?_toArray->X7,of_mem_zip->Yi,length_zip->Yj,filter_cons_of_neg->YI,head?->YL,getElem?_take_of_lt->YO,range_succ->YU,mem_filterMap->YW,foldl_append->YX,zipIdx_map->YY,zipIdx_cons->YZ,map_drop->Y0,length_drop->Y1,flatMap_cons->Y2,flatMap_append->Y3,rec->yA,casesOn->yM,cons_ne_nil->yN,cons->yO,replicate_succ->yQ,push_toArray->yV,eq_nil_or_concat->yW,reverse_append->yX,reverse_nil->yY,reverse_reverse->yZ,length_zipWith->zH,getElem?_eq_none_iff->zI,zip_cons_cons->zS,find?_isSome->Aab,map_nil->Aac,length_eraseIdx->Aar,lt_trans->AaL,forall_mem_cons->Aa7,length_singleton->Aa9,getElem?_take->Aba,countP_eq_length_filter->Abh,countP_append->Abi,countP_mono_left->Abj,filter_eq_nil_iff->Abl,map_set->Abn,zipIdx_map_fst->Abo,pairwise_cons->Abp,drop_append->Abq,mem_of_mem_drop->Abr,length_nil->Abs,flatMap_nil->Abt,map_reverse->Abu,mem_reverse->Abv,append_inj'->Abz,take_append_of_le_length->AbA,length_eq_one_iff->AbB,drop_drop->AbC
open Option.some renaming inj->Ay,injEq->Yh
open Nat renaming add_le_add->AI,le_trans->AP,le_of_eq->BA,le_refl->BJ,lt_of_lt_of_le->B7,ble->Cf,zero_le->Cq,beq->Da,ne_of_lt->Dh,le_of_ble_eq_true->Ds,lt_of_le_of_lt->DT,mul_le_mul_left->DU,le_of_lt_succ->EL,le_antisymm->EM,lt_trans->FM,le_add_right->Gh,not_lt_zero->Gi,add_assoc->Go,le_of_not_lt->GU,le_add_left->Hr,le_of_lt->Ht,lt_irrefl->Hu,succ_pos->HF,ne_of_gt->Js,min_eq_left->Jt,lt_of_le_of_ne->JF,eq_of_beq_eq_true->JH,add_comm->JL,add_le_add_left->Kq,add_le_add_right->Kr,min_le_right->Ks,sub_le->Kt,lt_of_not_le->Ku,zero_add->KJ,lt_or_ge->KS,sub_add_cancel->LV,le_succ->L4,min_le_left->NA,le_sub_one_of_lt->NQ,succ->Qh,pos_of_ne_zero->Qx,add_sub_of_le->QM,lt_succ_of_le->To,succ_le_succ->Tu,sub_succ_lt_self->TP,sub_self->Uz,not_le_of_lt->XA,lt_of_succ_lt_succ->XC,not_lt->XV,lt_succ_self->Yd,le_succ_of_le->Yo,le_of_sub_eq_zero->Yp,sub_zero->Yr,le_of_succ_le->YA,min_eq_right->YT,le_of_not_le->YV,succ_add->wO,sub_lt->wP,one_pos->wQ,eq_or_lt_of_le->wT,eq_zero_or_pos->wY,sub_pos_of_lt->wZ,add_lt_add_right->zA,add_zero->zD,le_total->zJ,le_min->zK,lt_or_eq_of_le->zO,lt_of_sub_eq_succ->Aam,succ_ne_zero->Aas,zero_lt_one->Aax,sub_lt_sub_left->AaA,le_zero->AaB,sub_lt_sub_right->AaC,min_self->AaP,lt_add_one->Abg,lt_succ_iff_lt_or_eq->Abk
open PyProof.Rows renaming seqObj->AM,namesOf->EN,MethAt->E9,pick_from->KO,strOf->Qj,tail_any->Qz,SortKind->Ul,pairsOf->Um,subscriptTail->XF,reads_tuple_at->XM,reads_list_at->XN,rev_getD->YB,listUpdate_at->YC,seqEpoch_at->YD,lt_int->yK,get?_update_seq->AaE,add_int->Ali,sub_int->Alj,mul_int->Alk,mod_int'->All,floordiv_int->Alm,neg_int->Aln,eq_int->Alo,ne_int->Alp,gt_int->Alq,le_int->Alr,ge_int->Als,eq_str->Alt,ne_str->Alu,truthy_int->Alv,getItem_tuple->Alw,lt_str->AlF
open Int renaming natCast_nonneg->B8,not_lt->Hs,ofNat_lt->Ic,ofNat_le->Ie,le_trans->Qg,ofNat->QR,zero_sub->Q0,lt_irrefl->Tp,lt_of_le_of_lt->Tq,lt_trans->Ts,le_of_lt->Tt,neg_neg_of_pos->XB,not_le->XD,max_eq_right->YS,lt_of_lt_of_le->wL,add_le_add_right->wM,le_add_of_nonneg_left->wN,sub_zero->wR,add_sub_cancel->wS,add_comm->wU,add_neg_cancel_right->wV,ediv_one->wW,neg_le_neg->wX,min_eq_left->Abf
open PySem.Heap renaming lt_size->Cr,get?_push_size->Ct,get?_push_of_some->Di,SameBut->FN,get?_update_self->LZ,get?->QT,get?_none_of_le->X8,size_push->zF,get?_update_other->AaK
open PySem.Value renaming ref->CB,type->FR,none->HH,builtin->QO,isStrOf_shape->TR,isInt->TY
open PySem.W renaming drawn->C2,lookup->C7,dictOf->Dy,topFrame->DG,segRunT->Ev,piecesOf->Ew,piece_app->Ez,segRun_of->EA,look_both->Fb,isStarred->Gk,instObj->Hv,Grows->Iq,looks_pair->Ir,emptyDict->JB,boot_heap->JG,storeOk->L3,codeIn->NH,findIn->NJ,takerIn->NL,looseW->NR,methodObj->NU,attrOk->QE,behindTheImports->QS,readsOut->QU,putName_dict->TJ,typeIn->TL,kas_rev->Uk,noRoadLSs->Us,callWith_of->XX,plainGet_of->X2,kat_cons->YG,cThrough->YJ,ks_superObj->Y6,readsAllW_nil_inv->Abx,readsAllW_cons_inv->Aby
open PySem.Obj renaming mapSeq->DD,putSet->Ua,putName->X3
open PySem.W.Fast renaming te14364793385576792824->DN,te10110043849684766642->Ey,te15667345088766844465->AlK,te11892475500146522536->AlL,te14374325043358763698->AlM,te14082659384304107361->AlN,te8920871248978507458->AlO
open Bool renaming and_eq_true->D7,false_eq_true->Fa,or_eq_true->Jz,eq_false_iff->JA,or_false->QD,false_ne_true->TV,and_false->X4,not_true->Ym,not_or->Abc,and_true->Abm
open Option renaming map_eq_some_iff->D8,none->NE,map->Qs,bind_some->X1,map_some->Yg,bind_eq_some_iff->Aaf
open PySem.NameKind renaming free->D9,cell->TF
open PySem.Str renaming ofString->HD
open Eq renaming trans->HG
open ForInStep renaming yield->Io
open Int.ofNat renaming inj->Iw
open PySem.PyData renaming eqv->Jy,keyHash->KD,depthAll->Qw,canLayAll0->XO,strOk->yL
open List.cons renaming injEq->KG,inj->Qy
open PySem.F renaming called_set->KM,slot_tuple_hash->TU,slot_list_pop->yR,slot_list_extend->yS,slot_list_count->yT,slot_list_index->yU,slot_dict_get->zU,plain_set_new->Aao,slot_set_iter->Aau,plain_extend_loop->AaI
open PySem.Builtin.Tuple renaming tupleHashOf->LW,tupleItemsOf->AlB
open PySem.SetTable renaming grown->Ma,below->Mb,fits->Aaw
open Array renaming getElem?_eq_getElem->Md,length_toList->Ub,getD->Uj,toList_push->Yk,getElem?_toList->Yy,forIn_toList->zZ,getElem?_eq_none->Aay,perm_iff_toList_perm->Aaz
open PySem.Challenge renaming rw_nn0388_01->Mf
open PySem.Expr.Name renaming elim->NF
open PySem.Heap.SameBut renaming update->NG,refl->Aah
open PySem.Env renaming kindOf->Qo
open PySem.BoolOp renaming And->Qq,Or->Qr
open PySem.Builtin.Range renaming rangeSize->QF,small->zM,rangeFitsLong->zN
open List.Pairwise renaming of_map->QI,map->zQ,sublist->AlS,imp_of_mem->AlT
open PySem.Around renaming under_plainId->QK
open Nat.succ renaming inj->QQ
open PySem.Code renaming builtin->TM,quiet_builtin->Aap
open PySem.Expr.Call renaming elim->Ut
open PySem.Expr.Attribute renaming elim->Uu
open PySem.Expr.Subscript renaming elim->Uv
open Prod renaming fst->XT
open PySem.Calls renaming evalArgs_plain->XY,Name_function_global->yD,loadGlobal_builtin->yE
open PySem.Expr.Tuple renaming elim->Yc
open PyProof.Rows.F renaming plain_set_update_loop->Yq,entry_set_update_loop->Aak
open PySem.pickOrder renaming go->Yv
open PySem.Builtin.Frozenset renaming sizeOf->Yw,newClass->AlD,updateFrom->AlE
open PySem.Expr.ListComp renaming elim->YK
open PySem.swapsWith renaming match_1->YQ
open PySem.W.WShape renaming has->Y4
open PySem.Sem renaming wp->Y5,wp_pure'->AbD,wp_bind'->AbE
open PySem.SeqAt renaming shaped->yP
open PySem.W.Looks renaming of_pure->zC
open PySem.Txt renaming startswith->Aad
open PySem.Builtin.Str renaming occurrences->Aae
open Prod.mk renaming injEq->Aag
open PySem.Shared renaming TypeIs->Aaq
open PySem.Builtin.List renaming listLengthHint->AaF,listExtendWith->AaG,listSameRef->AaH,listFitsIndex->Alx,listTooLong->Aly
open PySem.Builtin.Dict renaming updateFrom->AaN,pairItems->AlG,selfAndRest->AlH
open PySem.EqBoolInt renaming of_rcne->AaQ
open PySem.Expr.Constant renaming elim->AaR
open PySem.Expr.BinOp renaming elim->AaS
open PySem.Expr.UnaryOp renaming elim->AaT
open PySem.Expr.Compare renaming elim->AaU
open PySem.Expr.IfExp renaming elim->AaV
open PySem.Expr.BoolOp renaming elim->AaW
open PySem.Expr.Slice renaming elim->AaX
open PySem.Expr.List renaming elim->AaY
open PySem.Expr.Dict renaming elim->AaZ
open PySem.Stmt.Assign renaming elim->Aa0
open PySem.Stmt.If renaming elim->Aa1
open PySem.Stmt.While renaming elim->Aa2
open PySem.Stmt.For renaming elim->Aa3
open PySem.Stmt.Expr renaming elim->Aa4
open PySem.Stmt.Return renaming elim->Aa5
open PySem.Stmt.Break renaming elim->Aa6
open Decidable renaming not_not->Aa8
open PySem.attributeBase renaming match_7->Abb
open PySem.swappedStores renaming match_8->Abd,match_5->AlQ,match_1->AlR
open PySem.Stmt.FunctionDef renaming elim->Abe
open PySem.W.WData renaming int->Abw
open PySem.MeetsSeq renaming list_pop_at->Alz
open PySem.Heap.IsSliceOf renaming new->AlA
open PySem.MeetsSeq.EqGives renaming int->AlC
open PySem.SeqAt.RcNeAt renaming lists->AlI,lists_lengths->AlJ
open PySem.foldedSetIterable renaming match_3->AlP
open PySem PySem.W PySem.Calls PyProof.Rows
set_option Elab.async false
set_option maxRecDepth 100000
set_option autoImplicit false
set_option linter.all false
set_option tactic.hygienic false
set_option bootstrap.genMatcherCode false
namespace Mine.Internal
variable{a m b d j n i tk ep NB:Nat}{x:Str}{o:Obj}{e:Expr}{C da S:Addr}{h' h:Heap}{f v:Ac}{w:A7}{sc scope:BF}{op:FL}{A:BB}{s':Aj}{nm:String}{t:EK}{tg Cs:List Nat}{Ab:List Int}{p:Array Nat}{ts:List Expr}{body:List Stmt}{wr As:List Addr}{Db us ord:List Ac}{mm:List (Nat×Int)}{g:Str->Option Addr}{rws:List (List Int)}{binds:List (Str×Ac)}{mo:List (Str×GR)}{Cg:List (Option Nat)}{ns names:List (Str×Bi)}{Ae:List (List (Nat×Nat))}
theorem N1{k:Nat}(h:a<=k)(e:Cf k m=true):a<=m:=AP h (Ds e)
theorem N2{k:Nat}(h:a<=k)(e:Cf (k+1) m=true):a<m:=B7 (To h) (Ds e)
theorem N3{k:Nat}(h:a<k)(e:Cf k (m+1)=true):a<=m:=EL (B7 h (Ds e))
theorem N4{k:Nat}(h:a<k)(e:Cf k m=true):a<m:=B7 h (Ds e)
theorem N5{k:Nat}(h:a=k)(e:Cf k m=true):a<=m:=h▸Ds e
theorem N6{k:Nat}(h:a=k)(e:Cf m k=true):m<=a:=h▸Ds e
theorem N7{c:Nat}(h:a=b)(k:b<=c):a<=c:=h▸k
theorem N8{c:Nat}(h:a=b)(k:a<=c):b<=c:=h▸k
theorem N9{c:Nat}(h:a=b)(k:c<=b):c<=a:=h▸k
theorem KT{c:Nat}(h:a=b)(k:c<=a):c<=b:=h▸k
theorem Mh{c:Nat}(h:a=b)(k:b<c):a<c:=h▸k
theorem Y7{c:Nat}(h:a=b)(k:a<c):b<c:=h▸k
theorem Gr{c:Nat}(h:a=b)(k:c<b):c<a:=h▸k
theorem N14{c:Nat}(h:a=b)(k:c<a):c<b:=h▸k
theorem Ix{x y:Nat}(h:a=x\/a=y)(e:Cf x m=true)(f:Cf y m=true):a<=m:=h.elim (λh=>N5 h e) λh=>N5 h f
theorem Q3{x y:Nat}(h:a=x\/a=y)(e:Cf m x=true)(f:Cf m y=true):m<=a:=h.elim (λh=>N6 h e) λh=>N6 h f
theorem CN(h:a+b<=m):a<=m:=AP (Gh _ _) h
theorem UA(h:a+b<=m):b<=m:=AP (Hr _ _) h
theorem NV{c:Nat}(h:a<=b)(k:c<=d)(e:Cf (b+d) m=true):a+c<=m:=AP (AI h k) (Ds e)
theorem Mi{k:Nat}(h:a<=k)(e:Cf (b+k) m=true):b+a<=m:=AP (Kq h b) (Ds e)
theorem KU{k:Nat}(h:a<=k)(e:Cf (k+b) m=true):a+b<=m:=AP (Kr h b) (Ds e)
theorem GW(h:a<b):¬b<=a:=XA h
theorem Y8(h:0<a):a≠0:=Js h
theorem Q4{c:Nat}(h:a<=b):min a c<=b:=AP (NA a c) h
theorem Mj{c:Nat}(h:a<=b):min c a<=b:=AP (Ks c a) h
theorem Mk{a b:Int}(h:b<a):a≠b:=λe=>Tp b (e▸h)
theorem N30{a b:Int}(h:a<b):a≠b:=λe=>Tp a (e▸h)
theorem Q5{a b c:Int}(h:a=b)(k:b<c):a<c:=h▸k
theorem UB{a b c:Int}(h:a=b)(k:c<b):c<a:=h▸k
theorem N34{a b c:Int}(h:a=b)(k:c<a):c<b:=h▸k
theorem Y9{a b c:Int}(h:a=b)(k:c<=b):c<=a:=h▸k
theorem JN(h:0<a):(0:Int)<a:=Int.natCast_pos.mpr h
theorem Za{a k m:Int}(h:a<=k)(e:decide (k<=m)=true):a<=m:=Qg h (of_decide_eq_true e)
theorem UC{a k m:Int}(h:a<=k)(e:decide (k<m)=true):a<m:=Tq h (of_decide_eq_true e)
theorem Ml{a k m:Int}(h:k<=a)(e:decide (m<=k)=true):m<=a:=Qg (of_decide_eq_true e) h
theorem Zb{a k m:Int}(h:a=k)(e:decide (m<=k)=true):m<=a:=h▸of_decide_eq_true e
theorem UD(h:a<b):1<=b:=DT (Cq a) h
theorem HJ(h:a=b):b<=a:=BA h.symm
theorem UE{c:Nat}(h:c=a+b):a<=c:=h▸Gh _ _
theorem N50(h:a=b)(k:a<b):False:=Dh k h
theorem Zc{a b:Int}(h:a<b)(k:b<=a):False:=Hs.mpr k h
theorem NW(h:(a:Int)<b):a<b:=Ic.mp h
theorem UF(h:a<b):(a:Int)<b:=Ic.mpr h
theorem UG(h:(a:Int)<=b):a<=b:=Ie.mp h
theorem Q6(h:a<=b):(a:Int)<=b:=Ie.mpr h
theorem N57{b:Int}(h:0<a)(k:b=(a:Int)):0<b:=k▸JN h
theorem N58{b:Int}(h:0<=b)(k:b<(a:Int)):b.toNat<a:=(Int.toNat_lt h).mpr k
theorem Zd{a:Int}(h:0<=a):a=(a.toNat:Int):=(Int.toNat_of_nonneg h).symm
theorem N60{k:Nat}{m:Int}(h:a<=k)(e:decide ((k:Int)<m)=true):(a:Int)<m:=Tq (Q6 h) (of_decide_eq_true e)
theorem Iy{k:Nat}{m:Int}(h:a<k)(e:decide ((k:Int)<=m)=true):(a:Int)<m:=wL (UF h) (of_decide_eq_true e)
theorem N63{k:Nat}{j m:Int}(h:a<=k)(e:decide ((k:Int)+j<m)=true):(a:Int)+j<m:=Tq (wM (Q6 h) j) (of_decide_eq_true e)
theorem N64{k:Nat}{j m:Int}(h:a<=k)(e:decide ((k:Int)+j<=m)=true):(a:Int)+j<=m:=Qg (wM (Q6 h) j) (of_decide_eq_true e)
theorem Q7{j m:Int}(e:decide (m<=j)=true):m<=(a:Int)+j:=Qg (of_decide_eq_true e) (wN (B8 a))
theorem N66{j m:Int}(e:decide (m<j)=true):m<(a:Int)+j:=wL (of_decide_eq_true e) (wN (B8 a))
theorem UH{a b:Int}(h:a<b)(k:b<a):False:=Tp a (Ts h k)
theorem Ze{c:Nat}(h:a+c<b):a<b:=DT (Gh a c) h
theorem Zf{c:Nat}(h:a<b):a+1<=b+c:=AP h (Gh b c)
theorem Bt{l r s t:Nat}(h:l<=r)(e:s+r<=t+l:=by simp+arith only):s<=t:=Nat.le_of_add_le_add_right (AP e (Kq h t))
theorem M1{c e f g:Nat}(h0:a=b)(h1:c+(d+a)+(e+f)<=3*g)(h2:1<b):c+1+(d+1)+(e+0)<=3*g:=Bt (AI h1 (AI h2 (BA h0.symm)))
theorem M2{c e f g:Nat}(h0:a=b)(h1:c+(d+a)+(e+f)<=3*g)(h2:1<=b)(h3:b<=1)(h4:1<=f):c+1+(d+1)+(e+0)<=3*g:=Bt (AI h1 (AI h2 (AI h4 (BA h0.symm))))
theorem M3{c e f g:Nat}(h0:a=b)(h1:c<=d)(h2:1<=b)(h3:e+(f+a)+g<=3*c):f+1+(d-c)<=4*d:=Bt (AI h3 (AI h2 (AI (BA h0.symm) (AI (DU 3 h1) (Kt d c)))))
theorem M4{c e f g:Nat}(h0:a<=3)(h1:b=c+(1+d))(h2:e=c+f+d)(h3:4<=g+1)(h4:¬(4<=g))(h5:b<=1+2*g)(h6:f<=a):e+(g+1)<=13:=Bt (AI (BA h2) (AI (BA h1.symm) (AI h5 (AI h6 (AI h0 (DU 3 (Ku h4)))))))
theorem M5{c e f:Nat}(h0:a<=101)(h1:b+c+d<=3*e)(h2:f<=b)(h3:e<=a):f<=4000:=Bt (AI h2 (AI h1 (AI (DU 3 h3) (DU 3 h0))))
theorem M6{c e:Nat}(h0:a<=100000)(h1:b+(c+d+(0+1))=a)(h2:e+(0+1)<=c+d+(0+1)):e<=100000:=Bt (AI h0 (AI (BA h1) h2))
theorem M7{c e:Nat}(h0:a<=101)(h1:b+c+d<=3*a)(h2:e<=b):e+a<=10000:=Bt (AI h2 (AI h1 (DU 4 h0)))
theorem M8{c e:Nat}(h0:a<=101)(h1:b+c+d<=3*a)(h2:e<=b):e<=4000:=Bt (AI h2 (AI h1 (DU 3 h0)))
theorem M9{c:Nat}(h0:a+20<b)(h1:c<=8):a+min c d<b:=Bt (AI h0 (AI h1 (NA c d)))
theorem M10{c:Nat}(h0:a+b+c<=3*d):a+1+(b+1)+(c+1)<=3*(d+1):=Bt h0
theorem Zg{c:Nat}(h0:a<=8)(h1:b+100*c<=9000):b+1+min a d<9900:=Bt (AI h0 (AI h1 (NA a d)))
theorem M12{c:Nat}(h0:a<=9)(h1:b=a)(h2:c=min d b):c<=100:=Bt (AI h0 (AI (BA h1) (AI (BA h2) (Ks d b))))
theorem M13{c:Nat}(h0:a<=b)(h1:c<=d):a+c<b+(d+1):=To (AI h0 h1)
theorem M14{c:Nat}(h0:a<=b+1)(h1:c<=a+d):c<=b+(d+1):=Bt (AI h0 h1)
theorem M15{c:Nat}(h0:2<=a)(h1:b=c)(h2:c=a):0<b:=Bt (AI h0 (AI (BA h1.symm) (BA h2.symm)))
theorem Zh{c:Nat}(h0:3*a<b+1+c):3*a<b+(c+1):=Bt h0
theorem M17{c:Nat}(h0:a+(b+1)+1<c):a+1+b+1<c:=Bt h0
theorem M18{c:Nat}(h0:a+100*(b+1)<=9000)(h1:c<=10):a+c+100*b<=9000:=Bt (AI h0 h1)
theorem M19{c:Nat}(h0:a+8*(b+1)<=900)(h1:c<=2):a+c+8*b<=900:=Bt (AI h0 h1)
theorem M20{c:Nat}(h0:a+b<=4900)(h1:c<=a+1):c<=9000:=Bt (AI h0 h1)
theorem M21{c:Nat}(h0:a=6)(h1:b<=a)(h2:c+1<=b):c+1+1<4611686018427387904:=Bt (AI (BA h0) (AI h1 h2))
theorem M22{c:Nat}(h0:a=b+c):a+1=b+(c+1):=congrArg Qh h0
theorem M23{c:Nat}(h0:a=b+c):a+1=b+1+c:=(congrArg Qh h0).trans (wO b c).symm
theorem M24{c:Nat}(h0:a<=10)(h1:b<=11*c):b+(a+1)<=11*(c+1):=Bt (AI h0 h1)
theorem M25{c:Nat}(h0:a<=10)(h1:b<=50)(h2:c<=11*b):c+(a+1)<=1000:=Bt (AI h0 (AI (DU 11 h1) h2))
theorem M26{c:Nat}(h0:a<=3)(h1:b=a)(h2:c<b):c+1<=4:=Bt (AI h0 (AI (BA h1) h2))
theorem Zi{c:Nat}(h0:a<=9000)(h1:b<=c+1)(h2:c<a):b<=10000:=Bt (AI h0 (AI h1 h2))
theorem M28{c:Nat}(h0:a<=b):a+1<=c+(0+1)+b:=Bt h0
theorem M29{c:Nat}(h0:a<=b+1)(h1:b+(c+1)<=4900):a<=9000:=Bt (AI h0 h1)
theorem M30{a b:Int}(h0:(0:Int)<a)(h1:((0:Int)<b/\a=(-b))):False:=Tp 0 (Ts h0 (h1.2.symm▸XB h1.1))
theorem M31{a b:Int}(h0:a=(-b))(h1:b=(0:Int)):a=(0:Int):=h0.trans (congrArg Neg.neg h1)
theorem M32{a b:Int}(h0:a=(1048576:Int))(h1:b=a):(0:Int)<b:=UB (h1.trans h0) (of_decide_eq_true rfl)
theorem Zj{a b:Int}(h0:¬(a=(0:Int)))(h1:a=b):b≠(0:Int):=h1▸h0
theorem M34(h0:(1<=a/\a<=3))(h1:b=2+a+a):b<1000:=Bt (AI h0.2 (AI h0.2 (BA h1)))
theorem M35(h0:0<a)(h1:b<=a-1):b<a:=DT h1 (wP h0 wQ)
theorem M36(h0:6<=a):¬((a=b/\b<6)):=λx=>XA x.2 (x.1▸h0)
theorem M37(h0:a+100*(b+1)<=9000):a+3+100*b<=9000:=Bt h0
theorem M38(h0:a+100*(b+2)<=9000):a+3+100*(b+1)<=9000:=Bt h0
theorem M39(h0:a+100*b<=9000):a+1+30<9900:=Bt h0
theorem M40(h0:a+100*b<=9000):a+1+40<9900:=Bt h0
theorem M41(h0:a+30<b):a+20<b:=Bt h0
theorem M42(h0:a+30<b):a+8+1<b:=Bt h0
theorem M43(h0:a+8*(b+1)<=900):a+1+8*b<=900:=Bt h0
theorem M44(h0:a+8*(b+2)<=900):a+1+8*(b+1)<=900:=Bt h0
theorem M45(h0:a<4)(h1:((b-1)*4+a)/4+1=b):((b-1)*4+a)%4=a:=Nat.mul_add_mod_of_lt h0
theorem M46(h0:a<b)(h1:b<=a+1):a+1=b:=EM h0 h1
theorem M47(h0:a<b):min (a+1) b=a+1:=Jt h0
theorem M48(h0:a=2+b+b):0<a:=Bt (BA h0.symm)
theorem M49(h0:a=b+1):a-1=b:=Nat.sub_eq_of_eq_add h0
theorem Zk(h0:a<=1+2*b)(h1:b<30):a<=100:=Bt (AI h0 (DU 2 h1))
theorem M51(h0:¬(b<=a)):(a+b)/2<b:=Nat.div_lt_of_lt_mul (Bt (Ku h0))
theorem M52:(a+b:Int)-(b:Int)-(0:Int)=(a:Int):=(wR _).trans (wS _ _)
theorem Zl:a+1+b=a+(b+1):=wO a b
theorem M54{a:Int}(h0:a<(0:Int)):(0:Int)<(0:Int)-a:=Int.sub_pos_of_lt h0
theorem qM(h:a=n)(p:Cf 1 n=true)(q:Cf n 3=true):1<=a/\a<=3:=⟨N6 h p,N5 h q⟩
theorem M55(h0:(a=2\/(a=1\/(a=2\/a=3)))):(1<=a/\a<=3):=h0.elim (λh=>qM h rfl rfl) λh=>h.elim (λh=>qM h rfl rfl) λh=>h.elim (λh=>qM h rfl rfl) λh=>qM h rfl rfl
theorem Zm(h0:0<a):(-(a:Int))≠(0:Int):=λh=>Js h0 (Int.natCast_eq_zero.mp (Int.neg_eq_zero.mp h))
theorem NX(h0:1<=a)(h1:a<=3):(a=1\/(a=2\/a=3)):=(wT h0).elim (λe=>.inl e.symm) λh=>(wT h).elim (λe=>.inr (.inl e.symm)) λh=>.inr (.inr (EM h1 h))
theorem Zn:((-(1:Int))+((a:Int)+(1:Int))).toNat=a:=congrArg Int.toNat ((wU _ _).trans (wV a 1))
theorem Zo:((a:Int)-(0:Int)-(1:Int))/(1:Int)+(1:Int)=(a:Int):=(congrArg (· +(1:Int)) (wW _)).trans ((Int.sub_add_cancel _ 1).trans (wR _))
theorem M61{b:Int}(h0:(-(a:Int))<=b)(h1:a<2^62):(-((2:Int)^63))<=b:=Qg (wX (Tt (Iy h1 (by decide)))) h0
theorem M62{b:Int}(h0:0<a)(h1:b<(a:Int)):(b).toNat<a:=(Int.toNat_lt' h0).mpr h1
theorem M63{b:Int}(h0:a<=100)(h1:(b).toNat<=a):min (b).toNat a+(a-(b).toNat+1)<=101:=Bt (AI (NA b.toNat a) (AI (BA (LV h1)) h0))
theorem Zp{a:Int}(h0:b<2^62)(h1:(a).toNat<b):a<(2:Int)^63:=Tq (Int.self_le_toNat a) (Iy (FM h1 h0) (by decide))
theorem UI{c:Nat}{a b:Int}(h0:a=(-b))(h1:a=(-(c:Int))):b=(c:Int):=Int.neg_inj.mp (h0.symm.trans h1)
theorem M66{c:Nat}{a b:Int}(h0:a=b)(h1:b=(-(c:Int)))(h2:c<5):(-(1000:Int))<=a:=(h0.trans h1).symm▸wX (Tt (Iy h2 (by decide)))
theorem M67{l N M:Nat}(h0:j<l)(h1:n<=5)(h2:N=l+n)(h3:n=0/\M=m\/M<m):6*M+(N-(j+1))<6*m+(l-j):=
 have a:=BA (LV (m:=j+1) (n:=N) (h2▸AP h0 (Gh l n)));have b:=BA (LV (Ht h0)).symm;have e:=BA h2
 h3.elim (λh=>Bt (AI a (AI b (AI e (AI (BA h.1) (DU 6 (BA h.2))))))) λh=>Bt (AI a (AI b (AI e (AI h1 (DU 6 h)))))
theorem M68{l N M:Nat}(h0:l+5*m<=60)(h1:n<=5)(h2:N=l+n)(h3:n=0/\M=m\/M<m):N+5*M<=60:=
 have e:=BA h2
 h3.elim (λh=>Bt (AI h0 (AI e (AI (BA h.1) (DU 5 (BA h.2)))))) λh=>Bt (AI h0 (AI e (AI h1 (DU 5 h))))
theorem M69{r s:Nat}(h0:1<=r)(h1:s<4):((r-1)*4+s) / 4+1=r:=(congrArg (· +1) (Nat.div_eq_of_lt_le (Gh _ s) (Bt h1))).trans (LV h0)
theorem M70{k r s:Nat}(h0:1<=r)(h1:s<4)(h2:r<=k):(r-1)*4+s<4*k:=Bt (AI h1 (DU 4 (AP (BA (LV h0)) h2)))
theorem M71{k r s:Nat}(h0:1<=r)(h1:¬r<=k):4*k<=(r-1)*4+s:=Bt (DU 4 (AP (Ku h1) (BA (LV h0).symm)))
theorem M73{r:Nat}(h0:r-a<b)(h1:b=4-m)(h2:a=m):r+1<=4:=Ku λh=>Hu _ (B7 (Mh (congrArg (r- ·) h2.symm) (B7 h0 (BA h1))) (Nat.sub_le_sub_right h m))
theorem M74{P f l0 p0 kl kp:Nat}(h0:P<=100000)(h1:f+(p0+kp+(0+1))=P)(h2:kl<=kp)(h3:l0<=p0):l0+min i kl<=100000:=Bt (AI h0 (AI (BA h1) (AI h2 (AI h3 (Ks i kl)))))
theorem M75{c w k:Nat}(h0:w<=1000)(h1:b<=10000)(h2:b=a+c):a+1+(w-k)<=100000:=Bt (AI h0 (AI h1 (AI (BA h2.symm) (Kt w k))))
theorem M77{m:Int}(h0:0<m)(h1:m<1000):m.natAbs<1073741824:=N4 (NW (b:=1000) (Q5 (Int.natAbs_of_nonneg (Tt h0)) h1)) rfl
theorem M78(h0:d+1<n)(h1:n<=3):d=0\/d=1:=(wY d).imp_right λh=>EM (EL (XC (B7 h0 h1))) h
theorem M79(h:1<=m/\m<=3):(if 4-(m:Int)>1 then 4-(m:Int) else 1)=((4-m:Nat):Int):=by
 have e:(4:Int)-m=((4-m:Nat):Int):=(Int.ofNat_sub (N1 h.2 rfl)).symm;rw[e];split
 ·rfl
 ·rename_i q;exact Int.le_antisymm (Q6 (wZ (N2 h.2 rfl))) (Hs.mp q)
theorem M80{r e:Nat}(h0:r=m)(h1:i<4-m)(h2:e=i):r+e+1<=1000:=Bt (AI (BA h0) (AI (BA h2) (Nat.add_lt_of_lt_sub h1)))
theorem M81{k:Nat}(h:n<=100):min k n+1+(n-k)<=1000:=Bt (AI (Ks k n) (AI (Kt n k) (AI h h)))
theorem M82(h0:n<=3)(h1:a+(b+1)<=1+2*j):a+(n+b)<=1+2*(j+1):=Bt (AI h0 h1)
theorem M83{k X Y:Nat}(h0:n<=3)(h1:X=a+(1+b))(h2:Y=a+k+b)(h3:X<=1+2*j)(h4:k<=n):Y<=1+2*(j+1):=Bt (AI h0 (AI (BA h1.symm) (AI (BA h2) (AI h3 h4))))
theorem M84{k X Y:Nat}(h1:X=a+(1+b))(h2:Y=a+k+b)(h3:X+j<=13)(h4:k=0):Y+(j+1)<=13:=Bt (AI (BA h1.symm) (AI (BA h2) (AI h3 (BA h4))))
theorem M85{P:Prop}(h0:n<2)(h1:i<j)(h2:j<n):P:=absurd (B7 h1 (EL (B7 h2 (EL h0)))) (Gi i)
theorem M86{a b k:Int}{P:Prop}(h0:0<a)(h1:b= -a)(h2:b=k)(h3:0<=k):P:=absurd h3 (XD.mpr (Q5 (h2.symm.trans h1) (XB h0)))
theorem M87{v x:Nat}(h0:v=x)(h1:x+1<b)(h2:a<=i)(h3:i<v):a+1<b:=DT (AP (Tu h2) (KT h0 h3)) (Nat.lt_of_succ_lt h1)
theorem M88{w s f k:Nat}{P:Prop}(h0:3*w<0+n)(h1:n+s+f<=3*k)(h2:k<=w):P:=absurd (Bt (s:=3*w+1) (t:=3*w) (AI h0 (AI h1 (DU 3 h2)))) (Hu _)
theorem M92{l r:Nat}(h:l<=r):l<=(l+r) / 2:=(Nat.le_div_iff_mul_le (by decide)).mpr (Bt h)
theorem M93(h:a+40<b):a+1+30<b:=Bt h
theorem m4{t:Nat}(h:t∈[a,b,a,a]):t=a\/t=b:=(Bo.mp h).elim .inl λh=>(Bo.mp h).elim .inr λh=>.inl ((Bo.mp h).elim id B3.mp)
theorem hide{P:Prop}(h:∀G:Prop,(P->G)->G):P:=h P id
theorem pf{P:Prop}(h:P):P:=h
theorem AA{α:Type}{a:α}{P:Prop}(h:none=some a):P:=nomatch h
theorem BR{α:Type}{a:α}{P:Prop}(h:some a=none):P:=nomatch h
theorem Iz{α:Type}{a:α}{l:List α}{P:Prop}(h: []=a::l):P:=nomatch h
theorem Mm{α:Type}{a:α}{l:List α}{P:Prop}(h:a::l= []):P:=nomatch h
theorem NY{P:Prop}(h:true=false):P:=nomatch h
theorem AJ{P:Prop}(h:false=true):P:=nomatch h
@[elab_as_elim] theorem Aa{α:Sort _}{a b:α}{motive:α->Prop}(h:a=b)(x:motive b):motive a:=h▸x
@[elab_as_elim] theorem AS{α:Sort _}{a b:α}{motive:α->Prop}(h:a=b)(x:motive a):motive b:=h▸x
theorem Ah{p q G:Prop}(h:p/\q)(k:p->q->G):G:=k h.1 h.2
theorem Bq{p q r G:Prop}(h:p/\q/\r)(k:p->q->r->G):G:=Ah h.2 (k h.1)
theorem JO{p q r s G:Prop}(h:p/\q/\r/\s)(k:p->q->r->s->G):G:=Bq h.2 (k h.1)
theorem Mo{p q r s t G:Prop}(h:p/\q/\r/\s/\t)(k:p->q->r->s->t->G):G:=JO h.2 (k h.1)
theorem Mp{p q r s t u G:Prop}(h:p/\q/\r/\s/\t/\u)(k:p->q->r->s->t->u->G):G:=Mo h.2 (k h.1)
theorem UJ{p q r s t u v G:Prop}(h:p/\q/\r/\s/\t/\u/\v)(k:p->q->r->s->t->u->v->G):G:=Mp h.2 (k h.1)
theorem Ar{A:Type}{p:A->Prop}{G:Prop}(h:∃a,p a)(k:∀a,p a->G):G:=h.elim λa h=>k a h
theorem Ad{A:Type}{p q:A->Prop}{G:Prop}(h:∃a,p a/\q a)(k:∀a,p a->q a->G):G:=h.elim λa h=>Ah h (k a)
theorem Ch{A:Type}{p q r:A->Prop}{G:Prop}(h:∃a,p a/\q a/\r a)(k:∀a,p a->q a->r a->G):G:=h.elim λa h=>Bq h (k a)
theorem Fd{A:Type}{p q r s:A->Prop}{G:Prop}(h:∃a,p a/\q a/\r a/\s a)(k:∀a,p a->q a->r a->s a->G):G:=h.elim λa h=>JO h (k a)
theorem Mq{A:Type}{p q r s t:A->Prop}{G:Prop}(h:∃a,p a/\q a/\r a/\s a/\t a)(k:∀a,p a->q a->r a->s a->t a->G):G:=h.elim λa h=>Mo h (k a)
theorem UK{A:Type}{p q r s t u v:A->Prop}{G:Prop}(h:∃a,p a/\q a/\r a/\s a/\t a/\u a/\v a)(k:∀a,p a->q a->r a->s a->t a->u a->v a->G):G:=h.elim λa h=>UJ h (k a)
theorem DO{A B:Type}{p:A->B->Prop}{G:Prop}(h:∃a b,p a b)(k:∀a b,p a b->G):G:=h.elim λa h=>Ar h (k a)
theorem Br{A B:Type}{p q:A->B->Prop}{G:Prop}(h:∃a b,p a b/\q a b)(k:∀a b,p a b->q a b->G):G:=h.elim λa h=>Ad h (k a)
theorem BS{A B:Type}{p q r:A->B->Prop}{G:Prop}(h:∃a b,p a b/\q a b/\r a b)(k:∀a b,p a b->q a b->r a b->G):G:=h.elim λa h=>Ch h (k a)
theorem GX{A B:Type}{p q r s:A->B->Prop}{G:Prop}(h:∃a b,p a b/\q a b/\r a b/\s a b)(k:∀a b,p a b->q a b->r a b->s a b->G):G:=h.elim λa h=>Fd h (k a)
theorem NZ{A B:Type}{p q r s t:A->B->Prop}{G:Prop}(h:∃a b,p a b/\q a b/\r a b/\s a b/\t a b)(k:∀a b,p a b->q a b->r a b->s a b->t a b->G):G:=h.elim λa h=>Mq h (k a)
theorem Zq{A B:Type}{p q r s t u v:A->B->Prop}{G:Prop}(h:∃a b,p a b/\q a b/\r a b/\s a b/\t a b/\u a b/\v a b)(k:∀a b,p a b->q a b->r a b->s a b->t a b->u a b->v a b->G):G:=h.elim λa h=>UK h (k a)
theorem N0{A B C:Type}{p:A->B->C->Prop}{G:Prop}(h:∃a b c,p a b c)(k:∀a b c,p a b c->G):G:=h.elim λa h=>DO h (k a)
theorem B9{A B C:Type}{p q:A->B->C->Prop}{G:Prop}(h:∃a b c,p a b c/\q a b c)(k:∀a b c,p a b c->q a b c->G):G:=h.elim λa h=>Br h (k a)
theorem UL{A B C:Type}{p q r:A->B->C->Prop}{G:Prop}(h:∃a b c,p a b c/\q a b c/\r a b c)(k:∀a b c,p a b c->q a b c->r a b c->G):G:=h.elim λa h=>BS h (k a)
theorem GY{A B C:Type}{p q r s:A->B->C->Prop}{G:Prop}(h:∃a b c,p a b c/\q a b c/\r a b c/\s a b c)(k:∀a b c,p a b c->q a b c->r a b c->s a b c->G):G:=h.elim λa h=>GX h (k a)
theorem Zr{A B C:Type}{p q r s t:A->B->C->Prop}{G:Prop}(h:∃a b c,p a b c/\q a b c/\r a b c/\s a b c/\t a b c)(k:∀a b c,p a b c->q a b c->r a b c->s a b c->t a b c->G):G:=h.elim λa h=>NZ h (k a)
theorem UM{A B C:Type}{p q r s t u:A->B->C->Prop}{G:Prop}(h:∃a b c,p a b c/\q a b c/\r a b c/\s a b c/\t a b c/\u a b c)(k:∀a b c,p a b c->q a b c->r a b c->s a b c->t a b c->u a b c->G):G:=h.elim λa h=>h.elim λb h=>h.elim λc h=>Mp h (k a b c)
theorem Ea{A B C D:Type}{p q:A->B->C->D->Prop}{G:Prop}(h:∃a b c d,p a b c d/\q a b c d)(k:∀a b c d,p a b c d->q a b c d->G):G:=h.elim λa h=>B9 h (k a)
theorem Q8{A B C D:Type}{p q r s:A->B->C->D->Prop}{G:Prop}(h:∃a b c d,p a b c d/\q a b c d/\r a b c d/\s a b c d)(k:∀a b c d,p a b c d->q a b c d->r a b c d->s a b c d->G):G:=h.elim λa h=>GY h (k a)
theorem UN{A B C D:Type}{p q r s t u:A->B->C->D->Prop}{G:Prop}(h:∃a b c d,p a b c d/\q a b c d/\r a b c d/\s a b c d/\t a b c d/\u a b c d)(k:∀a b c d,p a b c d->q a b c d->r a b c d->s a b c d->t a b c d->u a b c d->G):G:=h.elim λa h=>UM h (k a)
theorem UO{A B C D:Type}{p q r s t u v:A->B->C->D->Prop}{G:Prop}(h:∃a b c d,p a b c d/\q a b c d/\r a b c d/\s a b c d/\t a b c d/\u a b c d/\v a b c d)(k:∀a b c d,p a b c d->q a b c d->r a b c d->s a b c d->t a b c d->u a b c d->v a b c d->G):G:=h.elim λa h=>h.elim λb h=>Zq h (k a b)
theorem Q9{A B C D E:Type}{p q:A->B->C->D->E->Prop}{G:Prop}(h:∃a b c d e,p a b c d e/\q a b c d e)(k:∀a b c d e,p a b c d e->q a b c d e->G):G:=h.elim λa h=>Ea h (k a)
theorem e5_3{A B C D E:Type}{p q r:A->B->C->D->E->Prop}{G:Prop}(h:∃a b c d e,p a b c d e/\q a b c d e/\r a b c d e)(k:∀a b c d e,p a b c d e->q a b c d e->r a b c d e->G):G:=h.elim λa h=>h.elim λb h=>UL h (k a b)
theorem e5_4{A B C D E:Type}{p q r s:A->B->C->D->E->Prop}{G:Prop}(h:∃a b c d e,p a b c d e/\q a b c d e/\r a b c d e/\s a b c d e)(k:∀a b c d e,p a b c d e->q a b c d e->r a b c d e->s a b c d e->G):G:=h.elim λa h=>Q8 h (k a)
theorem Zs{A B C D E:Type}{p q r s t u:A->B->C->D->E->Prop}{G:Prop}(h:∃a b c d e,p a b c d e/\q a b c d e/\r a b c d e/\s a b c d e/\t a b c d e/\u a b c d e)(k:∀a b c d e,p a b c d e->q a b c d e->r a b c d e->s a b c d e->t a b c d e->u a b c d e->G):G:=h.elim λa h=>UN h (k a)
theorem e6_1{A B C D E F:Type}{p:A->B->C->D->E->F->Prop}{G:Prop}(h:∃a b c d e f,p a b c d e f)(k:∀a b c d e f,p a b c d e f->G):G:=h.elim λa h=>h.elim λb h=>h.elim λc h=>N0 h (k a b c)
theorem Zt{A B C D E F:Type}{p q r s t:A->B->C->D->E->F->Prop}{G:Prop}(h:∃a b c d e f,p a b c d e f/\q a b c d e f/\r a b c d e f/\s a b c d e f/\t a b c d e f)(k:∀a b c d e f,p a b c d e f->q a b c d e f->r a b c d e f->s a b c d e f->t a b c d e f->G):G:=h.elim λa h=>h.elim λb h=>h.elim λc h=>Zr h (k a b c)
theorem e7_5{A B C D E F H:Type}{p q r s t:A->B->C->D->E->F->H->Prop}{G:Prop}(h:∃a b c d e f g,p a b c d e f g/\q a b c d e f g/\r a b c d e f g/\s a b c d e f g/\t a b c d e f g)(k:∀a b c d e f g,p a b c d e f g->q a b c d e f g->r a b c d e f g->s a b c d e f g->t a b c d e f g->G):G:=h.elim λa h=>Zt h (k a)
set_option genSizeOf false
inductive AV where
 | none
 | bool (b:Bool)
 | int (i:Int)
 | str (s:Str)
 | raw (v:Ac)
 | ref (a:Addr)
 | obj (C da:Addr)
 | tup (xs:List AV)
 | lst (xs:List AV)
 | BH (ks vs:List AV)
 | inst (C:Addr) (ns:List Str) (vs:List AV)
noncomputable abbrev Fz:=Addr->Option Obj
variable{P:Fz}{hd:AV}{xs ks ys:List AV}{a2:Option AV}{κs:List (List AV)}
def Fz.le(F G:Fz):Prop:=∀a o,F a=some o->G a=some o
theorem Fz.le.refl{F:Fz}:F.le F:=λZ Z h=>h
theorem Fz.le.trans{F G H:Fz}(x:F.le G)(y:G.le H):F.le H:=λa o h=>y a o (x a o h)
set_option genInjectivity false
mutual
noncomputable def HK(w:A7):AV->Int
 | .int i=>hashInt i
 | .str s=>Kv w s
 | .tup xs=>XE (LW (GZ w xs))
 | _=>0
noncomputable def GZ(w:A7):List AV->List Int
 | []=>[]
 | x::xs=>HK w x::GZ w xs
end
mutual
noncomputable def AV.isKey:AV->Bool
 | .int _=>true
 | .str _=>true
 | .tup xs=>AV.areKeys xs
 | _=>false
noncomputable def AV.areKeys:List AV->Bool
 | []=>true
 | x::xs=>x.isKey&&AV.areKeys xs
end
theorem Bu{a b:Bool}(h:(a&&b)=true):a=true/\b=true:=(D7 _ _).mp h
theorem Zu{P:AV->Prop}{Q:List AV->Prop}(i:∀i,P (.int i))(s:∀x,P (.str x))(t:∀xs,Q xs->P (.tup xs))(n:Q [])(c:∀x xs,P x->Q xs->Q (x::xs))(a:AV):a.isKey=true->P a:=
 AV.rec (motive_1:=λa=>a.isKey=true->P a) (motive_2:=λxs=>AV.areKeys xs=true->Q xs) (λh=>AJ h) (λZ h=>AJ h) (λx Z=>i x) (λx Z=>s x) (λZ h=>AJ h) (λZ h=>AJ h) (λZ Z h=>AJ h) (λxs q h=>t xs (q h))
  (λZ Z h=>AJ h) (λZ Z Z Z h=>AJ h) (λZ Z Z Z h=>AJ h) (λZ=>n) (λx xs p q h=>c x xs (p (Bu h).1) (q (Bu h).2)) a
theorem keyL{P:AV->Prop}{Q:List AV->Prop}(p:∀a,a.isKey=true->P a)(n:Q [])(c:∀x xs,P x->Q xs->Q (x::xs))(xs:List AV):AV.areKeys xs=true->Q xs:=
 yA (motive:=λxs=>AV.areKeys xs=true->Q xs) (λZ=>n) (λx xs q h=>c x xs (p x (Bu h).1) (q (Bu h).2)) xs
theorem Oa{P:AV->Prop}(i:∀i,P (.int i))(s:∀x,P (.str x))(t:∀xs,AV.areKeys xs=true->P (.tup xs))(a:AV):a.isKey=true->P a:=
 AV.casesOn (motive_1:=λa=>a.isKey=true->P a) a (λh=>AJ h) (λZ h=>AJ h) (λx Z=>i x) (λx Z=>s x) (λZ h=>AJ h) (λZ h=>AJ h) (λZ Z h=>AJ h) (λxs h=>t xs h) (λZ h=>AJ h) (λZ Z h=>AJ h) (λZ Z Z h=>AJ h)
noncomputable def AV.isInt:AV->Bool
 | .int _=>true
 | _=>false
noncomputable def AV.isStr:AV->Bool
 | .str _=>true
 | _=>false
noncomputable def AV.isTup:AV->Bool
 | .tup xs=>AV.areKeys xs
 | _=>false
structure IB(w:A7)(es:List Ck)(ks:List AV):Prop where
 hash:es.map (·.hash)=ks.map (HK w)
 nodup:ks.Nodup
 Ra:ks.all AV.isInt=true\/ks.all AV.isStr=true\/ks.all AV.isTup=true
structure HM(ns:List Str):Prop where
 nd:ns.Nodup
 sz:ns.length<=100
inductive Dc:List Ck->List Str->Prop
 | nil:Dc [] []
 | cons {e:Ck} {n:Str} {t:Tok} {es:List Ck} {ns:List Str}:e.key= .str n t->Dc es ns->Dc (e::es) (n::ns)
inductive SeqAt(F:Fz)(T:String)(R:List Ac->Prop)(v:Ac):Prop
 | mk (a:Addr) (vs:List Ac) (n:Nat):v= .ref a->F a=some (AM T vs.toArray n)->R vs->SeqAt F T R v
inductive Zv(w:A7)(F:Fz)(ks:List AV)(R1 R2:List Ac->Prop)(v:Ac):Prop
 | mk (a:Addr) (es:List Ck) (n:Nat):v= .ref a->(a==NC)=false->F a=some (Dy es n)->IB w es ks->R1 (es.map (·.key))->R2 (es.map (·.val))->Zv w F ks R1 R2 v
inductive Zw(F:Fz)(C:Addr)(ns:List Str)(R:List Ac->Prop)(v:Ac):Prop
 | mk (a da:Addr) (es:List Ck) (n:Nat):v= .ref a->F a=some (Hv C da)->F da=some (Dy es n)->HM ns->Dc es ns->R (es.map (·.val))->Zw F C ns R v
inductive Zx(R:Ac->Prop)(S:List Ac->Prop)(vs:List Ac):Prop
 | mk (v:Ac) (us:List Ac):vs=v::us->R v->S us->Zx R S vs
mutual
noncomputable def Zy(w:A7)(F:Fz):AV->Ac->Prop
 | .none,v=>v= .none
 | .bool b,v=>v= .bool b
 | .int i,v=>∃t,v= .int i t
 | .str s,v=>∃t,v= .str s t
 | .raw u,v=>v=u
 | .ref a,v=>v= .ref a
 | .obj C da,v=>∃a,v= .ref a/\F a=some (Hv C da)
 | .tup xs,v=>SeqAt F "tuple" (FT w F xs) v
 | .lst xs,v=>SeqAt F "list" (FT w F xs) v
 | .BH ks us,v=>Zv w F ks (FT w F ks) (FT w F us) v
 | .inst C ns us,v=>Zw F C ns (FT w F us) v
noncomputable def FT(w:A7)(F:Fz):List AV->List Ac->Prop
 | [],vs=>vs= []
 | x::xs,vs=>Zx (Zy w F x) (FT w F xs) vs
end
abbrev Rep(w:A7)(F:Fz)(v:Ac)(x:AV):Prop:=Zy w F x v
abbrev Ao(w:A7)(F:Fz)(vs:List Ac)(xs:List AV):Prop:=FT w F xs vs
section
variable{w:A7}{F G:Fz}
theorem Rep.none:Rep w F .none .none:=rfl
theorem Rep.bool(b:Bool):Rep w F (.bool b) (.bool b):=rfl
theorem Rep.int(i:Int)(t:Tok):Rep w F (.int i t) (.int i):=⟨t,rfl⟩
theorem Rep.str(s:Str)(t:Tok):Rep w F (.str s t) (.str s):=⟨t,rfl⟩
theorem Rep.raw(v:Ac):Rep w F v (.raw v):=rfl
theorem Rep.ref(a:Addr):Rep w F (.ref a) (.ref a):=rfl
theorem Rep.obj{a:Addr}(h:F a=some (Hv C da)):Rep w F (.ref a) (.obj C da):=⟨a,rfl,h⟩
theorem Rep.tup{a:Addr}{vs:List Ac}(h:F a=some (AM "tuple" vs.toArray n))(r:Ao w F vs xs):Rep w F (.ref a) (.tup xs):=⟨a,vs,n,rfl,h,r⟩
theorem Rep.lst{a:Addr}{vs:List Ac}(h:F a=some (AM "list" vs.toArray n))(r:Ao w F vs xs):Rep w F (.ref a) (.lst xs):=⟨a,vs,n,rfl,h,r⟩
theorem Rep.BH{a:Addr}{es:List Ck}{vs:List AV}(m:(a==NC)=false)(h:F a=some (Dy es n))(k:IB w es ks)(r1:Ao w F (es.map (·.key)) ks)(r2:Ao w F (es.map (·.val)) vs):Rep w F (.ref a) (.BH ks vs):=
 ⟨a,es,n,rfl,m,h,k,r1,r2⟩
theorem Rep.inst{a:Addr}{es:List Ck}{ns:List Str}{vs:List AV}(h:F a=some (Hv C da))(h2:F da=some (Dy es n))(o:HM ns)(k:Dc es ns)(r:Ao w F (es.map (·.val)) vs):Rep w F (.ref a) (.inst C ns vs):=
 ⟨a,da,es,n,rfl,h,h2,o,k,r⟩
theorem Ao.nil:Ao w F [] []:=rfl
theorem Ao.cons{v:Ac}{x:AV}{vs:List Ac}{xs:List AV}(r:Rep w F v x)(q:Ao w F vs xs):Ao w F (v::vs) (x::xs):=⟨v,vs,rfl,r,q⟩
mutual
theorem Rep.mono(h:F.le G):∀{v:Ac}{x:AV},Rep w F v x->Rep w G v x
 | _,.none,e=>e
 | _,.bool _,e=>e
 | _,.int _,e=>e
 | _,.str _,e=>e
 | _,.raw _,e=>e
 | _,.ref _,e=>e
 | _,.obj _ _,⟨a,e,f⟩=>⟨a,e,h _ _ f⟩
 | _,.tup _,⟨a,vs,n,e,f,r⟩=>⟨a,vs,n,e,h _ _ f,Ao.mono h r⟩
 | _,.lst _,⟨a,vs,n,e,f,r⟩=>⟨a,vs,n,e,h _ _ f,Ao.mono h r⟩
 | _,.BH _ _,⟨a,es,n,e,m,f,k,r,q⟩=>⟨a,es,n,e,m,h _ _ f,k,Ao.mono h r,Ao.mono h q⟩
 | _,.inst _ _ _,⟨a,da,es,n,e,f,g,o,k,r⟩=>⟨a,da,es,n,e,h _ _ f,h _ _ g,o,k,Ao.mono h r⟩
theorem Ao.mono(h:F.le G):∀{vs:List Ac}{xs:List AV},Ao w F vs xs->Ao w G vs xs
 | _,[],e=>e
 | _,_::_,⟨v,us,e,r,q⟩=>⟨v,us,e,Rep.mono h r,Ao.mono h q⟩
end
theorem Ao.length:∀{vs:List Ac},Ao w F vs xs->vs.length=xs.length:=by
 induction xs with
 | nil=>intro vs r;subst r;rfl
 | cons x xs ih=>intro vs;intro hZ;obtain⟨v,us,rfl,_,q⟩:=hZ;exact congrArg Qh (ih q)
theorem Ao.append:∀{ys:List AV}{vs us:List Ac},Ao w F vs xs->Ao w F us ys->Ao w F (vs++us) (xs++ys):=by
 induction xs with
 | nil=>intro ys vs us r h;subst r;exact h
 | cons x xs ih=>intro ys vs us;intro hZ;obtain⟨v,us',rfl,r,q⟩:=hZ;intro h;exact .cons r (ih q h)
theorem Ao.get:∀{vs:List Ac},Ao w F vs xs->∀{i:Nat}{x:AV},xs[i]?=some x->∃v,vs[i]?=some v/\Rep w F v x:=by
 induction xs with
 | nil=>intro vs r i x h;exact AA h
 | cons y xs ih=>
  intro vs;intro hZ;obtain⟨v,us,rfl,r,q⟩:=hZ;intro i x h;cases i with
  | zero=>replace h:=Ay h;subst h;exact⟨v,rfl,r⟩
  | succ i=>exact ih q h
theorem Ao.get':∀{vs:List Ac},Ao w F vs xs->∀{i:Nat}{v:Ac},vs[i]?=some v->∃x,xs[i]?=some x/\Rep w F v x:=by
 induction xs with
 | nil=>intro vs r i x h;subst r;exact AA h
 | cons y xs ih=>
  intro vs;intro hZ;obtain⟨v,us,rfl,r,q⟩:=hZ;intro i x h;cases i with
  | zero=>replace h:=Ay h;subst h;exact⟨y,rfl,r⟩
  | succ i=>exact ih q h
theorem Ao.reverse:∀{vs:List Ac},Ao w F vs xs->Ao w F vs.reverse xs.reverse:=by
 induction xs with
 | nil=>intro vs r;subst r;exact .nil
 | cons x xs ih=>
  intro vs;intro hZ;obtain⟨v,us,rfl,r,q⟩:=hZ;refine Aa Qi<|Aa Qi ?_;exact Ao.append (ih q) (.cons r .nil)
theorem Ao.set{x:AV}(h:Rep w F v x):∀{vs:List Ac},Ao w F vs xs->∀(i:Nat),Ao w F (vs.set i v) (xs.set i x):=by
 induction xs with
 | nil=>intro vs r i;subst r;exact .nil
 | cons y xs ih=>
  intro vs;intro hZ;obtain⟨u,us,rfl,r,q⟩:=hZ;intro i;cases i with
  | zero=>exact .cons h q
  | succ i=>exact .cons r (ih q i)
theorem Ao.KV{vs:List Ac}(r:Ao w F (v::vs) ys):∃x xs,ys=x::xs/\Rep w F v x/\Ao w F vs xs:=by
 cases ys with
 | nil=>exact Mm r
 | cons y ys=>obtain⟨_,_,e,r1,r2⟩:=r;cases e;exact⟨_,_,rfl,r1,r2⟩
theorem Ao.Rc(r:Ao w F [] ys):ys= []:=by
 cases ys with
 | nil=>rfl
 | cons y ys=>obtain⟨_,_,e,_⟩:=r;exact Iz e
theorem FT.length{v:List Ac}{x:List AV}(r:FT w F x v):v.length=x.length:=Ao.length r
theorem FT.reverse{v:List Ac}{x:List AV}(r:FT w F x v):Ao w F v.reverse x.reverse:=Ao.reverse r
end
inductive BD where
 | list (xs:List AV)
 | dict (ks vs:List AV)
 | Dm (ns:List Str) (vs:List AV)
 | sset (ks:List Str)
variable{Os:List BD}
inductive Zz(w:A7)(F:Fz)(xs:List AV)(o:Obj):Prop
 | mk (vs:List Ac) (n:Nat):o=AM "list" vs.toArray n->Ao w F vs xs->Zz w F xs o
inductive ZA(w:A7)(F:Fz)(ks us:List AV)(o:Obj):Prop
 | mk (es:List Ck) (n:Nat):o=Dy es n->IB w es ks->Ao w F (es.map (·.key)) ks->Ao w F (es.map (·.val)) us->ZA w F ks us o
inductive ZB(w:A7)(F:Fz)(ns:List Str)(us:List AV)(o:Obj):Prop
 | mk (es:List Ck) (n:Nat):o=Dy es n->HM ns->Dc es ns->Ao w F (es.map (·.val)) us->ZB w F ns us o
inductive ZC(w:A7)(ks:List Str)(o:Obj):Prop
 | mk (es:Array (Int×Ac)) (ep:Nat) (t:EK):o=⟨.type "set",none,.set es ep t,#[]⟩->ks.Nodup->(∀e∈es.toList,∃x k,e.2= .str x k/\e.1=Kv w x)->(es.toList.map λe=>Qj e.2).Perm ks->
   es.size<Gj->t.fits es.size=true->t.led= !(w.params.followText "set-order")->(es.size≠0->t.plain=false)->ZC w ks o
noncomputable def Fe(w:A7)(F:Fz)(o:Obj):BD->Prop
 | .list xs=>Zz w F xs o
 | .dict ks us=>ZA w F ks us o
 | .Dm ns us=>ZB w F ns us o
 | .sset ks=>ZC w ks o
theorem Fe.list{F:Fz}{vs:List Ac}(r:Ao w F vs xs):Fe w F (AM "list" vs.toArray n) (.list xs):=⟨vs,n,rfl,r⟩
theorem Fe.dict{F:Fz}{es:List Ck}{vs:List AV}(k:IB w es ks)(r:Ao w F (es.map (·.key)) ks)(q:Ao w F (es.map (·.val)) vs):Fe w F (Dy es n) (.dict ks vs):=⟨es,n,rfl,k,r,q⟩
theorem Fe.Dm{F:Fz}{es:List Ck}{ns:List Str}{vs:List AV}(o:HM ns)(k:Dc es ns)(r:Ao w F (es.map (·.val)) vs):Fe w F (Dy es n) (.Dm ns vs):=⟨es,n,rfl,o,k,r⟩
theorem Fe.mono{F G:Fz}(h:F.le G):∀{ob:BD},Fe w F o ob->Fe w G o ob
 | .list _,⟨vs,n,e,r⟩=>⟨vs,n,e,r.mono h⟩
 | .dict _ _,⟨es,n,e,k,r,q⟩=>⟨es,n,e,k,r.mono h,q.mono h⟩
 | .Dm _ _,⟨es,n,e,o,k,r⟩=>⟨es,n,e,o,k,r.mono h⟩
 | .sset _,x=>x
noncomputable abbrev St:=Addr->Option BD
variable{V:St}
noncomputable def St.set(V:St)(a:Addr)(ob:BD):St:=λb=>if b=a then some ob else V b
noncomputable def St.emp:St:=λZ=>none
def St.le(V τ:St):Prop:=∀a ob,V a=some ob->τ a=some ob
@[simp] theorem St.AC{a:Addr}{ob:BD}:V.set a ob a=some ob:=by simp[St.set]
theorem St.Am{a b:Addr}{ob:BD}(h:b≠a):V.set a ob b=V b:=by simp[St.set,h]
noncomputable def Fz.set(F:Fz)(a:Addr)(o:Obj):Fz:=λb=>if b=a then some o else F b
@[simp] theorem Fz.AC{F:Fz}{a:Addr}:F.set a o a=some o:=by simp[Fz.set]
theorem Fz.Am{F:Fz}{a b:Addr}(h:b≠a):F.set a o b=F b:=by simp[Fz.set,h]
theorem Fz.Dt{F:Fz}{a:Addr}(h:F a=none):F.le (F.set a o):=λb o' e=>by
 by_cases hb:b=a
 ·subst hb;replace e:=h▸e;exact AA e
 ·exact Aa (Fz.Am hb)<|e
structure Cx where
 prog:LX
 w:A7
 K:Frag
 h₀:Heap
 os:Qk
 mg:Str->Option Ac
 mb:Str->Option Ac
 view:LX
 loose:List Str
 T:TopRead view loose mg mb h₀
 X:K.In h₀
 S:∃o,h₀.get? NC=some o
variable{c:Cx}
structure Ok(n:Nat)(A:BB):Prop where
 hh:A.handled=none
 dp:A.depth+8*n<=900
 un:A.units+100*n<=9000
structure Inv(c:Cx)(F P:Fz)(V:St)(s:Aj):Prop where
 hf:∀a o,F a=some o->s.heap.get? a=some o
 hp:∀a o,P a=some o->s.heap.get? a=some o
 hs:∀a ob,V a=some ob->∃o,s.heap.get? a=some o/\Fe c.w F o ob
 fp:∀a o,F a=some o->P a=none
 sf:∀a ob,V a=some ob->F a=none/\P a=none
 base:∀a o,c.h₀.get? a=some o->F a=some o
 gens:s.gens= #[]
 os:s.os=c.os
section
variable{c:Cx}{F P:Fz}{V:St}{s:Aj}
theorem Inv.toks(I:Inv c F P V s)(t:Nat):Inv c F P V {s with toks:=t}:=⟨I.hf,I.hp,I.hs,I.fp,I.sf,I.base,I.gens,I.os⟩
theorem Inv.top(I:Inv c F P V s):TopRead c.view c.loose c.mg c.mb s.heap:=c.T.keeps λb o e=>I.hf _ _ (I.base _ _ e)
theorem Inv.k(I:Inv c F P V s):c.K.In s.heap:=c.X.keeps λb o e=>I.hf _ _ (I.base _ _ e)
theorem Inv.fresh(I:Inv c F P V s):F s.heap.objs.size=none/\P s.heap.objs.size=none/\V s.heap.objs.size=none:=by
 refine⟨?_,?_,?_⟩
 ·cases h:F s.heap.objs.size with
  | none=>rfl
  | some o=>exact absurd (Cr (I.hf _ _ h)) (Hu _)
 ·cases h:P s.heap.objs.size with
  | none=>rfl
  | some o=>exact absurd (Cr (I.hp _ _ h)) (Hu _)
 ·cases h:V s.heap.objs.size with
  | none=>rfl
  | some o=>refine Ad (I.hs _ _ h) ?_;intro o' ho _;exact absurd (Cr ho) (Hu _)
theorem Inv.ZD(I:Inv c F P V s){a:Addr}{ob:BD}(h:V a=some ob):(a==NC)=false:=by refine beq_eq_false_iff_ne.mpr λe=>?_;refine Ar c.S ?_;intro o ho;have:=(I.sf _ _ h).1;replace this:=e▸this;replace this:=(I.base _ _ ho)▸this;exact BR this
theorem Inv.keeps(I:Inv c F P V s){t:Nat}(k:∀b o,s.heap.get? b=some o->h'.get? b=some o):Inv c F P V {s with heap:=h',toks:=t}:=
 ⟨λa o e=>k _ _ (I.hf a o e),λa o e=>k _ _ (I.hp a o e),λa ob e=>let ⟨o,ho,r⟩:=I.hs a ob e;⟨o,k _ _ ho,r⟩,I.fp,I.sf,I.base,I.gens,I.os⟩
theorem Inv.push(I:Inv c F P V s)(o:Obj){t:Nat}:Inv c F P V {s with heap:=s.heap.push o,toks:=t}:=I.keeps λZ Z e=>Di o e
theorem Inv.freeze(I:Inv c F P V s){a:Addr}(ho:s.heap.get? a=some o)(hf:F a=none)(hp:P a=none)(hs:V a=none):Inv c (F.set a o) P V s:=by
 have le:=Fz.Dt (o:=o) hf;refine⟨λb ob e=>?_,I.hp,λb ob e=>let ⟨o',h1,r⟩:=I.hs b ob e;⟨o',h1,r.mono le⟩,λb ob e=>?_,λb ob e=>?_,λb ob e=>le _ _ (I.base b ob e),I.gens,I.os⟩
 ·by_cases hb:b=a
  ·subst hb;simp at e;subst e;exact ho
  ·replace e:=(Fz.Am hb)▸e;exact I.hf _ _ e
 ·by_cases hb:b=a
  ·subst hb;exact hp
  ·replace e:=(Fz.Am hb)▸e;exact I.fp _ _ e
 ·have hb:b≠a:=by rintro rfl;replace e:=hs▸e;exact AA e
  exact Aa (Fz.Am hb)<|I.sf _ _ e
theorem Inv.own(I:Inv c F P V s){a:Addr}{ob:BD}(ho:s.heap.get? a=some o)(hf:F a=none)(hp:P a=none)(r:Fe c.w F o ob):Inv c F P (V.set a ob) s:=by
 refine⟨I.hf,I.hp,λb x e=>?_,I.fp,λb x e=>?_,I.base,I.gens,I.os⟩
 ·by_cases hb:b=a
  ·subst hb;simp at e;subst e;exact⟨o,ho,r⟩
  ·replace e:=(St.Am hb)▸e;exact I.hs _ _ e
 ·by_cases hb:b=a
  ·subst hb;exact⟨hf,hp⟩
  ·replace e:=(St.Am hb)▸e;exact I.sf _ _ e
theorem Inv.change(I:Inv c F P V s){a:Addr}{AbF:BD}(h0:V a=some AbF){t:Nat}(hb:FN a s.heap h'){ob:BD}(ho:h'.get? a=some o)(r:Fe c.w F o ob):
  Inv c F P (V.set a ob) {s with heap:=h',toks:=t}:=by
 refine Ah (I.sf _ _ h0) ?_;intro nf np;refine⟨λb x e=>?_,λb x e=>?_,λb x e=>?_,I.fp,λb x e=>?_,I.base,I.gens,I.os⟩
 ·have:b≠a:=by rintro rfl;replace e:=nf▸e;exact AA e
  exact(hb.2 b this).trans (I.hf _ _ e)
 ·have:b≠a:=by rintro rfl;replace e:=np▸e;exact AA e
  exact(hb.2 b this).trans (I.hp _ _ e)
 ·by_cases hx:b=a
  ·subst hx;simp at e;subst e;exact⟨o,ho,r⟩
  ·replace e:=(St.Am hx)▸e;refine Ad (I.hs _ _ e) ?_;intro o' h1 r';exact⟨o',(hb.2 b hx).trans h1,r'⟩
 ·by_cases hx:b=a
  ·subst hx;exact⟨nf,np⟩
  ·replace e:=(St.Am hx)▸e;exact I.sf _ _ e
theorem Inv.ZE(I:Inv c F P V s){P':Fz}(h:P'.le P):Inv c F P' V s:=by
 have key:∀a,P a=none->P' a=none:=λa e=>by
  cases q:P' a with
  | none=>rfl
  | some x=>have:=h _ _ q;replace this:=e▸this;exact AA this
 exact⟨I.hf,λa o e=>I.hp a o (h _ _ e),I.hs,λa o e=>key a (I.fp _ _ e),λa ob e=>⟨(I.sf a ob e).1,key a (I.sf _ _ e).2⟩,I.base,I.gens,I.os⟩
theorem Inv.guard(I:Inv c F P V s){a:Addr}(ho:s.heap.get? a=some o)(hf:F a=none)(hs:V a=none):Inv c F (P.set a o) V s:=by
 refine⟨I.hf,λb x e=>?_,I.hs,λb x e=>?_,λb x e=>⟨(I.sf _ _ e).1,?_⟩,I.base,I.gens,I.os⟩
 ·by_cases hb:b=a
  ·subst hb;simp at e;subst e;exact ho
  ·replace e:=(Fz.Am hb)▸e;exact I.hp _ _ e
 ·have hb:b≠a:=by rintro rfl;replace e:=hf▸e;exact AA e
  exact Aa (Fz.Am hb)<|I.fp _ _ e
 ·have hb:b≠a:=by rintro rfl;replace e:=hs▸e;exact AA e
  exact Aa (Fz.Am hb)<|(I.sf _ _ e).2
theorem Inv.Rd(I:Inv c F P V s){a:Addr}{o₀:Obj}(h0:P a=some o₀){t:Nat}(hb:FN a s.heap h')(ho:h'.get? a=some o):
  Inv c F (P.set a o) V {s with heap:=h',toks:=t}:=by
 have nf:F a=none:=by
  cases q:F a with
  | none=>rfl
  | some x=>have:=I.fp _ _ q;replace this:=h0▸this;exact BR this
 have ns:V a=none:=by
  cases q:V a with
  | none=>rfl
  | some x=>have:=(I.sf _ _ q).2;replace this:=h0▸this;exact BR this
 refine⟨λb x e=>?_,λb x e=>?_,λb x e=>?_,λb x e=>?_,λb x e=>⟨(I.sf _ _ e).1,?_⟩,I.base,I.gens,I.os⟩
 ·have:b≠a:=by rintro rfl;replace e:=nf▸e;exact AA e
  exact(hb.2 b this).trans (I.hf _ _ e)
 ·by_cases hx:b=a
  ·subst hx;simp at e;subst e;exact ho
  ·replace e:=(Fz.Am hx)▸e;exact(hb.2 b hx).trans (I.hp _ _ e)
 ·have:b≠a:=by rintro rfl;replace e:=ns▸e;exact AA e
  refine Ad (I.hs _ _ e) ?_;intro o' h1 r';exact⟨o',(hb.2 b this).trans h1,r'⟩
 ·have hb:b≠a:=by rintro rfl;replace e:=nf▸e;exact AA e
  exact Aa (Fz.Am hb)<|I.fp _ _ e
 ·have hb:b≠a:=by rintro rfl;replace e:=ns▸e;exact AA e
  exact Aa (Fz.Am hb)<|(I.sf _ _ e).2
end
noncomputable abbrev Cx.M(c:Cx):Model:=Hw c.prog c.w
set_option genSizeOf true
set_option genInjectivity true
inductive JP{α β:Type}(c:Cx)(Rp:Fz->α->β->Prop)(F P:Fz)(Q:β->St->Prop)(v:α)(s':Aj):Prop
 | mk (F':Fz) (Aq:St) (b:β):F.le F'->Inv c F' P Aq s'->Rp F' v b->Q b Aq->JP c Rp F P Q v s'
def Tr{α β:Type}(c:Cx)(n:Nat)(Rp:Fz->α->β->Prop)(t:Sem α)(F P:Fz)(V:St)(Q:β->St->Prop):Prop:=
 ∀A s,Ok n A->Inv c F P V s->Au c.M A t (JP c Rp F P Q) (λZ Z=>False) s
abbrev Cx.AlW(c:Cx):Fz->Ac->AV->Prop:=Rep c.w
abbrev Cx.L(c:Cx):Fz->List Ac->List AV->Prop:=Ao c.w
abbrev Eb{α:Type}:Fz->α->α->Prop:=λZ a b=>a=b
section
variable{α β γ δ:Type}{c:Cx}{n:Nat}{Rp:Fz->α->β->Prop}{Rq:Fz->γ->δ->Prop}{t:Sem α}{f:α->Sem γ}{F P:Fz}{V:St}{Q Q':β->St->Prop}{R:δ->St->Prop}
theorem Tr.bind(h:Tr c n Rp t F P V Q)(k:∀v b F1 Af,F.le F1->Rp F1 v b->Q b Af->Tr c n Rq (f v) F1 P Af R):Tr c n Rq (t>>=f) F P V R:=by intro A s ok I;refine Ak (AN (h A s ok I) (λv s' hQ=>?_) λZ Z x=>x);obtain⟨F',Aq,b,le,I',r,q⟩:=hQ;exact AN (k v b F' Aq le r q A s' ok I') (λv2 s2 hQ=>by obtain⟨F2,Av,b2,UP,I2,r2,q2⟩:=hQ;exact⟨F2,Av,b2,le.trans UP,I2,r2,q2⟩) λZ Z x=>x
theorem Tr.pure{v:α}{b:β}(r:Rp F v b)(q:Q b V):Tr c n Rp (pure v) F P V Q:=λA s ok I=>AF ⟨F,V,b,.refl,I,r,q⟩
theorem Tr.mono(h:Tr c n Rp t F P V Q)(k:∀b Aq,Q b Aq->Q' b Aq):Tr c n Rp t F P V Q':=
 λA s ok I=>AN (h A s ok I) (λv s' hQ=>by obtain⟨F',Aq,b,le,I',r,q⟩:=hQ;exact⟨F',Aq,b,le,I',r,k _ _ q⟩) λZ Z x=>x
theorem Tr.hold{vs:List Ac}(h:Tr c n Rp t F P V Q):Tr c n Rp (DK vs t) F P V Q:=λA s ok I=>Et (h A s ok I)
theorem Tr.Gs{pos:Pos}{t:Unit->Sem α}(h:Tr c n Rp (t ()) F P V Q):Tr c n Rp (DL pos>>=t) F P V Q:=λA s ok I=>Ak (Hx (h A s ok I))
end
theorem AbG{M:Ql}{vs:List Ac}{m:Sem Ac}{Q:Ac->Aj->Prop}{E:Ac->Aj->Prop}{s:Aj}(h:Au M A m Q E s):Au M A (operate vs m) Q E s:=
 λΓ p Ob=>by rewrite[Sem.wp_operate];exact h Γ p Ob
theorem yB{M:Ql}{vs ks:List Ac}{Q:Unit->Aj->Prop}{E:Ac->Aj->Prop}{s:Aj}(h:Q () s):Au M A (release vs ks) Q E s:=
 λΓ p Ob=>by rewrite[Sem.wp_release];exact h
section
variable{α β:Type}{c:Cx}{n:Nat}{F P:Fz}{V:St}
theorem Tr.UQ{vs:List Ac}{t:Sem Ac}{Rp:Fz->Ac->β->Prop}{Q:β->St->Prop}(h:Tr c n Rp t F P V Q):Tr c n Rp (operate vs t) F P V Q:=λA s ok I=>AbG (h A s ok I)
end
inductive ZF(w:A7)(sc:BF)(a:Addr)(W:List (Option AV))(F P:Fz):Prop
 | mk (o:Obj) (es:Array Ck) (ep:Nat):P a=some o->o.data= .dict es ep->StrKeys es->(∀(i:Nat) x v,sc.names[i]?=some (x,.local)->W[i]?=some (some v)->∃u,Qm es x=some u/\Rep w F u v)->ZF w sc a W F P
inductive ZG(w:A7)(env:Env)(x:Str)(r:Option (Option AV))(F P:Fz):Prop
 | mk (ca:Addr) (o:Obj) (cv:Option Ac):env.cells.lookup x=some ca->P ca=some o->o.data= .cell cv->ca≠env.locals->(∀v,r=some (some v)->∃u,cv=some u/\Rep w F u v)->ZG w env x r F P
structure Bl(c:Cx)(sc:BF)(env:Env)(W:List (Option AV))(F P:Fz):Prop where
 Cz:env.scope=sc
 kd:sc.kind= .function
 gl:env.globals=FO
 bi:env.builtins=Qn
 nd:(sc.names.map (·.1)).Nodup
 ln:W.length=sc.names.length
 ns:ZF c.w sc env.locals W F P
 cl:∀(i:Nat) x,sc.names[i]?=some (x,.cell)->ZG c.w env x W[i]? F P
 ci:∀x y a,env.cells.lookup x=some a->env.cells.lookup y=some a->x=y
 ca:∀x a,env.cells.lookup x=some a->(∃i:Nat,sc.names[i]?=some (x,.cell))\/ ∃o,F a=some o
theorem Bl.mono{env:Env}{W:List (Option AV)}{F G:Fz}(h:Bl c sc env W F P)(le:F.le G):Bl c sc env W G P:=
 ⟨h.Cz,h.kd,h.gl,h.bi,h.nd,h.ln,let ⟨o,es,ep,a,b,d,e⟩:=h.ns;⟨o,es,ep,a,b,d,λi x v h1 h2=>let ⟨u,p,q⟩:=e i x v h1 h2;⟨u,p,q.mono le⟩⟩,
   λi x hx=>let ⟨ca,o,cv,a,b,d,e,f⟩:=h.cl i x hx;⟨ca,o,cv,a,b,d,e,λv hv=>let ⟨u,p,q⟩:=f v hv;⟨u,p,q.mono le⟩⟩,h.ci,λx a e=>(h.ca x a e).imp_right λ⟨o,e⟩=>⟨o,le _ _ e⟩⟩
inductive Ld:List (Str×Bi)->List (Option AV)->Str->AV->Prop
 | loc {x:Str} {v:AV} {ns:List (Str×Bi)} {r:List (Option AV)}:Ld ((x,.local)::ns) (some v::r) x v
 | G1 {x:Str} {v:AV} {ns:List (Str×Bi)} {r:List (Option AV)}:Ld ((x,.cell)::ns) (some v::r) x v
 | skip {x:Str} {v:AV} {y:Str×Bi} {o:Option AV} {ns:List (Str×Bi)} {r:List (Option AV)}:Ld ns r x v->Ld (y::ns) (o::r) x v
theorem Ld.at{W:List (Option AV)}{v:AV}(h:Ld ns W x v):∃(i:Nat)(k:Bi),ns[i]?=some (x,k)/\W[i]?=some (some v)/\(k= .local\/k= .cell):=by
 induction h with
 | loc=>exact⟨0,_,rfl,rfl,.inl rfl⟩
 | G1=>exact⟨0,_,rfl,rfl,.inr rfl⟩
 | skip _ ih=>refine BS ih ?_;clear ih;intro i k a b d;exact⟨i+1,k,by simpa using a,by simpa using b,d⟩
inductive DV:List (Str×Bi)->List (Option AV)->Str->AV->List (Option AV)->Prop
 | loc {x:Str} {v:AV} {o:Option AV} {ns:List (Str×Bi)} {r:List (Option AV)}:DV ((x,.local)::ns) (o::r) x v (some v::r)
 | G1 {x:Str} {v:AV} {o:Option AV} {ns:List (Str×Bi)} {r:List (Option AV)}:DV ((x,.cell)::ns) (o::r) x v (some v::r)
 | skip {x:Str} {v:AV} {y:Str×Bi} {o:Option AV} {ns:List (Str×Bi)} {r r':List (Option AV)}:DV ns r x v r'->DV (y::ns) (o::r) x v (o::r')
theorem DV.at{W Ap:List (Option AV)}{v:AV}(h:DV ns W x v Ap):∃(i:Nat)(k:Bi),ns[i]?=some (x,k)/\Ap=W.set i (some v)/\i<W.length/\(k= .local\/k= .cell):=by
 induction h with
 | loc=>exact⟨0,_,rfl,rfl,by simp,.inl rfl⟩
 | G1=>exact⟨0,_,rfl,rfl,by simp,.inr rfl⟩
 | skip _ ih=>refine GX ih ?_;clear ih;intro i k a b l d;exact⟨i+1,k,by simpa using a,by simp[b],by simpa using l,d⟩
inductive ER:List (Str×Bi)->Str->Prop
 | here {x:Str} {ns:List (Str×Bi)}:ER ((x,.globalImplicit)::ns) x
 | skip {x:Str} {y:Str×Bi} {ns:List (Str×Bi)}:ER ns x->ER (y::ns) x
theorem ER.at(h:ER ns x):∃i:Nat,ns[i]?=some (x,.globalImplicit):=by
 induction h with
 | here=>exact⟨0,rfl⟩
 | skip _ ih=>refine Ar ih ?_;clear ih;intro i a;exact⟨i+1,by simpa using a⟩
theorem ID{κ:Type}{l:List (Str×κ)}(nd:(l.map (·.1)).Nodup){k:κ}(h:l[i]?=some (x,k)):l.lookup x=some k:=by
 induction l generalizing i with
 | nil=>exact AA h
 | cons p r ih=>
  refine Ah (Ig.mp nd) ?_;clear nd;intro n1 n2;cases i with
  | zero=>replace h:=Ay h;subst h;exact Aa Ju<|Aa (beq_self_eq_true _) rfl
  | succ i=>
   have h:r[i]?=some (x,k):=h;have Bb:(x==p.1)=false:=beq_eq_false_iff_ne.mpr λe=>n1 ((e▸Dz (f:=(·.1)) (A8 h):p.1∈r.map (·.1)));exact(by exact Aa Ju<|Aa Bb rfl:(p::r).lookup x=r.lookup x).trans (ih n2 h)
theorem Oc{κ:Type}{l:List (Str×κ)}(nd:(l.map (·.1)).Nodup){k k':κ}(h:l[i]?=some (x,k))(h':l[j]?=some (x,k')):i=j:=by have a:(l.map (·.1))[i]?=some x:=Aa Bp<|Aa h rfl;have b:(l.map (·.1))[j]?=some x:=Aa Bp<|Aa h' rfl;exact(LY (A5.mp a).1 nd).mp (a.trans b.symm)
section
variable{c:Cx}{n:Nat}{sc:BF}{env:Env}{W Ap:List (Option AV)}{F P:Fz}{V:St}
theorem Bl.kind(h:Bl c sc env W F P){k:Bi}(e:sc.names[i]?=some (x,k)):env.kindOf x=some k:=by unfold Qo;exact Aa h.Cz<|ID h.nd e
theorem Bl.AbH(h:Bl c sc env W F P){s:Aj}(I:Inv c F P V s):∃m,s.heap.Ns env.locals m/\ ∀(i:Nat) x v,sc.names[i]?=some (x,.local)->W[i]?=some (some v)->∃u,m x=some u/\Rep c.w F u v:=by obtain⟨o,es,ep,a,b,d,e⟩:=h.ns;exact⟨Qm es,⟨o,es,ep,I.hp _ _ a,b,d,λZ=>rfl⟩,e⟩
theorem ZH(h:Bl c sc env W F P){v:AV}(hl:Ld sc.names W x v){Q:AV->St->Prop}(q:Q v V):Tr c n c.AlW (loadName env x) F P V Q:=by
 intro A s ok I;refine BS hl.at ?_;intro i k hx hv hk;have G4:env.scope.kind= .function:=Aa h.Cz<|h.kd;rcases hk with rfl|rfl
 ·refine Ad (h.AbH I) ?_;intro m hn hm;refine Ad (hm i x v hx hv) ?_;intro u hu r;exact wpAny_loadName_local G4 (h.kind hx) hn hu ⟨F,V,v,.refl,I,r,q⟩
 ·obtain⟨ca,o,cv,e1,e2,e3,_,e4⟩:=h.cl i x hx;refine Ad (e4 v hv) ?_;rintro u rfl r;exact wpAny_loadName_cell G4 (h.kind hx) e1 ⟨o,I.hp _ _ e2,e3⟩ ⟨F,V,v,.refl,I,r,q⟩
def Fw(env:Env)(P P':Fz):Prop:=∀a,a≠env.locals->(∀x,env.cells.lookup x≠some a)->P' a=P a
theorem Fw.refl{env:Env}:Fw env P P:=λZ Z Z=>rfl
theorem Fw.trans{env:Env}{P' ZI:Fz}(x:Fw env P P')(y:Fw env P' ZI):Fw env P ZI:=λa h1 h2=>(y a h1 h2).trans (x a h1 h2)
theorem UR(h:Bl c sc env W F P){x:Str}{v:Ac}{a:AV}(r:Rep c.w F v a)(hs:DV sc.names W x a Ap){A:BB}{s:Aj}(I:Inv c F P V s)
  {Q:Unit->Aj->Prop} (q:∀P' s',Fw env P P'->Inv c F P' V s'->Bl c sc env Ap F P'->Q () s') {E:Ac->Aj->Prop}:Au c.M A (Qp env x v) Q E s:=by
 refine GX hs.at ?_;rintro i k hx rfl hi hk;have G4:env.scope.kind= .function:=Aa h.Cz<|h.kd;rcases hk with rfl|rfl
 ·obtain⟨o,es,ep,a1,a2,a3,a4⟩:=h.ns;refine yC (h.kind hx) (m:=Qm es) ⟨o,es,ep,I.hp _ _ a1,a2,a3,λZ=>rfl⟩ (λh' hn hb=>?_) (by exact Aa G4 rfl);refine GY hn ?_;clear hn;intro o' Od US b1 b2 b3 b4;refine q (P.set env.locals o') _ (λb DP Gu=>Fz.Am DP) (I.Rd a1 hb b1) ⟨h.Cz,h.kd,h.gl,h.bi,h.nd,by simp[h.ln],⟨o',Od,US,by simp,b2,b3,λj y u hj hu=>?_⟩,λj y hj=>?_,h.ci,h.ca⟩
  ·refine Aa (b4 _) ?_;by_cases Bx:i=j
   ·subst Bx;replace hj:=hx▸hj;cases hj;simp[hi] at hu;subst hu;exact⟨v,by simp,r⟩
   ·have Bb:y≠x:=by rintro rfl;exact Bx (Oc h.nd hx hj)
    replace hu:=(FP Bx)▸hu;simp only[Bb,if_false];exact a4 j y u hj hu
  ·have Bx:i≠j:=by rintro rfl;replace hj:=hx▸hj;cases hj
   obtain⟨ca,oc,cv,e1,e2,e3,e5,e4⟩:=h.cl j y hj;exact⟨ca,oc,cv,e1,Aa (Fz.Am e5)<|e2,e3,e5,λu hu=>e4 u (by rwa[FP Bx] at hu)⟩
 ·obtain⟨ca,oc,cv,e1,e2,e3,e5,e4⟩:=h.cl i x hx;refine wpAny_storeName_cell G4 (h.kind hx) e1 ⟨oc,I.hp _ _ e2,e3⟩ λh' hc hb=>?_;refine Ad hc ?_;clear hc;intro o' b1 b2;refine q (P.set ca o') _ (λb DP Gu=>Fz.Am λe=>Gu x (e▸e1)) (by have:=I.Rd (t:=s.toks) e2 hb b1;exact this) ⟨h.Cz,h.kd,h.gl,h.bi,h.nd,by simp[h.ln],?_,λj y hj=>?_,h.ci,h.ca⟩
  ·obtain⟨o,es,ep,a1,a2,a3,a4⟩:=h.ns;refine⟨o,es,ep,Aa (Fz.Am (Ne.symm e5))<|a1,a2,a3,λj y u hj hu=>?_⟩;have Bx:i≠j:=by rintro rfl;replace hj:=hx▸hj;cases hj
   exact a4 j y u hj (by rwa[FP Bx] at hu)
  ·by_cases Bx:i=j
   ·subst Bx;replace hj:=hx▸hj;cases hj;exact⟨ca,o',some v,e1,by simp,b2,e5,λu hu=>by simp[hi] at hu;subst hu;exact⟨v,rfl,r⟩⟩
   ·obtain⟨cb,ob,cw,f1,f2,f3,f5,f4⟩:=h.cl j y hj;have Bb:cb≠ca:=by rintro rfl;exact Bx (Oc h.nd (x:=x) hx (by exact Aa (h.ci x y cb e1 f1)<|hj))
    exact⟨cb,ob,cw,f1,Aa (Fz.Am Bb)<|f2,f3,f5,λu hu=>f4 u (by rwa[FP Bx] at hu)⟩
end
noncomputable abbrev Al:=List (Option AV)
variable{W Ap ρ0:Al}
inductive Fl where
 | next | brk | cont
 | ret (a:AV)
inductive KW(w:A7)(F:Fz):Flow->Fl->Prop
 | next:KW w F .next .next
 | brk:KW w F .brk .brk
 | cont:KW w F .cont .cont
 | ret {v:Ac} {a:AV}:Rep w F v a->KW w F (.ret v) (.ret a)
def Ax(c:Cx)(n:Nat)(e:Expr)(sc:BF)(W:Al)(V:St)(Q:AV->St->Prop):Prop:=
 ∀F P env,Bl c sc env W F P->Tr c n c.AlW (eval e env) F P V Q
def B0(c:Cx)(n:Nat)(e:Expr)(sc:BF)(W:Al)(V:St)(Q:Bool->St->Prop):Prop:=
 ∀F P env,Bl c sc env W F P->Tr c n Eb (Eu e env (eval e env)) F P V Q
def CD(c:Cx)(n:Nat)(es:List Expr)(sc:BF)(W:Al)(V:St)(Q:List AV->St->Prop):Prop:=
 ∀F P env pos,Bl c sc env W F P->Tr c n c.L (Kw (DA pos (Dj es env))) F P V Q
inductive Out(c:Cx)(sc:BF)(env:Env)(F P:Fz)(Q:Fl->Al->St->Prop)(fl:Flow)(s':Aj):Prop
 | mk (F' P':Fz) (Aq:St) (Ap:Al) (HN:Fl):F.le F'->Fw env P P'->Inv c F' P' Aq s'->Bl c sc env Ap F' P'->KW c.w F' fl HN->Q HN Ap Aq->Out c sc env F P Q fl s'
def BK(c:Cx)(n:Nat)(st:Stmt)(sc:BF)(W:Al)(V:St)(Q:Fl->Al->St->Prop):Prop:=
 ∀F P env A s,Bl c sc env W F P->Ok n A->Inv c F P V s->Au c.M A (exec st env) (Out c sc env F P Q) (λZ Z=>False) s
def BE(c:Cx)(n:Nat)(Ag:List Stmt)(sc:BF)(W:Al)(V:St)(Q:Fl->Al->St->Prop):Prop:=
 ∀F P env A s,Bl c sc env W F P->Ok n A->Inv c F P V s->Au c.M A (ND Ag env) (Out c sc env F P Q) (λZ Z=>False) s
def Ci(c:Cx)(n:Nat)(op:Kx)(a b:AV)(V:St)(Q:AV->St->Prop):Prop:=
 ∀F P v u,Rep c.w F v a->Rep c.w F u b->Tr c n c.AlW (binaryOp op v u) F P V Q
def KX(c:Cx)(n:Nat)(op:Jv)(a:AV)(V:St)(Q:AV->St->Prop):Prop:=
 ∀F P v,Rep c.w F v a->Tr c n c.AlW (unaryOp op v) F P V Q
def AR(c:Cx)(n:Nat)(op:FL)(a b:AV)(V:St)(Q:AV->St->Prop):Prop:=
 ∀F P v u,Rep c.w F v a->Rep c.w F u b->Tr c n c.AlW (compareOp op v u) F P V Q
def ES(c:Cx)(n:Nat)(a:AV)(V:St)(Q:Bool->St->Prop):Prop:=
 ∀F P v,Rep c.w F v a->Tr c n Eb (Ih v) F P V Q
def Mr(c:Cx)(n:Nat)(a:AV)(name:Str)(V:St)(Q:AV->St->Prop):Prop:=
 ∀F P v,Rep c.w F v a->Tr c n c.AlW (Tv v name true) F P V Q
def AL(c:Cx)(n:Nat)(a i:AV)(V:St)(Q:AV->St->Prop):Prop:=
 ∀F P v u value slice,Rep c.w F v a->Rep c.w F u i->Tr c n c.AlW (XF value slice v u) F P V Q
def An(c:Cx)(n:Nat)(f:Ac)(as:List AV)(V:St)(Q:AV->St->Prop):Prop:=
 ∀F P vs,Ao c.w F vs as->Tr c n c.AlW (call f vs []) F P V Q
def E9(c:Cx)(V:St)(a:AV)(name:Str)(f:Ac):Prop:=
 ∀n F P v pl,Rep c.w F v a->Tr c n (λ_ (p:Ac×List Ac) (_:Unit)=>p=(f,[v])) (XG v name pl) F P V (λZ Aq=>Aq=V)
def Dd(c:Cx)(n:Nat)(o i v:AV)(V:St)(Q:St->Prop):Prop:=
 ∀F P ov iv vv,Rep c.w F ov o->Rep c.w F iv i->Rep c.w F vv v->Tr c n (λ_ _ (_:Unit)=>True) (setItem ov iv vv) F P V (λZ Aq=>Q Aq)
def Gv(c:Cx)(n:Nat)(o:AV)(name:Str)(v:AV)(V:St)(Q:St->Prop):Prop:=
 ∀F P ov vv,Rep c.w F ov o->Rep c.w F vv v->Tr c n (λ_ _ (_:Unit)=>True) (setAttr ov name vv) F P V (λZ Aq=>Q Aq)
section
variable{c:Cx}{n:Nat}{sc:BF}{W Ap:Al}{V:St}{Q:AV->St->Prop}
theorem Ax.mono{Q':AV->St->Prop}(h:Ax c n e sc W V Q)(k:∀a Aq,Q a Aq->Q' a Aq):Ax c n e sc W V Q':=λF P env fr=>(h F P env fr).mono k
theorem Ax.int{i:Int}{k:Nat}{pos:Pos}(q:Q (.int i) V):Ax c n (.Constant (.int i) k pos) sc W V Q:=
 λF P env fr A s ok I=>wpAny_Constant_int ⟨F,V,_,.refl,I.toks _,.int _ _,q⟩
theorem Ax.str{k:Nat}{pos:Pos}(q:Q (.str x) V):Ax c n (.Constant (.str x) k pos) sc W V Q:=
 λF P env fr A s ok I=>wpAny_mkText ⟨F,V,_,.refl,I.toks _,.str _ _,q⟩
theorem Ax.bool{b:Bool}{k:Nat}{pos:Pos}(q:Q (.bool b) V):Ax c n (.Constant (.bool b) k pos) sc W V Q:=
 λF P env fr A s ok I=>AF ⟨F,V,_,.refl,I,.bool _,q⟩
theorem Ax.nil{k:Nat}{pos:Pos}(q:Q .none V):Ax c n (.Constant .none k pos) sc W V Q:=
 λF P env fr A s ok I=>AF ⟨F,V,_,.refl,I,.none,q⟩
theorem Ax.name{pos:Pos}{v:AV}(hl:Ld sc.names W x v)(q:Q v V)(hd:(x==("__debug__":Str))=false:=by decide+kernel):Ax c n (.Name x pos) sc W V Q:=
 λF P env fr A s ok I=>wpAny_Name (ZH fr hl q A s ok I) hd
theorem Ax.glob{pos:Pos}(hg:ER sc.names x)(e:nsIn c.K FO x=some (some v))(q:Q (.raw v) V)(hd:(x==("__debug__":Str))=false:=by decide+kernel):Ax c n (.Name x pos) sc W V Q:=by intro F P env fr A s ok I;refine Ar hg.at ?_;intro i hx;refine yD (by exact Aa fr.Cz<|fr.kd) (fr.kind hx) ?_ hd;have T:=I.top;exact loadGlobal_global (env:=env) (by exact Aa fr.gl<|T.g) (mg_of c.X c.T.g e) ⟨F,V,_,.refl,I,.raw _,q⟩
theorem Ax.blt{pos:Pos}(hg:ER sc.names x)(e:nsIn c.K FO x=some NE)(hv:XH x=some v)(hn:x≠"__name__")(q:Q (.raw v) V)(hd:(x==("__debug__":Str))=false:=by decide+kernel):
  Ax c n (.Name x pos) sc W V Q:=by
 intro F P env fr A s ok I;refine Ar hg.at ?_;intro i hx;refine yD (by exact Aa fr.Cz<|fr.kd) (fr.kind hx) ?_ hd;have T:=I.top;exact yE (env:=env) (by exact Aa fr.gl<|T.g) (mg_none_of c.X c.T.g e) (by exact Aa fr.bi<|T.b) ((T.builtins x hn).trans hv) ⟨F,V,_,.refl,I,.raw _,q⟩
theorem Ax.bin{l r:Expr}{op:Kx}{pos:Pos}(h:Ax c n l sc W V (λa Af=>Ax c n r sc W Af (λb Av=>Ci c n op a b Av Q))):Ax c n (.BinOp l op r pos) sc W V Q:=by intro F P env fr;rewrite[eval_BinOp];refine(h F P env fr).bind λv a F1 Af l1 r1 h1=>?_;refine((h1 F1 P env (fr.mono l1)).hold).bind λu b F2 Av l2 r2 h2=>?_;exact(h2 F2 P v u (r1.mono l2) r2).UQ.Gs
theorem Ax.un{x:Expr}{op:Jv}{pos:Pos}(h:Ax c n x sc W V (λa Af=>KX c n op a Af Q)):Ax c n (.UnaryOp op x pos) sc W V Q:=by intro F P env fr;show Tr c n c.AlW (do let v <-eval x env;DL pos;DK [v] (unaryOp op v)) F P V Q;refine(h F P env fr).bind λv a F1 Af l1 r1 h1=>?_;exact(h1 F1 P v r1).hold.Gs
theorem Ax.cmp{l r:Expr}{op:FL}{pos:Pos}(h:Ax c n l sc W V (λa Af=>Ax c n r sc W Af (λb Av=>AR c n op a b Av Q)))
  (hm:Tw op r=false):Ax c n (.Compare l [op] [r] pos) sc W V Q:=by
 intro F P env fr;rewrite[eval_Compare1];refine Aa (yF hm) ?_;refine(h F P env fr).bind λv a F1 Af l1 r1 h1=>?_;refine((h1 F1 P env (fr.mono l1)).hold).bind λu b F2 Av l2 r2 h2=>?_;exact(h2 F2 P v u (r1.mono l2) r2).UQ.Gs
theorem Ax.ite{t a b:Expr}{pos:Pos}(h:B0 c n t sc W V (λk Af=>if k then Ax c n a sc W Af Q else Ax c n b sc W Af Q)):Ax c n (.IfExp t a b pos) sc W V Q:=by
 intro F P env fr;refine(h F P env fr).bind λv k F1 Af l1 e h1=>?_;subst (e:v=k);cases v with
 | true=>exact h1 F1 P env (fr.mono l1)
 | false=>exact h1 F1 P env (fr.mono l1)
theorem Ax.G5{x y:Expr}{pos:Pos}(h:Ax c n x sc W V (λa Af=>ES c n a Af (λk Av=>if k then Ax c n y sc W Av Q else Q a Av))):Ax c n (.BoolOp .And [x,y] pos) sc W V Q:=by
 intro F P env fr;show Tr c n c.AlW (do
  let v <-eval x env
  DL pos
  let t <-DK [v] (Ih v)
  match Qq,t with
  | .And,false | .Or,true=>pure v
  | _,_=>eval y env) F P V Q
 refine(h F P env fr).bind λv a F1 Af l1 r1 h1=>Tr.Gs ?_;refine((h1 F1 P v r1).hold).bind λt k F2 Av l2 e h2=>?_;subst (e:t=k);cases t with
 | true=>exact h2 F2 P env (fr.mono (l1.trans l2))
 | false=>exact Tr.pure (r1.mono l2) h2
theorem Ax.attr{o:Expr}{name:Str}{pos:Pos}(h:Ax c n o sc W V (λa Af=>Mr c n a name Af Q))
  (he:∀env,eval (.Attribute o name pos) env=(do let v <-eval o env;DL pos.atName;let r <-DK [v] (Tv v name true);Tx o v r;pure r):=by intro _;with_unfolding_all rfl):
  Ax c n (.Attribute o name pos) sc W V Q:=by
 intro F P env fr A s ok I;refine Attribute_any_ (AN (h F P env fr A s ok I) (λv s' hQ=>?_) λZ Z x=>x) (he env);obtain⟨F1,Af,a,l1,I1,r1,h1⟩:=hQ;exact AN (h1 F1 P v r1 A s' ok I1) (λv2 s2 hQ=>by obtain⟨F2,Av,b2,UP,I2,r2,q2⟩:=hQ;exact⟨F2,Av,b2,l1.trans UP,I2,r2,q2⟩) λZ Z x=>x
theorem Ax.sub{o i:Expr}{pos:Pos}(h:Ax c n o sc W V (λa Af=>Ax c n i sc W Af (λb Av=>AL c n a b Av Q))):Ax c n (.Subscript o i pos) sc W V Q:=by intro F P env fr A s ok I;refine Subscript_ (AN (h F P env fr A s ok I) (λv s' hQ=>?_) λZ Z x=>x);obtain⟨F1,Af,a,l1,I1,r1,h1⟩:=hQ;refine AN (h1 F1 P env (fr.mono l1) A s' ok I1) (λu s2 hQ=>?_) λZ Z x=>x;obtain⟨F2,Av,b,l2,I2,r2,h2⟩:=hQ;exact AN (h2 F2 P v u o i (r1.mono l2) r2 A s2 ok I2) (λv3 s3 hQ=>by obtain⟨F3,By,b3,l3,I3,r3,q3⟩:=hQ;exact⟨F3,By,b3,(l1.trans l2).trans l3,I3,r3,q3⟩) λZ Z x=>x
theorem Oe{es:List Expr}{env:Env}(h:Gk e=false):Dj (e::es) env=(false,eval e env)::Dj es env:=by cases e<;>first | rfl | exact NY h
theorem CD.nil{Q:List AV->St->Prop}(q:Q [] V):CD c n [] sc W V Q:=λF P env pos fr=>Tr.pure (Rp:=c.L) .nil q
theorem CD.cons{e:Expr}{es:List Expr}{Q:List AV->St->Prop}(h:Ax c n e sc W V (λa Af=>CD c n es sc W Af (λas Av=>Q (a::as) Av)))(hs:Gk e=false):
  CD c n (e::es) sc W V Q:=by
 intro F P env pos fr;refine Aa (Oe hs) ?_;show Tr c n c.L (do
  let v <-eval e env;let here <-pure [v]
  return here++(<-DK here (Kw (DA pos (Dj es env))))) F P V Q
 refine(h F P env fr).bind λv a F1 Af l1 r1 h1=>?_;refine((h1 F1 P env pos (fr.mono l1)).hold).bind λvs as F2 Av l2 r2 h2=>?_;exact Tr.pure (Rp:=c.L) (.cons (r1.mono l2) r2) h2
theorem ZJ{cls:String}{vs:List Ac}{xs:List AV}{F P:Fz}{a:AV}(r:Ao c.w F vs xs)(hz:xs.length<=Bc)(q:Q a V)
  (mk:∀(G:Fz)(l:Addr),G l=some (AM cls vs.toArray 0)->Ao c.w G vs xs->Rep c.w G (.ref l) a):
  Tr c n c.AlW (newObj (.type cls) (.seq vs.toArray)) F P V Q:=by
 intro A s ok I;refine Jw ?_ (by show vs.toArray.size<=Bc;exact Aa DB<|Aa r.length<|hz);refine Bq I.fresh ?_;intro hf hp hs;have le:=Fz.Dt (o:=AM cls vs.toArray 0) hf;exact⟨F.set s.heap.objs.size (AM cls vs.toArray 0),V,a,le,(I.push (AM cls vs.toArray 0) (t:=s.toks)).freeze (Ct _ rfl) hf hp hs,mk _ _ (by simp) (r.mono le),q⟩
theorem AbI{vs:List Ac}{F:Fz}(r:Ao c.w F vs xs)(hz:xs.length<=Bc)(q:∀a,V a=none->Q (.ref a) (V.set a (.list xs))):
  Tr c n c.AlW (Tz vs) F P V Q:=by
 intro A s ok I;refine Jw ?_ (by show vs.toArray.size<=Bc;exact Aa DB<|Aa r.length<|hz);refine Bq I.fresh ?_;intro hf hp hs;exact⟨F,_,_,.refl,(I.push (AM "list" vs.toArray 0) (t:=s.toks)).own (Ct _ rfl) hf hp (.list r),.ref _,q _ hs⟩
theorem Ax.tup{es:List Expr}{k:Nat}{pos:Pos}(h:CD c n es sc W V (λxs Af=>xs.length<=Bc/\Q (.tup xs) Af)):Ax c n (.Tuple es k pos) sc W V Q:=by intro F P env fr;show Tr c n c.AlW (do DL pos;XI (<-Kw (DA pos (Dj es env)))) F P V Q;refine Tr.Gs ((h F P env pos fr).bind λvs xs F1 Af l1 r1 hQ=>?_);refine Ah hQ ?_;clear hQ;intro hz q;exact ZJ r1 hz q λG l e r=>.tup e r
theorem Ax.lst{es:List Expr}{pos:Pos}(h:CD c n es sc W V (λxs Af=>xs.length<=Bc/\Q (.lst xs) Af)):Ax c n (.List es pos) sc W V Q:=by intro F P env fr;show Tr c n c.AlW (do DL pos;Tz (<-Kw (DA pos (Dj es env)))) F P V Q;refine Tr.Gs ((h F P env pos fr).bind λvs xs F1 Af l1 r1 hQ=>?_);refine Ah hQ ?_;clear hQ;intro hz q;exact ZJ r1 hz q λG l e r=>.lst e r
theorem Ax.lstM{es:List Expr}{pos:Pos}(h:CD c n es sc W V (λxs Af=>xs.length<=Bc/\ ∀a,Af a=NE->Q (.ref a) (Af.set a (.list xs)))):Ax c n (.List es pos) sc W V Q:=by intro F P env fr;show Tr c n c.AlW (do DL pos;Tz (<-Kw (DA pos (Dj es env)))) F P V Q;exact Tr.Gs ((h F P env pos fr).bind λvs xs F1 Af l1 r1 ⟨hz,q⟩=>AbI r1 hz q)
end
section
variable{c:Cx}{n:Nat}{sc:BF}{W Ap:Al}{V:St}
theorem B0.mono{Q Q':Bool->St->Prop}(h:B0 c n e sc W V Q)(k:∀a Aq,Q a Aq->Q' a Aq):B0 c n e sc W V Q':=λF P env fr=>(h F P env fr).mono k
theorem B0.plain{e:Expr}{Q:Bool->St->Prop}(h:Ax c n e sc W V (λa Af=>ES c n a Af Q))
  (he:∀env,Eu e env (eval e env)=(do let v <-eval e env;DL e.pos;DK [v] (Ih v))):B0 c n e sc W V Q:=by
 intro F P env fr;refine Aa (he _) ?_;refine(h F P env fr).bind λv a F1 Af l1 r1 h1=>?_;exact(h1 F1 P v r1).hold.Gs
theorem B0.not{x:Expr}{pos:Pos}{Q:Bool->St->Prop}(h:B0 c n x sc W V (λb Af=>Q (!b) Af)):B0 c n (.UnaryOp .Not x pos) sc W V Q:=by intro F P env fr;refine(h F P env fr).bind λv a F1 Af l1 e h1=>?_;subst (e:v=a);exact Tr.pure (Rp:=Eb) rfl h1
theorem B0.cmp{l r:Expr}{op:FL}{pos:Pos}{Q:Bool->St->Prop}(h:Ax c n l sc W V (λa Af=>Ax c n r sc W Af (λb Av=>AR c n op a b Av (λv By=>∃k,v= .bool k/\Q k By))))
  (hm:Tw op r=false):B0 c n (.Compare l [op] [r] pos) sc W V Q:=by
 intro F P env fr;rewrite[isTrue_Compare1];refine Aa (yF hm) ?_;refine(h F P env fr).bind λv a F1 Af l1 r1 h1=>?_;refine((h1 F1 P env (fr.mono l1)).hold).bind λu b F2 Av l2 r2 h2=>?_;refine Tr.Gs ((h2 F2 P v u (r1.mono l2) r2).UQ.bind λw d F3 By l3 r3 h3=>?_);refine Ad h3 ?_;clear h3;rintro k rfl q;subst r3;exact Tr.hold λA s ok I=>TA ⟨F3,By,k,.refl,I,rfl,q⟩
theorem B0.G5{x y:Expr}{pos:Pos}{Q:Bool->St->Prop}(h:B0 c n x sc W V (λa Af=>if a then B0 c n y sc W Af Q else Q false Af)):B0 c n (.BoolOp .And [x,y] pos) sc W V Q:=by
 intro F P env fr;show Tr c n Eb (do
  match Qq,<-Eu x env (eval x env) with
  | .And,false=>pure false
  | .Or,true=>pure true
  | _,_=>do
   match Qq,<-Eu y env (eval y env) with
   | .And,false=>pure false
   | .Or,true=>pure true
   | _,_=>pure true) F P V Q
 refine(h F P env fr).bind λv a F1 Af l1 e h1=>?_;subst (e:v=a);cases v with
 | false=>exact Tr.pure (Rp:=Eb) rfl h1
 | true=>
  simp only[if_true] at h1;refine(h1 F1 P env (fr.mono l1)).bind λu b F2 Av l2 e h2=>?_;subst (e:u=b);cases u with
  | false=>exact Tr.pure (Rp:=Eb) rfl h2
  | true=>exact Tr.pure (Rp:=Eb) rfl h2
theorem B0.or2{x y:Expr}{pos:Pos}{Q:Bool->St->Prop}(h:B0 c n x sc W V (λa Af=>if a then Q true Af else B0 c n y sc W Af Q)):B0 c n (.BoolOp .Or [x,y] pos) sc W V Q:=by
 intro F P env fr;show Tr c n Eb (do
  match Qr,<-Eu x env (eval x env) with
  | .And,false=>pure false
  | .Or,true=>pure true
  | _,_=>do
   match Qr,<-Eu y env (eval y env) with
   | .And,false=>pure false
   | .Or,true=>pure true
   | _,_=>pure false) F P V Q
 refine(h F P env fr).bind λv a F1 Af l1 e h1=>?_;subst (e:v=a);cases v with
 | true=>exact Tr.pure (Rp:=Eb) rfl h1
 | false=>
  simp only[Fa,if_false] at h1;refine(h1 F1 P env (fr.mono l1)).bind λu b F2 Av l2 e h2=>?_;subst (e:u=b);cases u with
  | false=>exact Tr.pure (Rp:=Eb) rfl h2
  | true=>exact Tr.pure (Rp:=Eb) rfl h2
variable{Q:Fl->Al->St->Prop}
theorem Out.mono{env:Env}{F F1 P1:Fz}{fl:Flow}(l:F.le F1)(o:Fw env P P1)(h:Out c sc env F1 P1 Q fl s'):Out c sc env F P Q fl s':=by obtain⟨F',P',Aq,Ap,HN,a,b,e1,e2,e3,e4⟩:=h;exact⟨F',P',Aq,Ap,HN,l.trans a,o.trans b,e1,e2,e3,e4⟩
theorem BK.mono{st:Stmt}{Q':Fl->Al->St->Prop}(h:BK c n st sc W V Q)(k:∀f r s,Q f r s->Q' f r s):BK c n st sc W V Q':=
 λF P env A s fr ok I=>AN (h F P env A s fr ok I) (λfl s' hQ=>by obtain⟨F',P',Aq,Ap,HN,a,b,d,e,f,g⟩:=hQ;exact⟨F',P',Aq,Ap,HN,a,b,d,e,f,k _ _ _ g⟩) λZ Z x=>x
theorem BE.mono{st:List Stmt}{Q':Fl->Al->St->Prop}(h:BE c n st sc W V Q)(k:∀f r s,Q f r s->Q' f r s):BE c n st sc W V Q':=
 λF P env A s fr ok I=>AN (h F P env A s fr ok I) (λfl s' hQ=>by obtain⟨F',P',Aq,Ap,HN,a,b,d,e,f,g⟩:=hQ;exact⟨F',P',Aq,Ap,HN,a,b,d,e,f,k _ _ _ g⟩) λZ Z x=>x
theorem BE.nil(q:Q .next W V):BE c n [] sc W V Q:=λF P env A s fr ok I=>XJ ⟨F,P,V,W,.next,.refl,.refl,I,fr,.next,q⟩
theorem BE.cons{st:Stmt}{rest:List Stmt}(h:BK c n st sc W V (λf r s=>match f with | .next=>BE c n rest sc r s Q | f=>Q f r s)):BE c n (st::rest) sc W V Q:=by
 intro F P env A s fr ok I;refine wpAny_execs_cons (AN (h F P env A s fr ok I) (λfl s' hQ=>?_) λZ Z x=>x);obtain⟨F1,P1,Af,Gw,fl1,l1,o1,I1,JQ,r1,q1⟩:=hQ;cases r1 with
 | next=>exact AN (q1 F1 P1 env A s' JQ ok I1) (λfl s2 h2=>h2.mono l1 o1) λZ Z x=>x
 | brk=>exact⟨F1,P1,Af,Gw,.brk,l1,o1,I1,JQ,.brk,q1⟩
 | cont=>exact⟨F1,P1,Af,Gw,.cont,l1,o1,I1,JQ,.cont,q1⟩
 | ret r=>exact⟨F1,P1,Af,Gw,.ret _,l1,o1,I1,JQ,.ret r,q1⟩
theorem BK.ret{pos:Pos}(h:Ax c n e sc W V (λa Af=>Q (.ret a) W Af)):BK c n (.Return (some e) pos) sc W V Q:=by intro F P env A s fr ok I;exact wpAny_Return_some (AN (h F P env fr A s ok I) (λv s' hQ=>by obtain⟨F1,Af,a,l1,I1,r1,q1⟩:=hQ;exact⟨F1,P,Af,W,.ret a,l1,.refl,I1,fr.mono l1,.ret r1,q1⟩) λZ Z x=>x)
theorem BK.AbJ{pos:Pos}(q:Q (.ret .none) W V):BK c n (.Return none pos) sc W V Q:=
 λF P env A s fr ok I=>wpAny_Return_none ⟨F,P,V,W,_,.refl,.refl,I,fr,.ret .none,q⟩
theorem BK.brk{pos:Pos}(q:Q .brk W V):BK c n (.Break pos) sc W V Q:=by intro F P env A s fr ok I;show Au c.M A (do DL pos;pure Flow.brk) _ _ s;exact Ak (Hx (AF ⟨F,P,V,W,_,.refl,.refl,I,fr,.brk,q⟩))
theorem BK.if{t:Expr}{a b:List Stmt}{pos:Pos}(h:B0 c n t sc W V (λk Af=>if k then BE c n a sc W Af Q else BE c n b sc W Af Q)):BK c n (.If t a b pos) sc W V Q:=by
 intro F P env A s fr ok I;refine wpAny_If (AN (h F P env fr A s ok I) (λv s' hQ=>?_) λZ Z x=>x);obtain⟨F1,Af,k,l1,I1,e,q1⟩:=hQ;subst (e:v=k);cases v with
 | true=>
  simp only[if_true] at q1⊢;exact AN (q1 F1 P env A s' (fr.mono l1) ok I1) (λfl s2 h2=>h2.mono l1 .refl) λZ Z x=>x
 | false=>
  simp only[Fa,if_false] at q1⊢;exact AN (q1 F1 P env A s' (fr.mono l1) ok I1) (λfl s2 h2=>h2.mono l1 .refl) λZ Z x=>x
theorem ZK{env:Env}(h:env.scope.kind= .function):interactive env=false:=by unfold interactive;exact Aa h rfl
theorem BK.expr{pos:Pos}(h:Ax c n e sc W V (λa Af=>a= .none/\Q .next W Af))(hs:∀env,Jx e none pos.line env=pure false):BK c n (.Expr e pos) sc W V Q:=by intro F P env A s fr ok I;refine wpAny_Expr (AN (h F P env fr A s ok I) (λv s' hQ=>?_) λZ Z x=>x) (ZK (by exact Aa fr.Cz<|fr.kd)) (hs env);obtain⟨F1,Af,a,l1,I1,r1,e1,q1⟩:=hQ;subst e1;subst r1;exact⟨F1,P,Af,W,.next,l1,.refl,I1,fr.mono l1,.next,q1⟩
theorem BK.name{x:Str}{p':Pos}{e:Expr}{pos:Pos}(h:Ax c n e sc W V (λa Af=>∃Ap,DV sc.names W x a Ap/\Q .next Ap Af))
  (hs:∀env,env.scope=sc->Jx e (some (.Name x p')) pos.line env=pure false:=by(intro _ _;rfl)):BK c n (.Assign [.Name x p'] e pos) sc W V Q:=by
 intro F P env A s fr ok I;refine wpAny_Assign_Name (AN (h F P env fr A s ok I) (λv s' hQ=>?_) λZ Z x=>x) (hs env fr.Cz);obtain⟨F1,Af,a,l1,I1,r1,Ap,st,q1⟩:=hQ;exact UR (fr.mono l1) r1 st I1 λP' s2 o I2 C3=>⟨F1,P',Af,Ap,.next,l1,o,I2,C3,.next,q1⟩
inductive Cn:List (Str×Bi)->Al->List Str->List AV->Al->Prop
 | nil {ns:List (Str×Bi)} {W:Al}:Cn ns W [] [] W
 | cons {ns:List (Str×Bi)} {W Gw De:Al} {x:Str} {xs:List Str} {v:AV} {vs:List AV}:DV ns W x v Gw->Cn ns Gw xs vs De->Cn ns W (x::xs) (v::vs) De
theorem Cn.length{xs:List Str}{vs:List AV}(h:Cn ns W xs vs Ap):xs.length=vs.length:=by
 induction h with
 | nil=>rfl
 | cons _ _ ih=>simp[ih]
theorem ZL{xs:List Str}{ts:List (Ac->Sem Unit)}{env:Env}(ht:∀A s (R:Unit->Aj->Prop) x t v,(x,t)∈xs.zip ts->Au c.M A (Qp env x v) R (λZ Z=>False) s->Au c.M A (t v) R (λZ Z=>False) s):
  ∀{W Ap:Al}{as:List AV}{vs:List Ac}{F P:Fz}{A:BB}{s:Aj},xs.length=ts.length->Cn sc.names W xs as Ap->Ao c.w F vs as->Bl c sc env W F P->Inv c F P V s->
  ∀{R:Unit->Aj->Prop},(∀P' s',Fw env P P'->Inv c F P' V s'->Bl c sc env Ap F P'->R () s')->Au c.M A (TB ts vs) R (λZ Z=>False) s:=by
 induction xs generalizing ts with
 | nil=>
  intro W Ap as vs F P A s hl st r fr I R q;cases st;cases ts with
  | nil=>subst r;exact AF (q P s .refl I fr)
  | cons _ _=>simp at hl
 | cons x xs ih=>
  intro W Ap as vs F P A s hl st r fr I R q;cases ts with
  | nil=>simp at hl
  | cons t ts=>
   cases st with
   | cons UT IE=>
    obtain⟨_,_,rfl,r1,r2⟩:=r;show Au c.M A (do DK _ (t _);TB ts _) R _ s;refine Ak (Et (ht A s _ x t _ (by simp) (UR fr r1 UT I λP1 s1 o1 I1 JQ=>?_)));exact ih (λA s R x t v hm=>ht A s R x t v (by simp[hm])) (by simpa using hl) IE r2 JQ I1 λP2 s2 o2 I2 C3=>q P2 s2 (o1.trans o2) I2 C3
theorem Rep.isTup{F:Fz}(r:Rep w F v (.tup xs)):∃a vs,v= .ref a/\Ao w F vs xs/\ ∀{c:Cx}{P:Fz}{V:St}{s:Aj},Inv c F P V s->IsTup s.heap a vs.toArray:=by obtain⟨_,_,_,rfl,e,r⟩:=r;exact⟨_,_,rfl,r,λI=>⟨_,I.hf _ _ e,rfl,_,rfl⟩⟩
noncomputable def Re(e:Expr):Option Str:=if h:e.ctorIdx=23 then NF (motive_1:=λZ=>Option Str) e h (λx Z=>some x) else none
noncomputable def EN:List Expr->Option (List Str)
 | []=>some []
 | e::r=>match Re e with
  | some x=>(EN r).map (x:: ·)
  | none=>none
theorem AbK{r:List Expr}{xs:List Str}(h:EN (e::r)=some xs):∃y p ys,e= .Name y p/\EN r=some ys/\xs=y::ys:=by
 by_cases k:e.ctorIdx=23
 ·obtain⟨y,p,rfl⟩:∃y p,e= .Name y p:=NF (motive_1:=λe=>∃y p,e= .Name y p) e k λx p=>⟨x,p,rfl⟩;refine Ad (D8.mp h) ?_;clear h;intro ys h1 h2;exact⟨y,p,ys,rfl,h1,h2.symm⟩
 ·have e1:Re e=none:=dif_neg k;have h:(match Re e with | some x=>(EN r).map (x:: ·) | none=>none)=some xs:=h;replace h:=e1▸h;exact AA h
inductive ZM(c:Cx)(env:Env)(xs:List Str)(l:List (Bool×(Ac->Sem Unit))):Prop
 | mk:l.length=xs.length->l.findIdx? (·.1)=none->(∀(A:BB)(s:Aj)(R:Unit->Aj->Prop) x t v,(x,t)∈xs.zip (l.map (·.2))->Au c.M A (Qp env x v) R (λZ Z=>False) s->Au c.M A (t v) R (λZ Z=>False) s)->ZM c env xs l
theorem ZN{env:Env}{es:List Expr}:∀{xs:List Str},EN es=some xs->ZM c env xs (assignEach es env):=by
 induction es with
 | nil=>
  intro xs h;replace h:=Ay h;subst h;exact⟨rfl,rfl,λA s R x t v hm=>nomatch hm⟩
 | cons e r ih=>
  intro xs h;refine UL (AbK h) ?_;clear h;rintro y p ys rfl hy rfl;obtain⟨a,b,d⟩:=ih hy;refine⟨congrArg (· +1) a,List.findIdx?_cons.trans (congrArg (Qs (· +1)) b),λA s R x t v hm hw=>?_⟩;rcases Bo.mp hm with e|hm
  ·cases e;exact Ak (Hx (yG hw))
  ·exact d A s R x t v hm hw
theorem assign_tuple{es:List Expr}{k:Nat}{tp:Pos}{xs:List Str}(hn:EN es=some xs){env:Env}{F P:Fz}{A:BB}{s:Aj}{v:Ac}{as:List AV}
  (fr:Bl c sc env W F P) (ok:Ok n A) (I:Inv c F P V s) (r:Rep c.w F v (.tup as)) (st:Cn sc.names W xs as Ap)
  {R:Unit->Aj->Prop} (q:∀P' s',Fw env P P'->Inv c F P' V s'->Bl c sc env Ap F P'->R () s'):Au c.M A (Ij (.Tuple es k tp) env v) R (λZ Z=>False) s:=by
 refine BS r.isTup ?_;rintro a vs rfl rl ht;obtain⟨h1,h2,h3⟩:=ZN (c:=c) (env:=env) hn;have hl:xs.length=as.length:=st.length;rewrite[yH];refine Ak (Hx (unpack_tuple ok.hh (ht I) (by exact Aa h1<|Aa hl<|Aa DB<|Aa rl.length rfl) h2 λh' hk=>?_));have I':Inv c F P V {s with heap:=h'}:=I.keeps λb o e=>hk b o (Dh (Cr e)) e;simp only[];exact ZL (xs:=xs) h3 (by simp[h1]) st rl fr I' q
theorem BK.tup{es:List Expr}{k:Nat}{tp:Pos}{e:Expr}{pos:Pos}{xs:List Str}(h:Ax c n e sc W V (λa Af=>∃as Ap,a= .tup as/\Cn sc.names W xs as Ap/\Q .next Ap Af))
  (hn:EN es=some xs) (hs:∀env,TC [.Tuple es k tp] e pos.line env=pure false) (hw:∀env,env.scope=sc->Qt [.Tuple es k tp] e env=pure none):
  BK c n (.Assign [.Tuple es k tp] e pos) sc W V Q:=by
 intro F P env A s fr ok I;refine yI (AN (h F P env fr A s ok I) (λv s' hQ=>?_) λZ Z x=>x) (hs env) (hw env fr.Cz);obtain⟨F1,Af,a,l1,I1,r1,as,Ap,e1,st,q1⟩:=hQ;subst e1;show Au c.M A (Ij (.Tuple es k tp) env v) _ _ s';exact assign_tuple hn (fr.mono l1) ok I1 r1 st λP' s2 o I2 C3=>⟨F1,P',Af,Ap,.next,l1,o,I2,C3,.next,q1⟩
theorem BK.tupS{es:List Expr}{k:Nat}{tp:Pos}{e:Expr}{pos:Pos}{xs:List Str}(h:Ax c n e sc W V (λa Af=>∃as Ap,a= .tup as/\as.length=xs.length/\Cn sc.names W xs.reverse as.reverse Ap/\Q .next Ap Af))
  (hs:∀env,TC [.Tuple es k tp] e pos.line env=pure false) (hw:∀env,env.scope=sc->Qt [.Tuple es k tp] e env=pure (some xs)):
  BK c n (.Assign [.Tuple es k tp] e pos) sc W V Q:=by
 intro F P env A s fr ok I;refine Assign_Tuple_swapped (AN (h F P env fr A s ok I) (λv s' hQ=>?_) λZ Z x=>x) (hs env) (hw env fr.Cz);obtain⟨F1,Af,a,l1,I1,r1,as,Ap,e1,hl,st,q1⟩:=hQ;subst e1;refine BS r1.isTup ?_;rintro a vs rfl rl ht;have hz:xs.length=vs.toArray.size:=Aa DB<|Aa rl.length<|Aa hl rfl;refine Aa hz ?_;refine unpackItems_tuple ok.hh (ht I1) λh' hk=>?_;have I':Inv c F1 P Af {s' with heap:=h'}:=I1.keeps λb o e=>hk b o (Dh (Cr e)) e;simp only[];refine ZL (xs:=xs.reverse) (λA s R x t v hm hw=>?_) (by simp) st rl.reverse (fr.mono l1) I' λP' s2 o I2 C3=>⟨F1,P',Af,Ap,.next,l1,o,I2,C3,.next,q1⟩;replace hm:=List.zip_map_right▸hm;refine Ad (Bj.mp hm) ?_;clear hm;intro hZ;obtain⟨y,z⟩:=hZ;intro hyz e;have:y=z:=by have:=Fs.mp hyz;refine Ar this ?_;clear this;intro i hi;rewrite[Qu] at hi;exact Ay (hi.1.symm.trans hi.2)
 subst this;cases e;exact yG hw
theorem BK.setAttr{o:Expr}{name:Str}{tp:Pos}{e:Expr}{pos:Pos}(h:Ax c n e sc W V (λv Af=>Ax c n o sc W Af (λov Av=>Gv c n ov name v Av (λBy=>Q .next W By))))
  (hs:∀env,TC [.Attribute o name tp] e pos.line env=pure false):BK c n (.Assign [.Attribute o name tp] e pos) sc W V Q:=by
 intro F P env A s fr ok I;refine yI (AN (h F P env fr A s ok I) (λv s' hQ=>?_) λZ Z x=>x) (hs env) rfl;obtain⟨F1,Af,a,l1,I1,r1,h1⟩:=hQ;show Au c.M A (do
  let ov <-DK [v] (eval o env)
  DL tp.atName
  DK [v,ov] (PySem.setAttr ov name v)
  release [v,ov] []) _ _ s'
 refine Ak (Et (AN (h1 F1 P env (fr.mono l1) A s' ok I1) (λu s2 hQ=>?_) λZ Z x=>x));obtain⟨F2,Av,b,l2,I2,r2,h2⟩:=hQ;refine Ak (Hx (Ak (Et (AN (h2 F2 P u v r2 (r1.mono l2) A s2 ok I2) (λZ s3 hQ=>?_) λZ Z x=>x))));obtain⟨F3,By,_,l3,I3,_,q3⟩:=hQ;exact yB ⟨F3,P,By,W,.next,(l1.trans l2).trans l3,.refl,I3,fr.mono ((l1.trans l2).trans l3),.next,q3⟩
theorem BK.AbL{o i:Expr}{tp:Pos}{e:Expr}{pos:Pos}(h:Ax c n e sc W V (λv Af=>Ax c n o sc W Af (λov Av=>Ax c n i sc W Av (λiv By=>Dd c n ov iv v By (λCE=>Q .next W CE)))))
  (hs:∀env,Jx e (some (.Subscript o i tp)) pos.line env=pure false):BK c n (.Assign [.Subscript o i tp] e pos) sc W V Q:=by
 intro F P env A s fr ok I;refine wpAny_Assign_Subscript (AN (h F P env fr A s ok I) (λv s' hQ=>?_) λZ Z x=>x) (hs env);obtain⟨F1,Af,a,l1,I1,r1,h1⟩:=hQ;refine AN (h1 F1 P env (fr.mono l1) A s' ok I1) (λu s2 hQ=>?_) λZ Z x=>x;obtain⟨F2,Av,b,l2,I2,r2,h2⟩:=hQ;refine AN (h2 F2 P env (fr.mono (l1.trans l2)) A s2 ok I2) (λz s3 hQ=>?_) λZ Z x=>x;obtain⟨F3,By,d,l3,I3,r3,h3⟩:=hQ;refine AN (h3 F3 P u z v (r2.mono l3) r3 (r1.mono (l2.trans l3)) A s3 ok I3) (λZ s4 hQ=>?_) λZ Z x=>x;obtain⟨F4,CE,_,l4,I4,_,q4⟩:=hQ;have l:=((l1.trans l2).trans l3).trans l4;exact⟨F4,P,CE,W,.next,l,.refl,I4,fr.mono l,.next,q4⟩
def Mt(c:Cx)(n:Nat)(t:Expr)(body:List Stmt)(sc:BF)(W:Al)(V:St)(Q:Fl->Al->St->Prop):Prop:=
 ∀F P env A s,Bl c sc env W F P->Ok n A->Inv c F P V s->Hy c.M A (.whileLoop t body [] env) (λr s'=>match r with | .ok f=>Out c sc env F P Q f s' | .error _=>False) s
theorem Mt.turn{t:Expr}(h:B0 c (n+1) t sc W V (λk Af=>if k then BE c (n+1) body sc W Af (λf r s=>match f with | .next | .cont=>Mt c (n+1) t body sc r s Q | .brk=>Q .next r s | .ret a=>Q (.ret a) r s) else Q .next W Af)):
  Mt c (n+1) t body sc W V Q:=by
 intro F P env A s fr ok I;refine XK ?_;have eA:A.under (.whileLoop t body [] env)=A:=Around.under_of_weight rfl;refine Aa eA ?_;show Au _ A ((whileTurn t body [] env).onRaise (λx=>do noteFrame x env;yJ x)) _ _ s;refine wpAny_onRaise (AN ?_ (λZ Z x=>x) λ_ _ (x:False)=>x.elim);simp only[whileTurn];refine Ak (AN (h F P env fr A s ok I) (λv s' hQ=>?_) λZ Z x=>x);obtain⟨F1,Af,k,l1,I1,e,q1⟩:=hQ;subst (e:v=k);cases v with
 | false=>
  simp only[Fa,if_false] at q1⊢;refine Ak (XJ (AF ?_));exact⟨F1,P,Af,W,.next,l1,.refl,I1,fr.mono l1,.next,q1⟩
 | true=>
  simp only[if_true] at q1⊢;refine Ak (AN (q1 F1 P env A s' (fr.mono l1) ok I1) (λfl s2 hQ=>?_) λZ Z x=>x);obtain⟨F2,P2,Av,De,UU,l2,o2,I2,C3,r2,q2⟩:=hQ;have go:Mt c (n+1) t body sc De Av Q->Hy c.M A (.whileLoop t body [] env) (λr s'=>match r with | .ok f=>Out c sc env F P Q f s' | .error _=>False) s2:=λq=>
   Ky (q F2 P2 env A s2 C3 ok I2) λr s3 h3=>by
    cases r with
    | ok f=>exact Out.mono (l1.trans l2) o2 h3
    | error _=>exact h3
  cases r2 with
  | next=>exact AF ⟨rfl,go q2⟩
  | cont=>exact AF ⟨rfl,go q2⟩
  | brk=>exact AF ⟨F2,P2,Av,De,.next,l1.trans l2,o2,I2,C3,.next,q2⟩
  | ret r=>exact AF ⟨F2,P2,Av,De,.ret _,l1.trans l2,o2,I2,C3,.ret r,q2⟩
theorem BK.while{t:Expr}{pos:Pos}(h:Mt c n t body sc W V Q):BK c n (.While t body [] pos) sc W V Q:=by
 intro F P env A s fr ok I;refine wpAny_While (Ky (h F P env A s fr ok I) λr s' hr=>?_);cases r with
 | ok f=>exact hr
 | error _=>exact hr.elim
end
section
variable{c:Cx}{n:Nat}{V:St}{Q:AV->St->Prop}
theorem Ci.add{i j:Int}(q:Q (.int (i+j)) V):Ci c n .Add (.int i) (.int j) V Q:=by intro F P v u;intro hZ;refine Ar hZ ?_;clear hZ;rintro _ rfl;intro hZ;refine Ar hZ ?_;clear hZ;rintro _ rfl;intro A s ok I;exact Ali ⟨F,V,_,.refl,I.toks _,.int _ _,q⟩
theorem Ci.sub{i j:Int}(q:Q (.int (i-j)) V):Ci c n .Sub (.int i) (.int j) V Q:=by intro F P v u;intro hZ;refine Ar hZ ?_;clear hZ;rintro _ rfl;intro hZ;refine Ar hZ ?_;clear hZ;rintro _ rfl;intro A s ok I;exact Alj ⟨F,V,_,.refl,I.toks _,.int _ _,q⟩
theorem Ci.mul{i j:Int}(hm:IntMulOk i j)(q:Q (.int (i*j)) V):Ci c n .Mult (.int i) (.int j) V Q:=by intro F P v u;intro hZ;refine Ar hZ ?_;clear hZ;rintro _ rfl;intro hZ;refine Ar hZ ?_;clear hZ;rintro _ rfl;intro A s ok I;exact Alk ⟨F,V,_,.refl,I.toks _,.int _ _,q⟩ hm
theorem Ci.mod{i j:Int}(hj:j≠0)(q:Q (.int (i.fmod j)) V):Ci c n .Mod (.int i) (.int j) V Q:=by intro F P v u;intro hZ;refine Ar hZ ?_;clear hZ;rintro _ rfl;intro hZ;refine Ar hZ ?_;clear hZ;rintro _ rfl;intro A s ok I;exact All hj ⟨F,V,_,.refl,I.toks _,.int _ _,q⟩
theorem Ci.fdiv{i j:Int}(hj:j≠0)(hs:j.natAbs<1073741824)(q:Q (.int (i.fdiv j)) V):Ci c n .FloorDiv (.int i) (.int j) V Q:=by intro F P v u;intro hZ;refine Ar hZ ?_;clear hZ;rintro _ rfl;intro hZ;refine Ar hZ ?_;clear hZ;rintro _ rfl;intro A s ok I;exact Alm hj ⟨F,V,_,.refl,I.toks _,.int _ _,q⟩ (.inl (PyProof.noPylong_small hs))
theorem KX.neg{i:Int}(q:Q (.int (-i)) V):KX c n .USub (.int i) V Q:=by intro F P v;intro hZ;refine Ar hZ ?_;clear hZ;rintro _ rfl;intro A s ok I;exact Aln ⟨F,V,_,.refl,I.toks _,.int _ _,q⟩
theorem KX.not{a:AV}(h:ES c n a V (λb Af=>Q (.bool (!b)) Af)):KX c n .Not a V Q:=by intro F P v r1 A s ok I;exact not_of (AN (h F P v r1 A s ok I) (λb s' ⟨F1,Af,k,l1,I1,e,q⟩=>by subst (e:b=k);exact⟨F1,Af,_,l1,I1,.bool _,q⟩) λZ Z x=>x)
theorem AR.eqI{i j:Int}(q:Q (.bool (decide (i=j))) V):AR c n .Eq (.int i) (.int j) V Q:=by intro F P v u;intro hZ;refine Ar hZ ?_;clear hZ;rintro _ rfl;intro hZ;refine Ar hZ ?_;clear hZ;rintro _ rfl;intro A s ok I;exact Alo ⟨F,V,.bool _,.refl,I,.bool _,by have:(i==j)=decide (i=j):=rfl;exact Aa this<|q⟩
theorem AR.neI{i j:Int}(q:Q (.bool (decide (i≠j))) V):AR c n .NotEq (.int i) (.int j) V Q:=by intro F P v u;intro hZ;refine Ar hZ ?_;clear hZ;rintro _ rfl;intro hZ;refine Ar hZ ?_;clear hZ;rintro _ rfl;intro A s ok I;exact Alp ⟨F,V,.bool _,.refl,I,.bool _,Aa (show(i !=j)=decide (i≠j) by simp[bne];rfl) q⟩
theorem AR.lt{i j:Int}(q:Q (.bool (decide (i<j))) V):AR c n .Lt (.int i) (.int j) V Q:=by intro F P v u;intro hZ;refine Ar hZ ?_;clear hZ;rintro _ rfl;intro hZ;refine Ar hZ ?_;clear hZ;rintro _ rfl;intro A s ok I;exact yK ⟨F,V,_,.refl,I,.bool _,q⟩
theorem AR.gt{i j:Int}(q:Q (.bool (decide (j<i))) V):AR c n .Gt (.int i) (.int j) V Q:=by intro F P v u;intro hZ;refine Ar hZ ?_;clear hZ;rintro _ rfl;intro hZ;refine Ar hZ ?_;clear hZ;rintro _ rfl;intro A s ok I;exact Alq ⟨F,V,_,.refl,I,.bool _,q⟩
theorem AR.le{i j:Int}(q:Q (.bool (decide (i<=j))) V):AR c n .LtE (.int i) (.int j) V Q:=by intro F P v u;intro hZ;refine Ar hZ ?_;clear hZ;rintro _ rfl;intro hZ;refine Ar hZ ?_;clear hZ;rintro _ rfl;intro A s ok I;exact Alr ⟨F,V,_,.refl,I,.bool _,q⟩
theorem AR.ge{i j:Int}(q:Q (.bool (decide (j<=i))) V):AR c n .GtE (.int i) (.int j) V Q:=by intro F P v u;intro hZ;refine Ar hZ ?_;clear hZ;rintro _ rfl;intro hZ;refine Ar hZ ?_;clear hZ;rintro _ rfl;intro A s ok I;exact Als ⟨F,V,_,.refl,I,.bool _,q⟩
theorem AR.eqS{y:Str}(q:Q (.bool (decide (x=y))) V):AR c n .Eq (.str x) (.str y) V Q:=by intro F P v u;intro hZ;refine Ar hZ ?_;clear hZ;rintro _ rfl;intro hZ;refine Ar hZ ?_;clear hZ;rintro _ rfl;intro A s ok I;exact Alt ⟨F,V,.bool _,.refl,I,.bool _,Aa (show(x==y)=decide (x=y) by by_cases h:x=y<;>simp[h]) q⟩
theorem AR.neS{y:Str}(q:Q (.bool (decide (x≠y))) V):AR c n .NotEq (.str x) (.str y) V Q:=by intro F P v u;intro hZ;refine Ar hZ ?_;clear hZ;rintro _ rfl;intro hZ;refine Ar hZ ?_;clear hZ;rintro _ rfl;intro A s ok I;exact Alu ⟨F,V,.bool _,.refl,I,.bool _,Aa (show(x !=y)=decide (x≠y) by by_cases h:x=y<;>simp[h]) q⟩
noncomputable def AV.isNone:AV->Bool
 | .none=>true
 | .raw v=>v== .none
 | _=>false
theorem Rep.isNone{F:Fz}{a:AV}(r:Rep w F v a):(v== .none)=a.isNone:=by
 cases a with
 | none=>subst r;rfl
 | raw u=>subst r;rfl
 | bool b=>subst r;rfl
 | ref b=>subst r;rfl
 | int i=>refine Ar r ?_;clear r;rintro _ rfl;rfl
 | str i=>refine Ar r ?_;clear r;rintro _ rfl;rfl
 | obj _ _=>refine Ad r ?_;clear r;rintro _ rfl _;rfl
 | tup _=>obtain⟨_,_,_,rfl,_⟩:=r;rfl
 | lst _=>obtain⟨_,_,_,rfl,_⟩:=r;rfl
 | BH _ _=>obtain⟨_,_,_,rfl,_⟩:=r;rfl
 | inst _ _ _=>obtain⟨_,_,_,_,rfl,_⟩:=r;rfl
theorem AR.isN{a:AV}(q:Q (.bool a.isNone) V):AR c n .Is a .none V Q:=by rintro F P v u r1 rfl A s ok I;exact PySem.is_none ⟨F,V,.bool _,.refl,I,.bool _,Aa r1.isNone<|q⟩
theorem ES.bool{b:Bool}{Q:Bool->St->Prop}(q:Q b V):ES c n (.bool b) V Q:=by intro F P v;intro hZ;obtain⟨_,rfl⟩:=hZ;intro A s ok I;exact TA ⟨F,V,_,.refl,I,rfl,q⟩
theorem ES.int{i:Int}{Q:Bool->St->Prop}(q:Q (decide (i≠0)) V):ES c n (.int i) V Q:=by intro F P v;intro hZ;refine Ar hZ ?_;clear hZ;rintro _ rfl;intro A s ok I;exact Alv ⟨F,V,_,.refl,I,rfl,Aa (show(i !=0)=decide (i≠0) by simp[bne];rfl) q⟩
mutual
noncomputable def AV.toPy:AV->Qv
 | .bool b=>.bool b
 | .int i=>.int i
 | .str s=>.str s
 | .tup xs=>.tuple (AV.Ec xs)
 | .lst xs=>.list (AV.Ec xs)
 | _=>.none
noncomputable def AV.Ec:List AV->List Qv
 | []=>[]
 | x::xs=>x.toPy::AV.Ec xs
end
mutual
noncomputable def AV.UV:AV->Nat->Bool
 | .int _,_=>true
 | .str x,_=>yL x
 | .tup xs,k=>k !=0&&AV.Of xs (k-1)
 | .lst xs,k=>k !=0&&AV.Of xs (k-1)
 | _,_=>false
noncomputable def AV.Of:List AV->Nat->Bool
 | [],_=>true
 | x::xs,k=>AV.UV x k&&AV.Of xs k
end
noncomputable abbrev AV.flat(k:Nat)(a:AV):Bool:=a.UV k
noncomputable abbrev AV.CO(k:Nat)(xs:List AV):Bool:=AV.Of xs k
theorem ZO{k:Nat}(h:AV.CO k xs=true)(x:AV)(hm:x∈xs):AV.flat k x=true:=by
 induction xs with
 | nil=>cases hm
 | cons y ys ih=>
  refine Ah (Bu h) ?_;clear h;intro h1 h2;cases hm with
  | head=>exact h1
  | tail _ hm=>exact ih h2 hm
theorem KY{k:Nat}(h:∀x∈xs,AV.flat k x=true):AV.CO k xs=true:=by
 induction xs with
 | nil=>rfl
 | cons y ys ih=>exact(D7 _ _).mpr ⟨h y (.head _),ih λx hx=>h x (.tail _ hx)⟩
theorem UW{P:Nat->AV->Prop}{Q:Nat->List AV->Prop}(i:∀k i,P k (.int i))(s:∀k x,yL x=true->P k (.str x))(t:∀k xs,k≠0->Q (k-1) xs->P k (.tup xs))(l:∀k xs,k≠0->Q (k-1) xs->P k (.lst xs))(n:∀k,Q k [])(c:∀k x xs,P k x->Q k xs->Q k (x::xs))(a:AV):∀k,AV.flat k a=true->P k a:=
 AV.rec (motive_1:=λa=>∀k,AV.flat k a=true->P k a) (motive_2:=λxs=>∀k,AV.CO k xs=true->Q k xs) (λZ h=>AJ h) (λZ Z h=>AJ h) (λx k Z=>i k x) (λx k h=>s k x h) (λZ Z h=>AJ h) (λZ Z h=>AJ h) (λZ Z Z h=>AJ h)
  (λxs q k h=>t k xs (bne_iff_ne.mp (Bu h).1) (q _ (Bu h).2)) (λxs q k h=>l k xs (bne_iff_ne.mp (Bu h).1) (q _ (Bu h).2)) (λZ Z Z Z Z h=>AJ h) (λZ Z Z Z Z h=>AJ h) (λk Z=>n k) (λx xs p q k h=>c k x xs (p k (Bu h).1) (q k (Bu h).2)) a
theorem ZP{P:Nat->AV->Prop}{Q:Nat->List AV->Prop}(p:∀a k,AV.flat k a=true->P k a)(n:∀k,Q k [])(c:∀k x xs,P k x->Q k xs->Q k (x::xs))(xs:List AV):∀k,AV.CO k xs=true->Q k xs:=
 yA (motive:=λxs=>∀k,AV.CO k xs=true->Q k xs) (λk Z=>n k) (λx xs q k h=>c k x xs (p x k (Bu h).1) (q k (Bu h).2)) xs
theorem Rf{P:AV->Prop}{k:Nat}(i:∀i,P (.int i))(s:∀x,P (.str x))(t:∀xs,AV.CO (k-1) xs=true->P (.tup xs))(l:∀xs,AV.CO (k-1) xs=true->P (.lst xs))(a:AV):AV.flat k a=true->P a:=
 AV.casesOn (motive_1:=λa=>AV.flat k a=true->P a) a (λh=>AJ h) (λZ h=>AJ h) (λx Z=>i x) (λx Z=>s x) (λZ h=>AJ h) (λZ h=>AJ h) (λZ Z h=>AJ h) (λxs h=>t xs (Bu h).2) (λxs h=>l xs (Bu h).2) (λZ Z h=>AJ h) (λZ Z Z h=>AJ h)
def Og(w:A7)(F:Fz)(h:Heap)(xs:List AV):Prop:=∀{vs:List Ac},Ao w F vs xs->∃as,ReadsAll h vs (AV.Ec xs) as
theorem ZQ{F:Fz}:Og w F h []:=λe=>by subst e;exact⟨_,.nil⟩
theorem ZR{F:Fz}{x:AV}(p:∀v,Rep w F v x->∃as,Reads h v x.toPy as)(q:Og w F h xs):Og w F h (x::xs):=λ⟨_,_,e,r,rs⟩=>by
 subst e;refine Ar (p _ r) ?_;intro _ p1;refine Ar (q rs) ?_;clear rs;intro _ p2;exact⟨_,.cons p1 p2⟩
theorem IF{F:Fz}(hF:∀a o,F a=some o->h.get? a=some o){a:AV}{k:Nat}(r:Rep w F v a)(hk:AV.flat k a=true):∃as,Reads h v a.toPy as:=
 UW (P:=λZ a=>∀v,Rep w F v a->∃as,Reads h v a.toPy as) (Q:=λZ xs=>Og w F h xs) (λ_ i _ ⟨t,e⟩=>by subst e;exact⟨_,.int i t⟩) (λ_ s _ _ ⟨t,e⟩=>by subst e;exact⟨_,.str s t⟩)
  (λ_ _ _ q _ ⟨_,_,_,e,f,r⟩=>by subst e;refine Ar (q r) ?_;clear r;intro _ q;exact⟨_,XM (hF _ _ f) rfl rfl (by simpa using q)⟩)
  (λ_ _ _ q _ ⟨_,_,_,e,f,r⟩=>by subst e;refine Ar (q r) ?_;clear r;intro _ q;exact⟨_,XN (hF _ _ f) rfl rfl (by simpa using q)⟩) (λZ=>ZQ) (λZ Z Z=>ZR) a k hk v r
theorem ZS{F:Fz}(hF:∀a o,F a=some o->h.get? a=some o){k:Nat}{vs:List Ac}(r:Ao w F vs xs)(hk:AV.CO k xs=true):∃as,ReadsAll h vs (AV.Ec xs) as:=
 ZP (P:=λZ a=>∀v,Rep w F v a->∃as,Reads h v a.toPy as) (Q:=λZ xs=>Og w F h xs) (λZ Z hk Z r=>IF hF r hk) (λZ=>ZQ) (λZ Z Z=>ZR) xs k hk r
def Lay0(k:Nat)(d:Qv):Prop:=d.canLay0=true/\d.depth<=k
def Oh(k:Nat)(ds:List Qv):Prop:=XO ds=true/\Qw ds<=k
theorem ZT{k:Nat}{ds:List Qv}(h0:k≠0)(h:Oh (k-1) ds):XO ds=true/\Qw ds+1<=k:=⟨h.1,Nat.add_le_of_le_sub (Qx h0) h.2⟩
theorem ZU{k:Nat}{x:AV}(a:Lay0 k x.toPy)(b:Oh k (AV.Ec xs)):Oh k (AV.Ec (x::xs)):=⟨(D7 _ _).mpr ⟨a.1,b.1⟩,Nat.max_le.mpr ⟨a.2,b.2⟩⟩
theorem Mu(a:AV)(k:Nat)(h:AV.flat k a=true):a.toPy.canLay0=true/\a.toPy.depth<=k:=
 UW (P:=λk a=>Lay0 k a.toPy) (Q:=λk xs=>Oh k (AV.Ec xs)) (λZ Z=>⟨rfl,Cq _⟩) (λZ Z h=>⟨h,Cq _⟩) (λZ Z h0 h=>ZT h0 h) (λZ Z h0 h=>ZT h0 h) (λZ=>⟨rfl,Cq _⟩) (λZ Z Z=>ZU) a k h
theorem ZV(xs:List AV)(k:Nat)(h:AV.CO k xs=true):XO (AV.Ec xs)=true/\Qw (AV.Ec xs)<=k:=
 ZP (P:=λk a=>Lay0 k a.toPy) (Q:=λk xs=>Oh k (AV.Ec xs)) Mu (λZ=>⟨rfl,Cq _⟩) (λZ Z Z=>ZU) xs k h
def Mw(a b:AV):Prop:=Jy a.toPy b.toPy=true↔a=b
def Mx(xs ys:List AV):Prop:=PyData.eqvAll (AV.Ec xs) (AV.Ec ys)=true↔xs=ys
theorem Fx{p:Bool}{Q:Prop}(h:p=false)(q:¬Q):p=true↔Q:=⟨λe=>NY (e.symm.trans h),λx=>absurd x q⟩
theorem AbM{k:Nat}{x:AV}(a:∀b j,AV.flat j b=true->Mw x b)(b:∀ys j,AV.CO j ys=true->Mx xs ys)(ys:List AV)(j:Nat):AV.CO j ys=true->Mx (x::xs) ys:=
 yM (motive:=λys=>AV.CO j ys=true->Mx (x::xs) ys) ys (λZ=>Fx rfl (yN _ _)) λy ys h2=>
  have a:=a y j (Bu h2).1;have b:=b ys j (Bu h2).2
  ⟨λh=>congr (congrArg yO (a.mp (Bu h).1)) (b.mp (Bu h).2),λh=>(D7 _ _).mpr ⟨a.mpr (Qy h).1,b.mpr (Qy h).2⟩⟩
theorem AbN(ys:List AV)(j:Nat)(_:AV.CO j ys=true):Mx [] ys:=
 yM (motive:=λys=>Mx [] ys) ys ⟨λZ=>rfl,λZ=>rfl⟩ λZ Z=>Fx rfl (yN _ _).symm
theorem Rg(a:AV)(k:Nat)(b:AV)(j:Nat)(h1:AV.flat k a=true)(h2:AV.flat j b=true):Jy a.toPy b.toPy=true↔a=b:=
 UW (P:=λZ a=>∀b j,AV.flat j b=true->Mw a b) (Q:=λZ xs=>∀ys j,AV.CO j ys=true->Mx xs ys)
  (λZ i b Z=>Rf (P:=Mw (.int i)) (λZ=>⟨λh=>congrArg AV.int (of_decide_eq_true h),λh=>decide_eq_true (AV.int.inj h)⟩) (λZ=>Fx rfl nofun) (λZ Z=>Fx rfl nofun) (λZ Z=>Fx rfl nofun) b)
  (λZ x Z b Z=>Rf (P:=Mw (.str x)) (λZ=>Fx rfl nofun) (λZ=>⟨λh=>congrArg AV.str (of_decide_eq_true h),λh=>decide_eq_true (AV.str.inj h)⟩) (λZ Z=>Fx rfl nofun) (λZ Z=>Fx rfl nofun) b)
  (λZ xs Z q b Z=>Rf (P:=Mw (.tup xs)) (λZ=>Fx rfl nofun) (λZ=>Fx rfl nofun) (λys h=>⟨λe=>congrArg AV.tup ((q ys _ h).mp e),λe=>(q ys _ h).mpr (AV.tup.inj e)⟩) (λZ Z=>Fx rfl nofun) b)
  (λZ xs Z q b Z=>Rf (P:=Mw (.lst xs)) (λZ=>Fx rfl nofun) (λZ=>Fx rfl nofun) (λZ Z=>Fx rfl nofun) (λys h=>⟨λe=>congrArg AV.lst ((q ys _ h).mp e),λe=>(q ys _ h).mpr (AV.lst.inj e)⟩) b)
  (λZ=>AbN) (λk Z Z=>AbM (k:=k)) a k h1 b j h2
theorem Rh{a:AV}(h:AV.flat 8 a=true):yP a.toPy=true:=by refine Ah (Mu a 8 h) ?_;intro x y;unfold yP;exact Aa x<|Aa (Bool.true_and _)<|decide_eq_true (AP y (by decide))
theorem ZW(k:Nat)(xs:List AV)(a:AV)(h:AV.CO k xs=true)(ha:AV.flat k a=true):((AV.Ec xs).any λy=>Jy y a.toPy)=true↔a∈xs:=by
 induction xs with
 | nil=>exact⟨(λh=>nomatch h),(λh=>nomatch h)⟩
 | cons x xs ih=>
  refine(Jz _ _:_=_).to_iff.trans (Iff.trans (or_congr (Rg x k a k (Bu h).1 ha) (ih (Bu h).2)) ?_);exact⟨λq=>q.elim (λe=>e▸ .head _) (.tail _),λq=>(Bo.mp q).imp_left Eq.symm⟩
open Classical in
theorem AR.ZX{a b:AV}(ha:AV.flat 8 a=true)(hb:AV.flat 8 b=true)(q:Q (.bool (decide (a=b))) V):AR c n .Eq a b V Q:=by
 intro F P v u r1 r2 A s ok I;refine Ar (IF I.hf r1 ha) ?_;intro as p1;refine Ar (IF I.hf r2 hb) ?_;intro bs p2;have e:Jy a.toPy b.toPy=decide (a=b):=by
  have:=Rg a 8 b 8 ha hb;by_cases h:a=b
  ·exact Aa (decide_eq_true h)<|this.mpr h
  ·exact Aa (decide_eq_false h)<|JA.mpr λx=>h (this.mp x)
 exact eq_dataH p1 p2 (Rh ha) (Rh hb) (by have:=ok.un;unfold DC;exact N2 (AI (CN this) (BJ _)) rfl) ⟨F,V,.bool _,.refl,I,.bool _,Aa e<|q⟩
open Classical in
theorem AR.Oi{a b:AV}(ha:AV.flat 8 a=true)(hb:AV.flat 8 b=true)(q:Q (.bool (!decide (a=b))) V):AR c n .NotEq a b V Q:=by
 intro F P v u r1 r2 A s ok I;refine Ar (IF I.hf r1 ha) ?_;intro as p1;refine Ar (IF I.hf r2 hb) ?_;intro bs p2;have e:Jy a.toPy b.toPy=decide (a=b):=by
  have:=Rg a 8 b 8 ha hb;by_cases h:a=b
  ·exact Aa (decide_eq_true h)<|this.mpr h
  ·exact Aa (decide_eq_false h)<|JA.mpr λx=>h (this.mp x)
 exact ne_dataH p1 p2 (Rh ha) (Rh hb) (by have:=ok.un;unfold DC;exact N2 (AI (CN this) (BJ _)) rfl) ⟨F,V,.bool _,.refl,I,.bool _,Aa e<|q⟩
inductive Cb(V:St):AV->Bool->List AV->Prop
 | lst {xs:List AV}:Cb V (.lst xs) true xs
 | tup {xs:List AV}:Cb V (.tup xs) false xs
 | ref {a:Addr} {xs:List AV}:V a=some (.list xs)->Cb V (.ref a) true xs
inductive ZY(w:A7)(F:Fz)(h:Heap)(T:String)(xs:List AV)(v:Ac):Prop
 | mk (l:Addr) (vs:List Ac) (k:Nat):v= .ref l->h.get? l=some (AM T vs.toArray k)->Ao w F vs xs->ZY w F h T xs v
theorem Cb.at{F:Fz}{a:AV}{b:Bool}{s:Aj}(h:Cb V a b xs)(I:Inv c F P V s)(r:Rep c.w F v a):
  ZY c.w F s.heap (if b then "list" else "tuple") xs v:=by
 cases h with
 | lst=>obtain⟨_,_,_,rfl,e,r⟩:=r;exact⟨_,_,_,rfl,I.hf _ _ e,r⟩
 | tup=>obtain⟨_,_,_,rfl,e,r⟩:=r;exact⟨_,_,_,rfl,I.hf _ _ e,r⟩
 | ref h=>
  subst r;obtain⟨_,ho,_,_,rfl,r⟩:=I.hs _ _ h;exact⟨_,_,_,rfl,ho,r⟩
open Classical in
theorem AR.UX{a d:AV}{b:Bool}(h:Cb V d b xs)(ha:AV.flat 8 a=true)(hx:AV.CO 8 xs=true)(q:Q (.bool (decide (a∈xs))) V):AR c n .In a d V Q:=by
 intro F P v u r1 r2 A s ok I;obtain⟨l,vs,k,rfl,ho,r⟩:=h.at I r2;refine Ar (IF I.hf r1 ha) ?_;intro as p1;refine Ar (ZS I.hf r hx) ?_;intro bs p2;have e:((AV.Ec xs).any λy=>Jy y a.toPy)=decide (a∈xs):=by
  have:=ZW 8 xs a hx ha;by_cases h:a∈xs
  ·exact Aa (decide_eq_true h)<|this.mpr h
  ·exact Aa (decide_eq_false h)<|JA.mpr λx=>h (this.mp x)
 refine Ah (ZV xs 8 hx) ?_;intro z1 z2;refine Ah (Mu a 8 ha) ?_;intro z3 z4;have hu:A.units+1+min (Qw (AV.Ec xs)) a.toPy.depth<cLine:=by have:=ok.un;unfold DC;exact Zg z2 this
 cases b with
 | true=>exact SeqAt.in_list_reads (XN ho rfl rfl (by simpa using p2)) p1 z1 z3 hu ⟨F,V,.bool _,.refl,I,.bool _,Aa e<|q⟩
 | false=>exact SeqAt.in_tuple_reads (XM ho rfl rfl (by simpa using p2)) p1 z1 z3 hu ⟨F,V,.bool _,.refl,I,.bool _,Aa e<|q⟩
open Classical in
theorem AR.AbO{a d:AV}{b:Bool}(h:Cb V d b xs)(ha:AV.flat 8 a=true)(hx:AV.CO 8 xs=true)(q:Q (.bool (!decide (a∈xs))) V):AR c n .NotIn a d V Q:=by
 intro F P v u r1 r2 A s ok I;obtain⟨l,vs,k,rfl,ho,r⟩:=h.at I r2;refine Ar (IF I.hf r1 ha) ?_;intro as p1;refine Ar (ZS I.hf r hx) ?_;intro bs p2;have e:((AV.Ec xs).any λy=>Jy y a.toPy)=decide (a∈xs):=by
  have:=ZW 8 xs a hx ha;by_cases h:a∈xs
  ·exact Aa (decide_eq_true h)<|this.mpr h
  ·exact Aa (decide_eq_false h)<|JA.mpr λx=>h (this.mp x)
 refine Ah (ZV xs 8 hx) ?_;intro z1 z2;refine Ah (Mu a 8 ha) ?_;intro z3 z4;have hu:A.units+1+min (Qw (AV.Ec xs)) a.toPy.depth<cLine:=by have:=ok.un;unfold DC;exact Zg z2 this
 cases b with
 | true=>exact SeqAt.notIn_list_reads (XN ho rfl rfl (by simpa using p2)) p1 z1 z3 hu ⟨F,V,.bool _,.refl,I,.bool _,Aa e<|q⟩
 | false=>exact SeqAt.notIn_tuple_reads (XM ho rfl rfl (by simpa using p2)) p1 z1 z3 hu ⟨F,V,.bool _,.refl,I,.bool _,Aa e<|q⟩
end
theorem Cu{l:Addr}{vs:List Ac}{k:Nat}(ho:h.get? l=some (AM "list" vs.toArray k)):h.IsList l vs.toArray:=⟨_,ho,rfl,_,rfl⟩
theorem UY{l:Addr}{vs:List Ac}{k:Nat}(ho:h.get? l=some (AM "tuple" vs.toArray k)):IsTup h l vs.toArray:=⟨_,ho,rfl,_,rfl⟩
section
variable{c:Cx}{n:Nat}{V:St}{Q:AV->St->Prop}
theorem Oj(slice:Expr)(o i:Ac):∃ops,subscripted slice false o i=operate ops (getItem o i):=by
 cases slice with
 | Slice l u st p=>cases st<;>exact⟨_,rfl⟩
 | _=>exact⟨_,rfl⟩
theorem AL.B4{a:AV}{b:Bool}{i:Int}{x:AV}(h:Cb V a b xs)(h0:0<=i)(hz:xs.length<2^62)(hx:xs[i.toNat]?=some x)(q:Q x V):AL c n a (.int i) V Q:=by
 intro F P v u value slice r1 r2 A s ok I;refine Ar r2 ?_;clear r2;rintro _ rfl;obtain⟨l,vs,k,rfl,ho,r⟩:=h.at I r1;refine Ad (r.get hx) ?_;intro y hy ry;have hi:i.toNat<xs.length:=(A5.mp hx).1;have hl:vs.length=xs.length:=r.length;obtain⟨ops,hs⟩:=Oj slice (.ref l) (.int i _);cases b with
 | true=>exact Qz (Cu ho).typeIs XQ.lookup (wpAny_getItem_list (Cu ho) h0 (Zp hz hi) (by simpa using hy) ⟨F,V,_,.refl,I,ry,q⟩) hs
 | false=>
  have e:XR i vs.toArray.size=some i.toNat:=by unfold XR;refine Aa DB<|Aa hl ?_;simp only[if_neg (show ¬i<0 by exact λCJ=>Zc CJ h0)];rw[if_pos (by simp;exact And.intro h0 (Q5 (Zd h0) (UF hi)))]
  exact Qz (UY ho).typeIs slot_tuple_getitem.lookup (Alw (UY ho) (Ml h0 rfl) (Zp hz hi) e (by simpa using hy) ⟨F,V,_,.refl,I,ry,q⟩) hs
theorem AL.neg{a:AV}{i:Int}{x:AV}(h:Cb V a true xs)(h0:i<0)(h1: -(xs.length:Int)<=i)(hz:xs.length<2^62)(hx:xs[(i+xs.length).toNat]?=some x)(q:Q x V):AL c n a (.int i) V Q:=by intro F P v u value slice r1 r2 A s ok I;refine Ar r2 ?_;clear r2;rintro _ rfl;obtain⟨l,vs,k,rfl,ho,r⟩:=h.at I r1;refine Ad (r.get hx) ?_;clear hx;intro y hy ry;obtain⟨ops,hs⟩:=Oj slice (.ref l) (.int i _);have hl:vs.toArray.size=xs.length:=Aa DB<|Aa r.length rfl;exact Qz (Cu ho).typeIs XQ.lookup (wpAny_getItem_list_neg (Cu ho) h0 (by exact Aa hl<|h1) (M61 h1 hz) (by refine Aa hl ?_;simpa using hy) ⟨F,V,_,.refl,I,ry,q⟩) hs
theorem Ri{F:Fz}{vs:List Ac}(r:Ao c.w F vs xs):vs.toArray.size=xs.length:=Aa DB<|Aa r.length rfl
theorem AbP{l:Addr}{vs:List Ac}{k:Nat}(ho:h.get? l=some (AM "list" vs.toArray k))(f:Array Ac->Array Ac){ws:List Ac}(e:f vs.toArray=ws.toArray):
  ∃k',(h.update l (DD f)).get? l=some (AM "list" ws.toArray k'):=by
 refine⟨if ws.toArray.size==vs.toArray.size then k else k+1,?_⟩;rw[LZ _ ho (by rfl),<-e];rfl
theorem Inv.UZ{F P:Fz}{s:Aj}{a:Addr}{xs ys:List AV}(I:Inv c F P V s)(h:V a=some (.list xs)){vs ws:List Ac}{k:Nat}(ho:s.heap.get? a=some (AM "list" vs.toArray k))(f:Array Ac->Array Ac)
  (e:f vs.toArray=ws.toArray) (r:Ao c.w F ws ys) {t:Nat}:Inv c F P (V.set a (.list ys)) {s with heap:=s.heap.update a (DD f),toks:=t}:=by
 refine Ar (AbP ho f e) ?_;intro k' hk;exact I.change h (NG ..) hk (.list r)
inductive ZZ(w:A7)(F:Fz)(h:Heap)(a:Addr)(xs:List AV):Prop
 | mk (vs:List Ac) (k:Nat):h.get? a=some (AM "list" vs.toArray k)->Ao w F vs xs->ZZ w F h a xs
theorem Inv.list{F:Fz}{s:Aj}{a:Addr}(I:Inv c F P V s)(h:V a=some (.list xs)):ZZ c.w F s.heap a xs:=by obtain⟨_,ho,_,_,rfl,r⟩:=I.hs _ _ h;exact⟨_,_,ho,r⟩
theorem Dd.B4{a:Addr}{i:Int}{x:AV}{Q:St->Prop}(h:V a=some (.list xs))(h0:0<=i)(hi:i<xs.length)(hz:xs.length<2^62)(q:Q (V.set a (.list (xs.set i.toNat x)))):Dd c n (.ref a) (.int i) x V Q:=by intro F P ov iv vv r1 r2 r3 A s ok I;subst r1;refine Ar r2 ?_;clear r2;rintro _ rfl;obtain⟨vs,k,ho,r⟩:=I.list h;exact ki_setAt ho h0 (Ts hi (Iy hz rfl)) (by exact Aa (Ri r)<|hi) ⟨F,_,(),.refl,I.UZ (t:=s.toks) (ys:=xs.set i.toNat x) h ho _ (by simp) (r.set r3 i.toNat),trivial,q⟩
theorem Z0{F:Fz}{s:Aj}(I:Inv c F P V s){cls:String}{ws:List Ac}(r:Ao c.w F ws ys){t:Nat}:
  let F':=F.set s.heap.objs.size (AM cls ws.toArray 0)
  F.le F'/\Inv c F' P V {s with heap:=s.heap.push (AM cls ws.toArray 0),toks:=t}/\F' s.heap.objs.size=some (AM cls ws.toArray 0)/\Ao c.w F' ws ys:=by
 refine Bq I.fresh ?_;intro hf hp hs;have le:=Fz.Dt (o:=AM cls ws.toArray 0) hf;exact⟨le,(I.push _ (t:=t)).freeze (Ct _ rfl) hf hp hs,by simp,r.mono le⟩
theorem Ci.addL{a b:AV}(h:Cb V a true xs)(h2:Cb V b true ys)(hz:xs.length+ys.length<=Bc)(q:Q (.lst (xs++ys)) V):Ci c n .Add a b V Q:=by
 intro F P v u r1 r2 A s ok I;obtain⟨l,vs,k,rfl,ho,r⟩:=h.at I r1;obtain⟨l2,Z1,k2,rfl,ho2,r'⟩:=h2.at I r2;refine PySem.P.add_list (n:=k) (n2:=k2) ho ho2 ?_ (by exact Aa (Ri r)<|Aa (Ri r')<|hz);refine JO (Z0 (cls:="list") (t:=s.toks) I (r.append r')) ?_;intro a1 a2 a3 a4;have e:({cls:= .type "list",data:= .seq (vs.toArray++Z1.toArray)}:Obj)=AM "list" (vs++Z1).toArray 0:=by simp
 exact Aa e<|⟨_,V,_,a1,a2,.lst a3 a4,q⟩
theorem Z2(v:Ac)(k:Nat):QA (λx1 x2=>x1++x2) #[] (Cy k #[v])=(Cy k v).toArray:=by
 have:∀(k:Nat)(acc:Array Ac),QA (λx1 x2=>x1++x2) acc (Cy k #[v])=acc++(Cy k v).toArray:=by
  intro k;induction k with
  | zero=>intro acc;simp
  | succ k ih=>
   intro acc;refine Aa yQ<|Aa QB<|Aa (ih _) ?_;apply Array.ext';simp[yQ]
 simpa using this k #[]
theorem Ao.replicate{F:Fz}{x:AV}(r:Rep w F v x):∀k,Ao w F (Cy k v) (Cy k x)
 | 0=>.nil
 | k+1=>.cons r (Ao.replicate r k)
theorem Z3{A:BB}{s:Aj}{l:Addr}{items:Array Ac}{k:Nat}{x:Int}{u:Tok}{Q:Ac->Aj->Prop}{E:Ac->Aj->Prop}
  (hl:s.heap.get? l=some {cls:= .type "list",dict:=none,data:= .seq items k,slots:= #[]}) (CA: -(2^63:Int)<=x) (hhi:x<2^63) (CP:items.size*x.toNat<=2^24)
  (h:Q (.ref s.heap.objs.size) {s with heap:=s.heap.push {cls:= .type "list",data:= .seq (QA (λx1 x2=>x1++x2) #[] (Cy (if items.isEmpty=true then 0 else x.toNat) items))}}):
  Au c.M A (binaryOp .Mult (.ref l) (.int x u)) Q E s:=
 wpAny_binaryOp_repeat_ref (T:="list") (U:="int") (by decide) ⟨_,hl,rfl⟩ (λs'=>typeIs_int s' x u) noFill_list_mul F.fills_int_mul F.slot_int_rmul repeat_list F.slot_int_index.lookup
  (L0 F.slot_int_rmul (typeIs_int s x u) F.entry_int_rmul (F.args_int_rmul_2 _ _) (int___rmul___int_list x u l items k)
   ⟨hl,rfl,⟨_,hl,rfl⟩,L0 F.slot_list_mul ⟨_,hl,rfl⟩ F.entry_list_mul (F.args_list_mul_2 _ _)
    (AutoListH.list___mul___list_int_3 l items k x u (by simp[Alx];lia) (λCJ=>GW CJ (N1 CP rfl)) (by simp[Aly,Bc];assumption))
    ⟨hl,h⟩⟩)
theorem Ci.mulL{a x:AV}{i:Int}(h:Cb V a true [x])(h0:0<=i)(h1:i<=1000000)(q:Q (.lst (Cy i.toNat x)) V):Ci c n .Mult a (.int i) V Q:=by
 intro F P v u r1 r2 A s ok I;refine Ar r2 ?_;clear r2;rintro _ rfl;obtain⟨l,vs,k,rfl,ho,r⟩:=h.at I r1;obtain⟨v0,_,rfl,r,r0⟩:=r;subst r0;refine Z3 (k:=k) ho (Ml h0 rfl) (UC h1 rfl) (by simp;exact Za h1 rfl) ?_;have e:QA (λx1 x2=>x1++x2) #[] (Cy (if([v0]:List Ac).toArray.isEmpty=true then 0 else i.toNat) ([v0]:List Ac).toArray)=(Cy i.toNat v0).toArray:=by simpa using Z2 v0 i.toNat
 refine Aa e ?_;refine JO (Z0 (cls:="list") (t:=s.toks) I (Ao.replicate r i.toNat)) ?_;intro a1 a2 a3 a4;exact⟨_,V,_,a1,a2,.lst a3 a4,q⟩
theorem Ol{a:AV}{name:Str}{id:String}(h:Cb V a true xs)(sl:Slot "list" name id)(ty:typeOf (.builtin id)=pure (.type "method_descriptor")):E9 c V a name (.builtin id):=by intro n F P v pl r A s ok I;obtain⟨l,vs,k,rfl,ho,_⟩:=h.at I r;refine XS (Cu ho).typeIs PySem.F.plainAttrs_list sl ty (λb e=>⟨_,by injection e with e;subst e;exact ho,rfl⟩) ⟨F,V,(),.refl,I,rfl,rfl⟩
theorem Z4{name:Str}{id:String}(sl:Slot "str" name id)(ty:typeOf (.builtin id)=pure (.type "method_descriptor")):E9 c V (.str x) name (.builtin id):=by intro n F P v pl r A s ok I;refine Ar r ?_;clear r;rintro _ rfl;refine XS (typeIs_str _ _ _) PySem.F.plainAttrs_str sl ty (λb e=>nomatch e) ⟨F,V,(),.refl,I,rfl,rfl⟩
theorem Du{a:AV}(h:Cb V a true xs):E9 c V a "append" (.builtin "list.append"):=Ol h PySem.F.slot_list_append PySem.F.type_list_append
theorem Z5{a:AV}(h:Cb V a true xs):E9 c V a "pop" (.builtin "list.pop"):=Ol h yR PySem.F.type_list_pop
theorem AbQ{a:AV}(h:Cb V a true xs):E9 c V a "extend" (.builtin "list.extend"):=Ol h yS PySem.F.type_list_extend
theorem Z6{a:AV}(h:Cb V a true xs):E9 c V a "count" (.builtin "list.count"):=Ol h yT PySem.F.type_list_count
theorem AbR{a:AV}(h:Cb V a true xs):E9 c V a "index" (.builtin "list.index"):=Ol h yU PySem.F.type_list_index
theorem AbS:E9 c V (.str x) "index" (.builtin "str.index"):=Z4 PySem.F.slot_str_index PySem.F.type_str_index
theorem AbT:E9 c V (.str x) "startswith" (.builtin "str.startswith"):=Z4 PySem.F.slot_str_startswith PySem.F.type_str_startswith
theorem An.append{a:Addr}{x:AV}(h:V a=some (.list xs))(hz:xs.length<=Bc)(q:Q .none (V.set a (.list (xs++ [x])))):An c n (.builtin "list.append") [.ref a,x] V Q:=by intro F P vs r A s ok I;obtain⟨_,_,rfl,r1,r⟩:=r;obtain⟨_,_,rfl,r2,r⟩:=r;subst r;subst r1;obtain⟨vs,k,ho,r⟩:=I.list h;refine append_at ho (λh' hb hg=>?_) (by exact Aa (Ri r)<|hz);rewrite[yV] at hg;exact⟨F,_,.none,.refl,I.change (t:=s.toks) h hb hg (.list (r.append (.cons r2 .nil))),.none,q⟩
theorem An.pop{a:Addr}{x:AV}(h:V a=some (.list (xs++ [x])))(hz:xs.length<Bc)(q:Q x (V.set a (.list xs))):An c n (.builtin "list.pop") [.ref a] V Q:=by
 intro F P vs r A s ok I;obtain⟨_,_,rfl,r1,r⟩:=r;subst r;subst r1;obtain⟨vs,k,ho,r⟩:=I.list h;obtain⟨us,y,rfl⟩:∃us y,vs=us++ [y]:=by
  have hl:=r.length;rcases yW vs with rfl|⟨us,y,rfl⟩
  ·simp at hl
  ·exact⟨us,y,by simp⟩
 have rr:=r.reverse;simp only[yX,Qi,yY,TD,L1] at rr;obtain⟨_,_,e,r2,r3⟩:=rr;cases e;have r3:=r3.reverse;rewrite[yZ] at r3;rewrite[yZ] at r3;have hl:=r3.length;refine Copied.pop_at ho (y:=y) (by simp) (λh' hb hg=>?_) (by simp;exact EL (zA (Mh hl hz) _));have:(us++ [y]).toArray.pop=us.toArray:=by simp
 replace hg:=this▸hg;exact⟨F,_,x,.refl,I.change (t:=s.toks) h hb hg (.list r3),r2,q⟩
theorem An.pop0{a:Addr}{x:AV}(h:V a=some (.list (x::xs)))(hz:xs.length<Bc)(q:Q x (V.set a (.list xs))):An c n (.builtin "list.pop") [.ref a,.int 0] V Q:=by
 intro F P vs r A s ok I;obtain⟨_,_,rfl,r1,r⟩:=r;obtain⟨_,_,rfl,r2,r⟩:=r;subst r;subst r1;refine Ar r2 ?_;clear r2;rintro _ rfl;obtain⟨vs,k,ho,r⟩:=I.list h;obtain⟨y,us,rfl,r2,r3⟩:=r;have hl:=r3.length;refine L0 yR ⟨_,ho,rfl⟩ PySem.F.entry_list_pop (PySem.F.args_list_pop_2 _ _) (Alz a _ k 0 _ 0 y (by decide) (by unfold XR;simp) (by simp) (by simp;exact EL (zA (Mh hl hz) _))) ⟨ho,?_⟩;have e:(y::us).toArray.eraseIdxIfInBounds 0=us.toArray:=by simp[Array.eraseIdxIfInBounds]
 exact⟨F,_,x,.refl,I.UZ (t:=s.toks) (ys:=xs) h ho _ e r3,r2,q⟩
end
mutual
inductive Reify(V τ:St):AV->AV->Prop
 | same (a:AV):Reify V τ a a
 | lst {a:Addr} {xs ys:List AV}:V a=some (.list xs)->τ a=none->EB V τ xs ys->Reify V τ (.ref a) (.lst ys)
 | BH {a:Addr} {ks vs us:List AV}:V a=some (.dict ks vs)->τ a=none->EB V τ vs us->Reify V τ (.ref a) (.BH ks us)
 | inst {C da:Addr} {ns:List Str} {vs us:List AV}:V da=some (.Dm ns vs)->τ da=none->EB V τ vs us->Reify V τ (.obj C da) (.inst C ns us)
 | tup {xs ys:List AV}:EB V τ xs ys->Reify V τ (.tup xs) (.tup ys)
 | lst' {xs ys:List AV}:EB V τ xs ys->Reify V τ (.lst xs) (.lst ys)
inductive EB(V τ:St):List AV->List AV->Prop
 | nil:EB V τ [] []
 | cons {x y:AV} {xs ys:List AV}:Reify V τ x y->EB V τ xs ys->EB V τ (x::xs) (y::ys)
end
theorem EB.same{τ:St}:∀(xs:List AV),EB V τ xs xs
 | []=>.nil
 | x::xs=>.cons (.same x) (EB.same xs)
open Classical in
noncomputable def Fz.frozen(F:Fz)(V τ:St)(h:Heap):Fz:=λa=>if(F a).isSome then F a else if(V a).isSome/\τ a=none then h.get? a else none
section
variable{c:Cx}{F P:Fz}{V τ:St}{s:Aj}
theorem Fz.Fy:F.le (F.frozen V τ h):=λa o e=>by unfold Fz.frozen;rw[if_pos (by exact Aa e rfl)];exact e
theorem Fz.U0{a:Addr}(hf:F a=none){ob:BD}(h1:V a=some ob)(h2:τ a=none):F.frozen V τ h a=h.get? a:=by unfold Fz.frozen;rw[if_neg (by refine Aa hf ?_;decide),if_pos ⟨by exact Aa h1 rfl,h2⟩]
theorem Inv.frozen(I:Inv c F P V s)(l:τ.le V):Inv c (F.frozen V τ s.heap) P τ s:=by
 refine⟨λa o e=>?_,I.hp,λa ob e=>?_,λa o e=>?_,λa ob e=>?_,λa o e=>Fz.Fy _ _ (I.base _ _ e),I.gens,I.os⟩
 ·unfold Fz.frozen at e;split at e
  ·exact I.hf _ _ e
  ·split at e
   ·exact e
   ·exact AA e
 ·refine Ad (I.hs a ob (l _ _ e)) ?_;intro o ho r;exact⟨o,ho,r.mono Fz.Fy⟩
 ·unfold Fz.frozen at e;split at e
  ·exact I.fp _ _ e
  ·split at e
   ·rename_i h;cases hs:V a with
    | none=>replace h:=hs▸h;exact absurd h.1 (by decide)
    | some ob=>exact(I.sf _ _ hs).2
   ·exact AA e
 ·refine⟨?_,(I.sf _ _ (l _ _ e)).2⟩;unfold Fz.frozen;rw[if_neg (by refine Aa ((I.sf _ _ (l _ _ e)).1) ?_;decide),if_neg (by refine Aa e ?_;simp)]
theorem Reify.rep(I:Inv c F P V s){a b:AV}(h:Reify V τ a b)(r:Rep c.w F v a):Rep c.w (F.frozen V τ s.heap) v b:=
 Reify.rec (motive_1:=λa b Z=>∀v,Rep c.w F v a->Rep c.w (F.frozen V τ s.heap) v b) (motive_2:=λxs ys Z=>∀vs,Ao c.w F vs xs->Ao c.w (F.frozen V τ s.heap) vs ys)
  (λZ Z r=>r.mono Fz.Fy)
  (λh1 h2 Z q Z r=>by
   subst r;obtain⟨vs,k,ho,rl⟩:=I.list h1;exact .lst ((Fz.U0 (I.sf _ _ h1).1 h1 h2).trans ho) (q _ rl))
  (λh1 h2 Z q Z r=>by
   subst r;obtain⟨_,ho,_,_,rfl,k,rk,rv⟩:=I.hs _ _ h1;exact .BH (I.ZD h1) ((Fz.U0 (I.sf _ _ h1).1 h1 h2).trans ho) k (rk.mono Fz.Fy) (q _ rv))
  (λh1 h2 _ q _ ⟨_,e0,e⟩=>by
   subst e0;obtain⟨_,ho,_,_,rfl,o,k,rv⟩:=I.hs _ _ h1;exact .inst (Fz.Fy _ _ e) ((Fz.U0 (I.sf _ _ h1).1 h1 h2).trans ho) o k (q _ rv))
  (λ_ q _ ⟨_,_,_,e0,e,r⟩=>by subst e0;exact .tup (Fz.Fy _ _ e) (q _ r))
  (λ_ q _ ⟨_,_,_,e0,e,r⟩=>by subst e0;exact .lst (Fz.Fy _ _ e) (q _ r))
  (λZ e=>by subst e;exact .nil)
  (λ_ _ p q _ ⟨_,_,e,r,rs⟩=>by subst e;exact .cons (p _ r) (q _ rs)) h v r
theorem EB.rep(I:Inv c F P V s){vs:List Ac}(h:EB V τ xs ys)(r:Ao c.w F vs xs):Ao c.w (F.frozen V τ s.heap) vs ys:=
 EB.rec (motive_1:=λZ Z Z=>True) (motive_2:=λxs ys Z=>∀vs,Ao c.w F vs xs->Ao c.w (F.frozen V τ s.heap) vs ys) (λZ=>trivial) (λZ Z Z Z=>trivial) (λZ Z Z Z=>trivial) (λZ Z Z Z=>trivial) (λZ Z=>trivial) (λZ Z=>trivial) (λZ e=>by subst e;exact .nil) (λp _ _ q _ ⟨_,_,e,r,rs⟩=>by subst e;exact .cons (Reify.rep I p r) (q _ rs)) h vs r
end
noncomputable def Fl.val:Fl->AV
 | .ret a=>a
 | _=>.none
def CX(Q:AV->St->Prop)(a:AV)(V:St):Prop:=∃τ b,τ.le V/\Reify V τ a b/\Q b τ
theorem CX.plain{Q:AV->St->Prop}{a:AV}(q:Q a V):CX Q a V:=⟨V,a,λZ Z e=>e,.same a,q⟩
theorem Tr.post{t:Sem Ac}{F:Fz}{Q:AV->St->Prop}(h:Tr c n c.AlW t F P V (CX Q)):Tr c n c.AlW t F P V Q:=
 λA s ok I=>AN (h A s ok I) (λv s' hQ=>by obtain⟨F',Aq,a,l,I',r,τ,b,l2,rf,q⟩:=hQ;exact⟨F'.frozen Aq τ s'.heap,τ,b,l.trans Fz.Fy,I'.frozen l2,rf.rep I' r,q⟩) λZ Z x=>x
theorem An.post{as:List AV}{Q:AV->St->Prop}(h:An c n f as V (CX Q)):An c n f as V Q:=λF P vs r=>(h F P vs r).post
def A0(c:Cx)(n:Nat)(f:Ac)(as:List AV)(V:St)(Q:AV->St->Prop):Prop:=
 ∀F P vs A s,Ao c.w F vs as->Ok n A->Inv c F P V s->Hy c.M A (.call f ⟨vs,[]⟩) (λr s'=>match r with | .ok (.ret v)=>JP c c.AlW F P Q v s' | _=>False) s
theorem A0.call{as:List AV}{Q:AV->St->Prop}(h:A0 c n f as V Q):An c n f as V Q:=λF P vs r A s ok I=>
 TE (Ky (h F P vs A s r ok I) λr s' hr=>by
  rcases r with e | (v | _ | _ | _)<;>first | exact hr | exact hr.elim)
theorem A0.post{as:List AV}{Q:AV->St->Prop}(h:A0 c n f as V (CX Q)):A0 c n f as V Q:=λF P vs A s r ok I=>
 Ky (h F P vs A s r ok I) λr s' hr=>by
  rcases r with e|(v|_|_|v)
  ·exact hr
  ·exact hr
  ·exact hr
  ·exact hr
  ·obtain⟨F',Aq,a,l,I',r,τ,b,l2,rf,q⟩:=hr;exact⟨F'.frozen Aq τ s'.heap,τ,b,l.trans Fz.Fy,I'.frozen l2,rf.rep I' r,q⟩
structure FnAt(c:Cx)(f:Addr)(fd:Kz)(body:List Stmt):Prop where
 at_:∃oc od Z7,c.K.lookup f=some ⟨oc,od,.func fd,Z7⟩
 body:fd.body= .stmts body
 Om:fd.closure= []
 Rj:fd.globals=FO
 blt:fd.builtins=Qn
 code:NH c.K fd.code fd.qualname=true
 co:fd.scope.isCoroutine=false
 gen:fd.scope.isGenerator=false
 kind:fd.scope.kind= .function
 nd:(fd.scope.names.map (·.1)).Nodup
theorem lookup_mem{κ:Type}{l:List (Str×κ)}{k:κ}(h:(x,k)∈l)(nd:(l.map (·.1)).Nodup):l.lookup x=some k:=by refine Ar (Fs.mp h) ?_;clear h;intro i hi;exact ID nd hi
theorem DV.old{v:AV}(h:DV ns W x v Ap)(nd:(ns.map (·.1)).Nodup){y:Str}{k:Bi}{u:AV}(hj:ns[j]?=some (y,k))(hu:Ap[j]?=some (some u)):
  (y=x/\u=v/\(k= .local\/k= .cell))\/(y≠x/\W[j]?=some (some u)):=by
 refine GX h.at ?_;rintro i k' hx rfl hi hk;by_cases Bx:i=j
 ·subst Bx;replace hj:=hx▸hj;cases hj;simp[hi] at hu;exact .inl ⟨rfl,hu.symm,hk⟩
 ·replace hu:=(FP Bx)▸hu;refine .inr ⟨?_,hu⟩;rintro rfl;exact Bx (Oc nd hx hj)
theorem Cn.old{xs:List Str}{vs:List AV}(h:Cn ns W xs vs Ap)(nd:(ns.map (·.1)).Nodup){y:Str}{k:Bi}{u:AV}(hj:ns[j]?=some (y,k))(hu:Ap[j]?=some (some u)):
  (∃i:Nat,xs[i]?=some y/\vs[i]?=some u/\(k= .local\/k= .cell))\/W[j]?=some (some u):=by
 induction h with
 | nil=>exact .inr hu
 | cons st _ ih=>
  rcases ih hu with⟨i,a,b,d⟩|h'
  ·exact .inl ⟨i+1,by simpa using a,by simpa using b,d⟩
  ·rcases st.old nd hj h' with⟨rfl,rfl,d⟩|⟨_,h2⟩
   ·exact .inl ⟨0,rfl,rfl,d⟩
   ·exact .inr h2
theorem Cn.ln{xs:List Str}{vs:List AV}(h:Cn ns W xs vs Ap):Ap.length=W.length:=by
 induction h with
 | nil=>rfl
 | cons st _ ih=>refine BS st.at ?_;intro i k _ e _;refine Aa ih<|Aa e ?_;simp
theorem Cn.kinds{xs:List Str}{vs:List AV}(h:Cn ns W xs vs Ap):∀x∈xs,(x,NameKind.local)∈ns\/(x,TF)∈ns:=by
 induction h with
 | nil=>intro x hx;cases hx
 | cons st _ ih=>
  intro x hx;rcases Bo.mp hx with rfl|hx
  ·refine GX st.at ?_;intro i k hi _ _ hk;rcases hk with rfl|rfl
   ·exact .inl (A8 hi)
   ·exact .inr (A8 hi)
  ·exact ih x hx
theorem AbU{kindOf:Str->Option Bi}(r:List (Str×Ac))(m:Str->Option Ac)(h:x∉r.map (·.1)):bindL kindOf r m x=m x:=by
 induction r generalizing m with
 | nil=>rfl
 | cons p r ih=>
  have h1:¬x=p.1:=λe=>h (e▸ .head _);refine(ih _ λhm=>h (.tail _ hm)).trans ?_;split
  ·exact if_neg h1
  ·rfl
theorem AbV{kindOf:Str->Option Bi}{m:Str->Option Ac}(nd:(binds.map (·.1)).Nodup)(hm:(x,v)∈binds)(hk:kindOf x=some .local):bindL kindOf binds m x=some v:=by
 induction binds generalizing m with
 | nil=>cases hm
 | cons p r ih=>
  refine Ah (Ig.mp nd) ?_;clear nd;intro n1 n2;rcases Bo.mp hm with e|hm
  ·subst e;refine(AbU r _ n1).trans ?_;exact Aa (if_pos hk)<|if_pos rfl
  ·exact ih n2 hm
theorem AbW{kindOf:Str->Option Bi}(r:List (Str×Ac)):∀(m:Str->Option Ac),x∉r.map (·.1)->bindC kindOf r m x=m x:=by
 induction r with
 | nil=>intro m _;rfl
 | cons p r ih=>
  intro m h;have h1:¬x=p.1:=λe=>h (e▸ .head _);unfold bindC;refine Aa (ih _ λe=>h (.tail _ e)) ?_;split
  ·rfl
  ·exact if_neg h1
theorem AbX{kindOf:Str->Option Bi}:∀{m:Str->Option Ac},(binds.map (·.1)).Nodup->(x,v)∈binds->kindOf x=some .cell->bindC kindOf binds m x=some v:=by
 induction binds with
 | nil=>intro m _ h;cases h
 | cons p r ih=>
  intro m nd hm hk;refine Ah (Ig.mp nd) ?_;clear nd;intro Rk nd2;unfold bindC;rcases Bo.mp hm with e|hm
  ·subst e;rw[AbW _ _ Rk,if_neg (by refine Aa hk ?_;decide)];exact if_pos rfl
  ·exact ih nd2 hm hk
theorem Z8(names:List (Str×Bi))(m:Nat)(acc:List (Str×Addr))(h:(x,TF)∈names\/(∃a,(x,a)∈acc)):∃a,(x,a)∈QC m names acc:=by
 induction names generalizing m acc with
 | nil=>exact h.resolve_left GS
 | cons p r ih=>
  obtain⟨y,k⟩:=p;unfold QC;split
  ·rename_i hk;refine ih _ _ ?_;rcases h with h|⟨a,h⟩
   ·rcases Bo.mp h with e|h
    ·cases e;exact .inr ⟨m,.head _⟩
    ·exact .inl h
   ·exact .inr ⟨a,.tail _ h⟩
  ·rename_i hk;refine ih _ _ ?_;rcases h with h|h
   ·rcases Bo.mp h with e|h
    ·cases e;exact absurd rfl hk
    ·exact .inl h
   ·exact .inr h
theorem AbY{a:Addr}(names:List (Str×Bi))(m:Nat)(acc:List (Str×Addr))(h:(x,a)∈QC m names acc):(x,TF)∈names\/(x,a)∈acc:=by
 induction names generalizing m acc with
 | nil=>exact .inr h
 | cons p r ih=>
  obtain⟨y,k⟩:=p;unfold QC at h;split at h
  ·rename_i hk;have hk:k= .cell:=by simpa using hk
   rcases ih _ _ h with h|h
   ·exact .inl (.tail _ h)
   ·rcases Bo.mp h with e|h
    ·cases e;subst hk;exact .inl (.head _)
    ·exact .inr h
  ·rcases ih _ _ h with h|h
   ·exact .inl (.tail _ h)
   ·exact .inr h
theorem U1{κ:Type}{l:List (Str×κ)}{a:κ}(h:(x,a)∈l):∃b,l.lookup x=some b:=by
 induction l with
 | nil=>cases h
 | cons p r ih=>
  obtain⟨y,k⟩:=p;by_cases e:x=y
  ·exact⟨k,Aa Ju<|Aa (beq_iff_eq.mpr e) rfl⟩
  ·refine Ar (ih ((Bo.mp h).resolve_left λq=>e (congrArg XT q))) ?_;intro b hb;exact⟨b,Aa Ju<|Aa (beq_eq_false_iff_ne.mpr e)<|hb⟩
section
variable{c:Cx}{n:Nat}{V:St}{Q:AV->St->Prop}
open Classical in
theorem A0.fn{f:Addr}{fd:Kz}{body:List Stmt}{as das:List AV}{Db:List Ac}{xs:List Str}{ρ0:Al}(H:FnAt c f fd body)(hd:∀F,Ao c.w F Db das)
  (AbZ:∀vs s,vs.length=as.length->c.K.In s.heap->BindsTo s fd ⟨vs,[]⟩ (xs.zip (vs++Db)))
  (CQ:Cn fd.scope.names (Cy fd.scope.names.length none) xs (as++das) ρ0) (IG:xs.Nodup)
  (h:BE c n body fd.scope ρ0 V (λfl Z Aq=>CX Q fl.val Aq)):A0 c (n+1) (.ref f) as V Q:=by
 refine A0.post ?_;intro F P vs A s On ok I;refine N0 H.at_ ?_;intro oc od Z7 hK;have ho:=I.k _ _ hK;have Oo:vs.length=as.length:=On.length;refine codeAny_call_function (by have:=ok.dp;unfold zB;exact N2 (CN this) rfl) ho rfl H.co H.gen H.body (codeRec_of I.k H.code) ?_;refine AbZ vs s Oo I.k _ _ _ _ ?_;have hlen:xs.length=(as++das).length:=CQ.length;have Op:(xs.zip (vs++Db)).map (·.1)=xs:=by rewrite[XU];rfl;exact Aa hlen<|Aa AY<|Aa AY<|Aa Oo<|Aa ((hd F).length)<|BJ _
 refine Aa H.Om ?_;refine wpAny_newFunctionEnv_cells H.kind (λx hx=>?_) λenv he s1 IC=>?_
 ·have hxm:x.1∈xs:=by refine AS Op ?_;exact Dz hx
  rcases CQ.kinds x.1 hxm with hk|hk
  ·exact .inl (lookup_mem hk H.nd)
  ·refine .inr ⟨lookup_mem hk H.nd,?_⟩;refine Ar (Z8 fd.scope.names (s.heap.objs.size+1) [] (.inl hk)) ?_;intro a ha;refine Ar (U1 ha) ?_;clear ha;intro b hb;exact Aa hb rfl
 ·obtain⟨⟨⟨h1,tk,e1⟩,ns,keep,L2⟩,cell,apart,above⟩:=IC;subst e1;have I1:Inv c F P V {s with heap:=h1,toks:=tk}:=I.keeps keep;refine⟨I1.top.nolimit,codeAny_func ?_⟩;have eL:env.locals=s.heap.objs.size:=Aa he rfl;have eC:env.cells=QC (s.heap.objs.size+1) fd.scope.names []:=Aa he rfl;have eS:env.scope=fd.scope:=Aa he rfl;have out:∀a:Addr,s.heap.objs.size<=a->F a=none/\P a=none/\V a=none:=λa ha=>by
   have none_of:s.heap.get? a=none:=by
    cases q:s.heap.get? a with
    | none=>rfl
    | some o=>exact absurd (Cr q) (XV.mpr ha)
   refine⟨?_,?_,?_⟩
   ·cases q:F a with
    | none=>rfl
    | some o=>have:=I.hf _ _ q;replace this:=none_of▸this;exact AA this
   ·cases q:P a with
    | none=>rfl
    | some o=>have:=I.hp _ _ q;replace this:=none_of▸this;exact AA this
   ·cases q:V a with
    | none=>rfl
    | some ob=>refine Ad (I.hs _ _ q) ?_;intro o ho _;replace ho:=none_of▸ho;exact AA ho
  have Z9:∀x a,env.cells.lookup x=some a->s.heap.objs.size<a:=λx a e=>by
   have:=above x a (mem_of_lookup e);rwa[eL] at this
  let P1:Fz:=λa=>if s.heap.objs.size<=a/\(a=env.locals\/ ∃x,env.cells.lookup x=some a) then h1.get? a else P a
  have hP1:P.le P1:=λa o e=>by
   have:¬s.heap.objs.size<=a:=λha=>by replace e:=((out a ha).2.1)▸e;exact AA e
   show(if _ then _ else _)=_;exact Aa (if_neg (λq=>this q.1))<|e
  have I2:Inv c F P1 V {s with heap:=h1,toks:=tk}:=by
   refine⟨I1.hf,λa o e=>?_,I1.hs,λa o e=>?_,λa ob e=>⟨(I1.sf _ _ e).1,?_⟩,I1.base,I1.gens,I1.os⟩
   ·have e:(if s.heap.objs.size<=a/\(a=env.locals\/ ∃x,env.cells.lookup x=some a) then h1.get? a else P a)=some o:=e;split at e
    ·exact e
    ·exact I1.hp _ _ e
   ·show(if _ then _ else _)=_;rw[if_neg (λq=>by replace e:=((out a q.1).1)▸e;exact AA e)];exact I1.fp _ _ e
   ·show(if _ then _ else _)=_;rw[if_neg (λq=>by replace e:=((out a q.1).2.2)▸e;exact AA e)];exact(I1.sf _ _ e).2
  have bA:∀{i:Nat}{x:Str}{k:Bi},fd.scope.names[i]?=some (x,k)->env.kindOf x=some k:=λe=>by
   unfold Qo;exact Aa eS<|ID H.nd e
  have My:((xs.zip (vs++Db)).map (·.1)).Nodup:=Aa Op<|IG;have rall:Ao c.w F (vs++Db) (as++das):=On.append (hd F);have holds:∀{i:Nat}{x:Str}{k:Bi}{v:AV},fd.scope.names[i]?=some (x,k)->ρ0[i]?=some (some v)->∃u,(x,u)∈xs.zip (vs++Db)/\Rep c.w F u v:=λ{i x k v} hx hv=>by
   rcases CQ.old H.nd hx hv with⟨j,a,b,_⟩|h'
   ·refine Ad (rall.get b) ?_;clear b;intro u hu r;exact⟨u,Fs.mpr ⟨j,by rewrite[Qu];exact⟨a,hu⟩⟩,r⟩
   ·replace h':=XW▸h';split at h'<;>simp at h'
  have fr:Bl c fd.scope env ρ0 F P1:=by
   refine⟨eS,H.kind,Aa he<|H.Rj,Aa he<|H.blt,H.nd,by refine Aa CQ.ln ?_;simp,?_,λi x hx=>?_,λx y a h1 h2=>?_,λx a h1=>?_⟩
   ·refine GY ns ?_;clear ns;intro o es ep b1 b2 b3 b4;refine⟨o,es,ep,?_,b2,b3,λi x v hx hv=>?_⟩
    ·show(if _ then _ else _)=_;rw[if_pos ⟨by exact Aa eL<|BJ _,.inl rfl⟩];exact b1
    ·refine Ad (holds hx hv) ?_;intro u hu r;exact⟨u,Aa (b4 _)<|AbV My hu (bA hx),r⟩
   ·refine Ar (Z8 fd.scope.names (s.heap.objs.size+1) [] (.inl (A8 hx))) ?_;intro a0 bB;refine Ar (U1 bB) ?_;clear bB;intro ca Mz;replace Mz:=Eq.symm eC▸Mz;refine Ad (cell x ca Mz) ?_;intro o ho hd;have AH:=Z9 x ca Mz;refine⟨ca,o,_,Mz,?_,hd,Aa eL<|Js AH,λv hv=>?_⟩
    ·show(if _ then _ else _)=_;exact Aa (if_pos ⟨Ht AH,.inr ⟨x,Mz⟩⟩)<|ho
    ·refine Ad (holds hx hv) ?_;intro u hu r;exact⟨u,AbX My hu (bA hx),r⟩
   ·exact name_of_addr apart (mem_of_lookup h1) (mem_of_lookup h2)
   ·replace h1:=eC▸h1;rcases AbY _ _ _ (mem_of_lookup h1) with h|h
    ·exact .inl (Fs.mp h)
    ·cases h
  have KZ:Ok n (A.deeper env):=⟨ok.hh,by have:=ok.dp;show A.depth+1+8*n<=900;exact M43 this,by have:=ok.un;show A.units+3+100*n<=9000;exact M37 this⟩;rw[<-he] at*;refine AN (h F P1 env (A.deeper env) _ fr KZ I2) (λfl s2 hQ=>?_) λZ Z x=>x.elim;obtain⟨F2,P2,Av,De,UU,l2,o2,I3,C3,Oq,q2⟩:=hQ;have HO:P.le P2:=λa o e=>by
   have AH:¬s.heap.objs.size<=a:=λha=>by replace e:=((out a ha).2.1)▸e;exact AA e
   rw[o2 a (λq=>AH (by exact Aa q<|Aa eL<|BJ _)) (λx q=>AH (Ht (Z9 x a q)))];exact hP1 _ _ e
  have I4:=I3.ZE HO;cases Oq with
  | ret r=>exact⟨F2,Av,_,l2,I4,r,q2⟩
  | next=>exact⟨F2,Av,_,l2,I4,.none,q2⟩
  | brk=>exact⟨F2,Av,_,l2,I4,.none,q2⟩
  | cont=>exact⟨F2,Av,_,l2,I4,.none,q2⟩
end
def EC(c:Cx)(f:Ac):Prop:=∀h,c.K.In h->∃k,(k=Keeper.frame\/k=Keeper.machine\/k=Keeper.boundFrame)/\Looks c.M h (keeperOf f) k
theorem EC.of(h:keepIn c.K f=true):EC c f:=λhp X=>keeps_K h hp X
theorem EC.blt{id:String}:EC c (.builtin id):=λhp X=>⟨.machine,.inr (.inl rfl),zC rfl⟩
theorem EC.type{id:String}:EC c (.type id):=λhp X=>⟨.machine,.inr (.inl rfl),zC rfl⟩
inductive FA:List Expr->Prop
 | nil:FA []
 | cons {e:Expr} {es:List Expr}:Gk e=false->FA es->FA (e::es)
theorem Ot{env:Env}{pos:Pos}:∀{es:List Expr},FA es->(DA pos (Dj es env)).any (·.1)=false
 | _,.nil=>rfl
 | _,.cons (e:=e) (es:=es) h r=>by
  refine Aa (Oe h) ?_;show(_ || (DA pos (Dj es env)).any (·.1))=false;exact Aa (Ot r) rfl
section
variable{c:Cx}{n:Nat}{sc:BF}{W:Al}{V:St}{Q:AV->St->Prop}
theorem bC{f:Ac}{first:List Ac}{bD:List AV}{es:List Expr}{pos:Pos}{F P:Fz}{env:Env}(hk:EC c f)(hs:FA es)(fr:Bl c sc env W F P)(r0:Ao c.w F first bD)
  (h:CD c n es sc W V (λas Af=>An c n f (bD++as) Af Q)):Tr c n c.AlW (callWith pos f first (DA pos (Dj es env)) []) F P V Q:=by
 intro A s ok I;refine XX (P:=c.K.In) (by exact Aa (Ot hs) rfl) hk ?_;have main:Au c.M A (Kw (DA pos (Dj es env))) (λvs s'=>c.K.In s'.heap/\Au c.M A (Ik f (first++vs) []) (JP c c.AlW F P Q) (λZ Z=>False) s') (λZ Z=>False) s:=
  AN (h F P env pos fr A s ok I) (λvs s1 hQ=>by obtain⟨F1,Af,as,l1,I1,r1,q1⟩:=hQ;exact⟨I1.k,AN (q1 F1 P (first++vs) ((r0.mono l1).append r1) A s1 ok I1) (λv s2 hQ=>by obtain⟨F2,Av,b,l2,I2,r2,q2⟩:=hQ;exact⟨F2,Av,b,l1.trans l2,I2,r2,q2⟩) λZ Z x=>x⟩) λZ Z x=>x
 cases hs with
 | nil=>
  refine Ak (AN main (λvs s' h'=>?_) λZ Z x=>x);refine Et ?_;exact Ak (AF (Ak (AF (AF h'))))
 | @cons e es he hr=>
  rw[Oe he] at main⊢;exact XY main
theorem Ax.call{func:Expr}{es:List Expr}{pos:Pos}(h:Ax c n func sc W V (λfv Af=>∃f,fv= .raw f/\EC c f/\CD c n es sc W Af (λas Av=>An c n f as Av Q)))
  (hs:FA es) (he:∀env,eval (.Call func es [] pos) env=(do TG pos (<-eval func env) [] (DA pos (Dj es env)) (KA pos (KB [] env)))):
  Ax c n (.Call func es [] pos) sc W V Q:=by
 intro F P env fr;refine Aa (he _) ?_;refine(h F P env fr).bind λv a F1 Af l1 r1 hQ=>?_;refine Ch hQ ?_;clear hQ;intro f e hk h1;subst e;subst r1;exact bC hk hs (fr.mono l1) .nil (by simpa using h1)
theorem Ax.BU{o:Expr}{name:Str}{apos pos:Pos}{es:List Expr}(h:Ax c n o sc W V (λa Af=>∃f,E9 c Af a name f/\EC c f/\CD c n es sc W Af (λas Av=>An c n f (a::as) Av Q)))
  (hs:FA es) (hfew:∀env,XZ es.length (DA pos (Dj es env)) (KA pos (KB [] env))=true) (U2:(apos.endLine==pos.line)=true)
  (hb:∀env whole,KC o name env whole=whole):Ax c n (.Call (.Attribute o name apos) es [] pos) sc W V Q:=by
 intro F P env fr;show Tr c n c.AlW (do
  let ov <-KC o name env (eval o env)
  DL apos.atName
  TH o name apos pos env ov (es.length+0) (DA pos (Dj es env)) (KA pos (KB [] env))) F P V Q
 refine Aa (hb _ _) ?_;refine(h F P env fr).bind λv a F1 Af l1 r1 hQ=>?_;refine Ch hQ ?_;clear hQ;intro f hm hk h1;refine Tr.Gs ?_;unfold TH;refine Aa (zD _)<|Aa (hfew env) ?_;show Tr c n c.AlW (do
  let (f,first) <-DK [v] (XG v name (do return (<-importBound o env).getD true));let U3 <-NI true o env apos pos
  TG U3 f first (DA pos (Dj es env)) (KA pos (KB [] env))) F1 P Af Q
 refine((hm n F1 P v _ r1).hold).bind λp Z F2 Av l2 e e2=>?_;subst e;subst e2;have e3:NI true o env apos pos=pure pos:=by unfold NI;exact Aa U2 rfl
 dsimp only;exact Aa e3<|bC hk hs (fr.mono (l1.trans l2)) (.cons (r1.mono l2) .nil) (by simpa using h1)
end
inductive HP:List Str->List AV->Str->AV->Prop
 | here {x:Str} {v:AV} {ns:List Str} {vs:List AV}:HP (x::ns) (v::vs) x v
 | skip {x y:Str} {v u:AV} {ns:List Str} {vs:List AV}:HP ns vs x v->HP (y::ns) (u::vs) x v
theorem HP.mem{ns:List Str}{vs:List AV}{v:AV}(h:HP ns vs x v):x∈ns:=by
 induction h with
 | here=>exact .head _
 | skip _ ih=>exact .tail _ ih
inductive HQ:List Str->List AV->Str->AV->List AV->Prop
 | here {x:Str} {v u:AV} {ns:List Str} {vs:List AV}:HQ (x::ns) (u::vs) x v (v::vs)
 | skip {x y:Str} {v u:AV} {ns:List Str} {vs B1:List AV}:HQ ns vs x v B1->HQ (y::ns) (u::vs) x v (u::B1)
theorem HQ.mem{ns:List Str}{vs B1:List AV}{v:AV}(h:HQ ns vs x v B1):x∈ns:=by
 induction h with
 | here=>exact .head _
 | skip _ ih=>exact .tail _ ih
inductive Gx{α:Type}:List α->α->List α->Prop
 | nil {x:α}:Gx [] x [x]
 | cons {y x:α} {xs ys:List α}:Gx xs x ys->Gx (y::xs) x (y::ys)
theorem Gx.eq{α:Type}{xs ys:List α}{x:α}(h:Gx xs x ys):ys=xs++ [x]:=by
 induction h with
 | nil=>rfl
 | cons _ ih=>simp[ih]
theorem Dc.length{es:List Ck}{ns:List Str}(h:Dc es ns):es.length=ns.length:=by
 induction h with
 | nil=>rfl
 | cons _ _ ih=>simp[ih]
theorem Dc.noRef{es:List Ck}{ns:List Str}(h:Dc es ns):es.any (·.refKey)=false:=by
 induction h with
 | nil=>rfl
 | cons e _ ih=>refine Aa List.any_cons<|Aa ih<|Aa (QD _) ?_;simp[DictEntry.refKey,e]
theorem Dc.Ab0{es:List Ck}{ns:List Str}(h:Dc es ns)(hx:x∉ns):es.find? (·.key.isStr x)=none:=by
 induction h with
 | nil=>rfl
 | @cons e n t es ns e1 _ ih=>
  simp only[Bo,not_or] at hx;refine Aa X0<|Aa e1 ?_;have:Value.isStr (.str n t) x=false:=by exact beq_eq_false_iff_ne.mpr λq=>hx.1 q.symm
  exact Aa this<|ih hx.2
theorem Dc.find{F:Fz}{es:List Ck}{ns:List Str}(h:Dc es ns):ns.Nodup->∀{vs:List AV}{x:Str}{v:AV},Ao w F (es.map (·.val)) vs->HP ns vs x v->∃e,es.find? (·.key.isStr x)=some e/\Rep w F e.val v:=by
 induction h with
 | nil=>intro _ vs x v _ f;cases f
 | @cons e n t es ns e1 _ ih=>
  intro nd vs x v r f;simp only[Ig] at nd;refine BS r.KV ?_;rintro _ _ rfl r1 r2;cases f with
  | here=>
   refine⟨e,?_,r1⟩;have:e.key.isStr n=true:=by refine Aa e1 ?_;show(n==n)=true;simp
   refine Aa X0<|Aa this ?_;rfl
  | skip f=>
   refine Ad (ih nd.2 r2 f) ?_;intro e' h1 h2;refine⟨e',?_,h2⟩;have:e.key.isStr x=false:=by exact Aa e1<|beq_eq_false_iff_ne.mpr λq=>nd.1 (q▸f.mem)
   exact Aa X0<|Aa this<|h1
theorem Dc.put{F:Fz}{es:List Ck}{ns:List Str}(h:Dc es ns):ns.Nodup->∀{vs B1:List AV}{x:Str}{v:AV}{u:Ac}{hsh:Int}{t:Tok},Ao w F (es.map (·.val)) vs->HQ ns vs x v B1->Rep w F u v->
  Dc (putL x hsh (.str x t) u es) ns/\Ao w F ((putL x hsh (.str x t) u es).map (·.val)) B1:=by
 induction h with
 | nil=>intro _ vs B1 x v u hsh t _ f;cases f
 | @cons e n t0 es ns e1 hr ih=>
  intro nd vs B1 x v u hsh t r f ru;simp only[Ig] at nd;refine BS r.KV ?_;rintro _ _ rfl r1 r2;cases f with
  | here=>
   have:e.key.isStr n=true:=by refine Aa e1 ?_;show(n==n)=true;simp
   simp only[putL,this,if_true,EO];exact⟨.cons e1 hr,.cons ru r2⟩
  | skip f=>
   refine Ah (ih nd.2 (hsh:=hsh) (t:=t) r2 f ru) ?_;intro h1 h2;have:e.key.isStr x=false:=by exact Aa e1<|beq_eq_false_iff_ne.mpr λq=>nd.1 (q▸f.mem)
   simp only[putL,this,Fa,if_false,EO];exact⟨.cons e1 h1,.cons r1 h2⟩
theorem Dc.Ab1{F:Fz}{es:List Ck}{ns:List Str}(h:Dc es ns)(hx:x∉ns):∀{vs:List AV}{v:AV}{u:Ac}{hsh:Int}{t:Tok},Ao w F (es.map (·.val)) vs->Rep w F u v->
  Dc (putL x hsh (.str x t) u es) (ns++ [x])/\Ao w F ((putL x hsh (.str x t) u es).map (·.val)) (vs++ [v]):=by
 induction h with
 | nil=>intro vs v u hsh t r ru;cases r.Rc;exact⟨.cons rfl .nil,.cons ru .nil⟩
 | @cons e n t0 es ns e1 hr ih=>
  intro vs v u hsh t r ru;simp only[Bo,not_or] at hx;refine BS r.KV ?_;rintro _ _ rfl r1 r2;refine Ah (ih hx.2 (hsh:=hsh) (t:=t) r2 ru) ?_;intro h1 h2;have:e.key.isStr x=false:=by exact Aa e1<|beq_eq_false_iff_ne.mpr λq=>hx.1 q.symm
  simp only[putL,this,Fa,if_false,EO,L1];exact⟨.cons e1 h1,.cons r1 h2⟩
noncomputable def QE(K:Frag)(C:Addr)(name:Str):Bool:=
 plainGet K C name&&NJ K (.ref C) name==some none&&(clsIn K C).any (λcd=>cd.hasDict&& !(copiedNames.contains name&&(cd.mro.isEmpty || cd.mro.contains (.type "staticmethod") || cd.mro.contains (.type "classmethod"))))
noncomputable def L3(K:Frag)(C:Addr):Bool:=
 NJ K (.ref C) "__setattr__"==some (some (.builtin "object.__setattr__"))&&plainOver K C&&(clsIn K C).any (·.hasDict)
noncomputable def Rm(K:Frag)(C:Addr)(name:Str)(f:Addr):Bool:=plainGet K C name&&NJ K (.ref C) name==some (some (.ref f))&&isFn K (.ref f)
inductive IH(V:St):AV->Addr->List Str->List AV->Prop
 | obj {C da:Addr} {ns:List Str} {vs:List AV}:V da=some (.Dm ns vs)->IH V (.obj C da) C ns vs
 | inst {C:Addr} {ns:List Str} {vs:List AV}:IH V (.inst C ns vs) C ns vs
section
variable{c:Cx}{n:Nat}{V:St}{Q:AV->St->Prop}
theorem IH.at{F:Fz}{a:AV}{ns:List Str}{vs:List AV}{s:Aj}(h:IH V a C ns vs)(I:Inv c F P V s)(r:Rep c.w F v a):
  ∃x da es k,v= .ref x/\s.heap.get? x=some (Hv C da)/\s.heap.get? da=some (Dy es k)/\HM ns/\Dc es ns/\Ao c.w F (es.map (·.val)) vs/\InstAt s.heap x (Hv C da) C (some (Dy es k)):=by
 cases h with
 | obj h=>
  refine Ad r ?_;clear r;rintro _ rfl e;obtain⟨_,ho,_,_,rfl,nk,rn,rv⟩:=I.hs _ _ h;exact⟨_,_,_,_,rfl,I.hf _ _ e,ho,nk,rn,rv,⟨I.hf _ _ e,rfl,rfl,ho⟩⟩
 | inst=>
  obtain⟨_,_,_,_,rfl,e,e',nk,rn,rv⟩:=r;exact⟨_,_,_,_,rfl,I.hf _ _ e,I.hf _ _ e',nk,rn,rv,⟨I.hf _ _ e,rfl,rfl,I.hf _ _ e'⟩⟩
theorem Rep.handed{F:Fz}{a:AV}(r:Rep w F v a)(h:∀u,a≠ .raw u):handedIn v=true:=by
 cases a with
 | none=>subst r;rfl
 | raw u=>exact absurd rfl (h _)
 | bool b=>subst r;rfl
 | ref b=>subst r;rfl
 | int i=>refine Ar r ?_;clear r;rintro _ rfl;rfl
 | str i=>refine Ar r ?_;clear r;rintro _ rfl;rfl
 | obj _ _=>refine Ad r ?_;clear r;rintro _ rfl _;rfl
 | tup _=>obtain⟨_,_,_,rfl,_⟩:=r;rfl
 | lst _=>obtain⟨_,_,_,rfl,_⟩:=r;rfl
 | BH _ _=>obtain⟨_,_,_,rfl,_⟩:=r;rfl
 | inst _ _ _=>obtain⟨_,_,_,_,rfl,_⟩:=r;rfl
theorem Mr.fld{a:AV}{ns:List Str}{vs:List AV}{name:Str}{x:AV}(h:IH V a C ns vs)(hc:QE c.K C name=true)(hf:HP ns vs name x)(hx:∀u,x≠ .raw u)(q:Q x V):Mr c n a name V Q:=by
 intro F P v r A s ok I;refine UO (h.at I r) ?_;rintro x' da es k rfl h1 h2 nk rn rv IA;refine Ad (rn.find nk.nd rv hf) ?_;intro e he re;simp only[QE,D7,beq_iff_eq] at hc;refine Ah hc ?_;clear hc;intro hZ;refine Ah hZ ?_;clear hZ;intro c1 c2;intro c3;refine Ad (any_some c3) ?_;clear c3;intro cd bE hh;simp only[D7,Bool.not_eq_true'] at hh;have Ou:findObj c.K C (some (Dy es k)) name=some (.value e.val):=by unfold findObj;refine Aa bE<|Aa (X1 _ _)<|Aa c2<|Aa (X1 _ _) ?_;dsimp only[X1];unfold PySem.W.ownOf;refine Aa (hh.1) ?_;dsimp only;refine Aa (if_pos rfl) ?_;rewrite[lookIn_dict];unfold getL;exact Aa he rfl
 exact get_value I.k IA (X2 c1).1 Ou (re.handed hx) ⟨F,V,_,.refl,I.toks _,re,q⟩
theorem Ab2{A:BB}{s:Aj}{K:Frag}{x C dx:Addr}{R:NK->Aj->Prop}{name:Str}{tk:Tok}{v:Ac}{es:List Ck}{k:Nat}{prog:LX}{w:A7}(X:K.In s.heap)
  (I:InstAt s.heap x (Hv C dx) C (some (Dy es k))) (D:s.heap.get? dx=some (Dy es k)) (hp:plainOver K C=true) (ht:NL K C name=some none) (hh:(clsIn K C).any (·.hasDict)=true)
  (hr:es.any (·.refKey)=false) (hz:es.length<=1000)
  (h:R (.ok (.ret .none)) {s with heap:=s.heap.update dx (X3 name (KD w.params name) (.str name s.toks) v),toks:=s.toks+1}):
  Hy (Hw prog w) A (.call (.builtin "object.__setattr__") ⟨[.ref x,.str name tk,v],[]⟩) R s:=by
 refine osa_open X I hp ht λb=>?_;refine Ad (any_some hh) ?_;clear hh;intro cd hc U4;have D':(s.heap.update dx (X3 name (KD w.params name) (.str name s.toks) v)).get? dx=some (Dy (putL name (KD w.params name) (.str name s.toks) v es) (putN name es k)):=by rw[LZ _ D (by rewrite[TJ];rfl),TJ]
 obtain⟨hx,FB,hn,-⟩:=I;refine Ak (AF (Ak (Ak (zE hx (Ak ((looks_clsIn X hc).here ?_))))));refine Aa U4 ?_;refine AF (a:=some dx) (Ak (AF (Ak ?_)));unfold nsSet;refine Ak (Ak (TK (AF (Ak (wpAny_mkText (Ak (zE D ?_)))))));dsimp only;have cc:(!es.toArray.any (·.key.isStr name)&&es.toArray.any (·.refKey))=false:=by
  have:es.toArray.any (·.refKey)=false:=by simpa using hr
  exact Aa this<|Aa (X4 _) rfl
 refine Aa (aRefKeyMayBeTheName_at _ _)<|Aa cc ?_;refine wpAny_updatePart D ?_;refine Ak (wpAny_lookBehind D' (pastItsLine_dict (by
  refine Aa DB<|Aa Ft ?_;have:(putL name (KD w.params name) (.str name s.toks) v es).length<=es.length+1:=by
   clear hz h D D' cc hr;induction es with
   | nil=>simp[putL]
   | cons e r ih=>unfold putL;split<;>simp<;>assumption
  exact AP this (KU hz rfl))) ?_)
 exact AF h
theorem Gv.core{C da:Addr}{ns K0:List Str}{vs B1:List AV}{name:Str}{x:AV}{Q:St->Prop}(h:V da=some (.Dm ns vs))(hc:L3 c.K C=true)(ht:NL c.K C name=some none)
  (hput:∀{F:Fz}{es:List Ck}{u:Ac}{hsh:Int}{t:Tok},Dc es ns->ns.Nodup->Ao c.w F (es.map (·.val)) vs->Rep c.w F u x->Dc (putL name hsh (.str name t) u es) K0/\Ao c.w F ((putL name hsh (.str name t) u es).map (·.val)) B1)
  (HR:HM K0) (q:Q (V.set da (.Dm K0 B1))):Gv c n (.obj C da) name x V Q:=by
 intro F P ov vv r1 r2 A s ok I;refine UO ((IH.obj (C:=C) h).at I r1) ?_;rintro x' U5 es k rfl h1 h2 nk rn rv IA;have e:U5=da:=by refine Ad r1 ?_;clear r1;intro _ e0 e;cases e0;have:=I.hf _ _ e;replace this:=h1▸this;injection this with this;injection this with _ this;injection this
 subst e;simp only[L3,D7,beq_iff_eq] at hc;refine Ah hc ?_;clear hc;intro hZ;refine Ah hZ ?_;clear hZ;intro c1 c2;intro c3;refine set_plain I.k IA c1 ?_;refine Ab2 (s:={s with toks:=s.toks+1}) I.k IA h2 c2 ht c3 rn.noRef (by refine Aa rn.length ?_;have:=nk.sz;exact N1 this rfl) ?_;refine Ah (hput (hsh:=KD c.w.params name) (t:=s.toks+1) rn nk.nd rv r2) ?_;intro p1 p2;have hg:(s.heap.update U5 (X3 name (KD c.w.params name) (.str name (s.toks+1)) vv)).get? U5=some (Dy (putL name (KD c.w.params name) (.str name (s.toks+1)) vv es) (putN name es k)):=by rw[LZ _ h2 (by rewrite[TJ];rfl),TJ]
 exact⟨F,_,(),.refl,I.change h (NG ..) hg (.Dm HR p1 p2),trivial,q⟩
theorem Gv.old{C da:Addr}{ns:List Str}{vs B1:List AV}{name:Str}{x:AV}{Q:St->Prop}(h:V da=some (.Dm ns vs))(hc:L3 c.K C=true)(ht:NL c.K C name=some none)(hu:HQ ns vs name x B1)(HR:HM ns)
  (q:Q (V.set da (.Dm ns B1))):Gv c n (.obj C da) name x V Q:=Gv.core h hc ht (λrn nd rv ru=>rn.put nd rv hu ru) HR q
theorem Gv.new{C da:Addr}{ns K0:List Str}{vs B1:List AV}{name:Str}{x:AV}{Q:St->Prop}(h:V da=some (.Dm ns vs))(hc:L3 c.K C=true)(ht:NL c.K C name=some none)(hx:name∉ns)(s1:Gx ns name K0)(s2:Gx vs x B1)(HR:HM K0)
  (q:Q (V.set da (.Dm K0 B1))):Gv c n (.obj C da) name x V Q:=Gv.core h hc ht (λrn nd rv ru=>by exact Aa s1.eq<|Aa s2.eq<|rn.Ab1 hx rv ru) HR q
theorem Ab3{a:AV}{ns:List Str}{vs:List AV}{name:Str}{f:Addr}(h:IH V a C ns vs)(hc:Rm c.K C name f=true)(hx:name∉ns):E9 c V a name (.ref f):=by intro n F P v pl r A s ok I;refine UO (h.at I r) ?_;rintro x' da es k rfl h1 h2 nk rn rv IA;simp only[Rm,D7,beq_iff_eq] at hc;refine Ah hc ?_;clear hc;intro hZ;refine Ah hZ ?_;clear hZ;intro c1 c2;intro c3;refine method_fn I.k IA (X2 c1).1 (X2 c1).2 c2 (beq_iff_eq.mp c3) ?_ ⟨F,V,(),.refl,I,rfl,rfl⟩;show(lookIn name (Dy es k)).map _=_;rewrite[lookIn_dict];unfold getL;refine Aa (rn.Ab0 hx) ?_;dsimp only;exact Aa rn.noRef rfl
theorem An.new{C fI:Addr}{as:List AV}(hm:makesIn c.K C=true)(hi:NJ c.K (.ref C) "__init__"=some (some (.ref fI)))(hf:TL c.K (.ref fI)=some (.type "function"))
  (h:∀da,V da=none->A0 c n (.ref fI) (.obj C da::as) (V.set da (.Dm [] [])) (λr Aq=>r= .none/\CX Q (.obj C da) Aq)):An c (n+1) (.ref C) as V Q:=by
 refine An.post ?_;intro F P vs r A s ok I;refine Bq I.fresh ?_;intro Rn FC II;have hI:=I;obtain⟨hh,g,d,t,os⟩:=s;refine TE (make_core (makes_of hI.k hm) (looks_findIn hI.k hi) (λself=>bind_fn hI.k self hf) (.inl rfl) ?_);have I1:Inv c F P V ⟨hh.push JB,g,d,t,os⟩:=hI.push (o:=JB) (t:=t);have e1:(hh.push JB).get? hh.objs.size=some (Dy [] 0):=Ct _ rfl;have I2:=I1.own e1 Rn FC (.Dm (ns:= []) (vs:= []) ⟨Il,by simp⟩ .nil .nil);refine Bq I2.fresh ?_;intro MA DW U6;have I3:=(I2.push (o:=Hv C hh.objs.size) (t:=t)).freeze (Ct _ rfl) MA DW U6;have le:=Fz.Dt (o:=Hv C hh.objs.size) MA;have sz:(hh.push JB).objs.size=hh.objs.size+1:=zF ..;have rx:Rep c.w (Fz.set F (hh.push JB).objs.size (Hv C hh.objs.size)) (.ref (hh.objs.size+1)) (.obj C hh.objs.size):= .obj (by refine Aa sz ?_;simp);have KZ:Ok n (A.under (.builtin "type.__call__" ⟨.ref C::vs,[]⟩)):=by
  refine⟨ok.hh,?_,?_⟩
  ·have:=ok.dp;have e:(A.under (.builtin "type.__call__" ⟨.ref C::vs,[]⟩)).depth=A.depth+(TM "type.__call__" ⟨.ref C::vs,[]⟩).weight:=rfl;have e2:(TM "type.__call__" ⟨.ref C::vs,[]⟩).weight<=2:=by exact Ds (by kernel_rfl)
   exact Aa e<|M19 this e2
  ·have:=ok.un;have e:(A.under (.builtin "type.__call__" ⟨.ref C::vs,[]⟩)).units=A.units+(TM "type.__call__" ⟨.ref C::vs,[]⟩).cUnits:=rfl;have e2:(TM "type.__call__" ⟨.ref C::vs,[]⟩).cUnits<=10:=by exact Ds (by kernel_rfl)
   exact Aa e<|M18 this e2
 refine Ky (h hh.objs.size II (Fz.set F (hh.push JB).objs.size (Hv C hh.objs.size)) P (.ref (hh.objs.size+1)::vs) _ _ (.cons rx (r.mono le)) KZ I3) λr s' hr=>?_;rcases r with e|(_|_|_|v)
 ·exact hr.elim
 ·exact hr.elim
 ·exact hr.elim
 ·exact hr.elim
 ·obtain⟨F',Aq,b,l,I',rv,rfl,q⟩:=hr;subst rv;exact⟨rfl,F',Aq,.obj C hh.objs.size,le.trans l,I',rx.mono l,q⟩
end
inductive FU:Expr->Prop
 | name (x:Str) (p:Pos):FU (.Name x p)
 | tup (es:List Expr) (k:Nat) (p:Pos):FU (.Tuple es k p)
inductive JR:Expr->Prop
 | tup (es:List Expr) (k:Nat) (p:Pos):JR (.Tuple es k p)
structure Wk(c:Cx)(A:BB)(F:Fz)(tg:Expr)(I:Addr)(wr:List Addr)(xs:List AV)(St:Nat->Heap->Prop):Prop where
 has:∀i h,St i h->∀b∈wr,∃o,h.get? b=some o
 frame:∀i h h',St i h->(∀a o,F a=some o->h.get? a=some o)->(∀a o,F a=some o->h'.get? a=some o)->(∀b∈wr,∀o,h.get? b=some o->h'.get? b=some o)->St i h'
 item:∀i x s F2 (Q:Ac->Aj->Prop),F.le F2->xs[i]?=some x->St i s.heap->(∀a o,F2 a=some o->s.heap.get? a=some o)->(∀b∈wr,F2 b=none)->
     (∀v h' tk F',F2.le F'->(∀a o,F' a=some o->F2 a=some o\/(s.heap.get? a=none/\h'.get? a=some o/\a∉wr))->Rep c.w F' v x->St (i+1) h'->(∀b o,b∉wr->s.heap.get? b=some o->h'.get? b=some o)->Q v {s with heap:=h',toks:=tk})->
     Au c.M A (Gl (.ref I)) (λr s1=>∃v,r=some v/\Au c.M A (Im tg (.ref I) v) (λZ s2=>Q v s2) (λZ Z=>False) s1) (λZ Z=>False) s
 done:∀s (Q:Option Ac->Aj->Prop),St xs.length s.heap->
     (∀h' tk,(∀b o,b∉wr->s.heap.get? b=some o->h'.get? b=some o)->Q none {s with heap:=h',toks:=tk})->Au c.M A (Gl (.ref I)) Q (λZ Z=>False) s
 self:∀i s (Q:Ac->Aj->Prop),St i s.heap->Q (.ref I) s->Au c.M A (Hz (.ref I)) Q (λZ Z=>False) s
theorem Ro{c:Cx}{A:BB}{tg:Expr}(ht:FU tg){I:Addr}{v:Ac}{s:Aj}{o:Obj}{n:String}(ho:s.heap.get? I=some o)(hc:o.cls= .type n)
  (hn:(["enumerate","zip","dict_itemiterator","dict_reverseitemiterator","odict_iterator","itertools.zip_longest","itertools.pairwise"].contains n)=false) {Q:Unit->Aj->Prop} (q:Q () s):
  Au c.M A (Im tg (.ref I) v) Q (λZ Z=>False) s:=by
 cases ht with
 | name=>exact AF q
 | tup es k p=>
  unfold Im;cases v<;>first | exact AF q | skip
  refine Ak (wpAny_load ho ?_);refine Aa hc ?_;cases o.data with
  | fields vs=>
   show Au _ A (if(_&&_)=true then _ else _) Q _ s;rw[if_neg (by refine Aa hn ?_;simp)];exact AF q
  | _=>exact AF q
theorem Wk.ofWalks{c:Cx}{A:BB}{F:Fz}{tg:Expr}{I:Addr}{fp wr:List Addr}{n:Nat}{Pr:Nat->Ac->Prop}{St:Nat->Heap->Prop}{xs:List AV}(AlX:Walks c.prog c.w A I fp wr n Pr St)(hn:n=xs.length)
  (hP:∀i v x,Pr i v->xs[i]?=some x->Rep c.w F v x) (hfp:∀b∈fp,b∈wr\/ ∃o,F b=some o) (has:∀i h,St i h->∀b∈wr,∃o,h.get? b=some o)
  (hgo:∀i s v (Q:Unit->Aj->Prop),St i s.heap->Q () s->Au c.M A (Im tg (.ref I) v) Q (λZ Z=>False) s):Wk c A F tg I wr xs St where
 has:=has
 frame:=λi h h' st h1 h2 h3=>AlX.frame i h h' st λb hb o e=>by
  rcases hfp b hb with hw|⟨o',hF⟩
  ·exact h3 b hw o e
  ·have:=h1 _ _ hF;replace this:=e▸this;replace this:=Ay this;subst this;exact h2 _ _ hF
 item:=λi x s F2 Q hle hx st K1 Z hQ=>by
  have hi:i<n:=Aa hn<|(A5.mp hx).1;refine AlX.item i s _ _ hi st λv h' tk hv CQ hk=>⟨v,rfl,hgo _ _ _ _ CQ (hQ v h' tk F2 .refl (λa o e=>.inl e) ((hP i v x hv hx).mono hle) CQ hk)⟩
 done:=λs Q st hQ=>AlX.done s Q _ (by exact Aa hn<|st) hQ
 self:=λi s Q st hQ=>AlX.self i s Q _ st hQ
section
variable{c:Cx}{A:BB}{F P:Fz}{V:St}{s:Aj}{tg:Expr}
theorem Wk.list(hh:A.handled=none)(ht:FU tg){I l:Addr}{vs:List Ac}{k:Nat}(hl:F l=some (AM "list" vs.toArray k))(r:Ao c.w F vs xs)(Bb:l≠I):
  Wk c A F tg I [I] xs (λi h=>h.IsListIter I l i/\h.IsList l vs.toArray):=by
 refine Wk.ofWalks (Walks.list hh I l Bb vs.toArray) (by exact Aa DB<|Aa r.length rfl) (λi v x h1 h2=>?_) (λb hb=>?_) (λi h st b hb=>?_) λi s v Q st q=>?_
 ·refine Ad (r.get h2) ?_;clear h2;intro u hu ru;have h1:vs[i]?=some v:=by simpa using h1
  replace hu:=h1▸hu;replace hu:=Ay hu;subst hu;exact ru
 ·simp at hb;rcases hb with rfl|rfl
  ·simp
  ·exact .inr ⟨_,hl⟩
 ·refine Ah st ?_;clear st;intro hZ;refine Ad hZ ?_;clear hZ;intro o ho _;intro _;simp at hb;subst hb;exact⟨o,ho⟩
 ·refine Ah st ?_;clear st;intro hZ;refine Ch hZ ?_;clear hZ;intro o ho hc _;intro _;exact Ro ht ho hc (by decide) q
theorem Wk.tuple(hh:A.handled=none)(ht:FU tg){I l:Addr}{vs:List Ac}{k:Nat}(hl:F l=some (AM "tuple" vs.toArray k))(r:Ao c.w F vs xs)(Bb:l≠I):
  Wk c A F tg I [I] xs (λi h=>h.IsTupleIter I l i/\h.IsTuple l vs.toArray):=by
 refine Wk.ofWalks (Walks.tuple hh I l Bb vs.toArray) (by exact Aa DB<|Aa r.length rfl) (λi v x h1 h2=>?_) (λb hb=>?_) (λi h st b hb=>?_) λi s v Q st q=>?_
 ·refine Ad (r.get h2) ?_;clear h2;intro u hu ru;have h1:vs[i]?=some v:=by simpa using h1
  replace hu:=h1▸hu;replace hu:=Ay hu;subst hu;exact ru
 ·simp at hb;rcases hb with rfl|rfl
  ·simp
  ·exact .inr ⟨_,hl⟩
 ·refine Ah st ?_;clear st;intro hZ;refine Ad hZ ?_;clear hZ;intro o ho _;intro _;simp at hb;subst hb;exact⟨o,ho⟩
 ·refine Ah st ?_;clear st;intro hZ;refine Ch hZ ?_;clear hZ;intro o ho hc _;intro _;exact Ro ht ho hc (by decide) q
theorem Wk.range(hh:A.handled=none)(ht:FU tg){I:Addr}:
  Wk c A F tg I [I] ((BN n).map λi:Nat=>AV.int i) (λi h=>IsRangeIter h I (0+(i:Nat)*1) ((n:Int)-(i:Nat)) 1):=by
 refine Wk.ofWalks (Walks.range hh I 0 1 n) (by simp) (λi v x h1 h2=>?_) (λb hb=>?_) (λi h st b hb=>?_) λi s v Q st q=>?_
 ·refine Ar h1 ?_;clear h1;rintro t rfl;simp only[Bp,D8] at h2;refine Ad h2 ?_;clear h2;rintro j hj rfl;rw[KE (by simpa using(A5.mp hj).1)] at hj;replace hj:=Ay hj;subst hj;have:(0:Int)+(i:Nat)*1=i:=by lia
  exact Aa this<|.int _ _
 ·exact .inl hb
 ·simp at hb;subst hb;exact⟨_,st⟩
 ·exact Ro ht st rfl (by decide) q
theorem U7{x:AV}(h:(xs.zipIdx.map λp=>AV.tup [.int p.2,p.1])[i]?=some x):∃y,xs[i]?=some y/\x= .tup [.int i,y]:=by simp only[Bp,D8,X6] at h;refine Ad h ?_;clear h;intro p;intro hZ;refine Ad hZ ?_;clear hZ;rintro y hy rfl;rintro rfl;exact⟨y,hy,by simp⟩
theorem Wk.enum(hh:A.handled=none)(ht:JR tg){e it l:Addr}{vs:List Ac}{k:Nat}(hl:F l=some (AM "list" vs.toArray k))(r:Ao c.w F vs xs)(bG:e≠it)(hle:l≠e)(bH:l≠it):
  Wk c A F tg e [e,it] (xs.zipIdx.map λp=>.tup [.int p.2,p.1]) (λi h=>(∃old,IsEnum h e it i old)/\h.IsListIter it l i/\h.IsList l vs.toArray) where
 has:=λi h st b hb=>by
  refine Bq st ?_;clear st;intro hZ;refine Ar hZ ?_;clear hZ;intro old he;intro hZ;refine Ad hZ ?_;clear hZ;intro o ho _;intro _;simp at hb;rcases hb with rfl|rfl
  ·exact⟨_,he⟩
  ·exact⟨_,ho⟩
 frame:=λi h h' st h1 h2 h3=>by
  refine Bq st ?_;clear st;intro hZ;refine Ar hZ ?_;clear hZ;intro old he;intro hit _;exact⟨⟨old,h3 e (by simp) _ he⟩,hit.at λo x=>h3 it (by simp) o x,Cu (h2 _ _ hl)⟩
 item:=λi x s F2 Q K3 hx st K1 hw hQ=>by
  refine Bq st ?_;clear st;intro hZ;refine Ar hZ ?_;clear hZ;intro old he;intro hit hL;refine Ad (U7 hx) ?_;clear hx;rintro y hy rfl;refine Ad (r.get hy) ?_;clear hy;intro v hv rv;have helt:e<s.heap.objs.size:=Cr he;have hilt:it<s.heap.objs.size:=by refine Ad hit ?_;clear hit;intro _ x _;exact Cr x
  have hn:s.heap.get? s.heap.objs.size=none:=by
   cases q:s.heap.get? s.heap.objs.size with
   | none=>rfl
   | some o=>exact absurd (Cr q) (Hu _)
  have HS:F2 s.heap.objs.size=none:=by
   cases q:F2 s.heap.objs.size with
   | none=>rfl
   | some o=>have:=K1 _ _ q;replace this:=hn▸this;exact AA this
  cases ht with
  | tup es kk p=>
   refine wpAny_pyNext_enum_item he hit hL (x:=v) (by simpa using hv) bG λh' ho hit' hT CP hk=>⟨_,rfl,?_⟩;refine wpAny_letOwnedTupleGo_enum ho λh2 Rr DX=>?_;have bI:s.heap.objs.size≠e:=Js helt;have hTi:s.heap.objs.size≠it:=Js hilt;have hLh:h2.get? l=some (AM "list" vs.toArray k):=by exact Aa (DX.2 l hle)<|hk l _ hle bH (K1 _ _ (K3 _ _ hl))
   have K4:h2.get? s.heap.objs.size=some (AM "tuple" ([.int i s.toks,v]:List Ac).toArray 0):=Aa (DX.2 _ bI)<|hT;refine hQ _ h2 _ (F2.set s.heap.objs.size (AM "tuple" ([.int i s.toks,v]:List Ac).toArray 0)) (Fz.Dt HS) (λa o ha=>?_) ?_ ⟨⟨_,by simpa using Rr⟩,hit'.at λo y=>(DX.2 it bG.symm).trans y,Cu hLh⟩ λb o hb y=>?_
   ·by_cases hx:a=s.heap.objs.size
    ·subst hx;simp at ha;subst ha;exact .inr ⟨hn,K4,by simp[bI,hTi]⟩
    ·replace ha:=(Fz.Am hx)▸ha;exact .inl ha
   ·exact .tup (Fz.AC) (.cons (.int _ _) (.cons (rv.mono (K3.trans (Fz.Dt HS))) .nil))
   ·exact(DX.2 b λe'=>hb (by simp[e'])).trans (hk b o (λe'=>hb (by simp[e'])) (λe'=>hb (by simp[e'])) y)
 done:=λs Q st hQ=>by
  refine Bq st ?_;clear st;intro hZ;refine Ar hZ ?_;clear hZ;intro old he;intro hit hL;exact wpAny_pyNext_enum_end hh he hit hL (by simp[r.length]) λh' hx=>hQ h' s.toks λb o hb y=>hx b o (λe'=>hb (by simp[e'])) y
 self:=λi s Q st hQ=>by
  refine Ah st ?_;clear st;intro hZ;refine Ar hZ ?_;clear hZ;intro old he;intro _;exact zG he hQ
theorem bJ{x:AV}(h:(xs.zipWith (λa b=>AV.tup [a,b]) ys)[i]?=some x):∃a b,xs[i]?=some a/\ys[i]?=some b/\x= .tup [a,b]:=by
 replace h:=List.getElem?_zipWith▸h;cases ha:xs[i]? with
 | none=>replace h:=ha▸h;exact AA h
 | some a=>
  cases hb:ys[i]? with
  | none=>replace h:=ha▸h;replace h:=hb▸h;exact AA h
  | some b=>replace h:=ha▸h;replace h:=hb▸h;replace h:=Ay h;subst h;exact⟨a,b,rfl,rfl,rfl⟩
theorem Wk.zip(hh:A.handled=none)(ht:JR tg){z TI TO i1 i2 l1 l2:Addr}(D:ZipApart z TI TO i1 i2 l1 l2){vs us:List Ac}{k k2:Nat}{xs ys:List AV}(hl:F l1=some (AM "list" vs.toArray k))(r:Ao c.w F vs xs)
  (FD:F l2=some (AM "list" us.toArray k2)) (r2:Ao c.w F us ys):
  Wk c A F tg z [z,TI,TO,i1,i2] (xs.zipWith (λa b=>.tup [a,b]) ys) (λi h=>IsZip h z TI TO .none/\TN h TI (.ref i1) (.ref i2)/\(∃a b,TN h TO a b)/\h.IsListIter i1 l1 i/\h.IsListIter i2 l2 i/\h.IsList l1 vs.toArray/\h.IsList l2 us.toArray) where
 has:=λi h st b hb=>by
  refine Mp st ?_;clear st;intro a1 a2;intro hZ;refine DO hZ ?_;clear hZ;intro _ _ a3;intro hZ;refine Ad hZ ?_;clear hZ;intro _ a4 _;intro hZ;refine Ad hZ ?_;clear hZ;intro _ a5 _;intro _;simp at hb;rcases hb with rfl|rfl|rfl|rfl|rfl
  ·exact⟨_,a1⟩
  ·exact⟨_,a2⟩
  ·exact⟨_,a3⟩
  ·exact⟨_,a4⟩
  ·exact⟨_,a5⟩
 frame:=λi h h' st h1 h2 h3=>by
  refine Mp st ?_;clear st;intro a1 a2;intro hZ;refine DO hZ ?_;clear hZ;intro x y a3;intro a4 a5 _;exact⟨h3 _ (by simp) _ a1,h3 _ (by simp) _ a2,⟨x,y,h3 _ (by simp) _ a3⟩,a4.at λo e=>h3 _ (by simp) o e,a5.at λo e=>h3 _ (by simp) o e,Cu (h2 _ _ hl),Cu (h2 _ _ FD)⟩
 item:=λi x s F2 Q K3 hx st K1 hw hQ=>by
  refine UJ st ?_;clear st;intro a1 a2;intro hZ;refine DO hZ ?_;clear hZ;intro x' y' a3;intro a4 a5 a6 a7;refine BS (bJ hx) ?_;clear hx;rintro a b ha hb rfl;refine Ad (r.get ha) ?_;clear ha;intro v hv rv;refine Ad (r2.get hb) ?_;clear hb;intro u hu ru;have lt:∀{c o},s.heap.get? c=some o->s.heap.objs.size≠c:=λe=>Js (Cr e);have hn:s.heap.get? s.heap.objs.size=none:=by
   cases q:s.heap.get? s.heap.objs.size with
   | none=>rfl
   | some o=>exact absurd (Cr q) (Hu _)
  have HS:F2 s.heap.objs.size=none:=by
   cases q:F2 s.heap.objs.size with
   | none=>rfl
   | some o=>have:=K1 _ _ q;replace this:=hn▸this;exact AA this
  cases ht with
  | tup es kk p=>
   refine wpAny_pyNext_zip_item D a1 a2 a3 a4 a5 a6 a7 (x:=v) (y:=u) (by simpa using hv) (by simpa using hu) λh' b1 b2 b3 b4 b5 b6 hk=>⟨_,rfl,?_⟩;refine wpAny_letOwnedTupleGo_zip b1 λh2 DY DX=>?_;have hLa:h2.get? l1=some (AM "list" vs.toArray k):=by exact Aa (DX.2 _ D.l1z)<|hk _ _ D.l1z D.l1TO D.l1i1 D.l1i2 (K1 _ _ (K3 _ _ hl))
   have hLb:h2.get? l2=some (AM "list" us.toArray k2):=by exact Aa (DX.2 _ D.l2z)<|hk _ _ D.l2z D.l2TO D.l2i1 D.l2i2 (K1 _ _ (K3 _ _ FD))
   have K4:h2.get? s.heap.objs.size=some (AM "tuple" ([v,u]:List Ac).toArray 0):=Aa (DX.2 _ (lt a1))<|b5;have Rt:TN h2 TI (.ref i1) (.ref i2):=by show h2.get? TI=_;exact Aa (DX.2 _ D.TIz)<|hk _ _ D.TIz D.TITO D.TIi1 D.TIi2 a2
   have Ru:TN h2 TO v u:=by show h2.get? TO=_;exact Aa (DX.2 _ D.TOz)<|b2
   refine hQ _ h2 _ (F2.set s.heap.objs.size (AM "tuple" ([v,u]:List Ac).toArray 0)) (Fz.Dt HS) (λa o ha=>?_) ?_ ⟨DY,Rt,⟨_,_,Ru⟩,b3.at λo y=>(DX.2 _ D.i1z).trans y,b4.at λo y=>(DX.2 _ D.i2z).trans y,Cu hLa,Cu hLb⟩ λb o hb y=>?_
   ·by_cases hx:a=s.heap.objs.size
    ·subst hx;simp at ha;subst ha;refine .inr ⟨hn,K4,?_⟩;refine Ad a4 ?_;clear a4;intro _ q4 _;refine Ad a5 ?_;clear a5;intro _ q5 _;simp[lt a1,lt a2,lt a3,lt q4,lt q5]
    ·replace ha:=(Fz.Am hx)▸ha;exact .inl ha
   ·exact .tup (Fz.AC) (.cons (rv.mono (K3.trans (Fz.Dt HS))) (.cons (ru.mono (K3.trans (Fz.Dt HS))) .nil))
   ·exact(DX.2 b λe'=>hb (by simp[e'])).trans (hk b o (λe'=>hb (by simp[e'])) (λe'=>hb (by simp[e'])) (λe'=>hb (by simp[e'])) (λe'=>hb (by simp[e'])) y)
 done:=λs Q st hQ=>by
  refine UJ st ?_;clear st;intro a1 a2;intro hZ;refine DO hZ ?_;clear hZ;intro x' y' a3;intro a4 a5 a6 a7;refine wpAny_pyNext_zip_end hh D a1 a2 a3 a4 a5 a6 a7 ?_ λh' hk=>hQ h' s.toks λb o hb y=>hk b o (λe'=>hb (by simp[e'])) (λe'=>hb (by simp[e'])) (λe'=>hb (by simp[e'])) (λe'=>hb (by simp[e'])) y;have l1:=r.length;have l2:=r2.length;simp only[zH,X7,zI];exact Aa l1<|Aa l2<|(zJ _ _).imp (λh=>zK.mpr ⟨BJ _,h⟩) λh=>zK.mpr ⟨h,BJ _⟩
 self:=λi s Q st hQ=>zL st.1 hQ
end
def Ov(wr:List Addr)(P P':Fz):Prop:=∀a,a∉wr->P' a=P a
structure Gy(c:Cx)(A:BB)(F P:Fz)(tg:Expr)(I:Addr)(wr:List Addr)(xs:List AV)(St:Nat->Heap->Prop)(i:Nat)(s:Aj):Prop where
 wk:∃F0,Fz.le F0 F/\Wk c A F0 tg I wr xs St
 st:St i s.heap
 pr:∀b∈wr,∃o,P b=some o
section
variable{c:Cx}{A:BB}{F P:Fz}{V:St}{s:Aj}{tg:Expr}{I:Addr}{wr:List Addr}{xs:List AV}{St:Nat->Heap->Prop}{i:Nat}
theorem Gy.keep(h:Gy c A F P tg I wr xs St i s)(J:Inv c F P V s){F' P':Fz}{Aq:Internal.St}(l:F.le F')(J':Inv c F' P' Aq s')(hp:∀b∈wr,P' b=P b):Gy c A F' P' tg I wr xs St i s':=by refine Ad h.wk ?_;intro F0 l0 w;refine⟨⟨F0,l0.trans l,w⟩,w.frame i _ _ h.st (λa o e=>J.hf _ _ (l0 _ _ e)) (λa o e=>J'.hf _ _ (l _ _ (l0 _ _ e))) (λb hb o e=>?_),λb hb=>by exact Aa (hp b hb)<|h.pr b hb⟩;refine Ar (h.pr b hb) ?_;intro o' e';have:=J.hp _ _ e';replace this:=e▸this;replace this:=Ay this;subst this;exact J'.hp _ _ (by exact Aa (hp b hb)<|e')
theorem Gy.next(h:Gy c A F P tg I wr xs St i s)(J:Inv c F P V s){x:AV}(hx:xs[i]?=some x){Q:Ac->Aj->Prop}
  (q:∀v F' P' s',F.le F'->Ov wr P P'->Inv c F' P' V s'->Gy c A F' P' tg I wr xs St (i+1) s'->Rep c.w F' v x->Q v s'):
  Au c.M A (Gl (.ref I)) (λr s1=>∃v,r=some v/\Au c.M A (Im tg (.ref I) v) (λZ s2=>Q v s2) (λZ Z=>False) s1) (λZ Z=>False) s:=by
 refine Ad h.wk ?_;intro F0 l0 w;have nw:∀b∈wr,F b=none/\V b=none:=λb hb=>by
  refine Ar (h.pr b hb) ?_;intro o e;refine⟨?_,?_⟩
  ·cases q:F b with
   | none=>rfl
   | some o'=>have:=J.fp _ _ q;replace this:=e▸this;exact BR this
  ·cases q:V b with
   | none=>rfl
   | some o'=>have:=(J.sf _ _ q).2;replace this:=e▸this;exact BR this
 refine w.item i x s F _ l0 hx h.st J.hf (λb hb=>(nw b hb).1) λv h' tk F' lF IJ rv Ed hk=>?_;let P':Fz:=λb=>if b∈wr then h'.get? b else P b
 have HT:∀{b},b∉wr->P' b=P b:=λhb=>by show(if _ then _ else _)=_;exact Aa (if_neg hb) rfl
 have HO:∀{b},b∈wr->P' b=h'.get? b:=λhb=>by show(if _ then _ else _)=_;exact Aa (if_pos hb) rfl
 have K5:∀{a o},F a=some o->a∉wr:=λe hb=>by replace e:=((nw _ hb).1)▸e;exact AA e
 have bK:∀{a o},V a=some o->a∉wr:=λe hb=>by replace e:=((nw _ hb).2)▸e;exact AA e
 have J':Inv c F' P' V {s with heap:=h',toks:=tk}:=by
  refine⟨λa o e=>?_,λa o e=>?_,λa ob e=>?_,λa o e=>?_,λa ob e=>?_,λa o e=>lF _ _ (J.base _ _ e),J.gens,J.os⟩
  ·rcases IJ a o e with e'|⟨_,e',_⟩
   ·exact hk _ _ (K5 e') (J.hf _ _ e')
   ·exact e'
  ·by_cases hb:a∈wr
   ·replace e:=(HO hb)▸e;exact e
   ·replace e:=(HT hb)▸e;exact hk _ _ hb (J.hp _ _ e)
  ·refine Ad (J.hs _ _ e) ?_;intro o ho r;exact⟨o,hk _ _ (bK e) ho,r.mono lF⟩
  ·rcases IJ a o e with e'|⟨e',_,hb⟩
   ·exact Aa (HT (K5 e'))<|J.fp _ _ e'
   ·refine Aa (HT hb) ?_;cases q:P a with
    | none=>rfl
    | some o'=>have:=J.hp _ _ q;replace this:=e'▸this;exact AA this
  ·refine⟨?_,Aa (HT (bK e))<|(J.sf _ _ e).2⟩;cases q:F' a with
   | none=>rfl
   | some o'=>
    rcases IJ a o' q with e'|⟨e',_,_⟩
    ·have:=(J.sf _ _ e).1;replace this:=e'▸this;exact BR this
    ·refine Ad (J.hs _ _ e) ?_;intro o ho _;replace ho:=e'▸ho;exact AA ho
 refine q v F' P' _ lF (λa ha=>HT ha) J' ⟨⟨F0,l0.trans lF,w⟩,Ed,λb hb=>?_⟩ rv;exact Aa (HO hb)<|w.has _ _ Ed b hb
theorem Gy.stop(h:Gy c A F P tg I wr xs St xs.length s)(J:Inv c F P V s){Q:Option Ac->Aj->Prop}
  (q:∀h' tk,(∀b o,b∉wr->s.heap.get? b=some o->h'.get? b=some o)->Q none {s with heap:=h',toks:=tk}):Au c.M A (Gl (.ref I)) Q (λZ Z=>False) s:=by
 refine Ad h.wk ?_;intro F0 l0 w;exact w.done s Q h.st q
theorem Inv.U8(J:Inv c F P V s){P0:Fz}{tk:Nat}(hk:∀b o,b∉wr->s.heap.get? b=some o->h'.get? b=some o)(pr:∀b∈wr,∃o,P b=some o)(h0:∀b o,P0 b=some o->b∉wr/\P b=some o):Inv c F P0 V {s with heap:=h',toks:=tk}:=by
 have nw:∀b∈wr,F b=none/\V b=none:=λb hb=>by
  refine Ar (pr b hb) ?_;intro o e;refine⟨?_,?_⟩
  ·cases q:F b with
   | none=>rfl
   | some o'=>have:=J.fp _ _ q;replace this:=e▸this;exact BR this
  ·cases q:V b with
   | none=>rfl
   | some o'=>have:=(J.sf _ _ q).2;replace this:=e▸this;exact BR this
 have key:∀a,P a=none->P0 a=none:=λa e=>by
  cases q:P0 a with
  | none=>rfl
  | some x=>have:=(h0 _ _ q).2;replace this:=e▸this;exact AA this
 refine⟨λa o e=>hk _ _ (λhb=>by replace e:=((nw _ hb).1)▸e;exact AA e) (J.hf _ _ e),λa o e=>hk _ _ (h0 _ _ e).1 (J.hp _ _ (h0 _ _ e).2),λa ob e=>?_,λa o e=>key a (J.fp _ _ e),λa ob e=>⟨(J.sf _ _ e).1,key a (J.sf _ _ e).2⟩,J.base,J.gens,J.os⟩;refine Ad (J.hs _ _ e) ?_;intro o ho r;exact⟨o,hk _ _ (λhb=>by replace e:=((nw _ hb).2)▸e;exact AA e) ho,r⟩
end
inductive ET(c:Cx)(A:BB)(tg:Expr)(F P:Fz)(Q:List AV->St->Prop)(it:Ac)(s':Aj):Prop
 | mk (F' P':Fz) (Aq:St) (I:Addr) (wr:List Addr) (xs:List AV) (S:Nat->Heap->Prop):it= .ref I->F.le F'->(∀b∈wr,P b=none)->Ov wr P P'->Inv c F' P' Aq s'->Gy c A F' P' tg I wr xs S 0 s'->Q xs Aq->ET c A tg F P Q it s'
def EU(c:Cx)(n:Nat)(iter tg:Expr)(sc:BF)(W:Al)(V:St)(Q:List AV->St->Prop):Prop:=
 ∀F P env A s,Bl c sc env W F P->Ok n A->Inv c F P V s->Au c.M A (eval iter env) (λv s1=>Au c.M A (Hz v) (ET c A tg F P Q) (λZ Z=>False) s1) (λZ Z=>False) s
section
variable{c:Cx}{A:BB}{F P:Fz}{V:St}{s:Aj}{tg:Expr}{xs:List AV}{Q:List AV->St->Prop}{n:Nat}{sc:BF}{W:Al}{iter:Expr}
theorem Inv.guards(J:Inv c F P V s){tk:Nat}(hk:∀b o,s.heap.get? b=some o->h'.get? b=some o)(hn:∀b∈wr,s.heap.get? b=none)(hh:∀b∈wr,∃o,h'.get? b=some o):
  ∃P',Ov wr P P'/\(∀b∈wr,P b=none)/\(∀b∈wr,∃o,P' b=some o)/\Inv c F P' V {s with heap:=h',toks:=tk}:=by
 let P':Fz:=λb=>if b∈wr then h'.get? b else P b
 have HT:∀{b},b∉wr->P' b=P b:=λhb=>by show(if _ then _ else _)=_;exact Aa (if_neg hb) rfl
 have HO:∀{b},b∈wr->P' b=h'.get? b:=λhb=>by show(if _ then _ else _)=_;exact Aa (if_pos hb) rfl
 have J1:=J.keeps (t:=tk) hk;refine⟨P',λa ha=>HT ha,λb hb=>?_,λb hb=>by exact Aa (HO hb)<|hh b hb,J1.hf,λa o e=>?_,J1.hs,λa o e=>?_,λa ob e=>⟨(J1.sf _ _ e).1,?_⟩,J1.base,J1.gens,J1.os⟩
 ·cases q:P b with
  | none=>rfl
  | some o=>have:=J.hp _ _ q;replace this:=(hn b hb)▸this;exact AA this
 ·by_cases hb:a∈wr
  ·replace e:=(HO hb)▸e;exact e
  ·replace e:=(HT hb)▸e;exact J1.hp _ _ e
 ·rw[HT (λhb=>by have:=J.hf _ _ e;replace this:=(hn _ hb)▸this;exact AA this)];exact J1.fp _ _ e
 ·rw[HT (λhb=>by refine Ad (J.hs _ _ e) ?_;intro o ho _;replace ho:=(hn _ hb)▸ho;exact AA ho)];exact(J1.sf _ _ e).2
theorem G6(h:Heap){k:Nat}:h.get? (h.objs.size+k)=none:=X8 (Gh _ _)
theorem lst_inv{F:Fz}(r:Rep w F v (.lst xs)):SeqAt F "list" (FT w F xs) v:=r
theorem JS{F:Fz}(r:Rep w F v (.tup xs)):SeqAt F "tuple" (FT w F xs) v:=r
theorem Ab4(hh:A.handled=none)(ht:FU tg)(J:Inv c F P V s)(r:Rep c.w F v (.lst xs))(q:Q xs V):Au c.M A (Hz v) (ET c A tg F P Q) (λZ Z=>False) s:=by
 obtain⟨a,vs,k,rfl,e,rl⟩:=lst_inv r;have hL:s.heap.IsList a vs.toArray:=Cu (J.hf _ _ e);refine X9 hL ?_;have Bb:a≠s.heap.objs.size:=λq=>by have:=J.hf _ _ e;exact Dh (Cr this) q
 obtain⟨P',b1,b2,b3,J'⟩:=J.guards (wr:= [s.heap.objs.size]) (tk:=s.toks) (λb o e=>Di {cls:= .type "list_iterator",data:= .fields #[.ref a,.int 0 0]} e) (λb hb=>by simp at hb;subst hb;exact G6 s.heap (k:=0)) (λb hb=>by simp at hb;subst hb;exact⟨_,Ct _ rfl⟩);exact⟨F,P',V,_,[s.heap.objs.size],xs,_,rfl,.refl,b2,b1,J',⟨⟨F,.refl,Wk.list hh ht e rl Bb⟩,⟨⟨_,Ct _ rfl,rfl,rfl⟩,Cu (J'.hf _ _ e)⟩,b3⟩,q⟩
theorem Ab5(hh:A.handled=none)(ht:FU tg)(J:Inv c F P V s)(r:Rep c.w F v (.tup xs))(q:Q xs V):Au c.M A (Hz v) (ET c A tg F P Q) (λZ Z=>False) s:=by
 obtain⟨a,vs,k,rfl,e,rl⟩:=JS r;have hL:∀{h:Heap},h.get? a=some (AM "tuple" vs.toArray k)->h.IsTuple a vs.toArray:=λe=>⟨_,e,rfl,_,rfl⟩;refine wpAny_pyIter_tuple (hL (J.hf _ _ e)) ?_;have Bb:a≠s.heap.objs.size:=λq=>by have:=J.hf _ _ e;exact Dh (Cr this) q
 obtain⟨P',b1,b2,b3,J'⟩:=J.guards (wr:= [s.heap.objs.size]) (tk:=s.toks) (λb o e=>Di {cls:= .type "tuple_iterator",data:= .fields #[.ref a,.int 0 0]} e) (λb hb=>by simp at hb;subst hb;exact G6 s.heap (k:=0)) (λb hb=>by simp at hb;subst hb;exact⟨_,Ct _ rfl⟩);exact⟨F,P',V,_,[s.heap.objs.size],xs,_,rfl,.refl,b2,b1,J',⟨⟨F,.refl,Wk.tuple hh ht e rl Bb⟩,⟨⟨_,Ct _ rfl,rfl,rfl⟩,hL (J'.hf _ _ e)⟩,b3⟩,q⟩
theorem ET.mono{F0:Fz}(l:F0.le F){it:Ac}(h:ET c A tg F P Q it s):ET c A tg F0 P Q it s:=by obtain⟨F',P',Aq,I,wr,xs,St,a,b,e1,e2,e3,e4,e5⟩:=h;exact⟨F',P',Aq,I,wr,xs,St,a,l.trans b,e1,e2,e3,e4,e5⟩
theorem CD.mono{es:List Expr}{Q Q':List AV->St->Prop}(h:CD c n es sc W V Q)(k:∀as Aq,Q as Aq->Q' as Aq):CD c n es sc W V Q':=λF P env pos fr=>(h F P env pos fr).mono k
theorem Ab6{f:Ac}{es:List Expr}{pos:Pos}{env:Env}(hk:EC c f)(hs:FA es)(fr:Bl c sc env W F P){R:Ac->Aj->Prop}(ok:Ok n A)(J:Inv c F P V s)
  (h:CD c n es sc W V (λas Af=>∀F1 vs s1,F.le F1->Inv c F1 P Af s1->Ao c.w F1 vs as->Au c.M A (Ik f vs []) R (λZ Z=>False) s1)):Au c.M A (callWith pos f [] (DA pos (Dj es env)) []) R (λZ Z=>False) s:=by
 refine XX (P:=c.K.In) (by exact Aa (Ot hs) rfl) hk ?_;have main:Au c.M A (Kw (DA pos (Dj es env))) (λvs s'=>c.K.In s'.heap/\Au c.M A (Ik f ([]++vs) []) R (λZ Z=>False) s') (λZ Z=>False) s:=
  AN (h F P env pos fr A s ok J) (λvs s1 hQ=>by obtain⟨F1,Af,as,l1,I1,r1,q1⟩:=hQ;exact⟨I1.k,q1 F1 vs s1 l1 I1 r1⟩) λZ Z x=>x
 cases hs with
 | nil=>
  refine Ak (AN main (λvs s' h'=>?_) λZ Z x=>x);refine Et ?_;exact Ak (AF (Ak (AF (AF h'))))
 | @cons e es he hr=>
  rw[Oe he] at main⊢;exact XY main
theorem EU.call{func:Expr}{es:List Expr}{pos:Pos}{f:Ac} (h:Ax c n func sc W V (λfv Af=>fv= .raw f/\CD c n es sc W Af (λas Av=>∀F P vs A s,Ok n A->Inv c F P Av s->Ao c.w F vs as->
   Au c.M A (Ik f vs []) (λv s1=>Au c.M A (Hz v) (ET c A tg F P Q) (λZ Z=>False) s1) (λZ Z=>False) s)))
  (hk:EC c f) (hs:FA es) (he:∀env,eval (.Call func es [] pos) env=(do TG pos (<-eval func env) [] (DA pos (Dj es env)) (KA pos (KB [] env)))):
  EU c n (.Call func es [] pos) tg sc W V Q:=by
 intro F P env A s fr ok J;refine Aa (he _) ?_;refine Ak (AN (h F P env fr A s ok J) (λv s' hQ=>?_) λZ Z x=>x);obtain⟨F1,Af,a,l1,J1,r1,e,h1⟩:=hQ;subst e;subst r1;refine Ab6 hk hs (fr.mono l1) ok J1 (CD.mono h1 λas Av q F2 vs s2 l2 J2 r2=>?_);exact AN (q F2 P vs A s2 ok J2 r2) (λv s3 h3=>AN h3 (λit s4 h4=>h4.mono (l1.trans l2)) λZ Z x=>x) λZ Z x=>x
theorem Ab7(ht:FU tg){k:Nat}(hk:k<=Bc)(ok:Ok n A)(J:Inv c F P V s){vs:List Ac}(r:Ao c.w F vs [.int k])(q:Q ((BN k).map λi:Nat=>AV.int i) V):
  Au c.M A (Ik (.type "range") vs []) (λv s1=>Au c.M A (Hz v) (ET c A tg F P Q) (λZ Z=>False) s1) (λZ Z=>False) s:=by
 obtain⟨_,_,rfl,r1,r2⟩:=r;subst r2;refine Ar r1 ?_;clear r1;rintro t rfl
 ·refine call_range_1 ?_;have hsm:zM 0 k 1=true:=by
   unfold Bc at hk;have hz:QF 0 k 1=k:=by
    unfold QF;by_cases h0:k=0
    ·subst h0;rfl
    ·rewrite[if_pos (by decide),if_pos (by exact JN (Qx h0))];exact Zo
   unfold zM;refine Aa hz ?_;have f:∀x:Int,0<=x->x<=2^30->zN x=true:=λx h1 h2=>by
    unfold zN;simp only[D7,decide_eq_true_eq];exact And.intro (Ml h1 rfl) (UC h2 rfl)
   rewrite[f 0 (by lia) (by lia),f k (by lia) (by lia),f 1 (by lia) (by lia),if_pos (by decide),f (k+(1-1)) (by lia) (by lia)];simp
  refine wpAny_pyIter_range (r:=s.heap.objs.size) (a:=0) (b:=k) (c:=1) (Ct _ rfl) hsm ?_;have J1:Inv c F P V {s with heap:=s.heap.push {cls:= .type "range",data:= .fields #[.int 0 s.toks,.int k t,.int 1 (s.toks+1)]},toks:=s.toks+1+1}:=J.push _;obtain⟨P',b1,b2,b3,J'⟩:=J1.guards (wr:= [(s.heap.push {cls:= .type "range",data:= .fields #[.int 0 s.toks,.int k t,.int 1 (s.toks+1)]}).objs.size]) (tk:=s.toks+1+1)
   (λb o e=>Di {cls:= .type "range_iterator",data:= .fields #[Cm 0,Cm (QF 0 k 1),Cm 1]} e) (λb hb=>by simp only[B3] at hb;subst hb;exact G6 _ (k:=0)) (λb hb=>by simp only[B3] at hb;subst hb;exact⟨_,Ct _ rfl⟩)
  refine⟨F,P',V,_,_,_,_,rfl,.refl,b2,b1,J',⟨⟨F,.refl,Wk.range (n:=k) ok.hh ht⟩,?_,b3⟩,q⟩;have hz:QF 0 k 1=k:=by
   unfold QF;by_cases h0:k=0
   ·subst h0;rfl
   ·rewrite[if_pos (by decide),if_pos (by exact JN (Qx h0))];exact Zo
  exact Aa hz<|Ct _ rfl
theorem Ab8(ht:JR tg)(ok:Ok n A)(J:Inv c F P V s){vs:List Ac}(r:Ao c.w F vs [.lst xs])(q:Q (xs.zipIdx.map λp=>.tup [.int p.2,p.1]) V):
  Au c.M A (Ik (.type "enumerate") vs []) (λv s1=>Au c.M A (Hz v) (ET c A tg F P Q) (λZ Z=>False) s1) (λZ Z=>False) s:=by
 obtain⟨_,_,rfl,r1,r2⟩:=r;subst r2;obtain⟨l,us,k,rfl,e,rl⟩:=lst_inv r1;have hl:=J.hf _ _ e;have AH:=Cr hl;refine call_enumerate_list (Cu hl) λh' he hit CP hk=>zG he ?_;obtain⟨P',b1,b2,b3,J'⟩:=J.guards (wr:= [s.heap.objs.size+1,s.heap.objs.size]) (tk:=s.toks) hk (λb hb=>by simp only[Bo,GS,or_false] at hb;rcases hb with rfl|rfl;exact G6 _ (k:=1);exact G6 _ (k:=0)) (λb hb=>by
  simp only[Bo,GS,or_false] at hb;rcases hb with rfl|rfl
  ·exact⟨_,he⟩
  ·refine Ad hit ?_;clear hit;intro o ho _;exact⟨o,ho⟩)
 exact⟨F,P',V,_,_,_,_,rfl,.refl,b2,b1,J',⟨⟨F,.refl,Wk.enum ok.hh ht e rl (Nat.succ_ne_self _) (λq=>by replace AH:=q▸AH;exact absurd AH (XV.mpr (L4 _))) (Dh AH)⟩,⟨⟨_,he⟩,hit,Cu (J'.hf _ _ e)⟩,b3⟩,q⟩
theorem Ab9(ht:JR tg)(ok:Ok n A)(J:Inv c F P V s){vs:List Ac}(r:Ao c.w F vs [.lst xs,.lst ys])(q:Q (xs.zipWith (λa b=>.tup [a,b]) ys) V):
  Au c.M A (Ik (.type "zip") vs []) (λv s1=>Au c.M A (Hz v) (ET c A tg F P Q) (λZ Z=>False) s1) (λZ Z=>False) s:=by
 obtain⟨_,_,rfl,r1,r2⟩:=r;obtain⟨_,_,rfl,r2,r3⟩:=r2;subst r3;obtain⟨l,us,k,rfl,e,rl⟩:=lst_inv r1;obtain⟨l2,us2,k2,rfl,e2,Rv⟩:=lst_inv r2;have hl:=J.hf _ _ e;have FD:=J.hf _ _ e2;refine call_zip_2 (Cu hl) (Cu FD) λh' hz Rt Ru IK U9 CP hk=>?_;refine zL hz ?_;obtain⟨P',b1,b2,b3,J'⟩:=J.guards (wr:= [s.heap.objs.size+4,s.heap.objs.size+2,s.heap.objs.size+3,s.heap.objs.size,s.heap.objs.size+1]) (tk:=s.toks) hk (λb hb=>by
  simp only[Bo,GS,or_false] at hb;rcases hb with rfl|rfl|rfl|rfl|rfl
  ·exact G6 _ (k:=4)
  ·exact G6 _ (k:=2)
  ·exact G6 _ (k:=3)
  ·exact G6 _ (k:=0)
  ·exact G6 _ (k:=1)) (λb hb=>by
  simp only[Bo,GS,or_false] at hb;rcases hb with rfl|rfl|rfl|rfl|rfl
  ·exact⟨_,hz⟩
  ·exact⟨_,Rt⟩
  ·exact⟨_,Ru⟩
  ·refine Ad IK ?_;clear IK;intro o ho _;exact⟨o,ho⟩
  ·refine Ad U9 ?_;clear U9;intro o ho _;exact⟨o,ho⟩)
 exact⟨F,P',V,_,_,_,_,rfl,.refl,b2,b1,J',⟨⟨F,.refl,Wk.zip ok.hh ht (zipApart_new (Cr hl) (Cr FD)) e rl e2 Rv⟩,⟨hz,Rt,⟨_,_,Ru⟩,IK,U9,Cu (J'.hf _ _ e),Cu (J'.hf _ _ e2)⟩,b3⟩,q⟩
end
inductive Ff(tg:Expr)(ns:List (Str×Bi))(W:Al)(x:AV)(K:Al->Prop):Prop
 | name {y:Str} {p:Pos} {Ap:Al}:tg= .Name y p->DV ns W y x Ap->K Ap->Ff tg ns W x K
 | tup {es:List Expr} {k:Nat} {p:Pos} {ys:List Str} {as:List AV} {Ap:Al}:tg= .Tuple es k p->EN es=some ys->x= .tup as->Cn ns W ys as Ap->K Ap->Ff tg ns W x K
section
variable{c:Cx}{A:BB}{F P:Fz}{V:St}{s:Aj}{tg:Expr}{n:Nat}{sc:BF}{W:Al}
theorem Ff.run{x:AV}{K:Al->Prop}(h:Ff tg sc.names W x K){env:Env}(fr:Bl c sc env W F P)(ok:Ok n A)(J:Inv c F P V s){v:Ac}(r:Rep c.w F v x){R:Unit->Aj->Prop}
  (q:∀Ap P' s',K Ap->Fw env P P'->Inv c F P' V s'->Bl c sc env Ap F P'->R () s'):Au c.M A (Ij tg env v) R (λZ Z=>False) s:=by
 cases h with
 | name e st k=>
  subst e;exact Yb (UR fr r st J λP' s' o J' G7=>q _ P' s' k o J' G7)
 | tup e hn ex st k=>
  subst e;subst ex;exact assign_tuple hn fr ok J r st λP' s' o J' G7=>q _ P' s' k o J' G7
theorem Bl.Va{env:Env}{P':Fz}(f:Bl c sc env W F P)(hl:P' env.locals=P env.locals)(hc:∀x a (i:Nat),sc.names[i]?=some (x,TF)->env.cells.lookup x=some a->P' a=P a):Bl c sc env W F P':=
 ⟨f.Cz,f.kd,f.gl,f.bi,f.nd,f.ln,by obtain⟨o,es,ep,e,r,q,u⟩:=f.ns;exact⟨o,es,ep,hl.trans e,r,q,u⟩,
  λi x hx=>by obtain⟨ca,o,cv,e1,e2,r,q,u⟩:=f.cl i x hx;exact⟨ca,o,cv,e1,(hc x ca i hx e1).trans e2,r,q,u⟩,f.ci,f.ca⟩
structure HU(env:Env)(P:Fz)(wr:List Addr):Prop where
 loc:env.locals∉wr
 G1:∀x,∀b∈wr,env.cells.lookup x≠some b
 w0:∀b∈wr,P b=none
theorem HU.fr{env:Env}{P0 P2:Fz}(AlX:HU env P wr)(f:Bl c sc env W F P0)(w:Ov wr P0 P2):Bl c sc env W F P2:=
 f.Va (w _ AlX.loc) λx a Z Z e=>w a λhb=>AlX.G1 x a hb e
theorem HU.of{env:Env}{F1 P1:Fz}{Af:Internal.St}(fr:Bl c sc env W F P)(l1:F.le F1)(w0:∀b∈wr,P b=none)(J:Inv c F1 P1 Af s)(pr:∀b∈wr,∃o,P1 b=some o):HU env P wr:=
 ⟨λhb=>by obtain⟨o,es,ep,e,_⟩:=fr.ns;exact AA ((w0 _ hb).symm.trans e),λx b hb e=>(fr.ca x b e).elim
  (λh=>h.elim λi hi=>by obtain⟨ca,o,cv,e1,e2,_⟩:=fr.cl i x hi;exact AA ((w0 _ hb).symm.trans ((Ay (e.symm.trans e1))▸e2)))
  λh=>h.elim λo ho=>(pr b hb).elim λo' e'=>AA ((J.fp _ _ (l1 _ _ ho)).symm.trans e'),w0⟩
structure Gz(c:Cx)(A:BB)(sc:BF)(env:Env)(F P:Fz)(tg:Expr)(a:Addr)(wr:List Addr)(xs:List AV)(S:Nat->Heap->Prop)(i:Nat)(F2 P2:Fz)(V:St)(W:Al)(s:Aj):Prop where
 l:F.le F2
 o:∀b,b≠env.locals->(∀x,env.cells.lookup x≠some b)->b∉wr->P2 b=P b
 J:Inv c F2 P2 V s
 fr:Bl c sc env W F2 P2
 it:Gy c A F2 P2 tg a wr xs S i s
section
variable{env:Env}{a:Addr}{wr:List Addr}{xs:List AV}{S:Nat->Heap->Prop}{i:Nat}{F2 P2:Fz}{s:Aj}{W:Al}{AlX:HU env P wr}
theorem Gz.move(AlX:HU env P wr)(h:Gz c A sc env F P tg a wr xs S i F2 P2 V W s){F3 P3:Fz}{Aq:Internal.St}(l:F2.le F3)(o:Fw env P2 P3)(J:Inv c F3 P3 Aq s')(fr:Bl c sc env Ap F3 P3):Gz c A sc env F P tg a wr xs S i F3 P3 Aq Ap s':=
 ⟨h.l.trans l,λb h1 h2 h3=>(o b h1 h2).trans (h.o b h1 h2 h3),J,fr,h.it.keep h.J l J λb hb=>o b (λe=>AlX.loc (e▸hb)) λx e=>AlX.G1 x b hb e⟩
theorem Gz.item(AlX:HU env P wr)(h:Gz c A sc env F P tg a wr xs S i F2 P2 V W s){x:AV}(hx:xs[i]?=some x){Q:Ac->Aj->Prop}
  (q:∀v F3 P3 s',Gz c A sc env F P tg a wr xs S (i+1) F3 P3 V W s'->Rep c.w F3 v x->Q v s'):
  Au c.M A (Gl (.ref a)) (λr s1=>∃v,r=some v/\Au c.M A (Im tg (.ref a) v) (λZ s2=>Q v s2) (λZ Z=>False) s1) (λZ Z=>False) s:=
 h.it.next h.J hx λv F3 P3 s' l w J it r=>q v F3 P3 s' ⟨h.l.trans l,λb h1 h2 h3=>(w b h3).trans (h.o b h1 h2 h3),J,AlX.fr (h.fr.mono l) w,it⟩ r
theorem Gz.turn(AlX:HU env P wr)(h:Gz c A sc env F P tg a wr xs S i F2 P2 V W s)(ok:Ok n A){x:AV}(hx:xs[i]?=some x){body:List Stmt}{B:Fl->Al->Internal.St->Prop}(t:Ff tg sc.names W x λAp=>BE c n body sc Ap V B){R:Flow->Aj->Prop}{E:Ac->Aj->Prop}{Z:Aj->Prop}
  (q:∀f F6 P6 EV K6 fl s6,Gz c A sc env F P tg a wr xs S (i+1) F6 P6 EV K6 s6->KW c.w F6 f fl->B fl K6 EV->R f s6):
  Au c.M A (Gl (.ref a)) (λr s1=>match r with
   | none=>Z s1
   | some v=>Au c.M A (Im tg (.ref a) v) (λ_ s2=>Au c.M A (Ij tg env v) (λ_ s3=>Au c.M A (ND body env) R E s3) E s2) E s1) E s:=
 have ex:∀{α:Type}{m:Sem α}{Q:α->Aj->Prop}{s:Aj},Au c.M A m Q (λ_ _=>False) s->Au c.M A m Q E s:=λh=>AN h (λ_ _ h=>h) λ_ _ x=>x.elim
 AN (h.item AlX hx λv F3 P3 s' S3 r3=>ex (t.run S3.fr ok S3.J r3 λAp P4 s5 h5 o4 J4 bL=>
  AN (h5 F3 P4 env A s5 bL ok J4) (λf s6 h6=>by obtain⟨F6,P6,EV,K6,fl,l,o,J,fr,r,b⟩:=h6;exact q f F6 P6 EV K6 fl s6 ((S3.move AlX .refl o4 J4 bL).move AlX l o J fr) r b) λ_ _ x=>x.elim))
  (λr s1 h=>h.elim λv h=>by exact Aa (h.1)<|ex h.2) λ_ _ x=>x.elim
theorem Gz.leave(AlX:HU env P wr)(h:Gz c A sc env F P tg a wr xs S i F2 P2 V W s){tk:Nat}(hk:∀b o,b∉wr->s.heap.get? b=some o->h'.get? b=some o){Q:Fl->Al->Internal.St->Prop}{f:Flow}{fl:Fl}(r:KW c.w F2 f fl)(q:Q fl W V):Out c sc env F P Q f {s with heap:=h',toks:=tk}:=by
 have e1:∀{b},b∉wr->(if b∈wr then none else P2 b)=P2 b:=λhb=>if_neg hb;refine⟨F2,λb=>if b∈wr then none else P2 b,V,W,fl,h.l,λb h1 h2=>?_,h.J.U8 hk h.it.pr λb o e=>?_,AlX.fr h.fr λb hb=>e1 hb,r,q⟩
 ·by_cases hb:b∈wr
  ·exact(if_pos hb).trans (AlX.w0 b hb).symm
  ·exact(e1 hb).trans (h.o b h1 h2 hb)
 ·by_cases hb:b∈wr
  ·exact AA ((if_pos hb).symm.trans e)
  ·exact⟨hb,(e1 hb).symm.trans e⟩
end
theorem BK.for{iter:Expr}{body:List Stmt}{pos:Pos}{Q:Fl->Al->St->Prop}
  (h:EU c n iter tg sc W V (λxs Af=>∃I:Nat->Al->St->Prop,I 0 W Af/\(∀i x FE DZ,xs[i]?=some x->I i FE DZ->Ff tg sc.names FE x (λAp=>BE c n body sc Ap DZ (λfl De Av=>match fl with
   | .next | .cont=>I (i+1) De Av
   | .brk=>Q .next De Av
   | .ret a=>Q (.ret a) De Av)))/\ ∀HV C4,I xs.length HV C4->Q .next HV C4)) (hs:∀env x,KF iter env x=pure x):
  BK c n (.For tg iter body [] pos) sc W V Q:=by
 intro F P env A s fr ok J;refine wpAny_For (AN (h F P env A s fr ok J) (λv s1 h1=>AN h1 (λit s2 h2=>?_) λZ Z x=>x.elim) λZ Z x=>x.elim) (hs env);obtain⟨F1,P1,Af,a,wr,xs,St,rfl,l1,w0,w1,J1,MB,I,i0,turn,done⟩:=h2;have AlX:=HU.of fr l1 w0 J1 MB.pr;refine codeAny_forLoop_any (λk s=>∃i F2 P2 Av De,k=xs.length-i/\i<=xs.length/\Gz c A sc env F P tg a wr xs St i F2 P2 Av De s/\I i De Av) (λk s hk=>?_) xs.length ⟨0,F1,P1,Af,W,rfl,Cq _,⟨l1,λb Z Z hb=>w1 b hb,J1,AlX.fr (fr.mono l1) w1,MB⟩,i0⟩;refine e5_4 hk ?_;clear hk;rintro i F2 P2 Av De rfl hi S hI;rcases zO hi with AH|rfl
 ·have hx:=BG AH;have hm:xs.length-(i+1)<xs.length-i:=TP _ _ AH;refine S.turn AlX ok hx (turn i _ De Av hx hI) λf F6 P6 EV K6 fl s6 S6 r6 q6=>?_;cases r6 with
  | next=>exact⟨_,hm,i+1,F6,P6,EV,K6,rfl,AH,S6,q6⟩
  | cont=>exact⟨_,hm,i+1,F6,P6,EV,K6,rfl,AH,S6,q6⟩
  | brk=>exact S6.leave AlX (λZ Z Z e=>e) .next q6
  | ret r=>exact S6.leave AlX (λZ Z Z e=>e) (.ret r) q6
 ·exact AN (S.it.stop S.J (Q:=λr s1=>r=none/\Out c sc env F P Q .next s1) λh' tk hk=>⟨rfl,S.leave AlX hk .next (done _ _ hI)⟩) (λr s1 h=>by refine Ah h ?_;clear h;rintro rfl o;exact XJ o) λZ Z x=>x.elim
end
def Vb(env:Env)(P P':Fz):Prop:=∀a,a≠env.locals->P' a=P a
section
variable{c:Cx}{A:BB}{F P:Fz}{V:St}{s:Aj}{tg:Expr}{n:Nat}{sc:BF}{W Ap:Al}{env:Env}
theorem Vc(h:Bl c sc env W F P){x:Str}{v:Ac}{a:AV}(r:Rep c.w F v a)(hs:DV sc.names W x a Ap)(hl:sc.names.lookup x=some .local)(I:Inv c F P V s)
  {Q:Unit->Aj->Prop} (q:∀P' s',Vb env P P'->Inv c F P' V s'->Bl c sc env Ap F P'->Q () s') {E:Ac->Aj->Prop}:Au c.M A (Qp env x v) Q E s:=by
 refine GX hs.at ?_;rintro i k hx rfl hi hk;have G4:env.scope.kind= .function:=Aa h.Cz<|h.kd;have:k= .local:=by have:=ID h.nd hx;replace this:=hl▸this;exact(Ay this).symm
 subst this;obtain⟨o,es,ep,a1,a2,a3,a4⟩:=h.ns;refine yC (h.kind hx) (m:=Qm es) ⟨o,es,ep,I.hp _ _ a1,a2,a3,λZ=>rfl⟩ (λh' hn hb=>?_) (by exact Aa G4 rfl);refine GY hn ?_;clear hn;intro o' Od US b1 b2 b3 b4;refine q (P.set env.locals o') _ (λb DP=>Fz.Am DP) (I.Rd a1 hb b1) ⟨h.Cz,h.kd,h.gl,h.bi,h.nd,by simp[h.ln],⟨o',Od,US,by simp,b2,b3,λj y u hj hu=>?_⟩,λj y hj=>?_,h.ci,h.ca⟩
 ·refine Aa (b4 _) ?_;by_cases Bx:i=j
  ·subst Bx;replace hj:=hx▸hj;cases hj;simp[hi] at hu;subst hu;exact⟨v,by simp,r⟩
  ·have Bb:y≠x:=by rintro rfl;exact Bx (Oc h.nd hx hj)
   replace hu:=(FP Bx)▸hu;simp only[Bb,if_false];exact a4 j y u hj hu
 ·have Bx:i≠j:=by rintro rfl;replace hj:=hx▸hj;cases hj
  obtain⟨ca,oc,cv,e1,e2,e3,e5,e4⟩:=h.cl j y hj;exact⟨ca,oc,cv,e1,Aa (Fz.Am e5)<|e2,e3,e5,λu hu=>e4 u (by rwa[FP Bx] at hu)⟩
theorem Aca{xs:List Str}{ts:List (Ac->Sem Unit)}(ht:∀A s (R:Unit->Aj->Prop) x t v,(x,t)∈xs.zip ts->Au c.M A (Qp env x v) R (λZ Z=>False) s->Au c.M A (t v) R (λZ Z=>False) s):
  ∀{W Ap:Al}{as:List AV}{vs:List Ac}{F P:Fz}{A:BB}{s:Aj},xs.length=ts.length->(∀x∈xs,sc.names.lookup x=some .local)->Cn sc.names W xs as Ap->Ao c.w F vs as->Bl c sc env W F P->Inv c F P V s->
  ∀{R:Unit->Aj->Prop},(∀P' s',Vb env P P'->Inv c F P' V s'->Bl c sc env Ap F P'->R () s')->Au c.M A (TB ts vs) R (λZ Z=>False) s:=by
 induction xs generalizing ts with
 | nil=>
  intro W Ap as vs F P A s hl hk st r fr I R q;cases st;cases ts with
  | nil=>subst r;exact AF (q P s (λZ Z=>rfl) I fr)
  | cons _ _=>simp at hl
 | cons x xs ih=>
  intro W Ap as vs F P A s hl hk st r fr I R q;cases ts with
  | nil=>simp at hl
  | cons t ts=>
   cases st with
   | cons UT IE=>
    obtain⟨_,_,rfl,r1,r2⟩:=r;show Au c.M A (do DK _ (t _);TB ts _) R _ s;refine Ak (Et (ht A s _ x t _ (by simp) (Vc fr r1 UT (hk x (by simp)) I λP1 s1 o1 I1 JQ=>?_)));exact ih (λA s R x t v hm=>ht A s R x t v (by simp[hm])) (by simpa using hl) (λy hy=>hk y (by simp[hy])) IE r2 JQ I1 λP2 s2 o2 I2 C3=>q P2 s2 (λa ha=>(o2 a ha).trans (o1 a ha)) I2 C3
noncomputable def Rw(e:Expr):List Str:=match Re e with
 | some x=>[x]
 | none=>if h:e.ctorIdx=25 then Yc (motive_1:=λZ=>List Str) e h (λes Z Z=>(EN es).getD []) else[]
theorem Ff.runL{x:AV}{K:Al->Prop}(h:Ff tg sc.names W x K)(hl:∀y∈Rw tg,sc.names.lookup y=some .local)(fr:Bl c sc env W F P)(ok:Ok n A)(J:Inv c F P V s){v:Ac}(r:Rep c.w F v x){R:Unit->Aj->Prop}
  (q:∀Ap P' s',K Ap->Vb env P P'->Inv c F P' V s'->Bl c sc env Ap F P'->(∃ys vs,Cn sc.names W ys vs Ap/\ ∀y∈ys,sc.names.lookup y=some .local)->R () s'):Au c.M A (Ij tg env v) R (λZ Z=>False) s:=by
 cases h with
 | name e st k=>
  subst e;exact Yb (Vc fr r st (hl _ (B3.mpr rfl)) J λP' s' o J' G7=>q _ P' s' k o J' G7 ⟨[_],[_],.cons st .nil,λy hy=>hl y hy⟩)
 | tup e hn ex st k=>
  subst e;subst ex;refine BS r.isTup ?_;rintro a vs rfl rl ht;obtain⟨h1,h2,h3⟩:=ZN (c:=c) (env:=env) hn;have hlen:=st.length;rewrite[yH];refine Ak (Hx (unpack_tuple ok.hh (ht J) (by exact Aa h1<|Aa hlen<|Aa DB<|Aa rl.length rfl) h2 λh' hk=>?_));have I':Inv c F P V {s with heap:=h'}:=J.keeps λb o e=>hk b o (Dh (Cr e)) e;simp only[];have JT:∀y∈_,sc.names.lookup y=some .local:=λy hy=>hl y (show y∈(EN _).getD [] from hn▸hy);exact Aca h3 (by simp[h1]) JT st rl fr I' λP' s' o J' G7=>q _ P' s' k o J' G7 ⟨_,_,st,JT⟩
end
inductive G8:List (Str×Bi)->Al->Str->AV->Prop
 | here {x:Str} {v:AV} {ns:List (Str×Bi)} {r:Al}:G8 ((x,.cell)::ns) (some v::r) x v
 | skip {x:Str} {v:AV} {y:Str×Bi} {o:Option AV} {ns:List (Str×Bi)} {r:Al}:G8 ns r x v->G8 (y::ns) (o::r) x v
theorem G8.at{v:AV}(h:G8 ns W x v):∃i:Nat,ns[i]?=some (x,.cell)/\W[i]?=some (some v):=by
 induction h with
 | here=>exact⟨0,rfl,rfl⟩
 | skip _ ih=>refine Ad ih ?_;clear ih;intro i a b;exact⟨i+1,by simpa using a,by simpa using b⟩
inductive Fg(ns:List (Str×Bi))(W:Al):List (Str×Bi)->Al->Prop
 | nil:Fg ns W [] []
 | loc {x:Str} {r:List (Str×Bi)} {Ap:Al}:Fg ns W r Ap->Fg ns W ((x,.local)::r) (none::Ap)
 | Rj {x:Str} {r:List (Str×Bi)} {Ap:Al}:Fg ns W r Ap->Fg ns W ((x,.globalImplicit)::r) (none::Ap)
 | free {x:Str} {v:AV} {r:List (Str×Bi)} {Ap:Al}:G8 ns W x v->Fg ns W r Ap->Fg ns W ((x,.free)::r) (some v::Ap)
noncomputable def MC(p:Str×Bi):Str×NameKind:=if p.2== .free then(p.1,.cell) else p
noncomputable def Dv(sc:BF):Scope:={sc with names:=sc.names.map MC}
theorem Acb{env:Env}{F:Fz}(fr:Bl c sc env W F P)(h:∀x,(x,D9)∈scope.names->sc.names.lookup x=some .cell):TQ scope env=Dv scope:=by
 unfold TQ Dv;congr 1
 refine Gm λp hp=>?_;obtain⟨x,k⟩:=p;unfold MC;by_cases hk:k= .free
 ·subst hk;have e:env.kindOf x=some .cell:=by unfold Qo;exact Aa fr.Cz<|h x hp
  have e2:env.scope.kind= .function:=Aa fr.Cz<|fr.kd;simp[e,e2]
 ·have:(k==D9)=false:=by simpa using hk
  simp[this]
noncomputable def Ee(g:Str->Option Addr):List (Str×Bi)->List (Str×Addr)->List (Str×Addr)
 | [],acc=>acc
 | (x,k)::r,acc=>if k== .free then(match g x with | some a=>Ee g r ((x,a)::acc) | none=>Ee g r acc) else Ee g r acc
theorem Vd{k:Bi}{r:List (Str×Bi)}{acc:List (Str×Addr)}:Ee g ((x,k)::r) acc=if k== .free then(match g x with | some a=>Ee g r ((x,a)::acc) | none=>Ee g r acc) else Ee g r acc:=rfl
theorem bM{env:Env}(h:∀x,(x,D9)∈scope.names->∃a,env.cells.lookup x=some a):closureFor scope env=pure (Ee (λy=>env.cells.lookup y) scope.names []):=by
 unfold closureFor;have key:∀(l:List (Str×Bi))(acc:List (Str×Addr)),(∀x,(x,D9)∈l->∃a,env.cells.lookup x=some a)->
   (forIn l acc λ(p:Str×Bi)(cs:List (Str×Addr))=>(if p.2== .free then(do let a <-cellOf env p.1;pure (Io ((p.1,a)::cs))) else pure (Io cs):Sem (ForInStep (List (Str×Addr)))))=pure (Ee (λy=>env.cells.lookup y) l acc):=by
  intro l;induction l with
  | nil=>intro acc _;rfl
  | cons p r ih=>
   intro acc hl;obtain⟨x,k⟩:=p;rewrite[List.forIn_cons];refine Aa Vd ?_;by_cases hk:k= .free
   ·subst hk;obtain⟨a,ha⟩:=hl x (by simp);have:cellOf env x=pure a:=by unfold cellOf;exact Aa ha rfl
    simp only[beq_self_eq_true,if_true,this];exact Aa ha<|ih _ λy hy=>hl y (by simp[hy])
   ·have:(k==D9)=false:=by simpa using hk
    simp only[this,Fa,if_false];exact ih _ λy hy=>hl y (by simp[hy])
 exact congrArg (λt:Sem (List (Str×Addr))=>t>>=λs=>pure s) (key scope.names [] h)
theorem bN{a:Addr}{l:List (Str×Bi)}{acc:List (Str×Addr)}(h:(x,a)∈Ee g l acc):((x,D9)∈l/\g x=some a)\/(x,a)∈acc:=by
 induction l generalizing acc with
 | nil=>exact .inr h
 | cons p r ih=>
  obtain⟨y,k⟩:=p;replace h:=Vd▸h;by_cases hk:k= .free
  ·subst hk;simp only[beq_self_eq_true,if_true] at h;cases hg:g y with
   | none=>
    replace h:=hg▸h;rcases ih h with⟨h1,h2⟩|h1
    ·exact .inl ⟨by simp[h1],h2⟩
    ·exact .inr h1
   | some b=>
    replace h:=hg▸h;rcases ih h with⟨h1,h2⟩|h1
    ·exact .inl ⟨by simp[h1],h2⟩
    ·rcases Bo.mp h1 with e|h1
     ·cases e;exact .inl ⟨by simp,hg⟩
     ·exact .inr h1
  ·have:(k==D9)=false:=by simpa using hk
   simp only[this,Fa,if_false] at h;rcases ih h with⟨h1,h2⟩|h1
   ·exact .inl ⟨by simp[h1],h2⟩
   ·exact .inr h1
theorem Acd{a:Addr}(hg:g x=some a){l:List (Str×Bi)}{acc:List (Str×Addr)}(h:(x,D9)∈l\/(x,a)∈acc):(x,a)∈Ee g l acc:=by
 induction l generalizing acc with
 | nil=>exact h.resolve_left (GS)
 | cons p r ih=>
  obtain⟨y,k⟩:=p;refine Aa Vd ?_;by_cases hk:k= .free
  ·subst hk;simp only[beq_self_eq_true,if_true];rcases h with h|h
   ·rcases Bo.mp h with e|h
    ·cases e;exact Aa hg<|ih (.inr (by simp))
    ·cases g y<;>exact ih (.inl h)
   ·cases g y with
    | none=>exact ih (.inr h)
    | some b=>exact ih (.inr (by simp[h]))
  ·have:(k==D9)=false:=by simpa using hk
   simp only[this,Fa,if_false];rcases h with h|h
   ·rcases Bo.mp h with e|h
    ·cases e;exact absurd rfl hk
    ·exact ih (.inl h)
   ·exact ih (.inr h)
theorem bO{a:Addr}:(Ee g names []).lookup x=some a↔(x,D9)∈names/\g x=some a:=by
 constructor
 ·intro h;rcases bN (mem_of_lookup h) with h|h
  ·exact h
  ·cases h
 ·intro hZ;refine Ah hZ ?_;clear hZ;intro h1 h2;refine Ar (U1 (Acd h2 (acc:= []) (.inl h1))) ?_;intro b hb;rcases bN (mem_of_lookup hb) with⟨_,h3⟩|h3
  ·replace h3:=h2▸h3;replace h3:=Ay h3;subst h3;exact hb
  ·cases h3
theorem Fg.facts(h:Fg ns W names ρ0):ρ0.length=names.length/\(∀x,(x,D9)∈names->∃v,G8 ns W x v)/\
  (∀(i:Nat) x k,names[i]?=some (x,k)->k= .local\/k= .globalImplicit\/k= .free)/\
  (∀(i:Nat) x k v,names[i]?=some (x,k)->ρ0[i]?=some (some v)->k= .free/\G8 ns W x v):=by
 induction h with
 | nil=>exact⟨rfl,λx hx=>(by cases hx),λi x k h=>(by simp at h),λi x k v h=>(by simp at h)⟩
 | loc _ ih=>
  refine JO ih ?_;clear ih;intro a b d e;refine⟨by simp[a],λx hx=>?_,λi x k h=>?_,λi x k v h h2=>?_⟩
  ·rcases Bo.mp hx with q|q
   ·cases q
   ·exact b x q
  ·cases i with
   | zero=>simp at h;exact .inl h.2.symm
   | succ i=>exact d i x k (by simpa using h)
  ·cases i with
   | zero=>simp at h2
   | succ i=>exact e i x k v (by simpa using h) (by simpa using h2)
 | Rj _ ih=>
  refine JO ih ?_;clear ih;intro a b d e;refine⟨by simp[a],λx hx=>?_,λi x k h=>?_,λi x k v h h2=>?_⟩
  ·rcases Bo.mp hx with q|q
   ·cases q
   ·exact b x q
  ·cases i with
   | zero=>simp at h;exact .inr (.inl h.2.symm)
   | succ i=>exact d i x k (by simpa using h)
  ·cases i with
   | zero=>simp at h2
   | succ i=>exact e i x k v (by simpa using h) (by simpa using h2)
 | free hc _ ih=>
  refine JO ih ?_;clear ih;intro a b d e;refine⟨by simp[a],λx hx=>?_,λi x k h=>?_,λi x k v h h2=>?_⟩
  ·rcases Bo.mp hx with q|q
   ·cases q;exact⟨_,hc⟩
   ·exact b x q
  ·cases i with
   | zero=>simp at h;exact .inr (.inr h.2.symm)
   | succ i=>exact d i x k (by simpa using h)
  ·cases i with
   | zero=>simp at h h2;refine Ah h ?_;clear h;rintro rfl rfl;subst h2;exact⟨rfl,hc⟩
   | succ i=>exact e i x k v (by simpa using h) (by simpa using h2)
noncomputable def HW(c:Cx)(n:Nat)(ifs:List Expr)(sc:BF)(W:Al)(V:St)(Q:Bool->St->Prop):Prop:=match ifs with
 | []=>Q true V
 | [t]=>B0 c n t sc W V Q
 | _=>False
theorem HW.run{ifs:List Expr}{Q:Bool->St->Prop}(h:HW c n ifs sc W V Q){env:Env}{F:Fz}(fr:Bl c sc env W F P):
  Tr c n Eb (forIn ifs true λe r=>if r=true then do let ok <-Eu e env (eval e env);pure (Io ok) else pure (Io r)) F P V Q:=by
 cases ifs with
 | nil=>exact Tr.pure (Rp:=Eb) rfl h
 | cons t r=>
  cases r with
  | nil=>
   intro A s ok J;exact wpAny_tests_one (h F P env fr A s ok J)
  | cons _ _=>exact h.elim
def Ow(c:Cx)(n:Nat)(elt tg iter:Expr)(ifs:List Expr)(scope:BF)(sc:BF)(W:Al)(V:St)(Q:List AV->St->Prop):Prop:=
 EU c n iter tg sc W V (λxs Af=>xs.length<=Bc/\ ∃(ρ0:Al)(I:Nat->List AV->St->Prop),Fg sc.names W scope.names ρ0/\I 0 [] Af/\
  (∀i x ys DZ,xs[i]?=some x->I i ys DZ->Ff tg (Dv scope).names ρ0 x (λAp=>HW c n ifs (Dv scope) Ap DZ (λok Av=>
   if ok then Ax c n elt (Dv scope) Ap Av (λy By=>I (i+1) (ys++ [y]) By) else I (i+1) ys Av)))/\
  ∀ys C4,ys.length<=xs.length->I xs.length ys C4->Q ys C4)
structure K7(scope sc:BF)(tg:Expr):Prop where
 kind:scope.kind= .function
 nd:(scope.names.map (·.1)).Nodup
 free:∀x,(x,D9)∈scope.names->sc.names.lookup x=some .cell
 tg:∀y∈Rw tg,(Dv scope).names.lookup y=some .local
theorem Ve{k:Bi}(h:(Dv scope).names[i]?=some (x,k)):∃k0,scope.names[i]?=some (x,k0)/\k=(if k0== .free then .cell else k0):=by
 unfold Dv at h;simp only[Bp,D8] at h;refine Ad h ?_;clear h;intro hZ;obtain⟨y,k0⟩:=hZ;intro h1 h2;unfold MC at h2;by_cases hk:k0= .free
 ·subst hk;simp at h2;refine Ah h2 ?_;clear h2;rintro rfl rfl;exact⟨_,h1,rfl⟩
 ·have e:(k0==D9)=false:=by simpa using hk
  simp only[e,Fa,if_false] at h2;cases h2;exact⟨k,h1,by simp[e]⟩
theorem bP(scope:BF):(Dv scope).names.map (·.1)=scope.names.map (·.1):=by unfold Dv;simp only[BC];refine Gm λp Z=>?_;show(MC p).1=p.1;unfold MC;split<;>rfl
theorem Bl.less{env:Env}{F:Fz}(h:Bl c sc env W F P)(hl:Ap.length=W.length)(he:∀(i:Nat) v,Ap[i]?=some (some v)->W[i]?=some (some v)):Bl c sc env Ap F P:=
 ⟨h.Cz,h.kd,h.gl,h.bi,h.nd,hl.trans h.ln,let ⟨o,es,ep,a,b,d,e⟩:=h.ns;⟨o,es,ep,a,b,d,λi x v hx hv=>e i x v hx (he i v hv)⟩,
   λi x hx=>let ⟨ca,o,cv,a,b,d,e,f⟩:=h.cl i x hx;⟨ca,o,cv,a,b,d,e,λv hv=>f v (he i v hv)⟩,h.ci,h.ca⟩
theorem Cn.less{xs:List Str}{vs:List AV}(h:Cn names W xs vs Ap)(nd:(names.map (·.1)).Nodup)(hk:∀x∈xs,names.lookup x=some .local)(hn:∀(i:Nat) y,names[i]?=some (y,.local)->∀u,ρ0[i]?≠some (some u)):
  (∀(i:Nat) u,ρ0[i]?=some (some u)->W[i]?=some (some u))->∀(i:Nat) u,ρ0[i]?=some (some u)->Ap[i]?=some (some u):=by
 induction h with
 | nil=>exact λh=>h
 | cons h1 _ ih=>
  intro h0;refine ih (λx hx=>hk x (by simp[hx])) λi u hu=>?_;refine GX h1.at ?_;rintro j k hx rfl hj _;have:k= .local:=by have:=ID nd hx;rw[hk _ (by simp)] at this;exact(Ay this).symm
  subst this;have Bx:j≠i:=by rintro rfl;exact hn _ _ hx u hu
  exact Aa (FP Bx)<|h0 i u hu
section
variable{prog:LX}{w:A7}{A:BB}{R:NK->Aj->Prop}{s:Aj}
theorem Ace{elt target iter:Expr}{ifs:List Expr}{scope:BF}{pos:Pos}{it acc:Ac}{env:Env}(I:Nat->Aj->Prop){N:Ac->Aj->Prop}
  (hN:N=notedBy (Hw prog w) A env λe s'=>R (.error e) s')
  (turn:∀n s,I n s->Au (Hw prog w) A (Gl it) (λr Df=>match r with
   | none=>R (.ok .next) Df
   | some v=>Au (Hw prog w) A (Im target it v) (λZ s1=>Au (Hw prog w) A (Ij target env v) (λZ Ox=>
     Au (Hw prog w) A (forIn ifs true λc r=>if r=true then do let ok <-Eu c env (eval c env);pure (Io ok) else pure (Io r)) (λok JU=>
      if ok=true then Au (Hw prog w) A (eval elt env) (λx Rx=>
       Au (Hw prog w) A (call (.builtin "list.append") [acc,x]) (λZ bQ=>∃m,m<n/\I m bQ) N Rx) N JU
      else ∃m,m<n/\I m JU) N Ox) N s1) N Df) N s)
  (n:Nat) (h:I n s):Hy (Hw prog w) A (.compLoop (.ListComp elt [⟨target,iter,ifs,0⟩] scope pos) 0 it acc env) R s:=by
 subst hN;refine codeAny_loop rfl I (λn s hI=>?_) n h;show Au _ A ((compTurn (.ListComp elt [⟨target,iter,ifs,0⟩] scope pos) 0 it acc env).onRaise (λx=>do noteFrame x env;yJ x)) _ _ s;refine wpAny_noted ?_;rewrite[compTurn_list];refine Ak (Hx (Ak (AN (turn n s hI) (λr Df IL=>?_) λZ Z h'=>h')));cases r with
 | none=>exact AF IL
 | some v=>
  refine Ak (AN IL (λZ s1 h1=>Ak (AN h1 (λZ Ox h₂=>Ak (AN h₂ (λok JU Ry=>?_) λZ Z h'=>h')) λZ Z h'=>h')) λZ Z h'=>h');cases ok with
  | false=>exact AF ⟨rfl,Ry⟩
  | true=>
   exact Ak (Ak (AN Ry (λx Rx h₄=>Ak (AN h₄ (λZ bQ h₅=>AF (AF ⟨rfl,h₅⟩)) λZ Z h'=>h')) λZ Z h'=>h'))
end
section
variable{c:Cx}{A:BB}{F P F1 P1:Fz}{V Af:St}{s s2:Aj}{tg elt iter:Expr}{ifs:List Expr}{n:Nat}{sc scope:BF}{W ρ0:Al}{env:Env}{I:Addr}{wr:List Addr}{xs:List AV}{GA:Nat->Heap->Prop}{pos:Pos}
structure MD(wr:List Addr)(C D:Addr)(ce:Env)(P:Fz):Prop where
 ne:∀b∈wr,b≠C/\b≠D
 G1:∀x a,ce.cells.lookup x=some a->a∉wr/\a≠D
 hD:D≠C
 lc:ce.locals=C
 w0:∀b∈wr,P b=none
 pD:P D=none
structure EW(c:Cx)(A:BB)(sc:BF)(ce:Env)(F P:Fz)(tg:Expr)(I:Addr)(wr:List Addr)(xs:List AV)(S:Nat->Heap->Prop)(C D:Addr)(i:Nat)(F2 P2:Fz)(V:St)(W:Al)(ys:List AV)(vs:List Ac)(kk:Nat)(s:Aj):Prop where
 l:F.le F2
 o:∀a,a∉wr->a≠C->a≠D->P2 a=P a
 d:P2 D=some (AM "list" (FQ vs) kk)
 r:Ao c.w F2 vs ys
 J:Inv c F2 P2 V s
 fr:Bl c sc ce W F2 P2
 it:Gy c A F2 P2 tg I wr xs S i s
section
variable{ce:Env}{C D:Addr}{i kk:Nat}{F2 P2:Fz}{ys:List AV}{vs:List Ac}
theorem EW.move(K:MD wr C D ce P)(h:EW c A sc ce F P tg I wr xs GA C D i F2 P2 V W ys vs kk s){F3 P3:Fz}{Aq:St}(l:F2.le F3)(o:∀b,b≠C->P3 b=P2 b)(J:Inv c F3 P3 Aq s')(fr:Bl c sc ce Ap F3 P3):EW c A sc ce F P tg I wr xs GA C D i F3 P3 Aq Ap ys vs kk s':=
 ⟨h.l.trans l,λa h1 h2 h3=>(o a h2).trans (h.o a h1 h2 h3),(o D K.hD).trans h.d,h.r.mono l,J,fr,h.it.keep h.J l J λb hb=>o b (K.ne b hb).1⟩
theorem EW.item(K:MD wr C D ce P)(h:EW c A sc ce F P tg I wr xs GA C D i F2 P2 V W ys vs kk s){x:AV}(hx:xs[i]?=some x){Q:Ac->Aj->Prop}
  (q:∀v F3 P3 s',EW c A sc ce F P tg I wr xs GA C D (i+1) F3 P3 V W ys vs kk s'->Rep c.w F3 v x->Q v s'):
  Au c.M A (Gl (.ref I)) (λr s1=>∃v,r=some v/\Au c.M A (Im tg (.ref I) v) (λZ s2=>Q v s2) (λZ Z=>False) s1) (λZ Z=>False) s:=
 h.it.next h.J hx λv F3 P3 s' l w J it r=>q v F3 P3 s' ⟨h.l.trans l,λa h1 h2 h3=>(w a h1).trans (h.o a h1 h2 h3),(w D λhb=>(K.ne _ hb).2 rfl).trans h.d,h.r.mono l,J,(h.fr.mono l).Va (w _ λhb=>(K.ne _ hb).1 K.lc) (λx a Z Z e=>w a (K.G1 x a e).1),it⟩ r
theorem EW.push(K:MD wr C D ce P)(h:EW c A sc ce F P tg I wr xs GA C D i F2 P2 V W ys vs kk s){y:Ac}{b:AV}(r:Rep c.w F2 y b)(hb:FN D s.heap h')(hg:h'.get? D=some (AM "list" (vs++ [y]).toArray (kk+1))):
  EW c A sc ce F P tg I wr xs GA C D i F2 (P2.set D (AM "list" (vs++ [y]).toArray (kk+1))) V W (ys++ [b]) (vs++ [y]) (kk+1) {s with heap:=h'}:=
 have J:=h.J.Rd (t:=s.toks) h.d hb hg
 ⟨h.l,λa h1 h2 h3=>(Fz.Am h3).trans (h.o a h1 h2 h3),Fz.AC,h.r.append (.cons r .nil),J,h.fr.Va (Fz.Am (K.lc▸K.hD.symm)) (λx a Z Z e=>Fz.Am (K.G1 x a e).2),h.it.keep h.J .refl J λb hb=>Fz.Am (K.ne b hb).2⟩
theorem EW.turn(K:MD wr C D ce P)(h:EW c A sc ce F P tg I wr xs GA C D i F2 P2 V W ys vs kk s)(ok:Ok n A)(ht:∀y∈Rw tg,sc.names.lookup y=some .local)(hl:∀(i:Nat) y,sc.names[i]?=some (y,.local)->∀u,W[i]?≠some (some u)){x:AV}(hx:xs[i]?=some x)(hz:ys.length<=Bc)
  {Iv:List AV->St->Prop} (t:Ff tg sc.names W x λAp=>HW c n ifs sc Ap V λok Av=>if ok then Ax c n elt sc Ap Av (λy By=>Iv (ys++ [y]) By) else Iv ys Av) {X Z:Aj->Prop} {E:Ac->Aj->Prop}
  (q:∀F6 P6 EV Oy Vf Vg s6,EW c A sc ce F P tg I wr xs GA C D (i+1) F6 P6 EV W Oy Vf Vg s6->Oy.length<=ys.length+1->Iv Oy EV->X s6):
  Au c.M A (Gl (.ref I)) (λr s1=>match r with
   | none=>Z s1
   | some v=>Au c.M A (Im tg (.ref I) v) (λ_ s2=>Au c.M A (Ij tg ce v) (λ_ s3=>
     Au c.M A (forIn ifs true λc r=>if r=true then do let ok <-Eu c ce (eval c ce);pure (Io ok) else pure (Io r)) (λok s4=>
      if ok=true then Au c.M A (eval elt ce) (λx s5=>Au c.M A (call (.builtin "list.append") [.ref D,x]) (λ_ s6=>X s6) E s5) E s4 else X s4) E s3) E s2) E s1) E s:=by
 have ex:∀{α:Type}{m:Sem α}{Q:α->Aj->Prop}{s:Aj},Au c.M A m Q (λ_ _=>False) s->Au c.M A m Q E s:=λh=>AN h (λ_ _ h=>h) λ_ _ x=>x.elim;refine AN (h.item K hx (Q:=λv s'=>Au c.M A (Ij tg ce v) (λ_ s3=>
     Au c.M A (forIn ifs true λc r=>if r=true then do let ok <-Eu c ce (eval c ce);pure (Io ok) else pure (Io r)) (λok s4=>
      if ok=true then Au c.M A (eval elt ce) (λx s5=>Au c.M A (call (.builtin "list.append") [.ref D,x]) (λ_ s6=>X s6) E s5) E s4 else X s4) E s3) E s') λv F3 P3 s' S3 r3=>ex (t.runL ht S3.fr ok S3.J r3 λAp P5 s5 h5 o5 J5 K8 h6=>?_)) (λr s1 h=>h.elim λv h=>by exact Aa (h.1)<|ex h.2) λ_ _ x=>x.elim
 refine Br h6 ?_;clear h6;intro zs us st5 lc5;have S5:=S3.move K .refl (λb hb=>o5 b (K.lc▸hb)) J5 K8;have le5:=st5.less S3.fr.nd lc5 hl λ_ _ h=>h;have ln5:W.length=Ap.length:=S3.fr.ln.trans K8.ln.symm;refine ex (AN (h5.run K8 A s5 ok J5) (λbR s6 h6=>?_) λ_ _ x=>x);obtain⟨F6,EV,b,l6,J6,e6,q6⟩:=h6;have e6:bR=b:=e6;subst e6;have S6:=S5.move K l6 (λ_ _=>rfl) J6 ((K8.mono l6).less ln5 le5);cases bR with
 | false=>exact q _ _ _ _ _ _ _ S6 (L4 _) q6
 | true=>
  refine ex (AN (q6 F6 P5 ce (K8.mono l6) A s6 ok J6) (λy s7 h7=>?_) λ_ _ x=>x);obtain⟨F7,σ7,b,l7,J7,r7,q7⟩:=h7;have S7:=S6.move K l7 (λ_ _=>rfl) J7 (S6.fr.mono l7);refine ex (append_at (J7.hp _ _ S7.d) (λh' K9 hg=>?_) (by exact Aa DB<|Aa S7.r.length<|hz));rewrite[yV] at hg;exact q _ _ _ _ _ _ _ (S7.push K r7 K9 hg) (by exact Aa AY<|BJ _) q7
theorem EW.leave(K:MD wr C D ce P)(h:EW c A sc ce F P tg I wr xs GA C D i F2 P2 V W ys vs kk s){h':Heap}{tk:Nat}(hk:∀b o,b∉wr->s.heap.get? b=some o->h'.get? b=some o){G:Prop}
  (q:∀P9,Inv c F2 P9 V {s with heap:=h',toks:=tk}->h'.get? D=some (AM "list" (FQ vs) kk)->F2 D=none->P9 D=none->V D=none->(∀a,a≠C->P9 a=P a)->(∃o,P9 C=some o)->(∃m,h'.Ns C m)->G):G:=by
 have p9:∀{b},b≠D->b∉wr->(if b=D\/b∈wr then none else P2 b)=P2 b:=λh1 h2=>if_neg λh=>h.elim h1 h2;have hCw:C∉wr:=λhb=>(K.ne _ hb).1 rfl;have J9:Inv c F2 (λb=>if b=D\/b∈wr then none else P2 b) V {s with heap:=h',toks:=tk}:=h.J.U8 hk h.it.pr λb o e=>by
  by_cases hb:b=D\/b∈wr
  ·exact AA ((if_pos hb).symm.trans e)
  ·exact⟨λhw=>hb (.inr hw),(if_neg hb).symm.trans e⟩
 obtain⟨oc,ec,pc,q1,q2,q3,_⟩:=h.fr.ns;have q1:=(p9 (Ne.symm K.hD) hCw).trans (K.lc▸q1);refine q _ J9 (hk _ _ (λhb=>(K.ne _ hb).2 rfl) (h.J.hp _ _ h.d)) ?_ (if_pos (.inl rfl)) ?_ (λa ha=>?_) ⟨_,q1⟩ ⟨Qm ec,oc,ec,pc,J9.hp _ _ q1,q2,q3,λZ=>rfl⟩
 ·cases e:F2 D with
  | none=>rfl
  | some o=>exact AA ((h.J.fp _ _ e).symm.trans h.d)
 ·cases e:V D with
  | none=>rfl
  | some o=>exact AA ((h.J.sf _ _ e).2.symm.trans h.d)
 ·by_cases hw:a∈wr
  ·exact(if_pos (.inr hw)).trans (K.w0 a hw).symm
  ·by_cases hd:a=D
   ·exact(if_pos (.inl hd)).trans (hd▸K.pD.symm)
   ·exact(p9 hd hw).trans (h.o a hw ha hd)
end
theorem Acf{cl:List (Str×Addr)}{C:Addr}{P2:Fz}{o:Obj}{es:Array Ck}{ep:Nat}(hS:K7 scope sc tg)(fr:Bl c sc env W F P)(hrel:TQ scope env=Dv scope)(hc:Fg sc.names W scope.names ρ0)
  (FB:∀{x a},cl.lookup x=some a->env.cells.lookup x=some a) (hcl2:∀{x a},(x,D9)∈scope.names->env.cells.lookup x=some a->cl.lookup x=some a) (hci:∀{x a},cl.lookup x=some a->∃i:Nat,(Dv scope).names[i]?=some (x,.cell))
  (e1:P2 C=some o) (e2:o.data= .dict es ep) (e3:StrKeys es) (hp:∀a o,P a=some o->P2 a=some o/\a≠C):Bl c (Dv scope) (QG scope cl C env) ρ0 F P2:=by
 refine JO hc.facts ?_;intro cf1 cf2 cf3 bS;refine⟨hrel,hS.kind,fr.gl,fr.bi,Aa (bP _)<|hS.nd,by unfold Dv;exact Aa (Ai _)<|cf1,⟨o,es,ep,e1,e2,e3,λi x v hx hv=>?_⟩,λi x hx=>?_,λx y a h1 h2=>fr.ci x y a (FB h1) (FB h2),λx a h=>.inl (hci h)⟩
 ·refine Ad (Ve hx) ?_;clear hx;intro k0 h1 h2;have h3:=(bS i x k0 v h1 hv).1;subst h3;exfalso;injection h2
 ·refine Ad (Ve hx) ?_;clear hx;intro k0 h1 h2;have Vh:k0= .free:=by
   rcases cf3 i x k0 h1 with h|h|h
   ·subst h;exfalso;injection h2
   ·subst h;exfalso;injection h2
   ·exact h
  subst Vh;refine Ar (cf2 x (A8 h1)) ?_;intro v0 La;refine Ad La.at ?_;intro j bU hj2;obtain⟨ca,o,cv,e1,e2,e3,e4,e5⟩:=fr.cl j x bU;refine⟨ca,o,cv,hcl2 (A8 h1) e1,(hp _ _ e2).1,e3,(hp _ _ e2).2,λv hv=>?_⟩;refine Ad ((bS i x .free v h1 hv).2.at) ?_;intro j2 Fh G9;replace G9:=Eq.symm (Oc fr.nd bU Fh)▸G9;exact e5 v G9
theorem bV(hS:K7 scope sc tg)(fr:Bl c sc env W F P)(l1:F.le F1)(w0:∀b∈wr,P b=none)(w1:Ov wr P P1)(J:Inv c F1 P1 Af s2)(it:Gy c A F1 P1 tg I wr xs GA 0 s2)(ok:Ok n A)(hz:xs.length<=Bc)
  (hc:Fg sc.names W scope.names ρ0) {Iv:Nat->List AV->St->Prop} (i0:Iv 0 [] Af)
  (turn:∀i x ys DZ,xs[i]?=some x->Iv i ys DZ->Ff tg (Dv scope).names ρ0 x (λAp=>HW c n ifs (Dv scope) Ap DZ (λok Av=>
   if ok then Ax c n elt (Dv scope) Ap Av (λy By=>Iv (i+1) (ys++ [y]) By) else Iv (i+1) ys Av)))
  {RR:Ac->Addr->NK->Aj->Prop}
  (hRR:∀D C F2 P2 Av s' ys vs k m,F1.le F2->Inv c F2 P2 Av s'->s'.heap.get? D=some (AM "list" (FQ vs) k)->F2 D=none->P2 D=none->Av D=none->Ao c.w F2 vs ys->(∀a,a≠C->P2 a=P a)->(∃o,P2 C=some o)->P C=none->s'.heap.Ns C m->ys.length<=xs.length->Iv xs.length ys Av->RR (.ref D) C (.ok .next) s'):
  Au c.M A (Tz []) (λacc JU=>Au c.M A (newFunctionEnv scope env.globals (Ee (λy=>env.cells.lookup y) scope.names []) [] env.qual none .none (some env)) (λbW Rx=>
   Hy c.M A (.compStart (.ListComp elt [⟨tg,iter,ifs,0⟩] scope pos) 0 (.ref I) acc {bW with scope:=TQ scope env}) (RR acc bW.locals) Rx) (λZ Z=>False) JU) (λZ Z=>False) s2:=by
 have cf:=hc.facts;refine Jw (wpAny_newFunctionEnv (λx hx hk=>?_) (λx hx=>by cases hx) (λIL Rz Oz=>?_) hS.kind)
 ·refine Ar (Fs.mp hx) ?_;clear hx;intro j hj;obtain⟨y,k⟩:=x;have hk:k= .cell:=hk;subst hk;rcases cf.2.2.1 j y _ hj with h|h|h<;>(exfalso;injection h)
 dsimp only at Rz Oz⊢;generalize RA:s2.heap.push {cls:= .type "list",dict:=none,data:= .seq ([]:List Ac).toArray}=H2 at Rz Oz⊢;have Vi:H2.objs.size=s2.heap.objs.size+1:=by refine AS RA ?_;exact Aa (zF _ _) rfl
 have kH:∀b o,s2.heap.get? b=some o->H2.get? b=some o:=λb o e=>RA▸Di _ e;have oD:H2.get? s2.heap.objs.size=some (AM "list" ([]:List Ac).toArray 0):=RA▸Ct _ rfl;clear RA;generalize H2.objs.size=C at*;generalize Vj:s2.heap.objs.size=D at*;have hD:D≠C:=Aa Vi<|Dh (Yd _);have nD:s2.heap.get? D=none:=by refine AS Vj ?_;exact X8 (BJ _)
 have nC:s2.heap.get? C=none:=by refine Aa Vi ?_;refine AS Vj ?_;exact X8 (L4 _)
 clear Vj Vi;have old:∀b o,s2.heap.get? b=some o->IL.get? b=some o:=λb o e=>
  Oz.extBut b o (λq=>AA (nC.symm.trans (q▸e))) (Di _ (kH _ _ e))
 have Vk:IL.get? D=some (AM "list" ([]:List Ac).toArray 0):=Oz.extBut _ _ hD (Di _ oD);refine GY (id Rz) ?_;intro oC esC epC Vl dC kC mC;clear Rz Oz oD kH;have Vm:∀b o,P1 b=some o->b≠C/\b≠D:=λb o e=>⟨λq=>AA (nC.symm.trans (q▸J.hp _ _ e)),λq=>AA (nD.symm.trans (q▸J.hp _ _ e))⟩;have m2:∀{b:Addr},b∈[C,D]->b=C\/b=D:=λh=>(Bo.mp h).imp_right B3.mp;have ME:∀b∈wr,b≠C/\b≠D:=λb hb=>(it.pr b hb).elim λo e=>Vm b o e;refine Fd (J.guards (wr:= [C,D]) (h':=IL) (tk:=s2.toks+([]:List (Str×Ac)).length) old (λb hb=>(m2 hb).elim (λe=>e▸nC) λe=>e▸nD) λb hb=>(m2 hb).elim (λe=>e▸⟨_,Vl⟩) λe=>e▸⟨_,Vk⟩) ?_;intro P2 b1 b2 b3 J2;have at2:∀{b o},b∈[C,D]->IL.get? b=some o->P2 b=some o:=λhb e=>(b3 _ hb).elim λo' e'=>(J2.hp _ _ e').symm.trans e▸e';have bX:=at2 (.head _) Vl;have bY:=at2 (.tail _ (.head _)) Vk;have p1:∀b,b∉wr->P1 b=P b:=w1;have pN:∀b,b∈[C,D]->P b=none:=λb hb=>(p1 b λhw=>(m2 hb).elim (ME _ hw).1 (ME _ hw).2)▸b2 b hb;have K5:∀{b},b≠C->b≠D->P2 b=P1 b:=λh1 h2=>b1 _ λhb=>(m2 hb).elim h1 h2;have PP:∀a o,P a=some o->a∉wr/\P2 a=some o/\a≠C/\a≠D:=λa o e=>by
  have hw:a∉wr:=λhb=>AA ((w0 _ hb).symm.trans e);have e1:=(p1 a hw).trans e;have ne:=Vm _ _ e1;exact⟨hw,(K5 ne.1 ne.2).trans e1,ne⟩
 have FB:∀{x a},(Ee (λy=>env.cells.lookup y) scope.names []).lookup x=some a->(x,D9)∈scope.names/\env.cells.lookup x=some a:=bO.mp;have C3:=Acf (cl:=Ee (λy=>env.cells.lookup y) scope.names []) (C:=C) (P2:=P2) hS (fr.mono l1) (Acb fr hS.free) hc (λe=>(FB e).2) (λh1 h2=>bO.mpr ⟨h1,h2⟩) (λe=>by
  refine Ar (Fs.mp (FB e).1) ?_;intro i hi;exact⟨i,by unfold Dv;exact Aa Bp<|Aa hi rfl⟩) bX dC kC λa o e=>⟨(PP a o e).2.1,(PP a o e).2.2.1⟩
 have K:MD wr C D (QG scope (Ee (λy=>env.cells.lookup y) scope.names []) C env) P:=⟨ME,λx a e=>(fr.ca x a (FB e).2).elim (λh=>h.elim λjj hjj=>by
   obtain⟨ca',o',cv',Lb,MF,_⟩:=fr.cl jj x hjj;cases ((FB e).2.symm.trans Lb);exact⟨(PP _ _ MF).1,(PP _ _ MF).2.2.2⟩) λh=>h.elim λo ho=>⟨λhb=>(it.pr a hb).elim λo2 e2=>AA ((J.fp _ _ (l1 _ _ ho)).symm.trans e2),λq=>AA (nD.symm.trans (q▸J.hf _ _ (l1 _ _ ho)))⟩,hD,rfl,w0,pN D (.tail _ (.head _))⟩
 have Vn:=it.keep J .refl J2 λb hb=>K5 (ME b hb).1 (ME b hb).2;have S0:EW c A (Dv scope) (QG scope (Ee (λy=>env.cells.lookup y) scope.names []) C env) F1 P tg I wr xs GA C D 0 F1 P2 Af ρ0 [] [] 0 {s2 with heap:=IL,toks:=s2.toks+([]:List (Str×Ac)).length}:=
  ⟨.refl,λa h1 h2 h3=>(K5 h2 h3).trans (p1 a h1),bY,.nil,J2,C3,Vn⟩
 have Vo:∀(i:Nat) y,(Dv scope).names[i]?=some (y,.local)->∀u,ρ0[i]?≠some (some u):=λi y hi u hu=>by
  refine Ad (Ve hi) ?_;clear hi;intro k0 h1 h2;have h3:=(cf.2.2.2 i y k0 u h1 hu).1;subst h3;exfalso;injection h2
 have PC:=pN C (.head _);clear PP pN K5 p1 at2 b1 b2 b3 C3 J2 Vl Vk old nC nD Vm m2 bX bY FB ME dC kC mC cf;generalize (Ee (λy=>env.cells.lookup y) scope.names [])=cl at*;generalize {s2 with heap:=IL,toks:=s2.toks+([]:List (Str×Ac)).length}=s3 at*;have loop:Hy c.M A (.compLoop (.ListComp elt [⟨tg,iter,ifs,0⟩] scope pos) 0 (.ref I) (.ref D) (QG scope cl C env)) (RR (.ref D) C) s3:=by
  refine Ace (λk s=>∃i F2 P2 Av ys vs kk,k=xs.length-i/\i<=xs.length/\EW c A (Dv scope) (QG scope cl C env) F1 P tg I wr xs GA C D i F2 P2 Av ρ0 ys vs kk s/\ys.length<=i/\Iv i ys Av) rfl (λk s hk=>?_) xs.length ⟨0,F1,P2,Af,[],[],0,rfl,Cq _,S0,BJ _,i0⟩;refine e7_5 hk ?_;clear hk;rintro i F3 P3 By ys vs kk rfl hi S hy hI;rcases zO hi with AH|rfl
  ·have hx:=BG AH;exact S.turn K ok hS.tg Vo hx (AP (AP hy hi) hz) (turn i _ ys By hx hI) λF6 P6 EV Oy Vf Vg s6 S6 l6 q6=>⟨_,TP _ _ AH,i+1,F6,P6,EV,Oy,Vf,Vg,rfl,AH,S6,AP l6 (Tu hy),q6⟩
  ·exact AN (S.it.stop S.J (Q:=λr s'=>r=none/\RR (.ref D) C (.ok .next) s') λh' tk hk=>⟨rfl,S.leave K hk λP9 J9 hD9 fD pD sD hP hC hm=>hm.elim λm hm=>hRR D C _ P9 By _ ys vs kk m S.l J9 hD9 fD pD sD S.r hP hC PC hm hy hI⟩) (λr s' h=>by exact Aa (h.1)<|h.2) λZ Z x=>x.elim
 refine Ad Vn.wk ?_;intro F0 l0 wk;exact codeAny_compStart_list loop (AN (wk.self 0 _ _ Vn.st loop) (λZ Z h=>h) λZ Z x=>x.elim)
theorem bZ{F P2:Fz}(J:Inv c F P2 V s')(h:∀a,a≠C->P2 a=P a)(hC:∃o,P2 C=some o)(h0:P C=none)(sb:FN C s'.heap h'):Inv c F P V {s' with heap:=h'}:=by
 refine J.U8 (wr:= [C]) (tk:=s'.toks) (λb o hb e=>(sb.2 b (by simpa using hb)).trans e) (λb hb=>by simp at hb;subst hb;exact hC) λb o e=>?_;have hb:b≠C:=λq=>by replace e:=q▸e;replace e:=h0▸e;exact AA e
 exact⟨by simpa using hb,Aa (h b hb)<|e⟩
theorem Ax.cA{Q:AV->St->Prop}(hS:K7 scope sc tg){R:List AV->St->Prop}(h:Ow c n elt tg iter ifs scope sc W V R)
  (fin:∀F P Af s ys vs k D,Inv c F P Af s->s.heap.get? D=some (AM "list" (FQ vs) k)->F D=none->P D=none->Af D=none->Ao c.w F vs ys->R ys Af->JP c c.AlW F P Q (.ref D) s)
  (hs:∀env x,KF iter env x=pure x):
  Ax c n (.ListComp elt [⟨tg,iter,ifs,0⟩] scope pos) sc W V Q:=by
 intro F P env fr A s ok J;rewrite[eval_ListComp];have MG:∀x,(x,D9)∈scope.names->∃a,env.cells.lookup x=some a:=λx hx=>by
  have hk:=hS.free x hx;refine Ar (Fs.mp (mem_of_lookup hk)) ?_;intro i hi;obtain⟨ca,_,_,e,_⟩:=fr.cl i x hi;exact⟨ca,e⟩
 refine zP (use:=none) rfl (hs env) (bM MG) hS.kind (λx hx hl=>?_) (AN (h F P env A s fr ok J) (λv s1 h1=>AN h1 (λit s2 h2=>?_) λZ Z x=>x) λZ Z x=>x)
 ·refine Ar (Fs.mp hx) ?_;clear hx;intro i hi;obtain⟨y,k⟩:=x;exact(ID hS.nd hi).trans (congrArg some hl)
 ·obtain⟨F1,P1,Af,I,wr,xs,St,rfl,l1,w0,w1,J1,MB,hz,ρ0,Iv,Vp,i0,turn,done⟩:=h2;refine bV (RR:=λacc C=>compPost c.M A (λZ Z=>False) none _ acc C) hS fr l1 w0 w1 J1 MB ok hz Vp i0 turn λD C F2 P2 Av s' ys vs k m l2 J2 hD fD pD sD r hP hC h0 hn hy hI=>?_;have cB:D≠C:=λe=>by refine Ar hC ?_;clear hC;intro o ho;replace ho:=Eq.symm e▸ho;replace ho:=pD▸ho;exact AA ho
  refine⟨m,hn,λh' sb=>?_⟩;obtain⟨F3,By,b,l3,J3,r3,q3⟩:=fin F2 P Av _ ys vs k D (bZ J2 hP hC h0 sb) ((sb.2 D cB).trans hD) fD ((hP D cB).symm.trans pD) sD r (done _ _ hy hI);exact⟨F3,By,b,(l1.trans l2).trans l3,J3,r3,q3⟩
theorem Ax.comp{Q:AV->St->Prop}(hS:K7 scope sc tg)(h:Ow c n elt tg iter ifs scope sc W V (λys Aq=>Q (.lst ys) Aq))(hs:∀env x,KF iter env x=pure x):
  Ax c n (.ListComp elt [⟨tg,iter,ifs,0⟩] scope pos) sc W V Q:=
 Ax.cA hS h (λF P Af s ys vs k D J hD f p sD r q=>⟨_,Af,_,Fz.Dt f,J.freeze hD f p sD,.lst Fz.AC (Ao.mono (Fz.Dt f) r),q⟩) hs
theorem Ax.Acg{Q:AV->St->Prop}(hS:K7 scope sc tg)(h:Ow c n elt tg iter ifs scope sc W V (λys Aq=>∀d,Aq d=none->Q (.ref d) (Aq.set d (.list ys))))(hs:∀env x,KF iter env x=pure x):
  Ax c n (.ListComp elt [⟨tg,iter,ifs,0⟩] scope pos) sc W V Q:=
 Ax.cA hS h (λF P Af s ys vs k D J hD f p sD r q=>⟨F,_,_,.refl,J.own hD f p (.list r),.ref _,q D sD⟩) hs
theorem BK.Ach{x:Str}{px:Pos}{cC:Pos}{Q:Fl->Al->St->Prop}(hS:K7 scope sc tg)(hx:sc.names.lookup x=some .local)
  (h:Ow c n elt tg iter ifs scope sc W V (λys Aq=>∃Ap,DV sc.names W x (.lst ys) Ap/\Q .next Ap Aq)) (hs:∀env x,KF iter env x=pure x)
  (hsw:∀env,env.scope=sc->Jx (.ListComp elt [⟨tg,iter,ifs,0⟩] scope pos) (some (.Name x px)) cC.line env=pure true:=by(rintro⟨⟩ rfl;rfl)):
  BK c n (.Assign [.Name x px] (.ListComp elt [⟨tg,iter,ifs,0⟩] scope pos) cC) sc W V Q:=by
 intro F P env A s fr ok J;refine Aa (exec_Assign_Name_used _ _ _ _ (hsw env fr.Cz)) ?_;refine Ak (Hx (Ak ?_));have MG:∀x,(x,D9)∈scope.names->∃a,env.cells.lookup x=some a:=λx hx=>by
  have hk:=hS.free x hx;refine Ar (Fs.mp (mem_of_lookup hk)) ?_;intro i hi;obtain⟨ca,_,_,e,_⟩:=fr.cl i x hi;exact⟨ca,e⟩
 refine Ak (AN (zP (use:=some (Ij (.Name x px) env)) (Q:=λZ s'=>Out c sc env F P Q .next s') rfl (hs env) (bM MG) hS.kind (λx hx hl=>?_)
  (AN (h F P env A s fr ok J) (λv s1 h1=>AN h1 (λit s2 h2=>?_) λZ Z x=>x) λZ Z x=>x)) (λZ s' hq=>AF (AF hq)) λZ Z e=>e)
 ·refine Ar (Fs.mp hx) ?_;clear hx;intro i hi;obtain⟨y,k⟩:=x;exact(ID hS.nd hi).trans (congrArg some hl)
 ·obtain⟨F1,P1,Af,I,wr,xs,St,rfl,l1,w0,w1,J1,MB,hz,ρ0,Iv,Vp,i0,turn,done⟩:=h2;refine bV (RR:=λacc C=>compPost c.M A (λZ Z=>False) (some (Ij (.Name x px) env)) (λZ s'=>Out c sc env F P Q .next s') acc C) hS fr l1 w0 w1 J1 MB ok hz Vp i0 turn λD C F20 P2 Av s' ys vs kD m l20 J20 hD fD pD sD r0 hP hC h0 hn hy hI=>?_;have lD:=Fz.Dt (o:=AM "list" (FQ vs) kD) fD;obtain⟨F2,Vq⟩:∃F2,F2=F20.set D (AM "list" (FQ vs) kD):=⟨_,rfl⟩;have J2:Inv c F2 P2 Av s':=Vq▸J20.freeze hD fD pD sD;have l2:F1.le F2:=Vq▸l20.trans lD;have r:Rep c.w F2 (.ref D) (.lst ys):=Vq▸Rep.lst Fz.AC (Ao.mono lD r0);refine Ad (done _ _ hy hI) ?_;intro Ap st q;have C3:Bl c sc env W F2 P2:=by
   have f:=fr.mono (l1.trans l2);have ne:∀b o,P b=some o->b≠C:=λb o e q=>by replace e:=q▸e;replace e:=h0▸e;exact AA e
   refine⟨f.Cz,f.kd,f.gl,f.bi,f.nd,f.ln,?_,λi x hx=>?_,f.ci,f.ca⟩
   ·obtain⟨o,es,ep,e,r1,r2,r3⟩:=f.ns;exact⟨o,es,ep,(hP _ (ne _ _ e)).trans e,r1,r2,r3⟩
   ·obtain⟨ca,o,cv,e1,e2,r1,r2,r3⟩:=f.cl i x hx;exact⟨ca,o,cv,e1,(hP _ (ne _ _ e2)).trans e2,r1,r2,r3⟩
  refine Yb (Vc C3 r st hx J2 λP3 s3 o3 J3 HX=>?_);have cD:C≠env.locals:=λq=>by
   obtain⟨o,es,ep,e,_⟩:=fr.ns;replace e:=Eq.symm q▸e;replace e:=h0▸e;exact AA e
  refine Ar hC ?_;clear hC;intro oc cF;have cG:P3 C=some oc:=(o3 C cD).trans cF;refine⟨m,?_,λh' sb=>?_⟩
  ·refine GY hn ?_;clear hn;intro o es ep a1 a2 a3 a4;have:=J2.hp _ _ cF;replace this:=a1▸this;replace this:=Ay this;subst this;exact⟨_,es,ep,J3.hp _ _ cG,a2,a3,a4⟩
  ·let P4:Fz:=λa=>if a=C then none else P3 a
   have RB:∀{a},a≠C->P4 a=P3 a:=λha=>by show(if _ then _ else _)=_;exact Aa (if_neg ha) rfl
   have J4:Inv c F2 P4 Av {s3 with heap:=h'}:=bZ J3 (λa ha=>(RB ha).symm) ⟨_,cG⟩ (by show(if _ then _ else _)=_;exact Aa (if_pos rfl) rfl) sb;refine⟨F2,P4,Av,Ap,.next,l1.trans l2,λa h1 h2=>?_,J4,?_,.next,q⟩
   ·by_cases ha:a=C
    ·subst ha;show(if _ then _ else _)=_;exact Aa (if_pos rfl)<|Aa h0 rfl
    ·exact Aa (RB ha)<|Aa (o3 a h1)<|Aa (hP a ha) rfl
   ·refine⟨HX.Cz,HX.kd,HX.gl,HX.bi,HX.nd,HX.ln,?_,λi y hy=>?_,HX.ci,HX.ca⟩
    ·obtain⟨o,es,ep,e,r1,r2,r3⟩:=HX.ns;exact⟨o,es,ep,(RB (Ne.symm cD)).trans e,r1,r2,r3⟩
    ·obtain⟨ca,o,cv,e1,e2,r1,r2,r3⟩:=HX.cl i y hy;refine⟨ca,o,cv,e1,(RB λq=>?_).trans e2,r1,r2,r3⟩;subst q;obtain⟨ca',o',cv',Lb,MF,_⟩:=fr.cl i y hy;replace Lb:=e1▸Lb;replace Lb:=Ay Lb;subst Lb;replace MF:=h0▸MF;exact AA MF
end
inductive IM(V τ:St):BD->BD->Prop
 | list {xs ys:List AV}:EB V τ xs ys->IM V τ (.list xs) (.list ys)
 | dict {ks vs us:List AV}:EB V τ vs us->IM V τ (.dict ks vs) (.dict ks us)
 | Dm {ns:List Str} {vs us:List AV}:EB V τ vs us->IM V τ (.Dm ns vs) (.Dm ns us)
 | sset (ks:List Str):IM V τ (.sset ks) (.sset ks)
theorem IM.same{τ:St}:∀ob,IM V τ ob ob
 | .list xs=>.list (.same xs)
 | .dict ks vs=>.dict (.same vs)
 | .Dm ns vs=>.Dm (.same vs)
 | .sset ks=>.sset ks
inductive DH(V τ:St):Al->Al->Prop
 | nil:DH V τ [] []
 | forget {o:Option AV} {r r':Al}:DH V τ r r'->DH V τ (o::r) (none::r')
 | cons {x y:AV} {r r':Al}:Reify V τ x y->DH V τ r r'->DH V τ (some x::r) (some y::r')
theorem DH.same{τ:St}:∀W,DH V τ W W
 | []=>.nil
 | none::r=>.forget (DH.same r)
 | some x::r=>.cons (.same x) (DH.same r)
theorem DH.at{τ:St}(h:DH V τ W Ap):Ap.length=W.length/\ ∀(i:Nat) y,Ap[i]?=some (some y)->∃x,W[i]?=some (some x)/\Reify V τ x y:=by
 induction h with
 | nil=>exact⟨rfl,λi y h=>by simp at h⟩
 | forget _ ih=>
  refine⟨by simp[ih.1],λi y h=>?_⟩;cases i with
  | zero=>simp at h
  | succ i=>exact ih.2 i y (by simpa using h)
 | cons hx _ ih=>
  refine⟨by simp[ih.1],λi y h=>?_⟩;cases i with
  | zero=>simp at h;subst h;exact⟨_,rfl,hx⟩
  | succ i=>exact ih.2 i y (by simpa using h)
section
variable{c:Cx}{n:Nat}{sc:BF}{W Ap:Al}{V τ:St}
theorem Inv.Aci{F:Fz}{s:Aj}(I:Inv c F P V s)(h:∀a GC,τ a=some GC->∃ob,V a=some ob/\IM V τ ob GC):Inv c (F.frozen V τ s.heap) P τ s:=by
 refine⟨λa o e=>?_,I.hp,λa ob e=>?_,λa o e=>?_,λa ob e=>?_,λa o e=>Fz.Fy _ _ (I.base _ _ e),I.gens,I.os⟩
 ·unfold Fz.frozen at e;split at e
  ·exact I.hf _ _ e
  ·split at e
   ·exact e
   ·exact AA e
 ·refine Ad (h a ob e) ?_;intro cH h0 r0;refine Ad (I.hs a cH h0) ?_;intro o ho r;refine⟨o,ho,?_⟩;cases r0 with
  | list q=>obtain⟨_,_,rfl,r⟩:=r;exact .list (q.rep I r)
  | dict q=>obtain⟨_,_,rfl,k,r1,r2⟩:=r;exact .dict k (r1.mono Fz.Fy) (q.rep I r2)
  | Dm q=>obtain⟨_,_,rfl,a,b,r⟩:=r;exact .Dm a b (q.rep I r)
  | sset ks=>exact r.mono Fz.Fy
 ·unfold Fz.frozen at e;split at e
  ·exact I.fp _ _ e
  ·split at e
   ·rename_i h';cases hs:V a with
    | none=>replace h':=hs▸h';exact absurd h'.1 (by decide)
    | some ob=>exact(I.sf _ _ hs).2
   ·exact AA e
 ·refine Ad (h a ob e) ?_;intro cH h0 _;refine⟨?_,(I.sf _ _ h0).2⟩;unfold Fz.frozen;rw[if_neg (by refine Aa ((I.sf _ _ h0).1) ?_;decide),if_neg (by refine Aa e ?_;simp)]
theorem Bl.reify{F:Fz}{s:Aj}{env:Env}(fr:Bl c sc env W F P)(I:Inv c F P V s)(h:DH V τ W Ap):Bl c sc env Ap (F.frozen V τ s.heap) P:=by
 refine Ah h.at ?_;intro hl hr;refine⟨fr.Cz,fr.kd,fr.gl,fr.bi,fr.nd,hl.trans fr.ln,?_,λi x hx=>?_,fr.ci,λx a e=>(fr.ca x a e).imp_right λ⟨o,e⟩=>⟨o,Fz.Fy _ _ e⟩⟩
 ·obtain⟨o,es,ep,a,b,d,e⟩:=fr.ns;refine⟨o,es,ep,a,b,d,λi x v hx hv=>?_⟩;refine Ad (hr i v hv) ?_;intro v0 h0 r0;refine Ad (e i x v0 hx h0) ?_;intro u hu ru;exact⟨u,hu,r0.rep I ru⟩
 ·obtain⟨ca,o,cv,e1,e2,e3,e4,e5⟩:=fr.cl i x hx;refine⟨ca,o,cv,e1,e2,e3,e4,λv hv=>?_⟩;refine Ad (hr i v hv) ?_;intro v0 h0 r0;refine Ad (e5 v0 h0) ?_;intro u hu ru;exact⟨u,hu,r0.rep I ru⟩
theorem BE.freeze{Ag:List Stmt}{Q:Fl->Al->St->Prop}(h:∀a GC,τ a=some GC->∃ob,V a=some ob/\IM V τ ob GC)(hr:DH V τ W Ap)(k:BE c n Ag sc Ap τ Q):BE c n Ag sc W V Q:=by intro F P env A s fr ok I;exact AN (k _ P env A s (fr.reify I hr) ok (I.Aci h)) (λfl s' o=>o.mono Fz.Fy .refl) λZ Z x=>x
noncomputable def ED(c:Cx)(n:Nat)(x:Option Expr)(sc:BF)(W:Al)(V:St)(Q:Option Int->St->Prop):Prop:=match x with
 | none=>Q none V
 | some e=>Ax c n e sc W V (λa Af=>∃i,a= .int i/\Q (some i) Af)
theorem ED.run{x:Option Expr}{Q:Option Int->St->Prop}(h:ED c n x sc W V Q){F:Fz}{env:Env}{s:Aj}(fr:Bl c sc env W F P)(ok:Ok n A)(I:Inv c F P V s):
  Au c.M A (evalPart x env) (JP c (λZ=>IsPart) F P Q) (λZ Z=>False) s:=by
 cases x with
 | none=>exact AF ⟨F,V,none,.refl,I,.none,h⟩
 | some e=>
  refine AN (h F P env fr A s ok I) (λv s' hQ=>?_) λZ Z x=>x;obtain⟨F',Aq,a,l,I',r,i,e,q⟩:=hQ;subst e;refine Ar r ?_;clear r;rintro _ rfl;exact⟨F',Aq,_,l,I',.int _ _,q⟩
def FF(c:Cx)(V:St)(a:AV)(xs:List AV):Prop:=∀F P s v,Inv c F P V s->Rep c.w F v a->∃l vs,v= .ref l/\s.heap.IsList l (FQ vs)/\Ao c.w F vs xs
theorem FF.lst:FF c V (.lst xs) xs:=λF P s v I r=>by
 obtain⟨a,vs,k,rfl,e,rl⟩:=lst_inv r;exact⟨a,vs,rfl,Cu (I.hf _ _ e),rl⟩
theorem FF.ref{a:Addr}(h:V a=some (.list xs)):FF c V (.ref a) xs:=λF P s v I r=>by
 subst r;obtain⟨vs,k,ho,rl⟩:=I.list h;exact⟨a,vs,rfl,Cu ho,rl⟩
theorem FF.raw{l:Addr}{vs:List Ac}(h:c.h₀.IsList l vs.toArray)(r:∀F,Ao c.w F vs xs):FF c V (.raw (.ref l)) xs:=λF P s v I rr=>by
 subst rr;exact⟨l,vs,rfl,h.at λo e=>I.hf _ _ (I.base _ _ e),r F⟩
noncomputable def pick(xs:List AV)(lo hi st:Option Int):List AV:=
 (QH (Gn lo hi st xs.length).1 (Gn lo hi st xs.length).2.1 (Gn lo hi st xs.length).2.2).filterMap (xs[·]?)
theorem Ao.picked{F:Fz}{vs:List Ac}(r:Ao w F vs xs):∀(l:List Nat),Ao w F (l.filterMap (vs[·]?)) (l.filterMap (xs[·]?))
 | []=>.nil
 | i::l=>by
  have ih:=Ao.picked r l;cases hx:xs[i]? with
  | none=>
   have:vs[i]?=none:=by rw[zI] at hx⊢;exact Aa r.length<|hx
   simp only[HB,hx,this];exact ih
  | some x=>
   refine Ad (r.get hx) ?_;intro v hv rv;simp only[HB,hx,hv];exact .cons rv ih
theorem Acj{s:Aj}{value slice:Expr}{o i:Ac}{R:Ac->Aj->Prop}(hT:s.TypeIs o "list")(h:Au c.M A (getItem o i) R (λZ Z=>False) s):
  Au c.M A (XF value slice o i) R (λZ Z=>False) s:=by
 unfold XF;refine Ak ?_;refine Aa (getitemInPython_of_ne hT.not_modules) ?_;refine Ak (NM hT XQ.lookup ?_);refine Ar (Oj slice o i) ?_;intro ops e;have fin:Au c.M A (subscripted slice false o i) (λr JU=>Au c.M A (Tx value o r>>=λZ=>pure r) R (λZ Z=>False) JU) (λZ Z=>False) s:=by exact Aa e<|wpAny_operating (AN h (λr JU Ry=>Ak (wpAny_letTemporaryGo (AF Ry))) λZ Z x=>x)
 first
  | exact AF (Ak fin)
  | exact Ak (AF (Ak fin))
  | exact Ak fin
theorem Ax.cI{v:Expr}{lo hi st:Option Expr}{p pos:Pos}{Q:AV->St->Prop}{R:List AV->St->Prop}
  (h:Ax c n v sc W V (λa Af=>ED c n lo sc W Af (λl Av=>ED c n hi sc W Av (λu By=>ED c n st sc W By (λt CE=>∃xs,FF c CE a xs/\t≠some 0/\xs.length<=Bc/\R (pick xs l u t) CE)))))
  (fin:∀F P Af s ys vs k D,Inv c F P Af s->s.heap.get? D=some (AM "list" (FQ vs) k)->F D=none->P D=none->Af D=none->Ao c.w F vs ys->R ys Af->JP c c.AlW F P Q (.ref D) s):Ax c n (.Subscript v (.Slice lo hi st p) pos) sc W V Q:=by
 intro F P env fr A s ok I;refine Subscript_ ?_
 ·refine AN (h F P env fr A s ok I) (λo s1 hQ=>?_) λZ Z x=>x;obtain⟨F1,Af,a,l1,I1,r1,h1⟩:=hQ;refine wpAny_Slice (AN (h1.run (fr.mono l1) ok I1) (λvl s2 hQ=>?_) λZ Z x=>x);obtain⟨F2,Av,kl,l2,I2,p2,h2⟩:=hQ;refine AN (h2.run (fr.mono (l1.trans l2)) ok I2) (λvu s3 hQ=>?_) λZ Z x=>x;obtain⟨F3,By,ku,l3,I3,p3,h3⟩:=hQ;refine AN (h3.run (fr.mono ((l1.trans l2).trans l3)) ok I3) (λvt s4 hQ=>?_) λZ Z x=>x;obtain⟨F4,CE,kt,l4,I4,p4,xs,hx,ht0,hz,q⟩:=hQ;refine BS (hx F4 P s4 o I4 (r1.mono ((l2.trans l3).trans l4))) ?_;rintro l vs rfl hL rl;have I5:Inv c F4 P CE {s4 with heap:=s4.heap.push {cls:= .type "slice",data:= .fields #[vl,vu,vt]}}:=I4.push (t:=s4.toks) _;obtain⟨ol,Vr,FB,nl,JV⟩:=hL;have cJ:(s4.heap.push {cls:= .type "slice",data:= .fields #[vl,vu,vt]}).IsList l vs.toArray:=⟨ol,Di _ Vr,FB,nl,JV⟩;refine Acj cJ.typeIs (wpAny_getItem_list_slice cJ (AlA _ _ _ _) p2 p3 p4 ht0 ?_ (by exact Aa DB<|Aa rl.length<|hz));refine Bq I5.fresh ?_;intro f1 f2 f3;have e:Ye vs.toArray kl ku kt=((QH (Gn kl ku kt xs.length).1 (Gn kl ku kt xs.length).2.1 (Gn kl ku kt xs.length).2.2).filterMap (vs[·]?)).toArray:=by unfold Ye;refine Aa DB<|Aa rl.length ?_;simp only[X7]
  have I6:=I5.push (t:=s4.toks) (AM "list" (Ye vs.toArray kl ku kt) 0);obtain⟨F6,EV,b6,l6,J6,r6,q6⟩:=fin _ _ _ _ _ ((QH (Gn kl ku kt xs.length).1 (Gn kl ku kt xs.length).2.1 (Gn kl ku kt xs.length).2.2).filterMap (vs[·]?)) 0 _ I6 (by refine AS e ?_;exact Ct _ rfl) f1 f2 f3 (rl.picked _) q;exact⟨F6,EV,b6,((l1.trans l2).trans (l3.trans l4)).trans l6,J6,r6,q6⟩
theorem Ax.slice{v:Expr}{lo hi st:Option Expr}{p pos:Pos}{Q:AV->St->Prop}
  (h:Ax c n v sc W V (λa Af=>ED c n lo sc W Af (λl Av=>ED c n hi sc W Av (λu By=>ED c n st sc W By (λt CE=>∃xs,FF c CE a xs/\t≠some 0/\xs.length<=Bc/\Q (.lst (pick xs l u t)) CE))))):Ax c n (.Subscript v (.Slice lo hi st p) pos) sc W V Q:=
 Ax.cI (R:=λys s=>Q (.lst ys) s) h (λF P Af s ys vs k D J hD f p sD r q=>⟨_,Af,_,Fz.Dt f,J.freeze hD f p sD,.lst Fz.AC (Ao.mono (Fz.Dt f) r),q⟩)
theorem Ax.Ack{v:Expr}{lo hi st:Option Expr}{p pos:Pos}{Q:AV->St->Prop}
  (h:Ax c n v sc W V (λa Af=>ED c n lo sc W Af (λl Av=>ED c n hi sc W Av (λu By=>ED c n st sc W By (λt CE=>∃xs,FF c CE a xs/\t≠some 0/\xs.length<=Bc/\ ∀d,CE d=NE->Q (.ref d) (CE.set d (.list (pick xs l u t)))))))):Ax c n (.Subscript v (.Slice lo hi st p) pos) sc W V Q:=
 Ax.cI (R:=λys s=>∀d,s d=NE->Q (.ref d) (s.set d (.list ys))) h (λF P Af s ys vs k D J hD f p sD r q=>⟨F,_,_,.refl,J.own hD f p (.list r),.ref _,q D sD⟩)
end
set_option genInjectivity false in
set_option genSizeOf false in
structure AU(c:Cx)(K:Type)[DecidableEq K] where
 knd:PySem.KeyKind c.prog c.w K
 enc:K->AV
 IN:∀{F:Fz}{v:Ac}{k:K},Rep c.w F v (enc k)->knd.is k v=true
 RC:∀{F:Fz}{v:Ac}{k:K},knd.is k v=true->Rep c.w F v (enc k)
 hash:∀k,knd.hash k=HK c.w (enc k)
 inj:∀{a b:K},enc a=enc b->a=b
 Ra:∀l:List K,(l.map enc).all AV.isInt=true\/(l.map enc).all AV.isStr=true\/(l.map enc).all AV.isTup=true
noncomputable def AU.int(c:Cx):AU c Int where
 knd:=intKind c.prog c.w
 enc:= .int
 IN:=λr=>by refine Ar r ?_;clear r;rintro _ rfl;exact beq_self_eq_true _
 RC:=λh=>by refine Ar (Value.isInt_shape h) ?_;clear h;rintro t rfl;exact .int _ _
 hash:=λk=>rfl
 inj:=λh=>AV.int.inj h
 Ra:=λl=>.inl (by induction l with | nil=>rfl | cons _ _ ih=>exact ih)
noncomputable def AU.str(c:Cx):AU c Str where
 knd:=JC c.prog c.w
 enc:= .str
 IN:=λr=>by refine Ar r ?_;clear r;rintro _ rfl;exact beq_self_eq_true _
 RC:=λh=>by refine Ar (TR h) ?_;clear h;rintro t rfl;exact .str _ _
 hash:=λk=>rfl
 inj:=λh=>AV.str.inj h
 Ra:=λl=>.inr (.inl (by induction l with | nil=>rfl | cons _ _ ih=>exact ih))
noncomputable def Lc{K:Type}[DecidableEq K]:List K->List AV->K->AV->List AV
 | k::ks,v::vs,x,u=>if k=x then u::vs else v::Lc ks vs x u
 | _,vs,_,_=>vs
theorem cK{K:Type}[DecidableEq K]{k x:K}{ks:List K}{v u:AV}{vs:List AV}:Lc (k::ks) (v::vs) x u=if k=x then u::vs else v::Lc ks vs x u:=rfl
section
variable{c:Cx}{K:Type}[DecidableEq K](E:AU c K){F P:Fz}{V:St}{s:Aj}{n:Nat}{Q:AV->St->Prop}
theorem Acl{es:List Ck}{κs:List K}(r:Ao c.w F (es.map (·.key)) (κs.map E.enc)):Pairs E.knd es (κs.zip (es.map (·.val))):=by
 induction es generalizing κs with
 | nil=>cases κs with
  | nil=>exact .nil
  | cons _ _=>obtain⟨_,_,e,_⟩:=r;exact Iz e
 | cons e es ih=>cases κs with
  | nil=>exact Mm r
  | cons k κs=>obtain⟨_,_,e,r1,r2⟩:=r;cases e;exact .cons (E.IN r1) rfl (ih r2)
theorem Le{α β:Type}{l:List α}{r:List β}(h:l.length=r.length):(l.zip r).map (·.1)=l:=XU (BA h)
theorem cL{α β:Type}{l:List α}{r:List β}(h:l.length=r.length):(l.zip r).map (·.2)=r:=List.map_snd_zip (BA h.symm)
theorem MH{d:Addr}{es:List Ck}{k:Nat}{κs:List K}{vs:List AV}(ho:h.get? d=some (Dy es k))(kk:IB c.w es (κs.map E.enc))(rk:Ao c.w F (es.map (·.key)) (κs.map E.enc)):
  h.DictOf E.knd d (κs.zip (es.map (·.val)))/\κs.length=es.length:=by
 have hl:κs.length=es.length:=by have:=rk.length;simp at this;exact this.symm
 refine⟨⟨_,es.toArray,k,ho,⟨rfl,rfl,rfl⟩,rfl,λe he=>?_,by simpa using Acl E rk,?_⟩,hl⟩
 ·refine Ar (Fs.mp (show e∈es by simpa using he)) ?_;intro i hi;have h1:(es.map (·.hash))[i]?=some e.hash:=by simp[hi]
  replace h1:=kk.hash▸h1;simp only[Bp,D8] at h1;refine Ad h1 ?_;clear h1;intro a;intro hZ;refine Ad hZ ?_;clear hZ;rintro κ hκ rfl;intro h2;obtain⟨v,hv,rv⟩:=rk.get (i:=i) (x:=E.enc κ) (by simp[hκ]);simp only[Bp,hi,Yg,Yh] at hv;subst hv;exact⟨κ,E.IN rv,by refine AS h2 ?_;exact(E.hash κ).symm⟩
 ·rw[Le (by simpa using hl)];have:=kk.nodup;exact QI _ (λa b Bb e=>Bb (congrArg _ e)) this
theorem Acm:∀{es:List Ck}{kvs:List (K×Ac)},Pairs E.knd es kvs->Ao c.w F (es.map (·.key)) ((kvs.map (·.1)).map E.enc)/\es.map (·.val)=kvs.map (·.2)/\(KeysOf E.knd es.toArray->es.map (·.hash)=((kvs.map (·.1)).map E.enc).map (HK c.w)):=by
 intro es kvs h;induction h with
 | nil=>exact⟨.nil,rfl,λZ=>rfl⟩
 | @cons e kv es kvs h1 h2 h3 ih=>
  refine Bq ih ?_;clear ih;intro a b d;refine⟨.cons (E.RC h1) a,by simp[h2,b],λhk=>?_⟩;obtain⟨k,e1,e2⟩:=hk e (by simp);have:k=kv.1:=E.knd.inj _ _ _ e1 h1;subst this;simp only[EO,KG];exact⟨e2.trans (E.hash _),d λe' Rr=>hk e' (by simp at Rr⊢;exact .inr Rr)⟩
theorem Vs{d:Addr}{kvs:List (K×Ac)}{vs:List AV}(hd:h.DictOf E.knd d kvs)(rv:Ao c.w F (kvs.map (·.2)) vs):∃o,h.get? d=some o/\Fe c.w F o (.dict ((kvs.map (·.1)).map E.enc) vs):=by refine UM hd ?_;clear hd;intro o es ep ho;intro hZ;refine Bq hZ ?_;clear hZ;intro e1 e2 e3;intro e4 hk hp hn;refine Bq (Acm E (F:=F) hp) ?_;intro a b d;obtain⟨oc,od,odt,os⟩:=o;simp only at e1 e2 e3 e4;subst e1;subst e2;subst e3;subst e4;obtain⟨l⟩:=es;refine⟨_,ho,.dict (n:=ep) ⟨d hk,?_,E.Ra _⟩ a (by exact Aa b<|rv)⟩;exact zQ _ (λa b Bb e=>Bb (E.inj e)) hn
theorem cM:∀{κs:List K}{us:List Ac}{vs:List AV}{i:Nat}{k:K}{v:AV},Ao c.w F us vs->κs.length=us.length->κs.Nodup->κs[i]?=some k->vs[i]?=some v->∃u,TS (κs.zip us) k=some u/\Rep c.w F u v
 | κs,us,vs,i,k,v,r,hl,nd,h1,h2=>by
  refine Ad (r.get h2) ?_;clear h2;intro u hu ru;refine⟨u,zR (by exact Aa (Le hl)<|nd) (i:=i) ?_,ru⟩;rewrite[Qu];exact⟨h1,hu⟩
theorem cN{κs:List K}{k:K}(h:k∉κs):TS (κs.zip us) k=none:=by
 unfold TS;have:((κs.zip us).find? λkv=>decide (kv.1=k))=none:=List.find?_eq_none.mpr λkv Lf hk=>by
  have e:kv.1=k:=by simpa using hk
  exact h (e▸(Yi (show(kv.1,kv.2)∈κs.zip us from Lf)).1)
 simp[this]
theorem cO:∀{κs:List K}{us:List Ac}{vs:List AV}{k:K}{u:Ac}{v:AV},Ao c.w F us vs->κs.length=us.length->κs.Nodup->Rep c.w F u v->
  (k∈κs->(KI (κs.zip us) k u).map (·.1)=κs/\Ao c.w F ((KI (κs.zip us) k u).map (·.2)) (Lc κs vs k v))/\
  (k∉κs->(KI (κs.zip us) k u).map (·.1)=κs++ [k]/\Ao c.w F ((KI (κs.zip us) k u).map (·.2)) (vs++ [v])):=by
 intro κs us vs k u v r hl nd ru;have Vt:((κs.zip us).any λkv=>decide (kv.1=k))=true↔k∈κs:=by
  rewrite[List.any_eq_true];constructor
  ·intro hZ;refine Ad hZ ?_;clear hZ;intro kv Lf hk;have e:kv.1=k:=by simpa using hk
   exact e▸(Yi (show(kv.1,kv.2)∈κs.zip us from Lf)).1
  ·intro hk;have:k∈(κs.zip us).map (·.1):=Aa (Le hl)<|hk;refine Ad (Bj.mp this) ?_;clear this;intro kv Lf e;exact⟨kv,Lf,by simpa using e⟩
 constructor
 ·intro hk;have e:KI (κs.zip us) k u=(κs.zip us).map (λkv=>if kv.1=k then(kv.1,u) else kv):=by unfold KI;exact Aa (if_pos (Vt.mpr hk)) rfl
  refine Aa e ?_;clear e Vt hk;induction κs generalizing us vs with
  | nil=>cases us with
   | nil=>cases r.Rc;exact⟨rfl,.nil⟩
   | cons _ _=>simp at hl
  | cons a κs ih=>
   cases us with
   | nil=>simp at hl
   | cons w us=>
    refine BS r.KV ?_;rintro _ _ rfl r1 r2;rewrite[Ig] at nd;obtain⟨i1,i2⟩:=ih r2 (by simpa using hl) nd.2;by_cases cP:a=k
    ·subst cP;have:∀kv∈κs.zip us,(λkv:K×Ac=>if kv.1=a then(kv.1,u) else kv) kv=kv:=λkv Lf=>by
      have h1:=(Yi (show(kv.1,kv.2)∈κs.zip us from Lf)).1;have:kv.1≠a:=λe=>nd.1 (e▸h1);simp[this]
     simp only[zS,EO,if_true,cK];refine Aa (Gm this) ?_;rewrite[List.map_id'']
     ·exact⟨by rw[Le (by simpa using hl)],.cons ru (by rw[cL (by simpa using hl)];exact r2)⟩
     ·intro x;rfl
    ·simp only[zS,EO,if_neg cP,cK];exact⟨Aa i1 rfl,.cons r1 i2⟩
 ·intro hk;have e:KI (κs.zip us) k u=κs.zip us++ [(k,u)]:=by unfold KI;exact Aa (if_neg (λh=>hk (Vt.mp h))) rfl
  refine Aa e<|Aa Bs<|Aa Bs<|Aa (Le hl)<|Aa (cL hl) ?_;exact⟨rfl,r.append (.cons ru .nil)⟩
inductive EE(V:St):AV->List AV->List AV->Prop
 | BH {ks vs:List AV}:EE V (.BH ks vs) ks vs
 | ref {a:Addr} {ks vs:List AV}:V a=some (.dict ks vs)->EE V (.ref a) ks vs
inductive cQ(w:A7)(F:Fz)(h:Heap)(ks vs:List AV)(v:Ac):Prop
 | mk (d:Addr) (es:List Ck) (k:Nat):v= .ref d->h.get? d=some (Dy es k)->IB w es ks->Ao w F (es.map (·.key)) ks->Ao w F (es.map (·.val)) vs->(d==NC)=false->cQ w F h ks vs v
theorem EE.at{a:AV}{vs:List AV}(h:EE V a ks vs)(I:Inv c F P V s)(r:Rep c.w F v a):
  cQ c.w F s.heap ks vs v:=by
 cases h with
 | BH=>obtain⟨_,_,_,rfl,m,e,k,r1,r2⟩:=r;exact⟨_,_,_,rfl,I.hf _ _ e,k,r1,r2,m⟩
 | ref h=>
  subst r;obtain⟨_,ho,_,_,rfl,k,r1,r2⟩:=I.hs _ _ h;exact⟨_,_,_,rfl,ho,k,r1,r2,I.ZD h⟩
theorem OA{κs:List K}{es:List Ck}(kk:IB c.w es (κs.map E.enc)):κs.Nodup:=QI _ (λa b Bb e=>Bb (congrArg _ e)) kk.nodup
theorem AL.RD{a:AV}{κs:List K}{vs:List AV}{k:K}{v:AV}(h:EE V a (κs.map E.enc) vs)(hk:κs[i]?=some k)(hv:vs[i]?=some v)(q:Q v V):AL c n a (E.enc k) V Q:=by intro F P ov iv value slice r1 r2 A s ok I;obtain⟨d,es,kk,rfl,ho,ko,rk,rv,m⟩:=h.at I r1;refine Ah (MH E (vs:=vs) ho ko rk) ?_;intro hD hl;obtain⟨u,hu,ru⟩:=cM (κs:=κs) rv (by simpa using hl) (OA E ko) hk hv;refine Ar (Oj slice (.ref d) iv) ?_;intro ops e;exact Qz (ops:=ops) hD.typeIs zT.lookup (wpAny_getItem_of (E.IN r2) hD.mapOf hu ⟨F,V,v,.refl,I.toks _,ru,q⟩) e
theorem Acn{κs:List K}{k:K}(hl:κs.length=us.length)(nd:κs.Nodup):(TS (κs.zip us) k).isSome=decide (k∈κs):=by
 by_cases hk:k∈κs
 ·refine Ar (Fs.mp hk) ?_;intro i hi;have:i<us.length:=by refine AS hl ?_;exact(A5.mp hi).1
  rw[zR (by exact Aa (Le hl)<|nd) (i:=i) (v:=us[i]) (by rewrite[Qu];exact⟨hi,BG this⟩)];simp[hk]
 ·refine Aa (cN hk) ?_;simp[hk]
theorem AR.Aco{a:AV}{κs:List K}{vs:List AV}{k:K}(h:EE V a (κs.map E.enc) vs)(q:Q (.bool (!decide (k∈κs))) V):AR c n .NotIn (E.enc k) a V Q:=by intro F P kv ov r1 r2 A s ok I;obtain⟨d,es,kk,rfl,ho,ko,rk,rv,m⟩:=h.at I r2;refine Ah (MH E (vs:=vs) ho ko rk) ?_;intro hD hl;exact wpAny_notIn_of (E.IN r1) m hD.mapOf ⟨F,V,_,.refl,I.toks _,.bool _,by rw[Acn (by simpa using hl) (OA E ko)];exact q⟩
theorem Dd.RD{a:Addr}{κs:List K}{vs:List AV}{k:K}{v:AV}{Q:St->Prop}(h:V a=some (.dict (κs.map E.enc) vs))(hz:κs.length<=Bc)
  (q:Q (V.set a (if k∈κs then .dict (κs.map E.enc) (Lc κs vs k v) else .dict ((κs++ [k]).map E.enc) (vs++ [v])))):Dd c n (.ref a) (E.enc k) v V Q:=by
 intro F P ov iv vv r0 r1 r2 A s ok I;obtain⟨d,es,kk,e,ho,ko,rk,rv,m⟩:=(EE.ref h).at I r0;subst e;cases r0;refine Ah (MH E (vs:=vs) ho ko rk) ?_;intro hD hl;refine wpAny_setItem_pairs (E.IN r1) hD (λh' Ef hb=>?_) (by exact Aa Yj<|Q4 hz);obtain⟨p1,p2⟩:=cO (κs:=κs) (k:=k) rv (by simpa using hl) (OA E ko) r2;by_cases hk:k∈κs
 ·refine Ah (p1 hk) ?_;intro b1 b2;refine Ad (Vs E Ef b2) ?_;intro o FV ob;replace ob:=b1▸ob;replace q:=(if_pos hk)▸q;exact⟨F,_,(),.refl,I.change h hb FV ob,trivial,q⟩
 ·refine Ah (p2 hk) ?_;intro b1 b2;refine Ad (Vs E Ef b2) ?_;intro o FV ob;replace ob:=b1▸ob;replace q:=(if_neg hk)▸q;exact⟨F,_,(),.refl,I.change h hb FV ob,trivial,q⟩
theorem Vu{a:AV}{vs:List AV}(h:EE V a ks vs):E9 c V a "get" (.builtin "dict.get"):=by intro n F P v pl r A s ok I;obtain⟨d,es,kk,rfl,ho,ko,rk,rv,m⟩:=h.at I r;exact XS ⟨_,ho,rfl⟩ PySem.F.plainAttrs_dict zU PySem.F.type_dict_get (λb e=>⟨_,by injection e with e;subst e;exact ho,rfl⟩) ⟨F,V,(),.refl,I,rfl,rfl⟩
theorem An.cR{a:AV}{κs:List K}{vs:List AV}{k:K}{dv:AV}(h:EE V a (κs.map E.enc) vs)(q1:∀(i:Nat) v,κs[i]?=some k->vs[i]?=some v->Q v V)(q2:k∉κs->Q dv V):An c n (.builtin "dict.get") [a,E.enc k,dv] V Q:=by
 intro F P us r A s ok I;obtain⟨_,_,rfl,r1,r⟩:=r;obtain⟨_,_,rfl,r2,r⟩:=r;obtain⟨_,_,rfl,r3,r⟩:=r;subst r;obtain⟨d,es,kk,rfl,ho,ko,rk,rv,m⟩:=h.at I r1;refine Ah (MH E (vs:=vs) ho ko rk) ?_;intro hD hl;refine call_meetsIn zU hD.typeIs PySem.F.entry_dict_get (PySem.F.args_dict_get_3 _ _ _) (meets_dict_get_default E.knd d (E.IN r2) m _) ⟨_,hD.mapOf,?_⟩;have JT:κs.length=(es.map (·.val)).length:=by simpa using hl
 by_cases hk:k∈κs
 ·refine Ar (Fs.mp hk) ?_;clear hk;intro i hi;have AH:i<vs.length:=by refine AS rv.length ?_;refine AS JT ?_;exact(A5.mp hi).1
  refine Ad (cM rv JT (OA E ko) hi (BG AH)) ?_;intro u hu ru;exact Aa hu<|⟨F,V,_,.refl,I.toks _,ru,q1 i _ hi (BG AH)⟩
 ·exact Aa (cN hk)<|⟨F,V,_,.refl,I.toks _,r3,q2 hk⟩
end
mutual
noncomputable def AV.draw:AV->Nat
 | .tup xs=>AV.draws xs+1
 | _=>1
noncomputable def AV.draws:List AV->Nat
 | []=>0
 | x::xs=>x.draw+AV.draws xs
end
theorem cS(xs:List AV):AV.areKeys xs=true->∀x∈xs,x.isKey=true:=
 keyL (P:=λx=>x.isKey=true) (Q:=λxs=>∀x∈xs,x.isKey=true) (λZ h=>h) (λZ h=>nomatch h) (λZ Z p q Z h=>(Bo.mp h).elim (λe=>e▸p) (q _)) xs
section
variable{c:Cx}{F P:Fz}{V:St}{n:Nat}
theorem cT{y:AV}(l:List AV):GZ w (l++ [y])=GZ w l++ [HK w y]/\AV.draws (l++ [y])=AV.draws l+y.draw:=by
 induction l with
 | nil=>exact⟨rfl,(KJ _).symm⟩
 | cons z l ih=>exact⟨congrArg (HK w z:: ·) ih.1,(congrArg (z.draw+ ·) ih.2).trans (Go _ _ _).symm⟩
theorem Acp(j:Nat):∀(k:AV)(v:Ac)(A:BB)(s:Aj)(E:Ac->Aj->Prop)(Q:Int->Aj->Prop),AV.flat j k=true->k.isKey=true->Rep c.w F v k->(∀a o,F a=some o->s.heap.get? a=some o)->
  A.units+j+1<DC->Q (HK c.w k) {s with toks:=s.toks+k.draw}->Au c.M A (TT v) Q E s:=by
 induction j with
 | zero=>
  intro k v A s E Q hf hk r hF hu q;cases k with
  | int i=>refine Ar r ?_;clear r;rintro _ rfl;exact zW q
  | str x=>refine Ar r ?_;clear r;rintro _ rfl;exact zX q
  | tup xs=>exact AJ hf
  | _=>exact AJ hk
 | succ j ih=>
  intro k v A s E Q hf hk r hF hu q;cases k with
  | int i=>refine Ar r ?_;clear r;rintro _ rfl;exact zW q
  | str x=>refine Ar r ?_;clear r;rintro _ rfl;exact zX q
  | tup xs=>
   obtain⟨a,vs,m,rfl,e,rl⟩:=JS r;have ho:=hF _ _ e;have hT:s.TypeIs (.ref a) "tuple":=⟨_,ho,rfl⟩;have Vv:AV.areKeys xs=true:=hk;have HY:AV.CO j xs=true:=(Bu (show((j+1) !=0&&AV.Of xs j)=true from hf)).2;unfold TT
   first | unfold pyHashByItsType | skip
   first | refine Ak (wpAny_cRoomFor_or (.inr (Ze (Ze hu))) ?_) | skip
   refine Ak (NM hT TU.lookup ?_);rw[if_neg (by exact Aa (zY _)<|TV)];refine Ak (NM hT TU.lookup ?_);refine Ak (wpAny_callSpecialIfBoundUnlessNone?_slot hT TU (L5 TU hT PySem.F.entry_tuple_hash ?_ (PySem.F.args_tuple_hash_1 _)));show Au _ _ (AlB (.ref a)>>=_) _ _ s;refine Ak (wpAny_tupleItemsOf ho rfl ?_);refine Ak ?_;refine AS zZ ?_;refine Aaa _
    (λrest (b:Array Int) s'=>∃done left,xs=done++left/\Ao c.w F rest left/\b.toList=GZ c.w done/\s'={s with toks:=s.toks+AV.draws done})
    _ ?_ ?_ _ _ ⟨[],xs,rfl,by simpa using rl,rfl,rfl⟩
   ·intro x rest b s';intro hZ;refine GX hZ ?_;clear hZ;rintro done left hx hl hb rfl;refine BS (Ao.KV hl) ?_;clear hl;rintro y ys rfl r1 r2
    ·have hm:y∈xs:=by refine Aa hx ?_;simp
     refine Ak (ih y x _ _ _ _ (ZO HY y hm) (cS _ Vv y hm) r1 hF (by show A.units+1+j+1<DC;exact M17 hu) ?_);have fin:∃Vw cU,xs=Vw++cU/\Ao c.w F rest cU/\(b.push (HK c.w y)).toList=GZ c.w Vw/\
       ({s with toks:=s.toks+AV.draws done+y.draw}:Aj)={s with toks:=s.toks+AV.draws Vw}:=
      ⟨done++ [y],ys,by simp[hx],r2,Yk.trans ((congrArg (· ++_) hb).trans (cT (w:=c.w) done).1.symm),by refine Aa ((cT (w:=c.w) done).2) ?_;rewrite[Go];rfl⟩
     first
      | exact AF fin
      | exact Ak (AF (AF fin))
   ·intro b s';intro hZ;refine GX hZ ?_;clear hZ;rintro done left hx hl hb rfl;have hZ:=Ao.Rc hl;clear hl;subst hZ;rewrite[C8] at hx;subst hx;show Au _ _ (retInt (LW b.toList)) _ _ _;refine Aa hb ?_;refine wpAny_ret_mkInt ?_;show Au _ _ (if(decide (-(2:Int)^63<=LW (GZ c.w xs))&&decide (LW (GZ c.w xs)<2^63))=true then _ else _) Q E _;have hq:Q (XE (LW (GZ c.w xs))) {s with toks:=s.toks+AV.draws xs+1}:=q;unfold XE at hq;by_cases hr:(decide (-(2:Int)^63<=LW (GZ c.w xs))&&decide (LW (GZ c.w xs)<2^63))=true
    ·refine Aa (if_pos hr) ?_;replace hq:=(if_pos hr)▸hq;exact AF (by simpa[Go] using hq)
    ·refine Aa (if_neg hr) ?_;replace hq:=(if_neg hr)▸hq;exact Ak (L6 (AF (by simpa[Go] using hq)))
  | _=>exact AJ hk
open Classical in
theorem Acq{k:AV}{k':AV}{v v':Ac}{A:BB}{s:Aj}{E:Ac->Aj->Prop}{Q:Bool->Aj->Prop}(h1:AV.flat 8 k=true)(h2:AV.flat 8 k'=true)(r1:Rep c.w F v k)(r2:Rep c.w F v' k')
  (hF:∀a o,F a=some o->s.heap.get? a=some o) (hu:A.units+20<DC) (q:Q (decide (k=k')) s):Au c.M A (eqBool v v') Q E s:=by
 refine Ar (IF hF r1 h1) ?_;intro as p1;refine Ar (IF hF r2 h2) ?_;intro bs p2;refine Ah (Mu k 8 h1) ?_;intro z1 z2;refine Ah (Mu k' 8 h2) ?_;intro z3 z4;have e:Jy k.toPy k'.toPy=decide (k=k'):=by
  have:=Rg k 8 k' 8 h1 h2;by_cases h:k=k'
  ·exact Aa (decide_eq_true h)<|this.mpr h
  ·exact Aa (decide_eq_false h)<|JA.mpr λx=>h (this.mp x)
 exact SeqAt.eqBoolOverData c.prog c.w A E s v v' k.toPy k'.toPy as bs Q p1 p2 z1 z3 (M9 hu z2) (by exact Aa e<|q)
theorem RE{s:Aj}{E:Ac->Aj->Prop}{Q:Bool->Aj->Prop}(h:carriedByValue v=true)(q:Q true s):Au c.M A (L7 j v) Q E s:=eqIsQuiet_byValue j h▸AF q
theorem Acr{j:Nat}{xs:List AV}{v:Ac}{A:BB}{s:Aj}{E:Ac->Aj->Prop}{Q:Bool->Aj->Prop}(Vv:AV.areKeys xs=true)(HY:AV.CO j xs=true)(r:Rep c.w F v (.tup xs))(hF:∀a o,F a=some o->s.heap.get? a=some o)
  (ih:∀(k:AV)(v:Ac)(A:BB)(Q:Bool->Aj->Prop),AV.flat j k=true->k.isKey=true->Rep c.w F v k->Q true s->Au c.M A (L7 j v) Q E s) (q:Q true s):Au c.M A (L7 (j+1) v) Q E s:=by
 obtain⟨a,vs,m,rfl,e,rl⟩:=JS r;have ho:=hF _ _ e;have hT:s.TypeIs (.ref a) "tuple":=⟨_,ho,rfl⟩;unfold L7;refine Ak (NM hT PySem.F.slot_tuple_eq.lookup ?_);refine Ak (Yl hT isSubtype_tuple_tuple ?_);simp only[Ym,Fa,if_false];refine Ak (TW ho rfl ?_);refine Ak ?_;refine AS zZ ?_;refine Aaa _ (λrest r s'=>r.1=none/\s'=s/\ ∃left,Ao c.w F rest left/\ ∀x∈left,x∈xs) _ ?_ ?_ _ _ ⟨rfl,rfl,xs,by simpa using rl,λZ h=>h⟩
 ·intro v rest r s';intro hZ;obtain⟨hr,rfl,left,hl,hm⟩:=hZ;refine BS (Ao.KV hl) ?_;clear hl;rintro y ys rfl r1 r2
  ·have hy:=hm y (by simp);refine Ak (ih y v _ _ (ZO HY y hy) (cS _ Vv y hy) r1 ?_);simp only[Ym,Fa,if_false];exact AF ⟨rfl,rfl,ys,r2,λx hx=>hm x (by simp[hx])⟩
 ·intro hZ;obtain⟨r1,r2⟩:=hZ;intro s';intro hZ;refine Bq hZ ?_;clear hZ;rintro hr rfl _;simp only at hr;subst hr;exact AF q
theorem Acs(j:Nat)(k:AV)(v:Ac)(A:BB)(s:Aj)(E:Ac->Aj->Prop)(Q:Bool->Aj->Prop)(hf:AV.flat j k=true)(hk:k.isKey=true)(r:Rep c.w F v k)(hF:∀a o,F a=some o->s.heap.get? a=some o)
  (q:Q true s):Au c.M A (L7 j v) Q E s:=by
 induction j generalizing k v A Q with
 | zero=>exact Oa (P:=λk=>AV.flat 0 k=true->Rep c.w F v k->Au c.M A (L7 0 v) Q E s) (λ_ _ ⟨_,e⟩=>RE (e▸rfl) q) (λ_ _ ⟨_,e⟩=>RE (e▸rfl) q) (λZ Z hf=>AJ hf) k hk hf r
 | succ j ih=>exact Oa (P:=λk=>AV.flat (j+1) k=true->Rep c.w F v k->Au c.M A (L7 (j+1) v) Q E s) (λ_ _ ⟨_,e⟩=>RE (e▸rfl) q) (λ_ _ ⟨_,e⟩=>RE (e▸rfl) q) (λZ hk hf r=>Acr hk (Bu (a:=(j+1) !=0) hf).2 r hF ih q) k hk hf r
def Vx(c:Cx)(F:Fz)(x:AV):Prop:=∀y v,y.isKey=true->Rep c.w F v x->Rep c.w F v y->x=y
def OB(c:Cx)(F:Fz)(xs:List AV):Prop:=∀ys vs,AV.areKeys ys=true->Ao c.w F vs xs->Ao c.w F vs ys->xs=ys
theorem Acu{x:AV}(p:Vx c F x)(q:OB c F xs):OB c F (x::xs):=λys _ h ⟨_,_,e,a1,b1⟩ r2=>by
 subst e;refine BS (Ao.KV r2) ?_;clear r2;rintro _ _ rfl a2 b2;exact congr (congrArg yO (p _ _ (Bu h).1 a1 a2)) (q _ _ (Bu h).2 b1 b2)
theorem Acv:OB c F []:=λZ Z Z e r2=>by subst e;exact r2.Rc.symm
theorem Acw(q:OB c F xs):Vx c F (.tup xs):=λy v h r1 r2=>by
 obtain⟨a,vs,m,e,f,rl⟩:=JS r1;refine Oa (P:=λy=>Rep c.w F v y->AV.tup xs=y) (λ_ ⟨_,e'⟩=>nomatch e.symm.trans e') (λ_ ⟨_,e'⟩=>nomatch e.symm.trans e') (λys h r2=>?_) y h r2;obtain⟨a',B1,m',e',f',rl'⟩:=JS r2;have hZ:=e.symm.trans e';clear e';cases hZ;have hZ:=f.symm.trans f';clear f';cases hZ;exact congrArg AV.tup (q _ _ h rl rl')
theorem Acx{x y:AV}(h1:x.isKey=true)(h2:y.isKey=true)(r1:Rep c.w F v x)(r2:Rep c.w F v y):x=y:=
 Zu (P:=Vx c F) (Q:=OB c F) (λi y v h ⟨_,e⟩=>Oa (P:=λy=>Rep c.w F v y->AV.int i=y) (λ_ ⟨_,e'⟩=>by have hZ:=e.symm.trans e';clear e';cases hZ;rfl) (λ_ ⟨_,e'⟩=>nomatch e.symm.trans e') (λZ Z hQ=>by obtain⟨_,_,_,e',_,_⟩:=hQ;exact nomatch e.symm.trans e') y h)
  (λi y v h ⟨_,e⟩=>Oa (P:=λy=>Rep c.w F v y->AV.str i=y) (λ_ ⟨_,e'⟩=>nomatch e.symm.trans e') (λ_ ⟨_,e'⟩=>by have hZ:=e.symm.trans e';clear e';cases hZ;rfl) (λZ Z hQ=>by obtain⟨_,_,_,e',_,_⟩:=hQ;exact nomatch e.symm.trans e') y h)
  (λZ=>Acw) Acv (λZ Z=>Acu) x h1 y v h2 r1 r2
theorem Acy{F G:Fz}(h:∀a vs k,F a=some (AM "tuple" vs k)->G a=some (AM "tuple" vs k)){x:AV}(hk:x.isKey=true)(r:Rep w F v x):Rep w G v x:=
 Zu (P:=λx=>∀v,Rep w F v x->Rep w G v x) (Q:=λxs=>∀vs,Ao w F vs xs->Ao w G vs xs) (λ_ _ ⟨_,e⟩=>by subst e;exact .int _ _) (λ_ _ ⟨_,e⟩=>by subst e;exact .str _ _)
  (λxs q v r=>by obtain⟨a,vs,m,rfl,e,rl⟩:=JS r;exact .tup (h _ _ _ e) (q _ rl)) (λZ e=>by subst e;exact .nil) (λ_ _ p q _ ⟨_,_,e,a,b⟩=>by subst e;exact .cons (p _ a) (q _ b)) x hk v r
def Vy(c:Cx)(h:Heap)(xs:List AV)(a:Addr):Prop:=AV.flat 8 (.tup xs)=true/\AV.areKeys xs=true/\Rep c.w (λb=>h.get? b) (.ref a) (.tup xs)
end
section
open Classical
variable{c:Cx}{F P:Fz}{V:St}{n:Nat}{Q:AV->St->Prop}
noncomputable def tupK(c:Cx):HeapKind c.prog c.w (List AV) where
 is:=Vy c
 hash:=λxs=>HK c.w (.tup xs)
 draws:=λxs=>(AV.tup xs).draw
 room:=λA=>A.units+30<DC
 inj:=λh1 h2=>by
  have:=Acx (c:=c) (x:= .tup _) (y:= .tup _) h1.2.1 h2.2.1 h1.2.2 h2.2.2;exact AV.tup.inj this
 keeps:=λ{h h' k a d o es ep} x ho hd hs=>⟨x.1,x.2.1,Acy (λb vs m e=>(hs.2 b λq=>by
  replace e:=q▸e;replace e:=ho▸e;replace e:=Ay e;subst e;exfalso;injection hd).trans e) (x:= .tup k) x.2.1 x.2.2⟩
 pyHash:=λ{A E s k a Q} hu x q=>Acp (c:=c) (F:=λb=>s.heap.get? b) 8 (.tup k) _ A s E Q x.1 x.2.1 x.2.2 (λZ Z e=>e) (M42 hu) q
 eqBool:=λ{A E s x y a b Q} hu h1 h2 q=>Acq (c:=c) (F:=λb=>s.heap.get? b) h1.1 h2.1 h1.2.2 h2.2.2 (λZ Z e=>e) (M41 hu) (by
  have e:decide (AV.tup x=AV.tup y)=decide (x=y):=by
   by_cases h:x=y
   ·subst h;simp
   ·exact Aa (decide_eq_false h)<|Aa (decide_eq_false λe=>h (AV.tup.inj e)) rfl
  exact Aa e<|q)
 quiet:=λ{A E s k a Q} x q=>Acs (c:=c) (F:=λb=>s.heap.get? b) 8 (.tup k) _ A s E Q x.1 x.2.1 x.2.2 (λZ Z e=>e) q
theorem OC{s:Aj}(I:Inv c F P V s)(r:Rep c.w F v (.tup xs))(hf:AV.flat 8 (.tup xs)=true)(hk:AV.areKeys xs=true):∃a,v= .ref a/\Vy c s.heap xs a:=by obtain⟨a,vs,m,rfl,e,rl⟩:=JS r;exact⟨a,rfl,hf,hk,r.mono I.hf⟩
def IP(κs:List (List AV)):Prop:=∀k∈κs,AV.flat 8 (.tup k)=true/\AV.areKeys k=true
theorem Acz{s:Aj}(I:Inv c F P V s){es:List Ck}:∀{κs:List (List AV)},IP κs->Ao c.w F (es.map (·.key)) (κs.map .tup)->es.map (·.hash)=(κs.map AV.tup).map (HK c.w)->
  ∃xs:List (List AV×Addr×Ac),es=xs.map (TX (tupK c))/\xs.map (·.1)=κs/\xs.map (·.2.2)=es.map (·.val)/\ ∀x∈xs,Vy c s.heap x.1 x.2.1:=by
 induction es with
 | nil=>
  intro κs _ r _;cases κs with
  | nil=>exact⟨[],rfl,rfl,rfl,λx h=>nomatch h⟩
  | cons _ _=>obtain⟨_,_,e,_⟩:=r;exact Iz e
 | cons e es ih=>
  intro κs hT r hh;cases κs with
  | nil=>exact Mm r
  | cons k κs=>
   obtain⟨_,_,e0,r1,r2⟩:=r;cases e0;simp only[EO,KG] at hh;obtain⟨xs,h1,h2,h3,h4⟩:=ih (λk hk=>hT k (by simp[hk])) r2 hh.2;obtain⟨a,ea,tk⟩:=OC I r1 (hT k (by simp)).1 (hT k (by simp)).2;refine⟨(k,a,e.val)::xs,?_,by simp[h2],by simp[h3],λx hx=>?_⟩
   ·simp only[EO,KG];refine⟨?_,h1⟩;obtain⟨eh,ek,ev⟩:=e;simp only at ea hh⊢;unfold TX;exact Aa ea<|Aa (hh.1) rfl
   ·rcases Bo.mp hx with rfl|hx
    ·exact tk
    ·exact h4 x hx
theorem RF{s:Aj}(I:Inv c F P V s){d:Addr}{es:List Ck}{k:Nat}(hT:IP κs)(ho:s.heap.get? d=some (Dy es k))(kk:IB c.w es (κs.map .tup))(rk:Ao c.w F (es.map (·.key)) (κs.map .tup)):
  ∃xs,s.heap.DictOfH (tupK c) d xs/\xs.map (·.1)=κs/\xs.map (·.2.2)=es.map (·.val):=by
 refine Fd (Acz I hT rk kk.hash) ?_;intro xs h1 h2 h3 h4;refine⟨xs,⟨_,es.toArray,k,ho,⟨rfl,rfl,rfl⟩,rfl,by simpa using h1,h4,?_⟩,h2,h3⟩;exact Aa h2<|QI _ (λa b Bb e=>Bb (congrArg _ e)) kk.nodup
theorem AcA{xs:List (List AV×Addr×Ac)}{vs:List AV}{k:List AV}{v:AV}(h2:xs.map (·.1)=κs)(nd:κs.Nodup)(rv:Ao c.w F (xs.map (·.2.2)) vs)(hk:κs[i]?=some k)(hv:vs[i]?=some v):
  ∃p,QJ xs k=some p/\Rep c.w F p.2 v:=by
 refine Ad (rv.get hv) ?_;clear hv;intro u hu ru;replace hk:=Eq.symm h2▸hk;simp only[Bp,D8] at hk hu;refine Ad hk ?_;clear hk;intro hZ;obtain⟨k',p⟩:=hZ;rintro h5 rfl;refine Ad hu ?_;clear hu;rintro q h6 rfl;replace h6:=h5▸h6;replace h6:=Ay h6;subst h6;exact⟨p,atKey_of_get (by exact Aa h2<|nd) h5,ru⟩
theorem cV{xs:List (List AV×Addr×Ac)}{k:List AV}:(QJ xs k).isSome=decide (k∈xs.map (·.1)):=by
 unfold QJ;refine Aa Option.isSome_map ?_;by_cases h:k∈xs.map (·.1)
 ·refine Aa (decide_eq_true h) ?_;rewrite[Aab];refine Ad (Bj.mp h) ?_;clear h;intro x hx e;exact⟨x,hx,by simpa using e⟩
 ·refine Aa (decide_eq_false h) ?_;rewrite[JA];intro q;rewrite[Aab] at q;refine Ad q ?_;clear q;intro x hx e;exact h (Bj.mpr ⟨x,hx,by simpa using e⟩)
theorem Vz(ok:Ok n A):(tupK c).room A.in1:=by show A.units+1+30<DC;have:=ok.un;unfold DC;exact M39 this
theorem AL.OD{a:AV}{vs:List AV}{k:List AV}{v:AV}(h:EE V a (κs.map .tup) vs)(hT:IP κs)(hk:κs[i]?=some k)(hv:vs[i]?=some v)(q:Q v V):AL c n a (.tup k) V Q:=by intro F P ov iv value slice r1 r2 A s ok I;obtain⟨d,es,kk,rfl,ho,ko,rk,rv,m⟩:=h.at I r1;refine Ch (RF I hT ho ko rk) ?_;intro xs hD h1 h2;have hm:=hT k (A8 hk);refine Ad (OC I r2 hm.1 hm.2) ?_;rintro ka rfl tk;have nd:κs.Nodup:=QI _ (λa b Bb e=>Bb (congrArg _ e)) ko.nodup;refine Ad (AcA h1 nd (h2▸rv) hk hv) ?_;intro p hp rp;refine Ar (Oj slice (.ref d) (.ref ka)) ?_;intro ops e;exact Qz (ops:=ops) hD.typeIs zT.lookup (wpAny_getItem_heap (Vz ok) tk hD hp ⟨F,V,v,.refl,I.toks _,rp,q⟩) e
theorem AR.cW{a:AV}{vs:List AV}{k:List AV}(h:EE V a (κs.map .tup) vs)(hT:IP κs)(hf:AV.flat 8 (.tup k)=true)(hk:AV.areKeys k=true)(q:Q (.bool (!decide (k∈κs))) V):AR c n .NotIn (.tup k) a V Q:=by
 intro F P kv ov r1 r2 A s ok I;obtain⟨d,es,kk,rfl,ho,ko,rk,rv,m⟩:=h.at I r2;refine Ch (RF I hT ho ko rk) ?_;intro xs hD h1 h2;refine Ad (OC I r1 hf hk) ?_;rintro ka rfl tk;have fin:∀b:Bool,b=decide (k∈κs)->∀t,JP c c.AlW F P Q (.bool (!b)) {s with toks:=t}:=λb e t=>⟨F,V,_,.refl,I.toks _,.bool _,Aa e<|q⟩;have hs:=cV (xs:=xs) (k:=k);replace hs:=h1▸hs;refine Ak ?_;unfold X5
 try with_reducible refine Et ?_
 refine Ak (NM hD.typeIs Yn.lookup ?_);rw[if_neg (by exact Aa (zY _)<|TV)];refine Ak (wpAny_callSpecialUnlessNone?_slot (name:=HD "__contains__") hD.typeIs Yn
  (L5 Yn hD.typeIs entry_dict_contains ?_ (args_dict_contains _ _)))
 show Au _ _ (dictGet d (.ref ka)>>=_) _ _ s;refine Ak (wpAny_dictGet_heap (Vz ok) tk hD ?_);cases hf:QJ xs k with
 | some p=>
  replace hs:=hf▸hs;exact AF ⟨_,rfl,TA (AF (fin true hs _))⟩
 | none=>
  replace hs:=hf▸hs;exact Ak (wpAny_pendingKey_other m (AF ⟨_,rfl,TA (AF (fin false hs _))⟩))
theorem cX{h h':Heap}{d ka:Addr}{es:List Ck}{m:Nat}{xs:List (List AV×Addr×Ac)}{κs:List (List AV)}{vs:List AV}{k:List AV}{v:AV}{vv:Ac}(ho:h.get? d=some (Dy es m))(hD:h.DictOfH (tupK c) d xs)(h1:xs.map (·.1)=κs)
  (h2:xs.map (·.2.2)=es.map (·.val)) (rk:Ao c.w F (es.map (·.key)) (κs.map .tup)) (rv:Ao c.w F (es.map (·.val)) vs) (hT:IP κs) (hk:AV.areKeys k=true) (r1:Rep c.w F (.ref ka) (.tup k)) (r2:Rep c.w F vv v) (hn:k∉κs)
  (Ef:h'.DictOfH (tupK c) d (storedH xs k ka vv)):∃o,h'.get? d=some o/\Fe c.w F o (.dict ((κs++ [k]).map .tup) (vs++ [v])):=by
 have AcB:QJ xs k=none:=by have:=cV (xs:=xs) (k:=k);replace this:=h1▸this;replace this:=(decide_eq_false hn)▸this;simpa using this
 rewrite[storedH_new AcB] at Ef;refine UM Ef ?_;clear Ef;intro o Od ep FV;intro hZ;refine Bq hZ ?_;clear hZ;intro e1 e2 e3;intro e4 he hi IG;obtain⟨oc,od,odt,os⟩:=o;simp only at e1 e2 e3 e4;subst e1;subst e2;subst e3;subst e4;obtain⟨l⟩:=Od;simp only at he;subst he;have old:Ao c.w F (xs.map λx=>CB x.2.1) (κs.map .tup):=by
  refine Zr hD ?_;clear hD;intro o2 RG ep2 g1 _ g2 g3 _;replace g1:=ho▸g1;replace g1:=Ay g1;subst g1;cases g2;have:es.map (·.key)=xs.map λx=>CB x.2.1:=by
   have:es=xs.map (TX (tupK c)):=by simpa using g3
   exact Aa this<|Aa BC rfl
  refine AS this ?_;exact rk
 refine⟨_,FV,.dict (n:=ep) ⟨?_,?_,?_⟩ ?_ ?_⟩
 ·refine Aa BC<|Aa BC<|Aa Bs ?_;refine AS h1 ?_;simp only[Bs,BC,EO,Aac];rfl
 ·have:(xs++ [(k,ka,vv)]).map (·.1)=κs++ [k]:=by simp[h1]
  replace IG:=this▸IG;exact zQ _ (λa b Bb e=>Bb (AV.tup.inj e)) IG
 ·refine .inr (.inr ?_);refine Aa List.all_map ?_;rewrite[EP];intro x hx;rcases C9.mp hx with hx|hx
  ·exact(hT x hx).2
  ·simp at hx;subst hx;exact hk
 ·refine Aa BC<|Aa Bs<|Aa Bs ?_;exact old.append (.cons r1 .nil)
 ·refine Aa BC<|Aa Bs ?_;have e5:xs.map ((λx:Ck=>x.val)∘TX (tupK c))=es.map (·.val):=by refine AS h2 ?_;rfl
  exact Aa e5<|rv.append (.cons r2 .nil)
theorem Dd.OD{a:Addr}{κs:List (List AV)}{vs:List AV}{k:List AV}{v:AV}{Q:St->Prop}(h:V a=some (.dict (κs.map .tup) vs))(hT:IP κs)(hf:AV.flat 8 (.tup k)=true)(hk:AV.areKeys k=true)(hz:κs.length<=Bc)(hn:k∉κs)
  (q:Q (V.set a (.dict ((κs++ [k]).map .tup) (vs++ [v])))):Dd c n (.ref a) (.tup k) v V Q:=by
 intro F P ov iv vv r0 r1 r2 A s ok I;obtain⟨d,es,kk,e,ho,ko,rk,rv,m⟩:=(EE.ref h).at I r0;subst e;cases r0;refine Ch (RF I hT ho ko rk) ?_;intro xs hD h1 h2;refine Ad (OC I r1 hf hk) ?_;rintro ka rfl tk;refine wpAny_setItem_heap (Vz ok) tk hD (λh' Ef hb=>?_) (by have:=congrArg EQ h1;simp at this;exact N7 this hz);refine Ad (cX ho hD h1 h2 rk rv hT hk r1 r2 hn Ef) ?_;intro o FV ob;exact⟨F,_,(),.refl,I.change (t:=_) h hb FV ob,trivial,q⟩
theorem AcC{A:BB}{s:Aj}{a:Addr}{κs:List (List AV)}{vs:List AV}{k:List AV}{v:AV}{iv vv:Ac}{Q:Unit->Aj->Prop}{E:Ac->Aj->Prop}(I:Inv c F P V s)(h:V a=some (.dict (κs.map .tup) vs))(hT:IP κs)(hf:AV.flat 8 (.tup k)=true)
  (hk:AV.areKeys k=true) (hz:κs.length<=Bc) (hn:k∉κs) (hu:A.units+30<DC) (r1:Rep c.w F iv (.tup k)) (r2:Rep c.w F vv v)
  (q:∀h' tk,FN a s.heap h'->Inv c F P (V.set a (.dict ((κs++ [k]).map .tup) (vs++ [v]))) {s with heap:=h',toks:=tk}->Q () {s with heap:=h',toks:=tk}):Au c.M A (dictSet a iv vv) Q E s:=by
 obtain⟨d,es,kk,e,ho,ko,rk,rv,m⟩:=(EE.ref h).at I (.ref a);cases e;refine Ch (RF I hT ho ko rk) ?_;intro xs hD h1 h2;refine Ad (OC I r1 hf hk) ?_;rintro ka rfl tk;refine wpAny_dictSet_heap (knd:=tupK c) hu tk hD (λh' Ef hb=>?_) (by have:=congrArg EQ h1;simp at this;exact N7 this hz);refine Ad (cX ho hD h1 h2 rk rv hT hk r1 r2 hn Ef) ?_;intro o FV ob;exact q _ _ hb (I.change (t:=_) h hb FV ob)
end
section
variable{c:Cx}{n:Nat}{V:St}{Q:AV->St->Prop}
theorem Ha{F:Fz}{vs:List Ac}{x:AV}(r:Ao c.w F vs [x]):∃v,vs= [v]/\Rep c.w F v x:=by obtain⟨_,_,rfl,a,b⟩:=r;subst b;exact⟨_,rfl,a⟩
theorem Lg{F:Fz}{vs:List Ac}{x y:AV}(r:Ao c.w F vs [x,y]):∃u v,vs= [u,v]/\Rep c.w F u x/\Rep c.w F v y:=by obtain⟨_,_,rfl,a,_,_,rfl,d,e⟩:=r;subst e;exact⟨_,_,rfl,a,d⟩
theorem int_inv{F:Fz}{i:Int}(r:Rep w F v (.int i)):∃t,v= .int i t:=r
theorem str_inv{F:Fz}(r:Rep w F v (.str x)):∃t,v= .str x t:=r
theorem An.len{a:AV}{b:Bool}(h:Cb V a b xs)(hz:xs.length<2^62)(q:Q (.int xs.length) V):An c n (.builtin "len") [a] V Q:=by
 intro F P vs r A s ok I;refine Ad (Ha r) ?_;clear r;rintro v rfl r1;obtain⟨l,us,k,rfl,ho,rl⟩:=h.at I r1;have e:us.toArray.size=xs.length:=Aa DB<|Aa rl.length rfl;cases b with
 | true=>exact call_len_list (Cu ho) (by exact Aa e<|Iy hz rfl) ⟨F,V,_,.refl,I.toks _,.int _ _,Aa e<|q⟩
 | false=>exact len_tuple (UY ho) (by exact Aa e<|Iy hz rfl) ⟨F,V,_,.refl,I.toks _,.int _ _,Aa e<|q⟩
theorem An.abs{i:Int}(q:Q (.int (if i<0 then-i else i)) V):An c n (.builtin "abs") [.int i] V Q:=by intro F P vs r A s ok I;refine Ad (Ha r) ?_;clear r;rintro v rfl r1;refine Ar (int_inv r1) ?_;clear r1;rintro t rfl;exact call_abs_int λu tk=>⟨F,V,_,.refl,I.toks _,.int _ _,q⟩
theorem An.VA{i:Int}(q:Q (.int i) V):An c n (.type "int") [.int i] V Q:=by intro F P vs r A s ok I;refine Ad (Ha r) ?_;clear r;rintro v rfl r1;refine Ar (int_inv r1) ?_;clear r1;rintro t rfl;exact call_int_int ⟨F,V,_,.refl,I,.int _ _,q⟩
theorem An.cY{b:Bool}(q:Q (.int (if b then 1 else 0)) V):An c n (.type "int") [.bool b] V Q:=by intro F P vs r A s ok I;refine Ad (Ha r) ?_;clear r;rintro v rfl r1;subst r1;exact call_int_bool ⟨F,V,_,.refl,I.toks _,.int _ _,q⟩
theorem An.OE{a:AV}(h:FF c V a xs)(hz:xs.length<=Bc)(q:Q (.tup xs) V):An c n (.type "tuple") [a] V Q:=by intro F P vs r A s ok I;refine Ad (Ha r) ?_;clear r;rintro v rfl r1;refine BS (h F P s v I r1) ?_;rintro l us rfl hL rl;refine call_tuple_list hL (λh' hk=>?_) (by exact Aa DB<|Aa rl.length<|hz);have I1:Inv c F P V {s with heap:=h'}:=I.keeps (t:=s.toks) hk;refine Bq I1.fresh ?_;intro f1 f2 f3;have le:=Fz.Dt (o:=AM "tuple" us.toArray 0) f1;exact⟨_,V,_,le,(I1.push (t:=s.toks) (AM "tuple" us.toArray 0)).freeze (Ct _ rfl) f1 f2 f3,.tup Fz.AC (rl.mono le),q⟩
theorem An.listS{a:AV}{b:Bool}(h:Cb V a b xs)(hz:xs.length<=Bc)(q:∀d,V d=none->Q (.ref d) (V.set d (.list xs))):An c n (.type "list") [a] V Q:=by intro F P vs r A s ok I;refine Ad (Ha r) ?_;clear r;rintro v rfl r1;obtain⟨l,us,k,rfl,ho,rl⟩:=h.at I r1;refine Bq I.fresh ?_;intro f1 f2 f3;refine call_list_seq l (T:=if b then "list" else "tuple") (by cases b<;>simp) ho (by cases b<;>rfl) rfl (λh' c' hk hg=>?_) (by exact Aa DB<|Aa rl.length<|hz);have I1:Inv c F P V {s with heap:=h'}:=I.keeps (t:=s.toks) hk;exact⟨F,_,_,.refl,I1.own hg f1 f2 (.list (n:=c') rl),.ref _,q _ f3⟩
theorem An.extend{a:Addr}(h:V a=some (.list xs))(hz:xs.length+ys.length<=Bc)(q:Q .none (V.set a (.list (xs++ys)))):An c n (.builtin "list.extend") [.ref a,.lst ys] V Q:=by intro F P vs r A s ok I;refine BS (Lg r) ?_;clear r;rintro u v rfl r1 r2;subst r1;obtain⟨us,k,ho,rl⟩:=I.list h;obtain⟨b,ws,k2,rfl,e2,Rv⟩:=lst_inv r2;have DY:us.toArray.size+ws.toArray.size<=sizeLine:=Aa DB<|Aa DB<|Aa rl.length<|Aa Rv.length<|hz;refine L0 yS ⟨_,ho,rfl⟩ PySem.F.entry_list_extend (PySem.F.args_list_extend_2 _ _) (AutoSeq1.list_extend_list_list_0 a us.toArray k b ws.toArray k2 (extend_door DY) (AP (Gh _ _) DY)) ⟨ho,I.hf _ _ e2,?_⟩;have J:=I.UZ (t:=s.toks) h ho (λx=>x++ws.toArray) (ws:=us++ws) (by simp) (rl.append Rv);exact⟨F,_,_,.refl,J,.none,q⟩
theorem An.cZ{a:AV}{is:List Int}{i:Int}(h:Cb V a true (is.map .int))(q:Q (.int (is.count i:Nat)) V):An c n (.builtin "list.count") [a,.int i] V Q:=by
 intro F P vs r A s ok I;refine BS (Lg r) ?_;clear r;rintro u v rfl r1 r2;obtain⟨l,us,k,rfl,ho,rl⟩:=h.at I r1;refine Ar (int_inv r2) ?_;clear r2;rintro t rfl;have hint:∀{us:List Ac}{is:List Int},Ao c.w F us (is.map .int)->(∀y∈us,∃j u,y= .int j u)/\us.countP (TY i)=is.count i:=by
  intro us is r;induction is generalizing us with
  | nil=>subst r;exact⟨λy h=>(by cases h),rfl⟩
  | cons j js ih=>
   obtain⟨_,_,rfl,a,b⟩:=r;refine Ar (int_inv a) ?_;clear a;rintro u rfl;refine Ah (ih b) ?_;clear b;intro i1 i2;refine⟨λy hy=>?_,?_⟩
   ·rcases Bo.mp hy with rfl|hy
    ·exact⟨_,_,rfl⟩
    ·exact i1 y hy
   ·refine Aa List.countP_cons<|Aa List.count_cons<|Aa i2 ?_;have:TY i (.int j u)=(j==i):=rfl;refine Aa this ?_;rfl
 refine Ah (hint rl) ?_;clear rl;intro h1 h2;refine L0 yT ⟨_,ho,rfl⟩ PySem.F.entry_list_count (PySem.F.args_list_count_2 _ _) (MeetsSeq.list_count l us.toArray k (.int i t) (TY i) λy hy=>?_) ⟨ho,?_⟩
 ·obtain⟨j,u,rfl⟩:=h1 y (by simpa using hy);have:=AlC j i u t;have e:TY i (.int j u)=(j==i):=rfl;exact Aa e<|this
 ·show _;refine⟨F,V,_,.refl,I.toks _,.int _ _,?_⟩;exact Aa (show us.toArray.toList=us from rfl)<|Aa h2<|q
theorem An.startsWith{y:Str}(q:Q (.bool (Aad x y)) V):An c n (.builtin "str.startswith") [.str x,.str y] V Q:=by intro F P vs r A s ok I;refine BS (Lg r) ?_;clear r;rintro u v rfl r1 r2;refine Ar (str_inv r1) ?_;clear r1;rintro t rfl;refine Ar (str_inv r2) ?_;clear r2;rintro t' rfl;exact SC.startswith ⟨F,V,_,.refl,I,.bool _,q⟩
theorem An.AcD{y:Str}{rest:List Nat}(ho:Aae x y 0 x.length 1=i::rest)(q:Q (.int i) V):An c n (.builtin "str.index") [.str x,.str y] V Q:=by intro F P vs r A s ok I;refine BS (Lg r) ?_;clear r;rintro u v rfl r1 r2;refine Ar (str_inv r1) ?_;clear r1;rintro t rfl;refine Ar (str_inv r2) ?_;clear r2;rintro t' rfl;exact SC.index ho ⟨F,V,_,.refl,I.toks _,.int _ _,q⟩
end
theorem AcE{M:Ql}{src:Source}{Q:Nat->Aj->Prop}{E:Ac->Aj->Prop}{s:Aj}(hn:n≠0)(h:∀i,i<n->∀d,Q i {s with drawn:=d}):Au M A (choose src n) Q E s:=
 λΓ p Ob=>⟨hn,h _ (Nat.mod_lt _ (Qx hn)) _⟩
theorem AcF(t:EK)(es:Array (Int×Ac))(h:Int)(x:Ac):(TZ t es h x).2.1.led=t.led/\(t.plain=false->(TZ t es h x).2.1.plain=false):=by
 unfold TZ;split
 ·unfold SetTable.orStandIn;dsimp only;split
  ·exact⟨rfl,λh=>h⟩
  ·exact⟨rfl,λZ=>rfl⟩
 ·exact⟨rfl,λZ=>rfl⟩
set_option tactic.hygienic true in
theorem AcG(t:EK)(es:Array (Int×Ac))(wanted:Nat):(L9 t es wanted).2.1.led=t.led/\(t.plain=false->(L9 t es wanted).2.1.plain=false):=by
 unfold L9;split
 ·rename_i t' order e;have h1:t'.led=t.led/\t'.plain=t.plain:=by unfold SetTable.relaid SetTable.laid at e;simp only[Option.bind_eq_bind,Aaf,Option.pure_def,Yh,Aag] at e;refine Ch e ?_;clear e;intro ow _ e1 _;subst e1;exact⟨rfl,rfl⟩
  dsimp only;split
  ·exact⟨h1.1,λh=>by exact Aa (h1.2)<|h⟩
  ·exact⟨rfl,λZ=>rfl⟩
 ·exact⟨rfl,λZ=>rfl⟩
noncomputable def D0(c:Cx):Bool:=c.w.params.followText "set-order"
inductive dA(c:Cx)(h:Heap)(a:Addr)(ks:List Str):Prop
 | mk (es:Array (Int×Ac)) (ep:Nat) (t:EK):h.get? a=some ⟨.type "set",none,.set es ep t,#[]⟩->ElemsOf (JC c.prog c.w) es.toList->(es.toList.map λe=>Qj e.2).Perm ks->es.size<Gj->t.fits es.size=true->
  t.led= !D0 c->(es.size≠0->t.plain=false)->dA c h a ks
structure GD(c:Cx)(h:Heap)(a:Addr)(ks:List Str):Prop where
 nd:ks.Nodup
 ob:dA c h a ks
theorem AcH{l:List (Int×Ac)}(h:ElemsOf (JC c.prog c.w) l){e:Int×Ac}(he:e∈l):∃x t,e.2= .str x t:=by refine Ah (h e he) ?_;intro hZ;refine Ad hZ ?_;clear hZ;intro k hk _;intro _;refine Ar (TR hk) ?_;clear hk;intro t ht;exact⟨k,t,ht⟩
theorem str_is{k:Str}:(JC c.prog c.w).is k v=true->Qj v=k:=λh=>by
 refine Ar (TR h) ?_;clear h;rintro t rfl;rfl
theorem VB(k:Str)(t:Tok):(JC c.prog c.w).is k (.str k t)=true:=beq_self_eq_true k
section
variable{c:Cx}{A:BB}{s:Aj}{E:Ac->Aj->Prop}
theorem AcI{a:Addr}{ks:List Str}{x:Str}{t:Tok}{Q:Bool->Aj->Prop}(hS:GD c s.heap a ks)(hr:ks.length+1<Gj)
  (h:∀h' b,FN a s.heap h'->GD c h' a (if x∈ks then ks else ks++ [x])->Q b {s with heap:=h'}):Au c.M A (setAddHashed a (.str x t) (Kv c.w x)) Q E s:=by
 obtain⟨nd,es,ep,tb,ho,Hb,hp,hb,hf,Eg,A3⟩:=hS;have CP:es.size=ks.length:=by have:=hp.length_eq;simpa using this
 have MI:=VB (c:=c) x t;unfold setAddHashed setAddHashedIn;refine Et (Ak (JD ho rfl hf ?_));dsimp only;refine Aa (byScan_of rfl hb Hb) ?_;simp only[↓reduceIte];unfold setAddByScan;refine Ak ?_;refine Ak (L6 ?_);refine Ak (wpAny_setScan_of MI ho rfl hf Hb ?_);have mem_iff:x∈ks↔ ∃e∈es.toList,(JC c.prog c.w).is x e.2=true:=by
  rewrite[<-hp.mem_iff];rewrite[Bj];constructor
  ·intro hZ;refine Ad hZ ?_;clear hZ;intro e he hx;refine DO (AcH Hb he) ?_;intro y u hy;replace hx:=hy▸hx;have:y=x:=hx;subst this;exact⟨e,he,Aa hy<|VB y u⟩
  ·intro hZ;refine Ad hZ ?_;clear hZ;intro e he hx;exact⟨e,he,str_is hx⟩
 cases dB:List.findIdx? (λe=>(JC c.prog c.w).is x e.2) es.toList with
 | some j=>
  dsimp only;obtain⟨hj,hpj,_⟩:=List.findIdx?_eq_some_iff_getElem.mp dB;have hm:x∈ks:=mem_iff.mpr ⟨es.toList[j],NN hj,hpj⟩;refine AF (AF ?_);have:=h s.heap false (Aah a s.heap) (by exact Aa (if_pos hm)<|⟨nd,es,ep,tb,ho,Hb,hp,hb,hf,Eg,A3⟩);cases s;exact this
 | none=>
  dsimp only;have hm:x∉ks:=λq=>by
   refine Ad (mem_iff.mp q) ?_;clear q;intro e he hx;have:=List.findIdx?_eq_none_iff.mp dB e he;replace this:=hx▸this;exact Bool.noConfusion this
  have hgw:∀(b:Bool){Df:Aj}{Q':Unit->Aj->Prop},Q' () Df->Au c.M A (match b with | true=>rule "set.scan.the-table-gave-way" | false=>pure ()) Q' E Df:=
   λb Df Q' hq=>by cases b<;>first | exact AF hq | exact L6 hq
  have JW:=layNew_perm tb es (Kv c.w x) (.str x t);have RH:=layNew_fits tb es (Kv c.w x) (.str x t);have FW:=AcF tb es (Kv c.w x) (.str x t);generalize hL:TZ tb es (Kv c.w x) (.str x t)=L at JW RH FW⊢;obtain⟨CY,t1,AcJ,gave⟩:=L;dsimp only at JW RH FW⊢;replace JW:=Yk▸JW;have dD:ElemsOf (JC c.prog c.w) CY.toList:=(Hb.push (k:=x) MI rfl).perm JW;have FC:(CY.toList.map λe=>Qj e.2).Perm (ks++ [x]):=by refine(JW.map _).trans ?_;exact Aa Bs<|hp.append_right _
  have hsz1:CY.size=ks.length+1:=by have:=FC.length_eq;simpa using this
  have DP:CY.size<scanBound:=Aa hsz1<|hr;have Rk:(ks++ [x]).Nodup:=by rewrite[NO];exact⟨nd,by simp,λa ha b hb e=>by simp at hb;subst hb;subst e;exact hm ha⟩
  refine Ak (hgw _ ?_);have tail:∀t2:EK,t2.fits CY.size=true->t2.led=(!D0 c)->t2.plain=false->∀{g:Bool->Sem Unit},(∀(b:Bool)(Df:Aj)(Q':Unit->Aj->Prop),Q' () Df->Au c.M A (g b) Q' E Df)->
    Au c.M A (do
     storeSet a CY t2
     if(!AcJ&&t2.tooFull)=true then do
       g (L9 t2 CY (Ma CY.size)).2.2
       storeSet a (L9 t2 CY (Ma CY.size)).1 (L9 t2 CY (Ma CY.size)).2.1
       pure (some true)
      else pure (some true)) (λr s'=>∃h',s'={s with heap:=h'}/\r=some true/\FN a s.heap h'/\GD c h' a (ks++ [x])) E s:=by
   intro t2 f2 l2 p2 g hg;refine Ak (Aai ho rfl ?_ (Aaj DP));have MJ:(s.heap.update a (Ua CY t2)).get? a=some ⟨.type "set",none,.set CY (ep+1) t2,#[]⟩:=LZ (Ua CY t2) ho rfl;have JX:=NG s.heap a (Ua CY t2);split
   ·have DW:=relayAll_perm t2 CY (Ma CY.size);have MA:=relayAll_fits t2 CY (Ma CY.size);have FD:=AcG t2 CY (Ma CY.size);generalize hR:L9 t2 CY (Ma CY.size)=R at DW MA FD⊢;obtain⟨RG,t3,gave2⟩:=R;dsimp only at DW MA FD⊢;have hsz2:RG.size=CY.size:=by refine AS Ub ?_;exact Aa DW.length_eq<|Aa Ub rfl
    refine Ak (hg _ _ _ ?_);refine Ak (Aai MJ rfl ?_ (Aaj (by exact Aa hsz2<|DP)));exact AF ⟨_,rfl,rfl,JX.trans (NG _ a _),Rk,RG,_,t3,LZ (Ua RG t3) MJ rfl,dD.perm DW,(DW.map _).trans FC,Aa hsz2<|DP,MA,FD.1.trans l2,λZ=>FD.2 p2⟩
   ·exact AF ⟨_,rfl,rfl,JX,Rk,CY,_,t2,MJ,dD,FC,DP,f2,l2,λZ=>p2⟩
  have fin:∀(r:Option Bool)(s':Aj),(∃h',s'={s with heap:=h'}/\r=some true/\FN a s.heap h'/\GD c h' a (ks++ [x]))->
    Au c.M A (match r with | some added=>pure added | none=>setAddHashedIn a (.str x t) (Kv c.w x) 99999) Q E s':=by
   intro r s';intro hZ;refine Fd hZ ?_;clear hZ;rintro h' rfl rfl sb hs;exact AF (h h' true sb (by exact Aa (if_neg hm)<|hs))
  split
  ·refine Ak ?_;refine Aa (hashByValue_scannable 8 rfl) ?_;refine AF ?_;refine AN (tail {t1 with plain:=false} (SetTable.fits_plain_off RH) (FW.1.trans Eg) rfl ?_) (λr s' hr=>fin r s' hr) λZ Z e=>e;intro b Df Q' hq;cases b<;>first | exact AF hq | exact L6 hq
  ·rename_i hnp;refine Ak (AF ?_);simp only[↓reduceIte];refine AN (tail t1 RH (FW.1.trans Eg) (by simpa using hnp) ?_) (λr s' hr=>fin r s' hr) λZ Z e=>e;intro b Df Q' hq;cases b<;>first | exact AF hq | exact L6 hq
noncomputable def dd:List Str->List Str->List Str
 | acc,[]=>acc
 | acc,x::r=>dd (if x∈acc then acc else acc++ [x]) r
theorem VC(l acc:List Str):(dd acc l).length<=acc.length+l.length:=by
 induction l generalizing acc with
 | nil=>exact BJ _
 | cons x r ih=>
  refine AP (ih (if x∈acc then acc else acc++ [x])) ?_;by_cases h:x∈acc
  ·exact Aa (if_pos h)<|Kq (L4 _) _
  ·exact Aa (if_neg h)<|Aa AY<|BA (Nat.add_right_comm _ _ _)
theorem dE(l acc:List Str)(y:Str):y∈dd acc l↔y∈acc\/y∈l:=by
 induction l generalizing acc with
 | nil=>exact⟨.inl,λh=>h.resolve_right GS⟩
 | cons x r ih=>
  refine(ih (if x∈acc then acc else acc++ [x])).trans ?_;by_cases h:x∈acc
  ·exact Aa (if_pos h)<|⟨λq=>q.imp_right (.tail _),λq=>q.elim .inl λq=>(Bo.mp q).elim (λe=>.inl (e▸h)) .inr⟩
  ·refine Aa (if_neg h) ?_;rewrite[C9];rewrite[B3];rewrite[Bo];rewrite[or_assoc];rfl
theorem AcK{F:Fz}:∀{vs:List Ac}{xs:List Str},Ao c.w F vs (xs.map .str)->∀(i:Nat) v,vs[i]?=some v->∃x t,xs[i]?=some x/\v= .str x t:=λ{vs xs} r i v h=>by
 refine Ad (r.get' h) ?_;clear h;intro y hy ry;simp only[Bp,D8] at hy;refine Ad hy ?_;clear hy;rintro x hx rfl;refine Ar (str_inv ry) ?_;clear ry;rintro t rfl;exact⟨x,t,hx,rfl⟩
theorem ite_le{acc:List Str}(h:acc.length<=i):(if x∈acc then acc else acc++ [x]).length<=i+1:=by
 split
 ·exact Yo h
 ·exact N7 AY (Tu h)
theorem AcL{R:NK->Aj->Prop}(hh:A.handled=none){I l:Addr}{vs:List Ac}{xs:List Str}(CQ:∀(i:Nat) v,vs[i]?=some v->∃x t,xs[i]?=some x/\v= .str x t)(hlen:vs.length=xs.length)(hb:xs.length+1<Gj)(OF:S≠I)(hSl:S≠l)(hlI:l≠I):
  ∀(k i:Nat)(s:Aj)(acc:List Str),vs.length-i=k->i<=vs.length->acc.length<=i->s.heap.IsListIter I l i->s.heap.IsList l vs.toArray->GD c s.heap S acc->
   (∀h' tk,(∀b o,b≠S->b≠I->s.heap.get? b=some o->h'.get? b=some o)->GD c h' S (dd acc (xs.drop i))->R (.ok (.ret .none)) {s with heap:=h',toks:=tk})->
   Hy c.M A (.builtin "set.update.loop" ⟨[.ref S,.ref I],[]⟩) R s:=by
 intro k;induction k with
 | zero=>
  intro i s acc hk hi ha hit hL hS hR;have OG:i=vs.length:=EM hi (Yp hk);subst OG;refine KL Aak ?_;refine Aa (QK Yq _) ?_;refine Ak (Aal (A:=A.in1) hh hit hL (by simp) λh' he=>?_);refine AF (hR h' s.toks (λb o h1 h2 e=>he b o h2 e) ?_);refine Aa (Uc (HJ hlen)) ?_;obtain⟨nd,es,ep,tb,ho,r1,r2,r3,r4,r5,r6⟩:=hS;exact⟨nd,es,ep,tb,he _ _ OF ho,r1,r2,r3,r4,r5,r6⟩
 | succ k ih=>
  intro i s acc hk hi ha hit hL hS hR;have AH:i<vs.length:=Aam hk;have hkp:vs.length-(i+1)=k:=congrArg Nat.pred hk;refine KL Aak ?_;refine Aa (QK Yq _) ?_;have hx:vs.toArray[i]?=some vs[i]:=by simp[AH]
  refine Ak (Aan hit hL hx λh1 IK JX=>?_);refine Br (CQ i vs[i] (BG AH)) ?_;intro x t hx1 OH;refine Aa OH ?_;have hS1:GD c h1 S acc:=by obtain⟨nd,es,ep,tb,ho,r1,r2,r3,r4,r5,r6⟩:=hS;exact⟨nd,es,ep,tb,(JX.2 _ OF).trans ho,r1,r2,r3,r4,r5,r6⟩
  refine Ak (Et ?_);unfold setAdd;refine Et ?_;refine Ak ((JC c.prog c.w).pyHash (k:=x) (VB x t) ?_);refine AcI (c:=c) (s:={s with heap:=h1,toks:=s.toks+1}) hS1 (M87 hlen hb ha AH) λh2 b OI hS2=>?_;have e2:dd acc (xs.drop i)=dd (if x∈acc then acc else acc++ [x]) (xs.drop (i+1)):=by
   have dF:i<xs.length:=hlen▸AH;refine Aa (Ud dF) ?_;have:xs[i]=x:=by have:=BG dF;replace this:=hx1▸this;exact(Ay this).symm
   refine Aa this ?_;rfl
  refine AF ⟨NP Yq _,ih (i+1) _ (if x∈acc then acc else acc++ [x]) (hkp) AH (ite_le ha) (IK.at λo e=>(OI.2 _ (Ne.symm OF)).trans e) (hL.at λo e=>(OI.2 _ (Ne.symm hSl)).trans ((JX.2 _ hlI).trans e)) hS2 λh' tk VD IQ=>?_⟩;exact hR h' tk (λb o DP Gu e=>VD b o DP Gu ((OI.2 b DP).trans ((JX.2 b Gu).trans e))) (e2▸IQ)
theorem code_set_new{Q₁:Ac->Aj->Prop}(a:Ac)
  (h:Q₁ (.ref s.heap.objs.size) {s with heap:=s.heap.push {cls:= .type "set",dict:=none,data:= .set #[] 0 (.fresh 0 0 (!D0 c))}}):
  Hy c.M A (.call (.builtin "set.__new__") ⟨[.type "set",a],[]⟩) (wants Q₁ E) s:=by
 refine XK ?_;show Au _ A.in1 (do checkBuiltinCall "set.__new__" ⟨[.type "set",a],[]⟩;again (.builtin "set.__new__" ⟨[.type "set",a],[]⟩)) _ _ s;refine Ak (wpAny_of_eq (PySem.F.newCall_set_1 a) (AF ⟨NP Aao _,KL PySem.F.entry_set_new ?_⟩));refine Aa (QK Aao _) ?_;unfold HE.«set.__new__» AlD;have RI:=sub_set_self;obtain⟨hp,g,d,tk,os⟩:=s;dsimp only
 wp_walk
 refine TK (AF ?_);dsimp only;simp only[newObj];refine Ak (wpAny_alloc (AF ?_));exact AF h
set_option maxRecDepth 100000 in
set_option maxHeartbeats 3200000 in
theorem AcM{l a:Addr}{vs:List Ac}{xs:List Str}{Q:Fin->Aj->Prop}(hh:A.handled=none)(hl:s.heap.IsList l vs.toArray)(ho:s.heap.get? a=some {cls:= .type "set",dict:=none,data:= .set #[] 0 (.fresh 0 0 (!D0 c))})(ne:a≠l)
  (CQ:∀(i:Nat) v,vs[i]?=some v->∃x t,xs[i]?=some x/\v= .str x t) (hlen:vs.length=xs.length) (hb:xs.length+1<Gj) (h:∀h' tk,GD c h' a (dd [] xs)->(∀b o,b≠a->s.heap.get? b=some o->h'.get? b=some o)->Q (.done (.ret .none)) {s with heap:=h',toks:=tk}):
  Au c.M A (HE.«set.__init__» {pos:= [.ref a,.ref l]}) Q E s:=by
 obtain⟨ol,Vr,FB,nl,JV⟩:=id hl;obtain⟨ocls,odict,odata,AlU⟩:=ol;simp only at FB JV;subst FB;subst JV;have hsls:=PySem.F.sub_list_set;have hslf:=PySem.F.sub_list_frozenset;have Bb:(FR "list"==FR "dict")=false:=by decide
 unfold HE.«set.__init__» noKeywords AlE;generalize hPI:Hz=PI
 wp_walk
 subst hPI;refine X9 hl ?_;refine Ak (wpAny_runValue ?_);have hlS:=Dh (Cr Vr);refine AcL (A:=_) (c:=c) (by simp[hh]) CQ hlen hb (Dh (Cr ho)) ne hlS vs.length 0 _ [] (Yr _) (Cq _) (BJ _) ⟨_,Ct _ rfl,rfl,rfl⟩ (hl.push _)
  ⟨Il,#[],0,_,Di _ ho,λe he=>by simp at he,.rfl,by unfold Gj;decide,rfl,rfl,λh=>absurd rfl h⟩ λh' tk hk IQ=>?_
 refine AF ?_;exact AF (h h' tk (by simpa using IQ) λb o hba e=>hk b o hba (Dh (Cr e)) (Di _ e))
set_option maxHeartbeats 2000000 in
theorem AcN{l:Addr}{vs:List Ac}{xs:List Str}{Q:Ac->Aj->Prop}(hh:A.handled=none)(hl:s.heap.IsList l vs.toArray)(CQ:∀(i:Nat) v,vs[i]?=some v->∃x t,xs[i]?=some x/\v= .str x t)(hlen:vs.length=xs.length)
  (hb:xs.length+1<Gj) (h:∀h' tk,(∀b o,s.heap.get? b=some o->h'.get? b=some o)->GD c h' s.heap.objs.size (dd [] xs)->Q (.ref s.heap.objs.size) {s with heap:=h',toks:=tk}):
  Au c.M A (Ik (.type "set") [.ref l]) Q E s:=by
 refine DO KM.mro ?_;intro cc tl hmro;have hmade:=KM.made;have RI:=KM.sub;refine TE (XK ?_);refine AF ⟨Aap _ (by decide+kernel),KL PySem.F.entry_type_call ?_⟩;refine Aa (Around.under_plain (weight_type_call_type "set" [.ref l] []) rfl) ?_;have h1:=KM.notType;have h2:=KM.canCreate;have hct:=PySem.F.typeCall_set_1 (.ref l)
 repeat (any_goals (first | assumption | wp_step))
 refine Ky (code_set_new (c:=c) (.ref l) (E:=E) (Q₁:=λobj Df=>obj= .ref s.heap.objs.size/\Df={s with heap:=s.heap.push {cls:= .type "set",dict:=none,data:= .set #[] 0 (.fresh 0 0 (!D0 c))}}) ⟨rfl,rfl⟩) λr Df hr=>?_;cases r with
 | error e=>exact hr
 | ok fl=>
  cases fl with
  | ret obj=>
   refine Ah hr ?_;clear hr;rintro rfl rfl;have hS:(s.heap.push {cls:= .type "set",dict:=none,data:= .set #[] 0 (.fresh 0 0 (!D0 c))}).get? s.heap.objs.size=some {cls:= .type "set",dict:=none,data:= .set #[] 0 (.fresh 0 0 (!D0 c))}:=Ct _ rfl;have hT:Aaq {s with heap:=s.heap.push {cls:= .type "set",dict:=none,data:= .set #[] 0 (.fresh 0 0 (!D0 c))}} (.ref s.heap.objs.size) "set":=⟨_,hS,rfl⟩;have bH:=KM.init.lookup;have hbi:=KM.init.bind (.ref s.heap.objs.size)
   repeat (any_goals (first | assumption | wp_step))
   refine Ky (codeAny_call_builtin (R:=wants (λr Ox=>r= .none/\ ∃h' tk,Ox={s with heap:=h',toks:=tk}/\GD c h' s.heap.objs.size (dd [] xs)/\
     (∀b o,s.heap.get? b=some o->h'.get? b=some o)) E) KM.init.plain PySem.F.entry_set_init (PySem.check_set_init_1 hT (AcM (by simp[hh]) (hl.push _) hS (λe=>hl.elim λZ q=>Js (Cr q.1) e) CQ hlen hb
      λh' tk IQ hk=>⟨rfl,h',tk,rfl,IQ,λb o e=>hk b o (Dh (Cr e)) (Di _ e)⟩))) λr₂ Ox VE=>?_
   ·cases r₂ with
    | error e=>exact VE
    | ok AcO=>
     cases AcO with
     | ret r=>
      obtain⟨rfl,h',tk,rfl,IQ,VD⟩:=VE
      repeat (any_goals (first | assumption | wp_step))
      exact h _ _ VD IQ
     | _=>exact VE.elim
  | _=>exact hr.elim
end
theorem MK:Slot "set_iterator" "__next__" "set_iterator.__next__":=
 .of (owner:="set_iterator") (n:="__next__") (by refine Aa (Ys _ _)<|Aa Yt ?_;kernel_rfl) (by decide+kernel) (by decide+kernel) (by decide+kernel)
  (by first | exact .inl (by decide+kernel) | exact .inr (by decide+kernel)) (by refine Aa (Yu _ _) ?_;kernel_rfl)
theorem dG:Ue table "set_iterator.__next__"=some HE.«set_iterator.__next__» :=entryFor_of_tree (by kernel_rfl)
theorem AcP:Ue table "set.__iter__"=some HE.«frozenset.__iter__» :=entryFor_alias (id':="frozenset.__iter__") (by kernel_rfl) rfl (by decide+kernel) (by kernel_rfl)
theorem dH:Manifest.owners.lookup (String.ofList ['r','o','t','a','r','e','t','i','_','t','e','s'].reverse)=some Manifest.sig_set_iterator:=by kernel_rfl
theorem dI(a:Ac):Uf "set_iterator.__next__" ⟨[a],[]⟩:=by unfold Uf;rw[signature?_of (id:="set_iterator.__next__") (n:= ['_','_','t','x','e','n','_','_']) (o:= ['r','o','t','a','r','e','t','i','_','t','e','s']) (by kernel_rfl) dH];kernel_rfl
section
variable{c:Cx}{A:BB}{s:Aj}{E:Ac->Aj->Prop}
theorem VF{α:Type}:∀{l:List α}{i:Nat}(h:i<l.length),(l[i]::l.eraseIdx i).Perm l
 | x::l,0,h=>.rfl
 | x::l,i+1,h=>by
  simp only[List.getElem_cons_succ,List.eraseIdx_cons_succ];exact(List.Perm.swap x _ _).trans ((VF (l:=l) (by simpa using h)).cons x)
theorem dJ{α:Type}(next:Nat->Nat):∀(n k:Nat)(left:List α)(out:Array α),left.length=n->(Yv next n k left out).toList.Perm (out.toList++left)
 | 0,k,left,out,h=>by
  have:left= []:=Ug.mp h;subst this;exact(C8 _).symm▸ .rfl
 | n+1,k,left,out,h=>by
  have AH:next k % left.length<left.length:=Nat.mod_lt _ (Gr h (HF _))
  have e:Yv next (n+1) k left out=Yv next n (k+1) (left.eraseIdx (next k % left.length)) (out.push left[next k % left.length]):=by show(match left[next k % left.length]? with | some x=>_ | none=>_)=_;exact Aa (BG AH) rfl
  refine Aa e ?_;refine(dJ next n (k+1) _ _ (by refine Aa Aar ?_;simp[AH];exact M49 h)).trans ?_;refine Aa Yk ?_;rewrite[DE];refine List.Perm.append_left _ ?_;have:left.Perm (left[next k % left.length]::left.eraseIdx (next k % left.length)):=(VF AH).symm;exact this.symm
theorem AcQ{α:Type}(next:Nat->Nat)(xs:Array α):(Uh next xs).toList.Perm xs.toList:=by exact dJ next xs.size 0 xs.toList #[] rfl
theorem dK{α:Type}:∀(n:Nat)(l:List α)(s:Aj)(Q:List α->Aj->Prop),l.length=n->(∀r d,r.Perm l->Q r {s with drawn:=d})->Au c.M A (drawOrder n l) Q E s
 | 0,l,s,Q,h,hq=>by
  have:l= []:=Ug.mp h;subst this;exact AF (hq [] s.drawn .rfl)
 | n+1,[],s,Q,h,hq=>by simp at h
 | n+1,x::xs,s,Q,h,hq=>by
  refine Ak (AcE (Aas _) λi hi d=>?_);refine Aa (BG hi) ?_;refine Ak (dK n _ _ _ (by refine Aa Aar ?_;simp at hi⊢;simp at h;rw[if_pos (by assumption)];assumption) λr d2 hp=>AF ?_);exact hq _ d2 ((hp.cons _).trans (VF hi))
theorem RJ{Q:Bool->Aj->Prop}(h:Q (D0 c) s):Au c.M A setsByText Q E s:=by unfold setsByText;exact Ak (TK (AF h))
noncomputable def Lh(first:Ac)(i:Nat)(S:Addr)(n ep:Nat):Obj:={cls:= .type "set_iterator",dict:=none,data:= .fields #[first,Cm i,.ref S,Cm n,Cm ep],slots:= #[]}
inductive Li(c:Cx)(h:Heap)(S:Addr)(es:Array (Int×Ac))(ep:Nat)(t:EK):(Nat->Ac)->List Ac->Prop
 | text:D0 c=true->Li c h S es ep t (λZ=>Cm 0) ((Uh (c.w.params.setOrder S ep) es).toList.map (·.2))
 | drawn {T:Addr} {ps:List Nat} {k:Nat}:D0 c=false->h.get? T=some (AM "tuple" (ps.map λi:Nat=>Cm i).toArray k)->ps.Perm (BN es.size)->Li c h S es ep t (λZ=>.ref T) (ps.map λi=>(es[i]?.map (·.2)).getD .none)
 | small:D0 c=false->es.size<=1->t.led=true->Li c h S es ep t (λi=>if i=0 then Cm 0 else Cm ((t.place[0]?.getD 0+1:Nat))) (es.toList.map (·.2))
theorem Li.perm{es:Array (Int×Ac)}{f:Nat->Ac}(m:Li c h S es ep t f ord):ord.Perm (es.toList.map (·.2)):=by
 cases m with
 | text _=>exact(AcQ _ _).map _
 | drawn _ _ hp=>
  refine(hp.map _).trans ?_;have:(BN es.size).map (λi=>(es[i]?.map (·.2)).getD .none)=es.toList.map (·.2):=by
   apply List.ext_getElem
   ·simp
   ·intro j h1 h2;simp at h1 h2;simp[h1]
  refine Aa this ?_;rfl
 | small _ _ _=>exact .rfl
structure JY(c:Cx)(h:Heap)(S:Addr)(es:Array (Int×Ac))(ep:Nat)(t:EK):Prop where
 ob:h.get? S=some ⟨.type "set",none,.set es ep t,#[]⟩
 ft:t.fits es.size=true
theorem AcR{es:Array (Int×Ac)}{Q:Nat->Aj->Prop}(hs:JY c s.heap S es ep t)(q:Q es.size s):Au c.M A (Yw S) Q E s:=by unfold Yw Yx;exact Ak (Ak (JD hs.ob rfl hs.ft (AF (AF q))))
structure IR(c:Cx)(h:Heap)(I S:Addr)(es:Array (Int×Ac))(ep:Nat)(t:EK)(f:Nat->Ac)(ord:List Ac)(i:Nat):Prop where
 it:h.get? I=some (Lh (f i) i S es.size ep)
 md:Li c h S es ep t f ord
 st:JY c h S es ep t
theorem AcS{S:Addr}{es:Array (Int×Ac)}{ep:Nat}{t:EK}{Q:Ac->Aj->Prop}(hs:JY c s.heap S es ep t)(hz:es.size<Gj)(Eg:t.led= !D0 c)(A3:es.size≠0->t.plain=false)
  (h:∀h' I f ord d tk,(∀b o,s.heap.get? b=some o->h'.get? b=some o)->s.heap.get? I=none->IR c h' I S es ep t f ord 0->Q (.ref I) {s with heap:=h',drawn:=d,toks:=tk}):
  Au c.M A (Hz (.ref S)) Q E s:=by
 have ho:=hs.ob;have hf:=hs.ft;have hT:s.TypeIs (.ref S) "set":=⟨_,ho,rfl⟩;refine Aat hT Aau (L5 Aau hT AcP ?_ (PySem.F.args_set_iter_1 _));show Au _ _ (Yw S>>=_) _ _ s;refine Ak (AcR hs ?_);have make:∀(s1:Aj)(f:Nat->Ac)(ord:List Ac),(∀b o,s.heap.get? b=some o->s1.heap.get? b=some o)->s1.gens=s.gens->s1.os=s.os->Li c s1.heap S es ep t f ord->JY c s1.heap S es ep t->
   Au c.M A.in1 (do ret (<-newFields "set_iterator" [f 0,Cm 0,.ref S,Cm es.size,Cm (<-setEpoch S)])) (λfin s'=>∃v,fin= .done (.ret v)/\ ∃T' r,s'.TypeIs v T'/\typeLookup (.type T') "__next__"=pure (some r)/\Q v s') (λe s'=>E e s') s1:=by
  intro s1 f ord hk hg dL hm CQ;refine Ak (wpAny_setEpoch_of CQ.ob rfl CQ.ft ?_);refine Ak (Jw (AF ?_));have push:∀{b o},s1.heap.get? b=some o->(s1.heap.push (Lh (f 0) 0 S es.size ep)).get? b=some o:=λe=>Di _ e;refine⟨_,rfl,"set_iterator",_,⟨_,Ct _ rfl,rfl⟩,MK.lookup,?_⟩;have:=h (s1.heap.push (Lh (f 0) 0 S es.size ep)) s1.heap.objs.size f ord s1.drawn s1.toks (λb o e=>push (hk b o e)) (by
   cases q:s.heap.get? s1.heap.objs.size with
   | none=>rfl
   | some o=>exact absurd (Cr (hk _ _ q)) (Hu _)) ⟨Ct _ rfl,?_,⟨push CQ.ob,CQ.ft⟩⟩
  ·obtain⟨hp,g,d,tk,os⟩:=s1;simp only at hg dL;subst hg;subst dL;exact this
  ·cases hm with
   | text a=>exact .text a
   | drawn a b d=>exact .drawn a (push b) d
   | small a b d=>exact .small a b d
 refine Ak ?_;unfold setDrawn;refine Ak (JD ho rfl hf ?_);dsimp only;refine Ak (RJ (AF ?_));show Au c.M A.in1 (do
   let first <-if(!D0 c&&(!t.plain&&decide (es.size>1)))=true then XI ((<-drawOrder es.size (BN es.size)).map λ(i:Nat)=>Cm i) else pure (Cm 0)
   ret (<-newFields "set_iterator" [first,Cm 0,.ref S,Cm es.size,Cm (<-setEpoch S)])) _ _ s
 by_cases hb:D0 c=true
 ·refine Aa hb ?_;simp only[Ym,Bool.false_and,Fa,if_false];refine Ak (AF ?_);exact make s (λZ=>Cm 0) _ (λZ Z e=>e) rfl rfl (.text hb) hs
 ·have hb:D0 c=false:=by simpa using hb
  refine Aa hb ?_;by_cases CP:es.size>1
  ·refine Aa (A3 (λCJ=>GW CP (N5 CJ rfl)))<|Aa (decide_eq_true CP) ?_;simp only[Bool.not_false,Bool.and_self,if_true];refine Ak (dK es.size _ s _ FS λps d hp=>?_);refine Ak (Jw ?_ (by show(ps.map λi:Nat=>Cm i).toArray.size<=Bc;exact Aa DB<|Aa (Ai _)<|Aa hp.length_eq<|Aa FS<|Ht (B7 hz (by unfold Gj;exact Aa Ft<|Hr _ _))));refine make _ (λZ=>.ref s.heap.objs.size) _ (λb o e=>Di _ e) rfl rfl (.drawn (ps:=ps) (k:=0) hb (Ct _ rfl) hp) ⟨Di _ ho,hf⟩
  ·refine Aa (decide_eq_false CP) ?_;simp only[X4,Fa,if_false];refine Ak (AF ?_);have:=make s (λi=>if i=0 then Cm 0 else Cm ((t.place[0]?.getD 0+1:Nat))) _ (λZ Z e=>e) rfl rfl (.small hb (GU CP) (by exact Aa Eg<|Aa hb rfl)) hs;exact this
theorem dM{es:Array (Int×Ac)}{p:Nat}{Q:Option (Ac×Nat)->Aj->Prop}(hs:JY c s.heap S es ep t)(hb:D0 c=true){r:Option (Ac×Nat)}(hr:((Uh (c.w.params.setOrder S ep) es)[i]?).map (λe:Int×Ac=>(e.2,p))=r)(q:Q r s):
  Au c.M A (Ui S p i ep) Q E s:=by
 unfold Ui;refine Ak (JD hs.ob rfl hs.ft (Ak (RJ ?_)));refine Aa hb<|Aa (if_pos rfl) ?_;rw[if_neg (by simp)];refine Ak ?_;unfold setWalk;refine Ak (JD hs.ob rfl hs.ft (Ak (RJ ?_)));refine Aa hb<|Aa (if_pos rfl) ?_;subst hr;exact Ak (TK (AF (AF q)))
theorem VG{S:Addr}{es:Array (Int×Ac)}{ep:Nat}{t:EK}{p i:Nat}{Q:Option (Ac×Nat)->Aj->Prop}(hs:JY c s.heap S es ep t)(hb:D0 c=false)(CP:es.size<=1)(Eg:t.led=true)
  (q:∀r,(es[Mb t.place p]?=none->r=none)->(∀e j,es[Mb t.place p]?=some e->t.place[Mb t.place p]?=some j->r=some (e.2,j+1))->Q r s):
  Au c.M A (Ui S p i ep) Q E s:=by
 unfold Ui;refine Ak (JD hs.ob rfl hs.ft (Ak (RJ ?_)));refine Aa hb<|Aa (if_neg TV) ?_;rw[if_neg (by show ¬((!t.plain&&decide (es.size>1))=true);refine Aa (decide_eq_false (XV.mpr CP))<|Aa (X4 _) ?_;decide)];refine Ak ?_;show Au _ _ (if(!t.led&& !es.isEmpty)=true then unsupported "set:maker-not-led" else pure ()) _ _ s;rw[if_neg (by refine Aa Eg ?_;simp)];refine AF (AF (q _ (λe=>?_) λe j he hj=>?_))
 ·exact Aa e rfl
 ·exact Aa he<|Aa hj rfl
set_option tactic.hygienic true in
theorem AcT{I S:Addr}{es:Array (Int×Ac)}{ep:Nat}{t:EK}{f:Nat->Ac}{ord:List Ac}{i:Nat}{x:Ac}{Q:Option Ac->Aj->Prop}(h:IR c s.heap I S es ep t f ord i)(OJ:S≠I)(hx:ord[i]?=some x)
  (q:∀h',IR c h' I S es ep t f ord (i+1)->FN I s.heap h'->Q (some x) {s with heap:=h'}):Au c.M A (Gl (.ref I)) Q E s:=by
 obtain⟨hit,hm,hs⟩:=h;have hT:s.TypeIs (.ref I) "set_iterator":=⟨_,hit,rfl⟩;unfold Gl;refine Ak (wpAny_attempt (Aav (name:=HD "__next__") hT MK
  (L5 MK hT dG ?_ (dI _))))
 show Au _ _ (fieldsOf (.ref I)>>=_) _ _ s;refine Ak (wpAny_fieldsOf hit rfl ?_);have hn:((es.size:Int) !=(es.size:Int))=false:=by simp
 unfold Yx;refine Ak (Ak (JD hs.ob rfl hs.ft (AF ?_)));dsimp only;rw[if_neg (by simp)];have fin:∀(Er:Ac->Aj->Prop)(h':Heap),h'.get? I=some (Lh (f (i+1)) (i+1) S es.size ep)->FN I s.heap h'->
   Au c.M A.in1 (ret x) (λfin s'=>∃v,fin= .done (.ret v)/\Au c.M A (pure (some v)) Q E s') Er {s with heap:=h'}:=by
  intro Er h' hg hb;refine AF ⟨_,rfl,AF (q h' ⟨hg,?_,⟨(hb.2 S OJ).trans hs.ob,hs.ft⟩⟩ hb)⟩;cases hm with
  | text a=>exact .text a
  | drawn a b d=>
   refine .drawn a ((hb.2 _ λe=>?_).trans b) d;replace b:=e▸b;replace b:=hit▸b;simp[Lh,AM] at b
  | small a b d=>exact .small a b d
 have step:∀(Er:Ac->Aj->Prop)(v1:Ac),f (i+1)=v1->
   Au c.M A.in1 (do Mc (.ref I) 0 v1;Mc (.ref I) 1 (Cm ((i:Int)+1));ret x) (λfin s'=>∃v,fin= .done (.ret v)/\Au c.M A (pure (some v)) Q E s') Er s:=by
  intro Er v1 hv;refine Ak (QL hit (by simp) λh1 g1 b1=>?_);refine Ak (QL (s:={s with heap:=h1}) g1 (by simp) λh2 g2 b2=>?_);refine fin Er h2 ?_ (b1.trans b2);refine Aa g2<|Aa hv ?_;simp[Lh,Cm]
 have AcU:∀(Er:Ac->Aj->Prop),f (i+1)=f i->Au c.M A.in1 (do Mc (.ref I) 1 (Cm ((i:Int)+1));ret x) (λfin s'=>∃v,fin= .done (.ret v)/\Au c.M A (pure (some v)) Q E s') Er s:=by intro Er hv;refine Ak (QL hit (by simp) λh2 g2 b2=>?_);refine fin Er h2 ?_ b2;refine Aa g2<|Aa hv ?_;simp[Lh,Cm]
 cases hm with
 | text hb=>
  have OK:((Uh (c.w.params.setOrder S ep) es)[i]?).map (·.2)=some x:=by replace hx:=Bp▸hx;refine AS hx ?_;simp
  refine Ad (D8.mp OK) ?_;clear OK;intro e he hex;refine Ak (dM (r:=some (x,0)) hs hb (by refine Aa he ?_;refine AS hex ?_;rfl) ?_);exact step _ _ rfl
 | drawn hb K4 hp=>
  rename_i T ps k;refine Ak (TW K4 rfl ?_);dsimp only;replace hx:=Bp▸hx;refine Ad (D8.mp hx) ?_;clear hx;intro p FC DW;have AH:p<es.size:=by have:=hp.mem_iff.mp (A8 FC);simpa using this
  have e1:((ps.map λi:Nat=>Cm i).toArray)[i]?=some (Cm p):=by simp[FC]
  refine Aa e1 ?_;have OH:es[p].2=x:=by refine AS DW ?_;simp[AH]
  unfold setNextDrawn;refine Ak (Ak (JD hs.ob rfl hs.ft ?_));dsimp only;rw[if_neg (by simp)];refine Aa (Md AH) ?_;refine AF ?_;show Au _ _ (do Mc (.ref I) 1 (Cm ((i:Int)+1));ret es[p].2) _ _ s;exact Aa OH<|AcU _ rfl
 | small hb CP Eg=>
  have hi:i=0:=by have:=(A5.mp hx).1;simp at this;exact EM (N3 (B7 this CP) rfl) (EL (HF _))
  subst hi;have h1:es.size=1:=by have:=(A5.mp hx).1;simp at this;exact EM CP (UD this)
  have A3:t.place.size=1:=by have:=hs.ft;simp only[Aaw,D7,beq_iff_eq] at this;exact HG this.1 h1
  have hb0:Mb t.place 0=0:=by unfold Mb;exact Aa A3<|(if_pos Aax).trans (if_neg (Gi _))
  obtain⟨e,he⟩:∃e,es[0]?=some e:=⟨es[0]'(Gr h1 (HF _)),Md (Gr h1 (HF _))⟩;obtain⟨j,hj⟩:∃j,t.place[0]?=some j:=⟨t.place[0]'(Gr A3 (HF _)),Md (Gr A3 (HF _))⟩;have hex:e.2=x:=by replace hx:=Bp▸hx;replace hx:=Yy▸hx;replace hx:=he▸hx;exact Ay hx
  refine Ak (VG hs hb CP Eg λr Z hr=>?_);replace hr:=hb0▸hr;refine Aa (hr e j he hj)<|Aa hex ?_;refine step _ (Cm ((j+1:Nat):Int)) ?_;exact Aa hj rfl
set_option tactic.hygienic true in
theorem AcV{I S:Addr}{es:Array (Int×Ac)}{ep:Nat}{t:EK}{f:Nat->Ac}{ord:List Ac}{Q:Option Ac->Aj->Prop}{i:Nat}(hh:A.handled=none)(h:IR c s.heap I S es ep t f ord i)(hi:i=ord.length)(OJ:S≠I)
  (q:∀h',Heap.ExtBut I s.heap h'->Q none {s with heap:=h'}):Au c.M A (Gl (.ref I)) Q E s:=by
 obtain⟨hit,hm,hs⟩:=h;have hT:s.TypeIs (.ref I) "set_iterator":=⟨_,hit,rfl⟩;have hlen:ord.length=es.size:=by have:=hm.perm.length_eq;simpa using this
 unfold Gl;refine Ak (wpAny_attempt (Aav (name:=HD "__next__") hT MK
  (L5 MK hT dG ?_ (dI _))))
 show Au _ _ (fieldsOf (.ref I)>>=_) _ _ s;refine Ak (wpAny_fieldsOf hit rfl ?_);unfold Yx;refine Ak (Ak (JD hs.ob rfl hs.ft (AF ?_)));dsimp only;rw[if_neg (by simp)];have stop:∀(h1:Heap)(vs:Array Ac)(Er:Fin->Aj->Prop),FN I s.heap h1->h1.get? I=some {cls:= .type "set_iterator",dict:=none,data:= .fields vs,slots:= #[]}->2<vs.size->
   Au c.M A.in1 (do Mc (.ref I) 2 .none;Yz (<-newExc (.type "StopIteration") [])) Er (λe s'=>Au c.M A (do let b <-isInstance e (.type "StopIteration");if b=true then pure none else throw e) Q E s') {s with heap:=h1}:=by
  intro h1 vs Er hb g1 hv;refine Ak (QL (s:={s with heap:=h1}) g1 hv λh2 g2 b2=>?_);refine Ak ?_;simp only[newExc,XI];refine Ak (Jw ?_ (by size_fits));refine Ak (m:=firstArgMember _ _) (wpAny_of_eq (a:=HH) (by first | rfl | (simp only[firstArgMember];rfl)) ?_);refine Jw ?_ (by size_fits);unfold Yz;refine Ak (wpAny_handled ?_);refine Aa (show A.in1.handled=none from hh) ?_;refine Ak (AF (wpAny_throw ?_));refine Ak (Yl (T:="StopIteration") (b:=true) ⟨_,Ct _ rfl,rfl⟩ isSubtype_stop ?_);exact AF (q _ (((hb.trans b2).extBut.push _).push _))
 have same:FN I s.heap s.heap:=Aah ..;cases hm with
 | text hb=>
  refine Ak (dM (r:=none) hs hb (by refine Aa hi ?_;simp) ?_);exact stop s.heap _ _ same hit (by simp)
 | drawn hb K4 hp=>
  rename_i T ps k;refine Ak (TW K4 rfl ?_);dsimp only;have e:((ps.map λi:Nat=>Cm i).toArray)[i]?=none:=by refine Aa hi ?_;simp
  refine Aa e ?_;show Au _ _ (do Mc (.ref I) 0 (Cm 0);Mc (.ref I) 2 .none;Yz (<-newExc (.type "StopIteration") [])) _ _ s;refine Ak (QL hit (by simp) λh1 g1 b1=>?_);exact stop h1 _ _ b1 g1 (by simp)
 | small hb CP Eg=>
  have A3:t.place.size=es.size:=by have:=hs.ft;simp only[Aaw,D7,beq_iff_eq] at this;exact this.1
  obtain h0|h1:i=0\/i=1:=by have:=hlen;have:=CP;lia
  ·subst h0;have hz:es.size=0:=by have:=hlen;exact HG (Eq.symm hlen) (Eq.symm hi)
   refine Ak (VG hs hb CP Eg λr hr Z=>?_);rw[hr (Aay (by exact Aa hz<|Cq _))];exact stop s.heap _ _ same hit (by simp)
  ·subst h1;have hz:es.size=1:=by have:=hlen;exact HG (Eq.symm hlen) (Eq.symm hi)
   have e1:Mb t.place (t.place[0]?.getD 0+1)=1:=by
    unfold Mb;refine Aa A3<|Aa hz ?_;have hg:t.place.getD ((0+1) / 2) (t.place[0]?.getD 0+1)<t.place[0]?.getD 0+1:=by simp[Uj,A3,hz]
    exact(if_pos Aax).trans (if_pos hg)
   refine Ak (VG (p:=t.place[0]?.getD 0+1) hs hb CP Eg λr hr Z=>?_);rw[hr (by refine Aa e1 ?_;rewrite[Aay];rfl;assumption)];exact stop s.heap _ _ same hit (by simp)
end
def KH{α:Type}(cmp:Nat->Nat->(Bool->Aj->Prop)->Aj->Prop)(I:Aj->Prop)(t:KasT α)(Q:α->Prop):Prop:=
 ∀s (C:α->Aj->Prop),I s->(∀a s',I s'->Q a->C a s')->t.kasWp cmp C s
structure VH(cmp:Nat->Nat->(Bool->Aj->Prop)->Aj->Prop)(I:Aj->Prop)(n:Nat)(lt:Nat->Nat->Bool):Prop where
 ask:∀i j C s,i<n->j<n->I s->(∀s',I s'->C (lt i j) s')->cmp i j C s
 OL:∀i j,i<n->j<n->i≠j->lt i j= !lt j i
 tr:∀i j k,i<n->j<n->k<n->lt i j=true->lt j k=true->lt i k=true
section
variable{cmp:Nat->Nat->(Bool->Aj->Prop)->Aj->Prop}{I:Aj->Prop}{n:Nat}{lt:Nat->Nat->Bool}{α β:Type}
theorem KH.ret{a:α}{Q:α->Prop}(h:Q a):KH cmp I (.ret a) Q:=λs C hi hc=>hc a s hi h
theorem KH.ask(hc:VH cmp I n lt){k:Bool->KasT α}{Q:α->Prop}(hi:i<n)(hj:j<n)(h:KH cmp I (k (lt i j)) Q):KH cmp I (.ask i j k) Q:=
 λs C h1 h2=>hc.ask i j _ s hi hj h1 λs' h3=>h s' C h3 h2
theorem KH.bind{t:KasT α}{f:α->KasT β}{P:α->Prop}{Q:β->Prop}(h:KH cmp I t P)(k:∀a,P a->KH cmp I (f a) Q):KH cmp I (t.bind f) Q:=
 λs C h1 h2=>by
  exact Aa (KasT.kasWp_bind _ _)<|h s _ h1 λa s' h3 h4=>k a h4 s' C h3 h2
structure Gd(n:Nat)(p:Array Nat):Prop where
 sz:p.size=n
 lt:∀i,i<n->p.getD i 0<n
 inj:∀i j,i<n->j<n->p.getD i 0=p.getD j 0->i=j
theorem getD_eq{v:Nat}(h:p[i]?=some v):p.getD i 0=v:=by obtain⟨h1,h2⟩:=Array.getElem?_eq_some_iff.mp h;simp[Uj,h1,h2]
theorem ML(h:i<p.size):p[i]?=some (p.getD i 0):=by simp[Uj,h]
theorem Gd.RK(h:p.toList.Perm (BN n)):Gd n p:=by
 have hl:p.toList.length=n:=Aa h.length_eq<|Aa FS rfl;have hs:p.size=n:=by simpa using hl
 have nd:p.toList.Nodup:=h.nodup_iff.mpr List.nodup_range;have at':∀i,i<n->p.toList[i]?=some (p.getD i 0):=λi hi=>by exact Aa Yy<|ML (Gr hs hi)
 refine⟨hs,λi hi=>?_,λi j hi hj e=>?_⟩
 ·exact JE.mp (h.mem_iff.mp (A8 (at' i hi)))
 ·exact(LY (Gr hl hi) nd).mp ((at' i hi).trans (by exact Aa e<|(at' j hj).symm))
def EX(lt:Nat->Nat->Bool)(p:Array Nat)(m:Nat):Prop:=∀i j,i<j->j<m->lt (p.getD i 0) (p.getD j 0)=true
def MM(lt:Nat->Nat->Bool)(p:Array Nat)(m:Nat):Prop:=∀i j,i<j->j<m->lt (p.getD j 0) (p.getD i 0)=true
theorem VI{f:Nat}(h:m+(f+1)=n):m<n:=h▸Nat.lt_add_of_pos_right (HF f)
theorem IS(h:m<n):m-1<n:=DT (Kt m 1) h
theorem VJ{f:Nat}(h:m+(f+1)=n):m+1+f=n:=(Nat.succ_add_eq_add_succ m f).trans h
theorem Lj(h:1<=m):m-1<m:=wP h wQ
theorem VK(h:i<j+1)(ne:i≠j):i<j:=JF (EL h) ne
theorem dO(h:i<m):m-1-i<m:=DT (Kt _ _) (Lj (Nat.zero_lt_of_lt h))
structure AscR(lt:Nat->Nat->Bool)(p:Array Nat)(n m r:Nat):Prop where
 a:m<=r
 b:r<=n
 s:EX lt p r
 d:r<n->lt (p.getD r 0) (p.getD (r-1) 0)=true
structure dP(lt:Nat->Nat->Bool)(n:Nat)(r:Nat×Array Nat):Prop where
 p:r.2.toList.Perm (BN n)
 b:r.1<=n
 a:1<=r.1
 s:EX lt r.2 r.1
structure dQ(lt:Nat->Nat->Bool)(p:Array Nat)(k m:Nat):Prop where
 le:m<=k
 lo:∀i,i<m->lt (p.getD i 0) (p.getD k 0)=true
 hi:∀i,m<=i->i<k->lt (p.getD k 0) (p.getD i 0)=true
section
variable(hc:VH cmp I n lt)
include hc
theorem VL(g:Gd n p)(hi:i<n)(hj:j<n)(ne:j≠i)(hl:lt (p.getD i 0) (p.getD j 0)=false):lt (p.getD j 0) (p.getD i 0)=true:=by exact Aa (hc.OL _ _ (g.lt _ hj) (g.lt _ hi) λe=>ne (g.inj _ _ hj hi e))<|Aa hl rfl
theorem AcW(g:Gd n p)(h:EX lt p m)(h1:1<=m)(hm:m<n)(hl:lt (p.getD (m-1) 0) (p.getD m 0)=true):EX lt p (m+1):=by
 intro i j Bx hj;by_cases e:j=m
 ·subst e;by_cases e2:i=j-1
  ·subst e2;exact hl
  ·exact hc.tr _ _ _ (g.lt _ (FM Bx hm)) (g.lt _ (IS hm)) (g.lt _ hm) (h i (j-1) (JF (NQ Bx) e2) (Lj h1)) hl
 ·exact h i j Bx (VK hj e)
theorem dR(g:Gd n p)(h:MM lt p m)(h1:1<=m)(hm:m<n)(hl:lt (p.getD m 0) (p.getD (m-1) 0)=true):MM lt p (m+1):=by
 intro i j Bx hj;by_cases e:j=m
 ·subst e;by_cases e2:i=j-1
  ·subst e2;exact hl
  ·exact hc.tr _ _ _ (g.lt _ hm) (g.lt _ (IS hm)) (g.lt _ (FM Bx hm)) hl (h i (j-1) (JF (NQ Bx) e2) (Lj h1))
 ·exact h i j Bx (VK hj e)
theorem dS(g:Gd n p)(f:Nat):∀m,1<=m->m+f=n->EX lt p m->KH cmp I (kas_asc p f m) (AscR lt p n m):=by
 induction f with
 | zero=>intro m h1 h2 hs;exact .ret ⟨BJ _,BA h2,hs,λh=>absurd h2 (Dh h)⟩
 | succ f ih=>
  intro m h1 h2 hs;have hm:=VI h2;refine KH.ask hc (g.lt m hm) (g.lt (m-1) (IS hm)) ?_;cases hl:lt (p.getD m 0) (p.getD (m-1) 0) with
  | true=>exact .ret ⟨BJ _,Ht hm,hs,λZ=>hl⟩
  | false=>exact λs C a b=>ih (m+1) (Hr 1 m) (VJ h2) (AcW hc g hs h1 hm (VL hc g hm (IS hm) (Dh (Lj h1)) hl)) s C a λr s' i x=>b r s' i ⟨YA x.a,x.b,x.s,x.d⟩
theorem AcX(g:Gd n p)(f:Nat):∀m,1<=m->m+f=n->MM lt p m->
  KH cmp I (kas_desc f p m 0) λr=>r.1=p/\r.2.2=0/\1<=r.2.1/\r.2.1<=n/\MM lt p r.2.1:=by
 induction f with
 | zero=>intro m h1 h2 hs;exact .ret ⟨rfl,rfl,h1,BA h2,hs⟩
 | succ f ih=>
  intro m h1 h2 hs;have hm:=VI h2;refine KH.ask hc (g.lt m hm) (g.lt (m-1) (IS hm)) ?_;cases hl:lt (p.getD m 0) (p.getD (m-1) 0) with
  | true=>exact ih (m+1) (Hr 1 m) (VJ h2) (dR hc g hs h1 hm hl)
  | false=>
   refine KH.ask hc (g.lt (m-1) (IS hm)) (g.lt m hm) ?_;exact Aa (VL hc g hm (IS hm) (Dh (Lj h1)) hl)<|.ret ⟨rfl,rfl,h1,Ht hm,hs⟩
omit hc in
theorem YB(g:Gd n p)(hm:m<=n){k:Nat}(hk:k<n):(Uk p 0 m).getD k 0=if k<m then p.getD (m-1-k) 0 else p.getD k 0:=by
 refine getD_eq ?_;unfold Uk;rw[getElem?_mirror_all (by exact Aa g.sz<|hm)];by_cases h:k<m
 ·rw[if_pos h,if_pos (⟨Cq k,h⟩:0<=k/\k<m),KJ,ML (by exact Aa g.sz<|B7 (dO h) hm)]
 ·rw[if_neg h,if_neg (λ(x:0<=k/\k<m)=>h x.2),ML (by exact Aa g.sz<|hk)]
omit hc in
theorem AcY(h:p.toList.Perm (BN n)):(Uk p i j).toList.Perm (BN n):=(Aaz.mp (mirror_perm _ _ _ _)).trans h
omit hc in
theorem AcZ(h:p.toList.Perm (BN n)):(bubble p i j).toList.Perm (BN n):=(Aaz.mp (bubble_perm _ _ _)).trans h
theorem Ac0(hp:p.toList.Perm (BN n))(h1:1<=m)(hm:m<=n)(hd:MM lt p m):
  KH cmp I (kas_tail3 m n p) (dP lt n):=by
 have g:=Gd.RK hp;have DW:=AcY (i:=0) (j:=m) hp;have hs:EX lt (Uk p 0 m) m:=λi j Bx hj=>by
  have hi:=FM Bx hj;refine Aa (YB g hm (B7 hi hm))<|Aa (YB g hm (B7 hj hm))<|Aa (if_pos hi)<|Aa (if_pos hj) ?_;exact hd _ _ (AaA (B7 Bx (NQ hj)) Bx) (dO hi)
 exact KH.bind (dS hc (Gd.RK DW) (n-m) m h1 (QM hm) hs) λr x=>.ret ⟨DW,x.b,AP h1 x.a,x.s⟩
theorem Ac1(hp:p.toList.Perm (BN n))(h1:1<=n):KH cmp I (kas_count n p) (dP lt n):=by
 have g:=Gd.RK hp;refine KH.bind (dS hc g (n-1) 1 (BJ _) (QM h1) λi j a b=>absurd (B7 a (EL b)) (Gi _)) λr x=>?_;split
 ·exact .ret ⟨hp,x.b,x.a,x.s⟩
 ·rename_i Bb;have AH:r<n:=JF x.b λe=>Bb (beq_iff_eq.mpr e);split
  ·rename_i h2;refine KH.ask hc (g.lt 0 h1) (g.lt (r-1) (IS AH)) ?_;exact Aa (x.s 0 (r-1) (wZ h2) (Lj x.a))<|.ret ⟨hp,x.b,x.a,x.s⟩
  ·rename_i h2;have e:r=1:=EM (GU h2) x.a;subst e;have hd2:MM lt p (1+1):=dR hc g (λi j a b=>absurd (B7 a (EL b)) (Gi _)) (BJ _) AH (x.d AH);refine KH.bind (AcX hc g (n-(1+1)) (1+1) (Hr 1 1) (QM AH) hd2) λr hQ=>?_;refine Mo hQ ?_;clear hQ;intro y1 y2 y3 y4 y5;rw[if_neg (by exact Aa y2<|Hu 0),y1];exact Ac0 hc hp y3 y4 y5
theorem Ac2(g:Gd n p){k:Nat}(hk:k<n)(hs:EX lt p k)(f:Nat):∀(l r:Nat),l<=r->r<=k->r-l<=f->
  (∀i,i<l->lt (p.getD i 0) (p.getD k 0)=true)->(∀i,r<=i->i<k->lt (p.getD k 0) (p.getD i 0)=true)->KH cmp I (kas_place p k f l r) (dQ lt p k):=by
 induction f with
 | zero=>
  intro l r h1 h2 h3 ha hb;have e:r<=l:=Yp (AaB.mp h3);exact .ret ⟨AP h1 h2,ha,λi a b=>hb i (AP e a) b⟩
 | succ f ih=>
  intro l r h1 h2 h3 ha hb;unfold kas_place;split
  ·rename_i e;exact .ret ⟨AP h1 h2,ha,λi a b=>hb i (AP e a) b⟩
  ·rename_i e;have dT:l<r:=Ku e;have hm:(l+r) / 2<r:=M51 e;have RL:l<=(l+r) / 2:=M92 (Ht dT);generalize (l+r) / 2=c at hm RL⊢;have RM:=B7 hm h2;have La:=FM RM hk;refine KH.ask hc (g.lt k hk) (g.lt _ La) ?_;cases hl:lt (p.getD k 0) (p.getD c 0) with
   | true=>
    refine ih l _ RL (Ht RM) (EL (B7 (AaC RL hm) h3)) ha λi a b=>?_;by_cases e:i=c
    ·subst e;exact hl
    ·exact hc.tr _ _ _ (g.lt _ hk) (g.lt _ La) (g.lt _ (FM b hk)) hl (hs _ _ (JF a (Ne.symm e)) b)
   | false=>
    have JT:=VL hc g hk La (Dh RM) hl;refine ih _ r hm h2 (EL (B7 (AaA dT (To RL)) h3)) (λi a=>?_) hb;by_cases e:i=c
    ·subst e;exact JT
    ·have hi:=VK a e;exact hc.tr _ _ _ (g.lt _ (FM hi La)) (g.lt _ La) (g.lt _ hk) (hs _ _ hi RM) JT
omit hc in
theorem dU(g:Gd n p){k l:Nat}(hk:k<n)(hl:l<=k)(hi:i<n):(bubble p k (k-l)).getD i 0=if i=l then p.getD k 0 else if l<i/\i<=k then p.getD (i-1) 0 else p.getD i 0:=by
 refine getD_eq ?_;rw[getElem?_bubble (by exact Aa g.sz<|hk) _ (Kt _ _),Nat.sub_sub_self hl];split
 ·exact ML (by exact Aa g.sz<|hk)
 ·split
  ·exact ML (by exact Aa g.sz<|IS hi)
  ·exact ML (by exact Aa g.sz<|hi)
omit hc in
theorem Ac3(g:Gd n p){k l:Nat}(hk:k<n)(hs:EX lt p k)(x:dQ lt p k l):EX lt (bubble p k (k-l)) (k+1):=by
 intro i j Bx hj;have MN:=EL hj;have dW:=DT MN hk;have j1:1<=j:=AP (Hr 1 i) Bx;have jk:j-1<k:=B7 (Lj j1) MN;refine Aa (dU g hk x.le (FM Bx dW))<|Aa (dU g hk x.le dW) ?_;by_cases e1:i=l
 ·subst e1;refine Aa (if_pos rfl)<|Aa (if_neg (Js Bx))<|Aa (if_pos ⟨Bx,MN⟩) ?_;exact x.hi _ (NQ Bx) jk
 ·refine Aa (if_neg e1) ?_;by_cases e2:j=l
  ·subst e2;refine Aa (if_pos rfl)<|Aa (if_neg (λh=>Nat.lt_asymm h.1 Bx)) ?_;exact x.lo _ Bx
  ·refine Aa (if_neg e2) ?_;by_cases h1:l<i/\i<=k
   ·refine Aa (if_pos h1)<|Aa (if_pos ⟨FM h1.1 Bx,MN⟩) ?_;exact hs _ _ (AaC (AP (Hr 1 l) h1.1) Bx) jk
   ·refine Aa (if_neg h1) ?_;have HZ:i<l:=JF (GU λh=>h1 ⟨h,AP (Ht Bx) MN⟩) e1;by_cases h2:l<j/\j<=k
    ·exact Aa (if_pos h2)<|hs _ _ (B7 HZ (NQ h2.1)) jk
    ·refine Aa (if_neg h2) ?_;have Lk:j<=l:=GU λh=>h2 ⟨h,MN⟩;exact hs _ _ Bx (B7 (JF Lk e2) x.le)
structure BinR(lt:Nat->Nat->Bool)(n:Nat)(r:Array Nat):Prop where
 p:r.toList.Perm (BN n)
 s:EX lt r n
theorem Ac4(f:Nat):∀(p:Array Nat)(k:Nat),p.toList.Perm (BN n)->k+f=n->EX lt p k->KH cmp I (kas_bin f p k) (BinR lt n):=by
 induction f with
 | zero=>intro p k hp hk hs;subst hk;exact .ret ⟨hp,hs⟩
 | succ f ih=>
  intro p k hp hk hs;have g:=Gd.RK hp;have dX:=VI hk;refine KH.bind (Ac2 hc g dX hs k 0 k (Cq _) (BJ _) (Kt _ _) (λi a=>absurd a (Gi _)) λi a b=>absurd b (Nat.not_lt_of_le a)) λl x=>?_;exact ih _ (k+1) (AcZ hp) (VJ hk) (Ac3 g dX hs x)
theorem Ac5(h1:1<=n):KH cmp I (kas_sort n) λp=>p.toList.Perm (BN n)/\EX lt p n:=by
 refine KH.bind (Ac1 hc (p:=FQ (BN n)) .rfl h1) λr x=>?_;split
 ·rename_i AH;exact Aa (Nat.max_eq_left x.a)<|λs C a b=>Ac4 hc _ _ _ x.p (QM x.b) x.s s C a λr s' i y=>b r s' i ⟨y.p,y.s⟩
 ·rename_i EY;have e:r.1=n:=EM x.b (GU EY);exact .ret ⟨x.p,e▸x.s⟩
end
end
section
variable{c:Cx}{A:BB}{s:Aj}{E:Ac->Aj->Prop}
def Off1(a:Addr)(h h':Heap):Prop:=∀b o,b≠a->h.get? b=some o->h'.get? b=some o
theorem Off1.push{a:Addr}(x:Off1 a h h')(o:Obj):Off1 a h (h'.push o):=λb o' n e=>Di _ (x b o' n e)
theorem dY{κ:Ul}{lt:Nat->Nat->Bool}{a:Addr}{vs:List Ac}{n:Nat}{P:AaD->Aj->Prop}(ho:s.heap.get? a=some (AM "list" vs.toArray n))(Fi:vs.length<64)
  (hk:2<=vs.length->∀(s':Aj)(Q:Ul->Aj->Prop),Off1 a s.heap s'.heap->Q κ s'->Au c.M A (keyKind' vs.toArray) Q (λZ Z=>False) s')
  (hc:2<=vs.length->∀s0:Aj,Off1 a s.heap s0.heap->VH (kas_ask c.prog c.w A κ vs) (λs'=>∃k,s'={s0 with toks:=k}) vs.length lt)
  (h:∀(p:Array Nat) h' tk e,p.toList.Perm (BN vs.length)->EX lt p vs.length->Off1 a s.heap h'->h'.get? a=some (AM "list" (p.toList.map λi=>vs.getD i HH).toArray e)->P (.done (.ret .none)) {s with heap:=h',toks:=tk}):
  Au c.M A (HE.«list.sort» ⟨[.ref a],[]⟩) P E s:=by
 have ha:a<s.heap.objs.size:=Cr ho;have s1:=NG s.heap a (DD λZ=>(#[]:Array Ac));obtain⟨e1,MJ⟩:∃e1,(s.heap.update a (DD λZ=>(#[]:Array Ac))).get? a=some (AM "list" #[] e1):=⟨_,AaE ho λZ=>#[]⟩;have o1:Off1 a s.heap (s.heap.update a (DD λZ=>(#[]:Array Ac))):=λb o hb e=>(s1.2 b hb).trans e;have o3:Off1 a s.heap (((s.heap.update a (DD λZ=>(#[]:Array Ac))).push (AM "tuple" vs.toArray 0)).push (AM "list" #[] 0)):=(o1.push _).push _;have OM:(((s.heap.update a (DD λZ=>(#[]:Array Ac))).push (AM "tuple" vs.toArray 0)).push (AM "list" #[] 0)).get? a=some (AM "list" #[] e1):=Di _ (Di _ MJ);refine Aa (list_sort_plain _) ?_;refine Ak (listItems_at ho rfl ?_);refine Ak (YC ho rfl ?_ (by exact Aa DB<|Aa Ft<|N3 Fi rfl) (Cq _));refine Ak (YD MJ rfl ?_);refine Ak (wpAny_newTuple ?_ (by show vs.length<=_;exact Aa Ft<|N3 Fi rfl));refine Ak (YE ?_ (Cq _));refine Et ?_;show Au c.M A _ P E {s with heap:=((s.heap.update a (DD λZ=>(#[]:Array Ac))).push (AM "tuple" vs.toArray 0)).push (AM "list" #[] 0)};dsimp only;have fin:∀(p:Array Nat)(s':Aj),p.toList.Perm (BN vs.length)->EX lt p vs.length->(∃k,s'={s with heap:=((s.heap.update a (DD λZ=>(#[]:Array Ac))).push (AM "tuple" vs.toArray 0)).push (AM "list" #[] 0),toks:=k})->
   P (.done (.ret .none)) {s' with heap:=s'.heap.update a (DD λZ=>FQ (p.toList.map λi=>vs.getD i HH))}:=by
  intro p s' hp hs;intro hZ;refine Ar hZ ?_;clear hZ;rintro k rfl;refine h p _ k _ hp hs (λb o hb e=>((NG _ a _).2 b hb).trans (o3 b o hb e)) (AaE OM _)
 by_cases h2:vs.toArray.size<2
 ·refine Aa (if_pos h2)<|Aa (if_pos h2) ?_;have H0:vs.length<2:=by simpa using h2
  refine Ak (AF ?_);refine Aa (StateT.run_pure _ _) ?_;refine Ak (AF ?_);dsimp only;refine Ak (YD OM rfl ?_);refine Ak (YC OM rfl ?_ (hsz2:=by refine Aa Array.size_map ?_;show(Um vs).size<=_;exact Aa (pairsOf_size _)<|Aa Ft<|N3 H0 rfl));simp only[bne_self_eq_false,Fa,if_false];have:=fin (FQ (BN vs.length)) {s with heap:=((s.heap.update a (DD λZ=>(#[]:Array Ac))).push (AM "tuple" vs.toArray 0)).push (AM "list" #[] 0)} (by simp) (λi j a b=>M85 H0 a b) ⟨s.toks,rfl⟩;have e:((Um vs).map (·.2))=FQ ((FQ (BN vs.length)).toList.map λi=>vs.getD i HH):=by
   apply Array.toList_inj.mp;unfold Um;apply Uo;intro i;by_cases hi:i<vs.length
   ·simp[hi]
   ·simp[hi]
  refine AF ?_;show P _ {s with heap:=(((s.heap.update a (DD λZ=>(#[]:Array Ac))).push (AM "tuple" vs.toArray 0)).push (AM "list" #[] 0)).update a (DD λZ=>(Um vs).map (·.2))};exact Aa e<|this
 ·have H0:2<=vs.length:=by simp at h2;assumption
  refine Aa (if_neg h2)<|Aa (if_neg h2) ?_;refine Ak (AN (hk H0 _ (λdZ s'=>dZ=κ/\s'={s with heap:=((s.heap.update a (DD λZ=>(#[]:Array Ac))).push (AM "tuple" vs.toArray 0)).push (AM "list" #[] 0)}) (by exact o3) ⟨rfl,rfl⟩) (λdZ s0 hk=>?_) λZ Z x=>x.elim);refine Ah hk ?_;clear hk;rintro rfl rfl;have hcmp:=hc H0 {s with heap:=((s.heap.update a (DD λZ=>(#[]:Array Ac))).push (AM "tuple" vs.toArray 0)).push (AM "list" #[] 0)} o3;refine Ak (AN (kat_run (Q:=λEd s'=>∃p:Array Nat,p.size=vs.length/\arrOf Ed=p.map (kas_item (vs.toArray.zip vs.toArray))/\failedOf Ed=none/\(p.toList.Perm (BN vs.length)/\EX lt p vs.length)/\
    (∃k,s'={s with heap:=((s.heap.update a (DD λZ=>(#[]:Array Ac))).push (AM "tuple" vs.toArray 0)).push (AM "list" #[] 0),toks:=k}))
   (G:=λp s'=>(p.toList.Perm (BN vs.length)/\EX lt p vs.length)/\(∃k,s'={s with heap:=((s.heap.update a (DD λZ=>(#[]:Array Ac))).push (AM "tuple" vs.toArray 0)).push (AM "list" #[] 0),toks:=k}))
   rfl H0 Fi (λp' Ed s' a1 a2 a3 a4=>⟨p',a1,a2,a3,a4⟩) (Ac5 hcmp (UA H0) _ _ ⟨_,rfl⟩ λp s' hi hq=>⟨hq,hi⟩)) ?_ λZ Z e=>e)
  intro hZ;obtain⟨⟨⟩,Ed⟩:=hZ;intro s';intro hZ;refine Mq hZ ?_;clear hZ;intro p hp VM hf;intro hZ;refine Ah hZ ?_;clear hZ;intro JW hs;intro DX;refine Ar (id DX) ?_;rintro k rfl;dsimp only;have hout:=kat_snds rfl VM;have CP:(FQ (p.toList.map λi=>vs.getD i HH)).size=vs.length:=Aa DB<|Aa (Ai _)<|Aa Ub<|Aa hp rfl;refine Aa hout ?_;refine Ak (YD OM rfl ?_);refine Ak (YC OM rfl ?_ (Cq _) (AP (BA CP) (by exact Aa Ft<|N3 Fi rfl)));refine Aa hf ?_;simp only[bne_self_eq_false,Fa,if_false];exact AF (fin p _ JW hs DX)
end
theorem gA:Slot "set_iterator" "__iter__" "set_iterator.__iter__":=
 .of (owner:="set_iterator") (n:="__iter__") (by refine Aa (Ys _ _)<|Aa Yt ?_;kernel_rfl) (by decide+kernel) (by decide+kernel) (by decide+kernel)
  (by first | exact .inl (by decide+kernel) | exact .inr (by decide+kernel)) (by refine Aa (Yu _ _) ?_;kernel_rfl)
theorem Ac6:Ue table "set_iterator.__iter__"=some HE.«dict_keyiterator.__iter__» :=entryFor_alias (id':="dict_keyiterator.__iter__") (by kernel_rfl) rfl (by decide+kernel) (by kernel_rfl)
theorem Ac7(a:Ac):Uf "set_iterator.__iter__" ⟨[a],[]⟩:=by unfold Uf;rw[signature?_of (id:="set_iterator.__iter__") (n:= ['_','_','r','e','t','i','_','_']) (o:= ['r','o','t','a','r','e','t','i','_','t','e','s']) (by kernel_rfl) dH];kernel_rfl
section
variable{c:Cx}{A:BB}{s:Aj}{E:Ac->Aj->Prop}
noncomputable def refOf:Ac->List Addr
 | .ref T=>[T]
 | _=>[]
noncomputable def MO(I S:Addr)(v:Ac):List Addr:=I::S::refOf v
theorem Ac8{I:Addr}{b:Addr}(h:b∈MO I S v):b=I\/b=S\/v= .ref b:=by
 rcases Bo.mp h with h|h
 ·exact .inl h
 ·rcases Bo.mp h with h|h
  ·exact .inr (.inl h)
  ·cases v with
   | ref T=>exact .inr (.inr (congrArg CB (B3.mp h).symm))
   | _=>cases h
theorem IR.frame{h h':Heap}{I S:Addr}{es:Array (Int×Ac)}{ep:Nat}{t:EK}{f:Nat->Ac}{ord:List Ac}{i:Nat}(x:IR c h I S es ep t f ord i)
  (k:∀b∈MO I S (f 0),∀o,h.get? b=some o->h'.get? b=some o):IR c h' I S es ep t f ord i:=by
 have hI:I∈MO I S (f 0):= .head _;have hS:S∈MO I S (f 0):= .tail _ (.head _);refine⟨k I hI _ x.it,?_,⟨k S hS _ x.st.ob,x.st.ft⟩⟩;cases x.md with
 | text a=>exact .text a
 | drawn a b d=>exact .drawn a (k _ (.tail _ (.tail _ (.head _))) _ b) d
 | small a b d=>exact .small a b d
theorem Ac9{r:Addr}{Q:Bool->Aj->Prop}(hT:s.TypeIs (.ref r) "set")(h:Q false s):Au c.M A (AaF (.ref r)) Q E s:=by
 unfold AaF;refine Ak (NM hT PySem.F.slot_set_len.lookup ?_);generalize gB:("set.__len__":String)=id0
 wp_delta
 rw[show splitId id0=some ("set","__len__") from by subst gB;decide+kernel];subst gB;refine Ak (Yl (T:="set") (b:=true) hT (by refine Aa (Yu _ _) ?_;kernel_rfl) ?_);refine YF (λON=>absurd ON (by decide)) (λZ=>?_);refine YF (λZ=>?_) (λON=>absurd (by decide+kernel) ON);refine Ak (Up hT ?_);exact AF h
theorem Ada{I:Addr}{es:Array (Int×Ac)}{f:Nat->Ac}(hh:A.handled=none)(OJ:S≠I):
  WalksS c.prog c.w A I (MO I S (f 0)) [I] (λa b=>a=b) ord.length (λi v=>ord[i]?=some v) (λi s=>IR c s.heap I S es ep t f ord i) where
 sub:=λb hb=>B3.mp hb▸ .head _
 grefl:=λZ=>rfl
 gtrans:=λZ Z Z h g=>h.trans g
 frame:=λi s h' tk x Z k=>x.frame k
 item:=λi s Q E hi x q=>by
  refine AcT (x:=ord[i]) x OJ (BG hi) λh' x' sb=>?_;exact q _ _ (BG hi) x' ⟨λb o hb e=>(sb.2 b (by simpa using hb)).trans e,rfl,rfl,rfl,BJ _⟩
 done:=λs Q E x q=>AcV hh x rfl OJ λh' he=>q _ ⟨λb o hb e=>he b o (by simpa using hb) e,rfl,rfl,rfl,BJ _⟩
 self:=λi s Q E x q=>by
  have hT:s.TypeIs (.ref I) "set_iterator":=⟨_,x.it,rfl⟩;refine Aat hT gA (L5 gA hT Ac6 ?_ (Ac7 _));exact AF ⟨_,rfl,"set_iterator",_,hT,MK.lookup,q⟩
theorem Adb{S:Addr}{es:Array (Int×Ac)}{ep:Nat}{t:EK}{Q:List Ac->Aj->Prop}(hh:A.handled=none)(hs:JY c s.heap S es ep t)(hz:es.size<Gj)(Eg:t.led= !D0 c)(A3:es.size≠0->t.plain=false)
  (h:∀ord h' d tk,ord.Perm (es.toList.map (·.2))->(∀b o,s.heap.get? b=some o->h'.get? b=some o)->Q ord {s with heap:=h',drawn:=d,toks:=tk}):
  Au c.M A (Uq (.ref S)) Q E s:=by
 have hS:=Cr hs.ob;unfold Uq;refine Ak (wpAny_runValue (KL entry_proto_collect' ?_));refine Ak (YE (AF ⟨Aap _ (by decide+kernel),KL entry_list_iadd' ?_⟩));show Au _ _ (AaG (.ref s.heap.objs.size) (.ref S) (.ref s.heap.objs.size)) _ _ {s with heap:=s.heap.push (AM "list" #[] 0)};have II:JY c (s.heap.push (AM "list" #[] 0)) S es ep t:=⟨Di _ hs.ob,hs.ft⟩;have Bb:s.heap.objs.size≠S:=Js hS;unfold AaG;refine Ak (Up (T:="set") ⟨_,II.ob,rfl⟩ ?_);have h1:AaH (.ref s.heap.objs.size) (.ref S)=false:=by simp[AaH,Bb]
 have h2:(FR "set"==FR "list")=false:=by decide
 have h3:(FR "set"==FR "tuple")=false:=by decide
 simp only[h1,h2,h3,QD,Fa,if_false];refine Ak (AcS II hz Eg A3 λh' I f ord d tk hk hI hit=>?_);have hL:h'.get? s.heap.objs.size=some (AM "list" #[] 0):=hk _ _ (Ct _ rfl);have hIL:s.heap.objs.size≠I:=λe=>by replace hI:=Eq.symm e▸hI;rewrite[Ct _ rfl] at hI;exact BR hI
 have OF:S≠I:=λe=>by replace hI:=Eq.symm e▸hI;replace hI:=II.ob▸hI;exact BR hI
 have hT:∀T,f 0= .ref T->s.heap.objs.size≠T:=λT e e2=>by
  cases hm:hit.md with
  | text a=>exfalso;injection e
  | drawn a b d=>injection e with e;subst e;replace b:=Eq.symm e2▸b;replace b:=hL▸b;simp[AM] at b
  | small a b d=>simp only[if_true] at e;exfalso;injection e
 have gC:s.heap.objs.size∉MO I S (f 0):=λhm=>by
  rcases Ac8 hm with e|e|e
  ·exact hIL e
  ·exact Bb e
  ·exact hT _ e rfl
 have hzz:ord.length<=sizeLine:=by have:=hit.md.perm.length_eq;simp at this;refine Aa this<|Aa Ft ?_;unfold Gj at hz;exact N3 hz rfl
 have key:∀{R:NK->Aj->Prop}(A1:BB)(hp:Heap)(c₁:Nat),A1.in1.handled=none->IR c hp I S es ep t f ord 0->Off1 s.heap.objs.size h' hp->hp.get? s.heap.objs.size=some {cls:= .type "list",data:= .seq #[] c₁}->
   (∀h2 JZ acc c',(∀b o,s.heap.get? b=some o->h2.get? b=some o)->h2.get? s.heap.objs.size=some {cls:= .type "list",dict:=none,data:= .seq acc c',slots:= #[]}->acc.toList=ord->R (.ok (.ret (.ref s.heap.objs.size))) {s with heap:=h2,drawn:=d,toks:=JZ})->
   Hy c.M A1 (.builtin "list.extend.loop" ⟨[.ref s.heap.objs.size,.ref I,.ref s.heap.objs.size],[]⟩) R {s with heap:=hp,drawn:=d,toks:=tk}:=by
  intro R A1 hp c₁ gD IK off RN hR;refine codeAny_extend_loopS (Ada (A:=A1.in1) gD OF) hzz s.heap.objs.size gC _ ord.length 0 _ #[] c₁ (Yr _) (Cq _) IK RN (ItemsOf.nil _) λs' gE c' hm IQ OO=>?_;have e:s'={s with heap:=s'.heap,drawn:=d,toks:=s'.toks}:=by obtain⟨m1,m2,m3,m4,m5⟩:=hm;cases s';simp only at m2 m3 m4;subst m2 m3 m4;rfl
  refine Aa e ?_;refine hR s'.heap s'.toks gE c' (λb o e=>?_) IQ ?_
  ·have hb:=Cr e;refine hm.heap b o (λVN=>?_) (off b o (Dh hb) (hk _ _ (Di _ e)));rcases Bo.mp VN with e'|VN
   ·exact Dh hb e'
   ·replace hI:=Eq.symm (B3.mp VN)▸hI;replace hI:=(Di _ e)▸hI;exact BR hI
  ·apply Uo;intro j;by_cases hj:j<gE.size
   ·refine Aa Yy<|Aa (Md hj) ?_;exact(OO.2 j _ (Md hj)).symm
   ·rw[Ip (by simpa using hj),Ip (by refine AS (OO.1) ?_;simpa using hj)]
 have gD:∀A1:BB,A1.handled=none->A1.in1.handled=none:=λZ h=>h;have back:∀(h2:Heap)(JZ:Nat)(acc:Array Ac)(c':Nat),(∀b o,s.heap.get? b=some o->h2.get? b=some o)->h2.get? s.heap.objs.size=some {cls:= .type "list",dict:=none,data:= .seq acc c',slots:= #[]}->acc.toList=ord->
   Au c.M A (do
    let o <-load s.heap.objs.size
    match o.data with
    | .seq xs _=>pure xs.toList
    | _=>unsupported "internal:collect") Q E {s with heap:=h2,drawn:=d,toks:=JZ}:=by
  intro h2 JZ acc c' k1 k2 k3;refine Ak (wpAny_load k2 ?_);show Au _ _ (pure acc.toList) Q E _;exact Aa k3<|wpAny_pure (h ord h2 d JZ hit.md.perm k1)
 refine Ak (Et (Ac9 ⟨_,hit.st.ob,rfl⟩ ?_));refine YF (λZ=>?_) (λZ=>AF ⟨NP AaI _,key _ _ 0 hh hit (λb o Z e=>e) hL back⟩);refine Ak (L6 ?_);refine Ak ?_;refine Ak (AaJ hL rfl ?_);have GE:=LZ (DD (·.push HH)) hL rfl;refine AaJ (hz:=by seq_fits) GE rfl ?_;have hL3:=LZ (DD (·.pop)) GE rfl;have gF:∀b o,b≠s.heap.objs.size->h'.get? b=some o->((h'.update s.heap.objs.size (DD (·.push HH))).update s.heap.objs.size (DD (·.pop))).get? b=some o:=
  λb o hb e=>(AaK _ _ (Ne.symm hb)).trans ((AaK _ _ (Ne.symm hb)).trans e)
 exact AF ⟨NP AaI _,key _ _ _ hh (hit.frame λb hb o e=>gF b o (λe2=>gC (e2▸hb)) e) (λb o hb e=>gF b o hb e) hL3 back⟩
end
set_option genInjectivity false in
set_option genSizeOf false in
structure GF(c:Cx)(α:Type) where
 enc:α->AV
 kind:Ul
 lt:α->α->Bool
 OL:∀x y,x≠y->lt x y= !lt y x
 tr:∀x y z,lt x y=true->lt y z=true->lt x z=true
 VO:∀{F:Fz}{vs:List Ac}{xs:List α}{A:BB}{s:Aj}{Q:Ul->Aj->Prop},Ao c.w F vs (xs.map enc)->2<=xs.length->(∀a o,F a=some o->s.heap.get? a=some o)->Q kind s->Au c.M A (keyKind' vs.toArray) Q (λZ Z=>False) s
 VP:∀{F:Fz}{v u:Ac}{x y:α}{A:BB}{s:Aj}{Q:Bool->Aj->Prop},Rep c.w F v (enc x)->Rep c.w F u (enc y)->(∀a o,F a=some o->s.heap.get? a=some o)->(∀k,Q (lt x y) {s with toks:=k})->Au c.M A (keyLt' kind v u) Q (λZ Z=>False) s
noncomputable def Dg(a b:Str):Bool:=decide (a.cps.toList<b.cps.toList)
theorem VQ(x y:Str)(h:x≠y):Dg x y= !Dg y x:=by
 unfold Dg;have Bb:x.cps.toList≠y.cps.toList:=λe=>h (by cases x;cases y;simpa using e);by_cases a:x.cps.toList<y.cps.toList
 ·have:¬y.cps.toList<x.cps.toList:=λb=>QN _ (AaL a b);simp[a,this]
 ·have:y.cps.toList<x.cps.toList:=by
   rcases List.le_iff_lt_or_eq.mp (List.not_lt.mp a) with q|q
   ·exact q
   ·exact absurd q.symm Bb
  simp[a,this]
theorem VR(x y z:Str)(h1:Dg x y=true)(h2:Dg y z=true):Dg x z=true:=by unfold Dg at*;simp only[decide_eq_true_eq] at*;exact AaL h1 h2
noncomputable abbrev Item:=Int×Int×Str
noncomputable def RP:Item->AV:=λx=>.tup [.int x.1,.int x.2.1,.str x.2.2]
noncomputable def H1(a b:Item):Bool:=if a.1=b.1 then(if a.2.1=b.2.1 then Dg a.2.2 b.2.2 else decide (a.2.1<b.2.1)) else decide (a.1<b.1)
theorem gG{a b:Int}(h:a≠b):decide (a<b)= !decide (b<a):=by
 by_cases q:a<b
 ·have:¬b<a:=λCJ=>UH q CJ;simp[q,this]
 ·have:b<a:=by lia
  simp[q,this]
theorem Adc(x y:Item)(h:x≠y):H1 x y= !H1 y x:=by
 obtain⟨a,b,s⟩:=x;obtain⟨a',b',s'⟩:=y;unfold H1;by_cases e:a=a'
 ·subst e;by_cases e:b=b'
  ·subst e;simp only[if_true];exact VQ s s' (λe=>h (by exact Aa e rfl))
  ·have:b'≠b:=Ne.symm e;simp only[if_true,e,this,if_false];exact gG e
 ·have:a'≠a:=Ne.symm e;simp only[e,this,if_false];exact gG e
noncomputable def VS(a b:Int)(r:Bool):Bool:=if a=b then r else decide (a<b)
theorem Ade{y:Str}(h:x=y):Dg x y=false:=by subst h;unfold Dg;simp[QN]
theorem gH{a b c:Int}{r s t:Bool}(h:r=true->s=true->t=true)(h1:VS a b r=true)(h2:VS b c s=true):VS a c t=true:=by
 by_cases e1:a=b
 ·subst e1;by_cases e2:a=c
  ·exact(if_pos e2).trans (h ((if_pos rfl).symm.trans h1) ((if_pos e2).symm.trans h2))
  ·exact(if_neg e2).trans ((if_neg e2).symm.trans h2)
 ·have l1:=of_decide_eq_true ((if_neg e1).symm.trans h1);by_cases e2:b=c
  ·subst e2;exact(if_neg e1).trans (decide_eq_true l1)
  ·have l:=Ts l1 (of_decide_eq_true ((if_neg e2).symm.trans h2));exact(if_neg (N30 l)).trans (decide_eq_true l)
theorem Adf(x y z:Item)(h1:H1 x y=true)(h2:H1 y z=true):H1 x z=true:=gH (gH (VR _ _ _)) h1 h2
section
variable{c:Cx}
noncomputable def GF.str(c:Cx):GF c Str where
 enc:= .str
 kind:=oneType'
 lt:=Dg
 OL:=VQ
 tr:=VR
 VO:=λ{F vs xs A s Q} r h2 hF q=>by
  refine kas_kind (T:= .type "str") (by exact Aa r.length<|Aa (Ai _)<|h2) (λv hv=>?_) (by decide) (by decide) q;refine Ar (DM hv) ?_;clear hv;intro i hi;refine Ad (r.get' hi) ?_;clear hi;intro x hx rx;simp only[Bp,D8] at hx;refine Ad hx ?_;clear hx;rintro y _ rfl;refine Ar (str_inv rx) ?_;clear rx;rintro t rfl;exact .now
 VP:=λ{F v u x y A s Q} r1 r2 hF q=>by
  refine Ar (str_inv r1) ?_;clear r1;rintro t1 rfl;refine Ar (str_inv r2) ?_;clear r2;rintro t2 rfl;exact kas_lt_str (q s.toks)
theorem VT{F:Fz}{x:Item}(r:Rep w F v (RP x)):∃a k t1 t2 t3,v= .ref a/\F a=some (AM "tuple" #[.int x.1 t1,.int x.2.1 t2,.str x.2.2 t3] k):=by obtain⟨_,_,_,rfl,e,r⟩:=r;obtain⟨_,_,rfl,r1,r⟩:=r;obtain⟨_,_,rfl,r2,r⟩:=r;obtain⟨_,_,rfl,r3,r⟩:=r;subst r;refine Ar (int_inv r1) ?_;clear r1;rintro t1 rfl;refine Ar (int_inv r2) ?_;clear r2;rintro t2 rfl;refine Ar (str_inv r3) ?_;clear r3;rintro t3 rfl;exact⟨_,_,t1,t2,t3,rfl,e⟩
theorem Adg{F:Fz}(hF:∀a o,F a=some o->h.get? a=some o){vs:List Ac}{xs:List Item}(r:Ao c.w F vs (xs.map RP)):∃fs,KatTups h vs fs/\fs.length=vs.length/\ ∀v∈fs,∃i t,v=Value.int i t:=by
 induction xs generalizing vs with
 | nil=>subst r;exact⟨[],.nil,rfl,λv h=>nomatch h⟩
 | cons x xs ih=>
  obtain⟨_,_,rfl,r1,r⟩:=r;refine Q9 (VT r1) ?_;clear r1;rintro a k t1 t2 t3 rfl e;refine Ch (ih r) ?_;clear r;intro fs h1 h2 h3;refine⟨.int x.1 t1::fs,.cons (hF _ _ e) rfl rfl rfl h1,congrArg Qh h2,λv hv=>?_⟩;rcases Bo.mp hv with rfl|hv
  ·exact⟨_,_,rfl⟩
  ·exact h3 v hv
noncomputable def GF.item(c:Cx):GF c Item where
 enc:=RP
 kind:=tuples' true
 lt:=H1
 OL:=Adc
 tr:=Adf
 VO:=λ{F vs xs A s Q} r h2 hF q=>by
  refine Ch (Adg (c:=c) hF r) ?_;intro fs k1 k2 k3;have:=r.length;rewrite[Ai] at this;refine kat_kind (T:= .type "int") k1 (M15 h2 k2 this) (λv hv=>?_) (by decide) q;refine DO (k3 v hv) ?_;rintro i t rfl;exact .now
 VP:=λ{F v u x y A s Q} r1 r2 hF q=>by
  refine Q9 (VT r1) ?_;clear r1;rintro a k t1 t2 t3 rfl e;refine Q9 (VT r2) ?_;clear r2;rintro a' k' u1 u2 u3 rfl e';obtain⟨x1,x2,x3⟩:=x;obtain⟨y1,y2,y3⟩:=y;refine kat_lt (hF _ _ e) rfl (hF _ _ e') rfl ?_;have q0:Q (if x1=y1 then(if x2=y2 then Dg x3 y3 else decide (x2<y2)) else decide (x1<y1)) s:=q s.toks;refine YG (AaM (kat_go (λh=>kat_yes ?_) (λh=>kat_no ?_)))
  ·replace q0:=if_pos (eq_of_beq h)▸q0;refine YG (AaM (kat_go (λh=>kat_yes ?_) (λh=>kat_no ?_)))
   ·replace q0:=if_pos (eq_of_beq h)▸q0;refine YG (wpAny_eqBool_str (kat_go (λh=>kat_yes ?_) (λh=>kat_no ?_)))
    ·refine kat_nil ?_;replace q0:=Ade (x:=x3) (y:=y3) (eq_of_beq h)▸q0;exact q0
    ·exact kat_one _ _ (AlF q0)
   ·replace q0:=if_neg (ne_of_beq_false h)▸q0;exact kat_one _ _ (yK q0)
  ·replace q0:=if_neg (ne_of_beq_false h)▸q0;exact kat_lt_int q0
end
section
variable{c:Cx}{n:Nat}{V:St}{α:Type}
theorem Inv.Adh{F:Fz}{s:Aj}(I:Inv c F P V s){t:Nat}{d:Drawn}(k:∀b o,s.heap.get? b=some o->h'.get? b=some o):Inv c F P V {s with heap:=h',drawn:=d,toks:=t}:=
 ⟨λa o e=>k _ _ (I.hf a o e),λa o e=>k _ _ (I.hp a o e),λa ob e=>let ⟨o,ho,r⟩:=I.hs a ob e;⟨o,k _ _ ho,r⟩,I.fp,I.sf,I.base,I.gens,I.os⟩
theorem Adi{β:Type}{l:List β}{d:β}(h:p.toList.Perm (BN l.length)):(p.toList.map λi=>l.getD i d).Perm l:=by
 refine(h.map _).trans ?_;have:(BN l.length).map (λi=>l.getD i d)=l:=by
  apply Uo;intro i;by_cases hi:i<l.length
  ·simp[hi]
  ·simp[hi]
 refine Aa this ?_;rfl
theorem Ao.picks{F:Fz}{K:GF c α}{vs:List Ac}{xs:List α}{x0:α}(r:Ao c.w F vs (xs.map K.enc))(l:List Nat)(h:∀i∈l,i<xs.length):Ao c.w F (l.map λi=>vs.getD i HH) ((l.map λi=>xs.getD i x0).map K.enc):=by
 induction l with
 | nil=>exact .nil
 | cons i l ih=>
  have hi:=h i (.head _);have hx:(xs.map K.enc)[i]?=some (K.enc (xs.getD i x0)):=by simp[hi]
  refine Ad (r.get hx) ?_;clear hx;intro v hv rv;refine .cons ?_ (ih λj hj=>h j (.tail _ hj));show Rep c.w F (vs.getD i HH) (K.enc (xs.getD i x0));exact Aa Dk<|Aa hv<|rv
theorem Adj(K:GF c α){F:Fz}{vs:List Ac}{xs:List α}{A:BB}{s:Aj}{E:Ac->Aj->Prop}{a:Addr}{k:Nat}{P:AaD->Aj->Prop}(r:Ao c.w F vs (xs.map K.enc))(nd:xs.Nodup)(Fi:xs.length<64)
  (ho:s.heap.get? a=some (AM "list" vs.toArray k)) (hF:∀b o,F b=some o->b≠a/\s.heap.get? b=some o)
  (h:∀(ys:List α) us h' tk e,ys.Perm xs->ys.Pairwise (λx y=>K.lt x y=true)->Ao c.w F us (ys.map K.enc)->Off1 a s.heap h'->h'.get? a=some (AM "list" us.toArray e)->P (.done (.ret .none)) {s with heap:=h',toks:=tk}):
  Au c.M A (HE.«list.sort» ⟨[.ref a],[]⟩) P E s:=by
 have hl:vs.length=xs.length:=Aa r.length<|Aa (Ai _) rfl;cases xs with
 | nil=>
  refine dY (κ:=K.kind) (lt:=λZ Z=>false) ho (by exact Aa hl<|Fi) (λh2=>absurd h2 (by refine Aa hl ?_;simp)) (λh2=>absurd h2 (by refine Aa hl ?_;simp)) λp h' tk e hp hs off hg=>?_;have IT:p.toList= []:=by replace hp:=hl▸hp;exact hp.eq_nil
  refine h [] [] h' tk e .rfl .nil .nil off ?_;exact Aa hg<|Aa IT rfl
 | cons x0 xs'=>
  generalize hxs:x0::xs'=xs at*;let lt:Nat->Nat->Bool:=λi j=>K.lt (xs.getD i x0) (xs.getD j x0);have gi:∀i j,i<xs.length->j<xs.length->i≠j->xs.getD i x0≠xs.getD j x0:=λi j hi hj Bb e=>by
   refine Bb ((LY hi nd).mp ?_);simp only[Dk,BG hi,BG hj,Option.getD_some] at e;exact Aa (BG hi)<|Aa (BG hj)<|Aa e rfl
  refine dY (κ:=K.kind) (lt:=lt) ho (by exact Aa hl<|Fi) (λh2 s' Q off q=>K.VO r (KT hl h2) (λb o e=>off _ _ (hF b o e).1 (hF b o e).2) q) (λh2 s0 off=>⟨λi j C s1 hi hj hI hC=>?_,λi j hi hj Bb=>?_,λi j k' hi hj hk a b=>?_⟩) λp h' tk e hp hs off hg=>?_
  ·refine Ar hI ?_;clear hI;rintro k1 rfl;rw[hl] at hi hj;have at':∀i,i<xs.length->Rep c.w F (vs.getD i HH) (K.enc (xs.getD i x0)):=λi hi=>by
    have hx:(xs.map K.enc)[i]?=some (K.enc (xs.getD i x0)):=by simp[hi]
    refine Ad (r.get hx) ?_;clear hx;intro v hv rv;exact Aa Dk<|Aa hv<|rv
   exact K.VP (at' i hi) (at' j hj) (λb o e=>off _ _ (hF b o e).1 (hF b o e).2) λk2=>hC _ ⟨k2,rfl⟩
  ·rw[hl] at hi hj;exact K.OL _ _ (gi i j hi hj Bb)
  ·exact K.tr _ _ _ a b
  ·rw[hl] at hp hs;refine h (p.toList.map λi=>xs.getD i x0) (p.toList.map λi=>vs.getD i HH) h' tk e (Adi hp) ?_ (r.picks _ λi hi=>JE.mp (hp.mem_iff.mp hi)) off hg;rewrite[KN];rewrite[List.pairwise_iff_getElem];intro i j hi hj Bx;have A3:p.toList.length=xs.length:=Aa hp.length_eq<|Aa FS rfl;have e1:∀m (hm:m<p.toList.length),p.toList[m]=p.getD m 0:=λm hm=>by
    have:m<p.size:=by simpa using hm
    simp[Uj,this]
   have:=hs i j Bx (N14 A3 hj);exact Aa (e1 _ _)<|Aa (e1 _ _)<|this
theorem An.sorted(K:GF c α){a:AV}{OP:List α}{Q:AV->St->Prop}(nd:OP.Nodup)(Fi:OP.length<64)
  (hcol:∀(F P:Fz)(v:Ac)(A:BB)(s:Aj)(R:List Ac->Aj->Prop),Rep c.w F v a->A.handled=none->Inv c F P V s->
   (∀vs (xs:List α) h' d tk,xs.Perm OP->Ao c.w F vs (xs.map K.enc)->(∀b o,s.heap.get? b=some o->h'.get? b=some o)->R vs {s with heap:=h',drawn:=d,toks:=tk})->Au c.M A (Uq v) R (λZ Z=>False) s)
  (q:∀ys:List α,ys.Perm OP->ys.Pairwise (λx y=>K.lt x y=true)->Q (.lst (ys.map K.enc)) V):An c n (.builtin "sorted") [a] V Q:=by
 intro F P vs r A s ok I;refine Ad (Ha r) ?_;clear r;rintro v rfl rv;refine Calls.call_function_entry kind_sorted plain_sorted entry_sorted (args_sorted1 _) ?_;unfold HE.«sorted»;refine Ak (m:=checkCount "sorted" 1 1 _) (AF ?_);refine Ak (AN (hcol F P v A.in1 s (λvs s'=>∃(xs:List α)(h':Heap)(d:Drawn)(tk:Nat),s'={s with heap:=h',drawn:=d,toks:=tk}/\xs.Perm OP/\Ao c.w F vs (xs.map K.enc)/\(∀b o,s.heap.get? b=some o->h'.get? b=some o)) rv ok.hh I
  λvs xs h' d tk h1 h2 h3=>⟨xs,h',d,tk,rfl,h1,h2,h3⟩) (λus s' hQ=>?_) λZ Z x=>x.elim)
 refine Q8 hQ ?_;clear hQ;intro xs h' d tk es hp ru hk;subst es;have hul:us.length=xs.length:=Aa ru.length<|Aa (Ai _) rfl;have I1:Inv c F P V {s with heap:=h',drawn:=d,toks:=tk}:=I.Adh hk;refine Ak (YE ?_ (by exact Aa hul<|Aa hp.length_eq<|Aa Ft<|N3 Fi rfl));have gJ:(h'.push (AM "list" us.toArray 0)).get? h'.objs.size=some (AM "list" us.toArray 0):=Ct _ rfl;refine Ak (Et (L5 slot_list_sort ⟨_,gJ,rfl⟩ entry_list_sort (Adj K (F:=F) ru (hp.nodup_iff.mpr nd) (by exact Aa hp.length_eq<|Fi) gJ (λb o e=>?_) λys ws h2 JZ e hys hpw rw' off hg=>⟨_,rfl,?_⟩) (args_list_sort _)))
 ·have e1:=I1.hf _ _ e;exact⟨Dh (Cr e1),Di _ e1⟩
 ·refine AF ⟨_,rfl,?_⟩;refine Bq I1.fresh ?_;intro hf DW hs;have I2:Inv c F P V {s with heap:=h2,drawn:=d,toks:=JZ}:=I1.keeps λb o e=>off b o (Dh (Cr e)) (Di _ e);have I3:=I2.freeze hg hf DW hs;exact⟨_,V,_,Fz.Dt hf,I3,.lst (Fz.AC) (rw'.mono (Fz.Dt hf)),q ys (hys.trans hp) hpw⟩
theorem Adk{a:AV}(h:Cb V a true xs)(hz:xs.length<=Bc):∀(F P:Fz)(v:Ac)(A:BB)(s:Aj)(R:List Ac->Aj->Prop),Rep c.w F v a->A.handled=none->Inv c F P V s->
   (∀vs h' d tk,Ao c.w F vs xs->(∀b o,s.heap.get? b=some o->h'.get? b=some o)->R vs {s with heap:=h',drawn:=d,toks:=tk})->Au c.M A (Uq v) R (λZ Z=>False) s:=by
 intro F P v A s R r hh I q;obtain⟨l,us,k,rfl,ho,ru⟩:=h.at I r;refine collect_list (Cu ho) ?_ (by exact Aa ru.length<|hz);have:=q us ((s.heap.push (AM "list" #[] 0)).update s.heap.objs.size (DD (· ++us.toArray))) s.drawn s.toks ru λb o e=>by
  have AH:=Cr e;exact Aa (Heap.get?_update_ne _ _ _ _ (Dh AH))<|Di _ e
 exact this
theorem An.gK(K:GF c α){a:AV}{xs:List α}{Q:AV->St->Prop}(h:Cb V a true (xs.map K.enc))(nd:xs.Nodup)(Fi:xs.length<64)
  (q:∀ys:List α,ys.Perm xs->ys.Pairwise (λx y=>K.lt x y=true)->Q (.lst (ys.map K.enc)) V):An c n (.builtin "sorted") [a] V Q:=
 An.sorted K nd Fi (λF P v A s R r hh I k=>Adk h (by exact Aa (Ai _)<|Aa Ft<|N3 Fi rfl) F P v A s R r hh I λvs h' d tk rv hk=>k vs xs h' d tk .rfl rv hk) q
theorem GD.GC{a:Addr}{ks:List Str}(x:GD c h a ks)(F:Fz):∃o,h.get? a=some o/\Fe c.w F o (.sset ks):=by obtain⟨nd,es,ep,t,ho,Hb,hp,hb,hf,Eg,A3⟩:=x;refine⟨_,ho,es,ep,t,rfl,nd,λe he=>?_,hp,hb,hf,Eg,A3⟩;refine Ah (Hb e he) ?_;intro hZ;refine Ad hZ ?_;clear hZ;intro k hk hh;intro _;refine Ar (TR hk) ?_;clear hk;intro t' ht;exact⟨k,t',ht,hh⟩
theorem An.gL{a:AV}{xs:List Str}{Q:AV->St->Prop}(h:Cb V a true (xs.map .str))(hb:xs.length+1<Gj)(q:∀S,V S=none->Q (.ref S) (V.set S (.sset (dd [] xs)))):An c n (.type "set") [a] V Q:=by intro F P vs r A s ok I;refine Ad (Ha r) ?_;clear r;rintro v rfl rv;obtain⟨l,us,k,rfl,ho,ru⟩:=h.at I rv;refine AcN (c:=c) ok.hh (Cu ho) (AcK ru) (by exact Aa ru.length<|Aa (Ai _) rfl) hb λh' tk hk hS=>?_;refine Bq I.fresh ?_;intro hf hp hs;refine Ad (hS.GC F) ?_;intro o FV ro;exact⟨F,_,_,.refl,(I.keeps (t:=tk) hk).own FV hf hp ro,.ref _,q _ hs⟩
theorem An.gM{S:Addr}{ks:List Str}{Q:AV->St->Prop}(h:V S=some (.sset ks))(Fi:ks.length<64)
  (q:∀ys:List Str,ys.Perm ks->ys.Pairwise (λx y=>Dg x y=true)->Q (.lst (ys.map .str)) V) (nd:ks.Nodup):An c n (.builtin "sorted") [.ref S] V Q:=by
 refine An.sorted (GF.str c) nd Fi (λF P v A s R r hh I k=>?_) q;subst r;obtain⟨_,ho,es,ep,t,rfl,nd,Hb,hp,hb,hf,Eg,A3⟩:=I.hs _ _ h
 ·refine Adb (c:=c) hh ⟨ho,hf⟩ hb Eg A3 λord h' d tk VU hk=>?_;refine k ord (ord.map Qj) h' d tk ((VU.map _).trans ?_) ?_ hk
  ·exact Aa BC<|hp
  ·have:∀v∈ord,∃x t,v=Value.str x t:=λv hv=>by
    refine Ad (Bj.mp (VU.mem_iff.mp hv)) ?_;rintro e he rfl;refine Br (Hb e he) ?_;intro x t hx _;exact⟨x,t,hx⟩
   clear VU k;induction ord with
   | nil=>exact .nil
   | cons v r ih=>
    refine DO (this v (.head _)) ?_;rintro x t rfl;exact .cons (.str _ _) (ih λu hu=>this u (.tail _ hu))
end
theorem Adl:typeLookup (.type "list") "keys"=pure none:=by refine Aa (Ys _ _)<|Aa Yt ?_;kernel_rfl
theorem Adm{prog:LX}{w:A7}{A:BB}{E:Ac->Aj->Prop}{s:Aj}{a:Addr}{xs:Array Ac}{k:Nat}{Q:Option Ac->Aj->Prop}
  (hx:s.heap.get? a=some (AM "list" xs k)) (hA:A.handled=none) (h:∀h' tk,(∀b o,s.heap.get? b=some o->h'.get? b=some o)->Q none {s with heap:=h',toks:=tk}):
  Au (Hw prog w) A (getAttr? (.ref a) "keys") Q E s:=by
 obtain⟨hp,g,d,tk,os⟩:=s;have hT:∀gN,(⟨hp,g,d,gN,os⟩:Aj).TypeIs (.ref a) "list":=λZ=>⟨_,hx,rfl⟩;have f1:=sub_AttributeError;have f3:=F.slot_list_getattribute.lookup;have f4:=F.slot_list_getattribute.bind (.ref a);have f5:=am_list_getattr_none;unfold getAttr? getAttrBy? getAttrBy
 repeat (any_goals (first | assumption | exact hT _ | ((with_reducible show Au _ _ (call (QO "list.__getattribute__") _ _) _ _ _);refine L0 F.slot_list_getattribute (hT _) am_entry_list_getattribute (F.args_list_getattribute_2 _ _) (meets_getattribute_miss_list a xs k #[] "keys" _ Adl (by decide+kernel) (by size_fits)) ⟨hx,hA,λh' gN e OK=>?_⟩) | wp_step))
 refine DO OK.there ?_;intro t' u' he;unfold getattributeRaised
 repeat (any_goals (first | assumption | wp_step))
 exact h _ _ OK.keeps
theorem gO:Ue table "dict.update.loop"=some HE.«dict.update.loop» :=entryFor_of_fast (by kernel_rfl)
theorem RQ:plainId "dict.update.loop"=true:=by decide+kernel
section
variable{c:Cx}{F P:Fz}{V:St}{n:Nat}{K:Type}[DecidableEq K]{α:Type}
theorem St.set_set{a:Addr}{x y:BD}:(V.set a x).set a y=V.set a y:=by funext b;unfold St.set;split<;>rfl
theorem Inv.off{s:Aj}(J:Inv c F P V s){I:Addr}(hI:F I=none/\P I=none/\V I=none){tk:Nat}(k:∀b o,b≠I->s.heap.get? b=some o->h'.get? b=some o):Inv c F P V {s with heap:=h',toks:=tk}:=by
 refine⟨λa o e=>k _ _ (λq=>?_) (J.hf _ _ e),λa o e=>k _ _ (λq=>?_) (J.hp _ _ e),λa ob e=>?_,J.fp,J.sf,J.base,J.gens,J.os⟩
 ·replace e:=q▸e;replace e:=(hI.1)▸e;exact AA e
 ·replace e:=q▸e;replace e:=(hI.2.1)▸e;exact AA e
 ·refine Ad (J.hs _ _ e) ?_;intro o ho r;exact⟨o,k _ _ (λq=>by replace e:=q▸e;replace e:=(hI.2.2)▸e;exact AA e) ho,r⟩
theorem Adn(E:AU c K){A:BB}{s:Aj}{a:Addr}{κs:List K}{vs:List AV}{k:K}{v:AV}{iv vv:Ac}{Q:Unit->Aj->Prop}{Er:Ac->Aj->Prop}(I:Inv c F P V s)(h:V a=some (.dict (κs.map E.enc) vs))
  (hz:κs.length<=Bc) (hn:k∉κs) (r1:Rep c.w F iv (E.enc k)) (r2:Rep c.w F vv v)
  (q:∀h' tk,FN a s.heap h'->Inv c F P (V.set a (.dict ((κs++ [k]).map E.enc) (vs++ [v]))) {s with heap:=h',toks:=tk}->Q () {s with heap:=h',toks:=tk}):Au c.M A (dictSet a iv vv) Q Er s:=by
 obtain⟨d,es,kk,e,ho,ko,rk,rv,m⟩:=(EE.ref h).at I (.ref a);cases e;refine Ah (MH E (vs:=vs) ho ko rk) ?_;intro hD hl;refine wpAny_dictSet_pairs (E.IN r1) hD (λh' Ef hb=>?_) (by exact Aa Yj<|Q4 hz);obtain⟨p1,p2⟩:=cO (κs:=κs) (k:=k) rv (by simpa using hl) (OA E ko) r2;refine Ah (p2 hn) ?_;clear hn;intro b1 b2;refine Ad (Vs E Ef b2) ?_;intro o FV ob;replace ob:=b1▸ob;exact q _ _ hb (I.change h hb FV ob)
def Iq(c:Cx)(enc:α->AV)(ok:α->Prop):Prop:=
 ∀{A:BB}{F P:Fz}{V:St}{s:Aj}{a:Addr}{κs:List α}{vs:List AV}{k:α}{v:AV}{iv vv:Ac}{Q:Unit->Aj->Prop}{Er:Ac->Aj->Prop},Inv c F P V s->V a=some (.dict (κs.map enc) vs)->(∀k∈κs,ok k)->ok k->
  κs.length<=Bc->k∉κs->A.units+30<DC->Rep c.w F iv (enc k)->Rep c.w F vv v->
  (∀h' tk,FN a s.heap h'->Inv c F P (V.set a (.dict ((κs++ [k]).map enc) (vs++ [v]))) {s with heap:=h',toks:=tk}->Q () {s with heap:=h',toks:=tk})->Au c.M A (dictSet a iv vv) Q Er s
theorem Iq.E(E:AU c K):Iq c E.enc λZ=>True:=λI h Z Z hz hn Z r1 r2 q=>Adn E I h hz hn r1 r2 q
theorem Iq.T:Iq c AV.tup λk=>AV.flat 8 (.tup k)=true/\AV.areKeys k=true:=λI h hT hk hz hn hu r1 r2 q=>AcC I h hT hk.1 hk.2 hz hn hu r1 r2 q
theorem Ado{enc:α->AV}{ok:α->Prop}(G:Iq c enc ok){R:NK->Aj->Prop}{A:BB}(hh:A.handled=none)(hu:A.units+40<DC){d I l:Addr}{us:List Ac}{m:Nat}{ps:List (α×AV)}(hl:F l=some (AM "list" us.toArray m))
  (ru:Ao c.w F us (ps.map λp=>.tup [enc p.1,p.2])) (HR:∀p∈ps,ok p.1) (nd:(ps.map (·.1)).Nodup) (hz:ps.length<=Bc) (hI:F I=none/\P I=none/\V I=none) (OQ:d≠I):
  ∀(k i:Nat)(s:Aj),ps.length-i=k->i<=ps.length->s.heap.IsListIter I l i->Inv c F P (V.set d (.dict (((ps.take i).map (·.1)).map enc) ((ps.take i).map (·.2)))) s->
   (∀h' tk,Inv c F P (V.set d (.dict ((ps.map (·.1)).map enc) (ps.map (·.2)))) {s with heap:=h',toks:=tk}->R (.ok (.ret .none)) {s with heap:=h',toks:=tk})->
   Hy c.M A (.builtin "dict.update.loop" ⟨[.ref d,.ref I,Cm i,.none],[]⟩) R s:=by
 have hlen:us.length=ps.length:=Aa ru.length<|Aa (Ai _) rfl;have Eh:∀ob,F I=none/\P I=none/\(V.set d ob) I=none:=λob=>⟨hI.1,hI.2.1,Aa (St.Am (Ne.symm OQ))<|hI.2.2⟩;intro k;induction k with
 | zero=>
  intro i s hk hi hit J hR;have OG:i=us.length:=hlen▸EM hi (Yp hk);subst OG;refine KL gO ?_;refine Aa (QK RQ _) ?_;refine Ak (Aal (A:=A.in1) hh hit (Cu (J.hf _ _ hl)) (by simp) λh' he=>?_);refine AF (hR h' s.toks ?_);have:=J.off (tk:=s.toks) (Eh _) λb o hb e=>he b o hb e;replace this:=(Gp (HJ hlen))▸this;exact this
 | succ k ih=>
  intro i s hk hi hit J hR;have OR:i<ps.length:=Aam hk;have AH:i<us.length:=hlen▸OR;refine KL gO ?_;refine Aa (QK RQ _) ?_;have hx:us.toArray[i]?=some us[i]:=by simp[AH]
  refine Ak (Aan hit (Cu (J.hf _ _ hl)) hx λh1 IK JX=>?_);have J1:=J.off (tk:=s.toks) (Eh _) λb o hb e=>(JX.2 b hb).trans e;obtain⟨u,OS,ru1⟩:=ru.get (i:=i) (x:= .tup [enc ps[i].1,ps[i].2]) (by simp[OR]);replace OS:=(BG AH)▸OS;replace OS:=Ay OS;subst OS;obtain⟨ta,tv,tk,e1,e2,rt⟩:=JS ru1;refine BS (Lg rt) ?_;clear rt;rintro kv vv rfl rk rv;refine Aa e1 ?_;have ht:=J1.hf _ _ e2;refine Ak (Et ?_);refine Ak (wpAny_tryCatch ?_);unfold AlG;refine Ak (Up (T:="tuple") ⟨_,ht,rfl⟩ ?_);rw[if_pos (by decide)];refine Ak (TW ht rfl (AF ?_));refine Et ?_;have MP:ps.take (i+1)=ps.take i++ [ps[i]]:=Aa List.take_succ<|Aa (BG OR) rfl;have hnin:ps[i].1∉(ps.take i).map (·.1):=by have h2:((ps.take (i+1)).map (·.1)).Nodup:=Aa Me<|nd.sublist (QP _ _);replace h2:=MP▸h2;replace h2:=Bs▸h2;rewrite[NO] at h2;exact λhm=>h2.2.2 _ hm _ (by simp) rfl
  refine G J1 (St.AC) (λk hk=>?_) (HR _ (NN OR)) (by simp;exact Mj hz) hnin (M93 hu) rk rv λh2 JZ OI J2=>?_
  ·refine Ad (Bj.mp hk) ?_;clear hk;rintro p hp rfl;exact HR p (Gq hp)
  ·replace J2:=St.set_set▸J2;refine AF ⟨NP RQ _,?_⟩;refine ih (i+1) _ (congrArg Nat.pred hk) OR (IK.at λo e=>(OI.2 _ (Ne.symm OQ)).trans e) ?_ λh3 gP J3=>hR h3 gP J3;have e1:(ps.take (i+1)).map (·.1)=(ps.take i).map (·.1)++ [ps[i].1]:=Aa MP<|Aa Bs rfl;have e2:(ps.take (i+1)).map (·.2)=(ps.take i).map (·.2)++ [ps[i].2]:=Aa MP<|Aa Bs rfl;refine Aa e1<|Aa e2 ?_;exact J2
theorem An.VV{enc:α->AV}{ok:α->Prop}(G:Iq c enc ok){Q:AV->St->Prop}{ps:List (α×AV)}(HR:∀p∈ps,ok p.1)(nd:(ps.map (·.1)).Nodup)(hz:ps.length<=Bc)
  (q:∀d,V d=none->Q (.ref d) (V.set d (.dict ((ps.map (·.1)).map enc) (ps.map (·.2))))):An c n (.type "dict") [.lst (ps.map λp=>.tup [enc p.1,p.2])] V Q:=by
 intro F P vs r A s VW I;refine Ad (Ha r) ?_;clear r;rintro v rfl rv;obtain⟨l,us,m,rfl,hl,ru⟩:=lst_inv rv;refine Bq I.fresh ?_;intro hf hp hs;refine callType_codes (Q₁:=λobj Df=>obj= .ref s.heap.objs.size/\Df={s with heap:=s.heap.push {cls:= .type "dict",data:= .dict #[]}}) PySem.F.kt_called_dict (PySem.F.kt_typeCall_dict_1 _) PySem.F.entry_dict_init (kt_code_dict_new _ ⟨rfl,rfl⟩) ?_;intro obj Df;intro hZ;refine Ah hZ ?_;clear hZ;rintro rfl rfl;have hD:(s.heap.push {cls:= .type "dict",data:= .dict #[]}).get? s.heap.objs.size=some {cls:= .type "dict",data:= .dict #[]}:=Ct _ rfl;have gQ:Aaq {s with heap:=s.heap.push {cls:= .type "dict",data:= .dict #[]}} (.ref s.heap.objs.size) "dict":=⟨_,hD,rfl⟩;have J:Inv c F P (V.set s.heap.objs.size (.dict [] [])) {s with heap:=s.heap.push {cls:= .type "dict",data:= .dict #[]}}:=
  (I.push (t:=s.toks) _).own hD hf hp ⟨[],0,rfl,⟨rfl,Il,.inl rfl⟩,.nil,.nil⟩
 refine⟨gQ,PySem.F.args_dict_init_2 _ _,?_⟩;unfold HE.«dict.__init__»;refine Ak ?_;unfold AlH;refine Ak (wpAny_notOrdered_dict gQ ?_);refine AF ?_;show Au _ _ (AaN "dict.__init__" s.heap.objs.size (.ref l) [] .none) _ _ _;unfold AaN;have IU:=J.hf _ _ hl;refine Ak (Up (T:="list") ⟨_,IU,rfl⟩ ?_);rw[if_pos (by decide)];refine Ak (Adm IU VW.hh λh1 gS Fh=>?_);simp only[Option.isNone_none,if_true];have J1:=J.keeps (t:=gS) Fh;refine Ak (L6 ?_);refine Ak (X9 (Cu (J1.hf _ _ hl)) ?_);have hn:=J1.fresh;have J2:=J1.push (t:=gS) {cls:= .type "list_iterator",data:= .fields #[.ref l,.int 0 0]};have OQ:s.heap.objs.size≠h1.objs.size:=Dh (Cr (Fh _ _ hD));refine AF ⟨NP RQ _,?_⟩;refine Ado G (V:=V) (A:=A.in1) VW.hh (by have:=VW.un;show A.units+1+40<DC;unfold DC;exact M40 this) hl ru HR nd hz ⟨hn.1,hn.2.1,by have:=hn.2.2;rwa[St.Am (Ne.symm OQ)] at this⟩ OQ _ 0 _ (Yr _) (Cq _) ⟨_,Ct _ rfl,rfl,rfl⟩ J2 λh3 gP J3=>?_;exact⟨rfl,F,_,_,.refl,J3,.ref _,q _ hs⟩
end
section
variable{c:Cx}{n:Nat}{sc:BF}{W:Al}{V:St}
theorem B0.or3{x y z:Expr}{pos:Pos}{Q:Bool->St->Prop}(h:B0 c n x sc W V (λa Af=>if a then Q true Af else B0 c n y sc W Af (λb Av=>if b then Q true Av else B0 c n z sc W Av Q))):B0 c n (.BoolOp .Or [x,y,z] pos) sc W V Q:=by
 intro F P env fr;show Tr c n Eb (do
  match Qr,<-Eu x env (eval x env) with
  | .And,false=>pure false
  | .Or,true=>pure true
  | _,_=>do
   match Qr,<-Eu y env (eval y env) with
   | .And,false=>pure false
   | .Or,true=>pure true
   | _,_=>do
    match Qr,<-Eu z env (eval z env) with
    | .And,false=>pure false
    | .Or,true=>pure true
    | _,_=>pure false) F P V Q
 refine(h F P env fr).bind λv a F1 Af l1 e h1=>?_;subst (e:v=a);cases v with
 | true=>exact Tr.pure (Rp:=Eb) rfl h1
 | false=>
  refine(h1 F1 P env (fr.mono l1)).bind λu b F2 Av l2 e h2=>?_;subst (e:u=b);cases u with
  | true=>exact Tr.pure (Rp:=Eb) rfl h2
  | false=>
   refine(h2 F2 P env (fr.mono (l1.trans l2))).bind λu b F3 By l3 e h3=>?_;subst (e:u=b);cases u with
   | true=>exact Tr.pure (Rp:=Eb) rfl h3
   | false=>exact Tr.pure (Rp:=Eb) rfl h3
theorem Ax.Ll{x y z:Expr}{pos:Pos}{Q:AV->St->Prop}(h:Ax c n x sc W V (λa Af=>ES c n a Af (λk Av=>if k then Ax c n y sc W Av (λb By=>ES c n b By (λk CE=>if k then Ax c n z sc W CE Q else Q b CE)) else Q a Av))):Ax c n (.BoolOp .And [x,y,z] pos) sc W V Q:=by
 intro F P env fr;show Tr c n c.AlW (do
  let v <-eval x env
  DL pos
  let t <-DK [v] (Ih v)
  match Qq,t with
  | .And,false | .Or,true=>pure v
  | _,_=>do
   let v <-eval y env
   DL pos
   let t <-DK [v] (Ih v)
   match Qq,t with
   | .And,false | .Or,true=>pure v
   | _,_=>eval z env) F P V Q
 refine(h F P env fr).bind λv a F1 Af l1 r1 h1=>Tr.Gs ?_;refine((h1 F1 P v r1).hold).bind λt k F2 Av l2 e h2=>?_;subst (e:t=k);cases t with
 | false=>exact Tr.pure (r1.mono l2) h2
 | true=>
  refine(h2 F2 P env (fr.mono (l1.trans l2))).bind λv a F3 By l3 r3 h3=>Tr.Gs ?_;refine((h3 F3 P v r3).hold).bind λt k F4 CE l4 e h4=>?_;subst (e:t=k);cases t with
  | false=>exact Tr.pure (r3.mono l4) h4
  | true=>exact h4 F4 P env (fr.mono (((l1.trans l2).trans l3).trans l4))
theorem Ax.Adp{pos:Pos}{Q:AV->St->Prop}(q:∀d,V d=none->Q (.ref d) (V.set d (.dict [] []))):Ax c n (.Dict [] [] pos) sc W V Q:=by intro F P env fr A s ok I;refine Aa (AaO _) ?_;refine Ak (Hx (Jw ?_));refine Bq I.fresh ?_;intro hf hp hs;exact⟨F,_,_,.refl,(I.push (t:=s.toks) JB).own (ob:= .dict [] []) (Ct _ rfl) hf hp ⟨[],0,rfl,⟨rfl,Il,.inl rfl⟩,.nil,.nil⟩,.ref _,q _ hs⟩
theorem Ax.Adq{pos:Pos}{Q:AV->St->Prop}(q:Q (.BH [] []) V):Ax c n (.Dict [] [] pos) sc W V Q:=by
 intro F P env fr A s ok I;refine Aa (AaO _) ?_;refine Ak (Hx (Jw ?_));refine Bq I.fresh ?_;intro hf hp hs;have le:=Fz.Dt (o:=JB) hf;have m:(s.heap.objs.size==NC)=false:=by refine beq_eq_false_iff_ne.mpr λe=>?_;refine Ar c.S ?_;intro o ho;have:=I.hf _ _ (I.base _ _ ho);exact absurd (Cr this) (by refine AS e ?_;exact Hu _)
 exact⟨_,V,_,le,(I.push (t:=s.toks) JB).freeze (Ct _ rfl) hf hp hs,.BH (es:= []) (n:=0) m Fz.AC ⟨rfl,Il,.inl rfl⟩ .nil .nil,q⟩
theorem Ao.of_get{F:Fz}{vs:List Ac}(h:vs.length=xs.length)(k:∀(i:Nat) v x,vs[i]?=some v->xs[i]?=some x->Rep w F v x):Ao w F vs xs:=by
 induction xs generalizing vs with
 | nil=>cases vs with
  | nil=>exact .nil
  | cons _ _=>exfalso;injection h
 | cons x xs ih=>cases vs with
  | nil=>exfalso;injection h
  | cons v vs=>exact .cons (k 0 v x rfl rfl) (ih (QQ h) λi v x h1 h2=>k (i+1) v x h1 h2)
theorem gT{K:Type}[DecidableEq K](E:AU c K){F:Fz}{d:Addr}{es:List Ck}{k:Nat}{κs:List K}(ho:h.get? d=some (Dy es k))(kk:IB c.w es (κs.map E.enc))(rk:Ao c.w F (es.map (·.key)) (κs.map E.enc)):
  ∃kvs ep,h.DictAt E.knd d kvs ep/\kvs.length=κs.length/\ ∀(i:Nat) v x,(∃k y,kvs[i]?=some (k,y)/\E.knd.is k v=true)->(κs.map E.enc)[i]?=some x->∀G,Rep c.w G v x:=by
 refine Ah (MH E (vs:= []) ho kk rk) ?_;intro hD hl;refine Ar hD.dictAt ?_;intro ep MQ;refine⟨_,ep,MQ,Aa Yj<|Aa (Ai _)<|Aa hl<|Aa (AaP _) rfl,?_⟩;intro i v x;intro hZ;refine Br hZ ?_;clear hZ;intro k y h1 h2;intro h3 G;have h4:κs[i]?=some k:=by have:=congrArg (λl=>l[i]?) (Le (l:=κs) (r:=es.map (·.val)) (by simpa using hl));simp only[Bp,h1,Yg] at this;exact this.symm
 simp only[Bp,h4,Yg,Yh] at h3;subst h3;exact E.RC h2
theorem gU{K:Type}[DecidableEq K](E:AU c K){F:Fz}{s:Aj}{tg:Expr}{κs:List K}{vs:List AV}{Q:List AV->St->Prop}(hh:A.handled=none)(ht:FU tg)(J:Inv c F P V s)(r:Rep c.w F v (.BH (κs.map E.enc) vs))(q:Q (κs.map E.enc) V):
  Au c.M A (Hz v) (ET c A tg F P Q) (λZ Z=>False) s:=by
 obtain⟨d,es,k,rfl,lo,e,kk,rk,rv⟩:=r;have ho:=J.hf _ _ e;refine BS (gT E ho kk rk) ?_;intro kvs ep MQ hlen MI;refine wpAny_pyIter_dict lo MQ ?_;have Bb:d≠s.heap.objs.size:=Dh (Cr ho);obtain⟨P',b1,b2,b3,J'⟩:=J.guards (wr:= [s.heap.objs.size]) (tk:=s.toks) (λb o e=>Di {cls:= .type "dict_keyiterator",data:= .fields #[.ref d,.int 0 0,.int kvs.length 0,.int ep 0]} e) (λb hb=>by simp at hb;subst hb;exact G6 s.heap (k:=0)) (λb hb=>by simp at hb;subst hb;exact⟨_,Ct _ rfl⟩);refine⟨F,P',V,_,[s.heap.objs.size],κs.map E.enc,_,rfl,.refl,b2,b1,J',⟨⟨F,.refl,Wk.ofWalks (Walks.dictKeys (knd:=E.knd) hh s.heap.objs.size d Bb kvs ep) (by exact Aa hlen<|Aa (Ai _) rfl) (λi v x h1 h2=>MI i v x h1 h2 F) (λb hb=>?_) (λi h st b hb=>?_) λi s v Q st q=>?_⟩,⟨⟨_,Ct _ rfl,rfl,rfl⟩,MQ.push _⟩,b3⟩,q⟩
 ·simp at hb;rcases hb with rfl|rfl
  ·simp
  ·exact .inr ⟨_,e⟩
 ·refine Ah st ?_;clear st;intro hZ;refine Ad hZ ?_;clear hZ;intro o ho _;intro _;simp at hb;subst hb;exact⟨o,ho⟩
 ·refine Ah st ?_;clear st;intro hZ;refine Ch hZ ?_;clear hZ;intro o ho hc _;intro _;exact Ro ht ho hc (by decide+kernel) q
theorem An.Adr{K:Type}[DecidableEq K](E:AU c K){a:AV}{κs:List K}{vs:List AV}{Q:AV->St->Prop}(h:EE V a (κs.map E.enc) vs)(hz:κs.length<=Bc)(q:Q (.lst (κs.map E.enc)) V):An c n (.type "list") [a] V Q:=by
 intro F P us r A s ok I;refine Ad (Ha r) ?_;clear r;rintro v rfl rv;obtain⟨d,es,k,rfl,ho,kk,rk,_,lo⟩:=h.at I rv;refine BS (gT E ho kk rk) ?_;intro kvs ep MQ hlen MI;refine kdl_call (kdl_dict (knd:=E.knd) (kvs:=kvs) (ep:=ep) lo) ok.hh MQ (by exact Aa hlen<|hz) λh' tk acc c' hk hg OO=>?_;refine Bq I.fresh ?_;intro hf hp hs;have I1:Inv c F P V {s with heap:=h',toks:=tk}:=I.keeps hk;have ra:Ao c.w F acc.toList (κs.map E.enc):=Ao.of_get (by exact Aa Ub<|Aa (OO.1)<|Aa hlen<|Aa (Ai _) rfl) λi v x h1 h2=>MI i v x (OO.2 i v (by simpa using h1)) h2 F;have OT:h'.get? s.heap.objs.size=some (AM "list" acc.toList.toArray c'):=by simpa using hg
 have I2:=I1.freeze OT hf hp hs;exact⟨_,V,_,Fz.Dt hf,I2,.lst Fz.AC (ra.mono (Fz.Dt hf)),q⟩
theorem gW{F:Fz}:∀{is:List Int}{vs:List Ac},Ao w F vs (is.map .int)->∃xs:Array (Int×Tok),vs.toArray=YH xs/\xs.toList.map (·.1)=is
 | [],vs,r=>by subst r;exact⟨#[],by simp[YH],rfl⟩
 | i::is,vs,r=>by
  obtain⟨_,us,rfl,⟨t,rfl⟩,r⟩:=r;refine Ad (gW r) ?_;clear r;intro xs h1 h2;refine⟨#[(i,t)]++xs,?_,by simp[h2]⟩;unfold YH at*;refine Aa Array.map_append ?_;refine AS h1 ?_;simp
theorem An.maxL{a:AV}{is:List Int}{Q:AV->St->Prop}(h:Cb V a true (is.map .int))(Bb:is≠[])(q:∀m,m∈is->(∀x∈is,x<=m)->Q (.int m) V):An c n (.builtin "max") [a] V Q:=by
 intro F P vs r A s ok I;refine Ad (Ha r) ?_;clear r;rintro v rfl rv;obtain⟨l,us,k,rfl,ho,ru⟩:=h.at I rv;refine Ad (gW ru) ?_;clear ru;intro xs h1 h2;have CP:0<xs.size:=by
  rcases wY xs.size with e|e
  ·exact absurd (by refine AS h2 ?_;exact Aa (Array.eq_empty_of_size_eq_zero e) rfl) Bb
  ·exact e
 replace ho:=h1▸ho;refine max_intList ok.hh ⟨_,ho,rfl,_,rfl⟩ CP λv h' tk hv hk=>?_;refine Ah (argBest_gt (numAt xs) (xs.size-1)) ?_;intro b1 b2;refine Ar (intItems_at hv) ?_;clear hv;rintro t rfl;have OG:∀j,j<xs.size->numAt xs j∈is:=λj hj=>by
  refine AS h2 ?_;unfold numAt;refine Aa (Md hj) ?_;exact Bj.mpr ⟨xs[j],by simp,rfl⟩
 refine⟨F,V,_,.refl,I.keeps hk,.int _ _,q _ (OG _ (M35 CP b1)) λx hx=>?_⟩;replace hx:=Eq.symm h2▸hx;refine Ad (Bj.mp hx) ?_;clear hx;rintro p hp rfl;obtain⟨j,hj,rfl⟩:=Array.mem_iff_getElem.mp (Array.mem_toList_iff.mp hp);have:=b2 j (NQ hj);unfold numAt at this⊢;replace this:=(Md hj)▸this;exact this
theorem An.max2{a b:Int}{Q:AV->St->Prop}(q:Q (.int (if b>a then b else a)) V):An c n (.builtin "max") [.int a,.int b] V Q:=by
 intro F P vs r A s ok I;refine BS (Lg r) ?_;clear r;rintro v u rfl;intro hZ;refine Ar hZ ?_;clear hZ;rintro t rfl;intro hZ;refine Ar hZ ?_;clear hZ;rintro t' rfl;refine max_two_ints ok.hh λh' tk hk=>?_;refine⟨F,V,_,.refl,I.keeps hk,?_,q⟩;split
 ·exact .int _ _
 ·exact .int _ _
end
section
variable{c:Cx}{n:Nat}{V:St}{Q:AV->St->Prop}
theorem AR.OU{a:AV}(h:Cb V a true xs)(q:Q (.bool (!xs.isEmpty)) V):AR c n .NotEq a (.lst []) V Q:=by
 intro F P v u r1 r2 A s ok I;obtain⟨l,vs,k,rfl,ho,r⟩:=h.at I r1;obtain⟨b,us,m,rfl,e,ru⟩:=lst_inv r2;subst ru;have hl:s.heap.IsList l vs.toArray:=Cu ho;have hb:s.heap.IsList b #[]:=Cu (vs:= []) (I.hf _ _ e);have hu:A.units<cLine:=by have:=ok.un;unfold DC;exact N2 (CN this) rfl
 cases xs with
 | nil=>
  subst r;exact AaQ (AlI (e:=λZ=>true) hl hb rfl hu λj h1 h2=>absurd h2 (by simp)) ⟨F,V,_,.refl,I,.bool _,q⟩
 | cons x xs=>
  obtain⟨v,us,rfl,_,_⟩:=r;exact AaQ (AlJ hl hb (by simp) hu) ⟨F,V,_,.refl,I,.bool _,q⟩
theorem AR.gX{a:AV}(h:Cb V a true xs)(q:Q (.bool xs.isEmpty) V):AR c n .Eq a (.lst []) V Q:=by
 intro F P v u r1 r2 A s ok I;obtain⟨l,vs,k,rfl,ho,r⟩:=h.at I r1;obtain⟨b,us,m,rfl,e,ru⟩:=lst_inv r2;subst ru;have hl:s.heap.IsList l vs.toArray:=Cu ho;have hb:s.heap.IsList b #[]:=Cu (vs:= []) (I.hf _ _ e);have hu:A.units<cLine:=by have:=ok.un;unfold DC;exact N2 (CN this) rfl
 cases xs with
 | nil=>
  subst r;exact SeqAt.eq_listAt (e:=λZ=>true) hl hb rfl hu (λj h1 h2=>absurd h2 (by simp)) ⟨F,V,_,.refl,I,.bool _,q⟩
 | cons x xs=>
  obtain⟨v,us,rfl,_,_⟩:=r;exact SeqAt.eq_list_lengthsAt hl hb (by simp) hu ⟨F,V,_,.refl,I,.bool _,q⟩
end
end Mine.Internal
noncomputable section
namespace Mine.Internal.Hd
noncomputable abbrev row:OpenRow:=Mf.row
noncomputable abbrev pE:Program:=row.toRowW.1
noncomputable def st(i:Nat):Stmt:=(pE.main.body[i]?).getD default
noncomputable def inside:Stmt->List Stmt
 | .ClassDef _ _ _ b _ _ _ _ _ _ _=>b
 | _=>[]
noncomputable def sm(i j:Nat):Stmt:=((inside (st i))[j]?).getD default
noncomputable def s(x:String)(t:Nat):Value:= .str (.ofString x) t
noncomputable def r(a:Nat):Value:= .ref a
noncomputable def z(k:Nat):Value:= .int (QR k) 0
noncomputable def zt(k t:Nat):Value:= .int (QR k) t
noncomputable def zn(k t:Nat):Value:= .int (-(QR k)) t
noncomputable def tp(vs:List Ac):Obj:=⟨.type "tuple",none,.seq vs.toArray 0,#[]⟩
noncomputable def fl(c:Ac)(vs:List Ac):Obj:=⟨c,none,.fields vs.toArray,#[]⟩
noncomputable def t0:Obj:=tp []
noncomputable def f0:Obj:=fl .none []
noncomputable def co(nm qn:String)(t line a b c d flags k Ads:Nat)(v8 v9 v11 v12 v13 v14 v15:Ac)(tl:Nat):Obj:=
 fl (.type "code") [s nm t,s qn (t+1),s "/claim/cut.py" (t+2),z line,z a,z b,z c,z d,v8,v9,z flags,v11,v12,v13,v14,v15,z k,z Ads,s "/claim/cut.py" tl]
noncomputable def es(P:AK):List (String×Nat×Ac)->List Ck
 | []=>[]
 | (x,t,v)::r=>⟨KD P (.ofString x),.str (.ofString x) t,v⟩::es P r
noncomputable def dc(P:AK)(c:Ac)(l:List (String×Nat×Ac))(n:Nat):Obj:=⟨c,none,.dict (es P l).toArray n,#[]⟩
noncomputable def di(P:AK)(l:List (String×Nat×Ac))(n:Nat):Obj:=dc P (.type "dict") l n
noncomputable def Om:List (String×Nat)->List (Str×Addr)
 | []=>[]
 | (x,a)::r=>(.ofString x,a)::Om r
noncomputable def fo(c:Ac)(s:Stmt)(qn:String)(g:Nat)(cl:List (String×Nat))(df kd doc md code ct:Ac)(bl:Nat):Obj:=match s with
 | .FunctionDef nm a b _ _ _ sc _ _ _=>⟨c,none,.func {name:=nm,qualname:= .ofString qn,params:=a,body:= .stmts b,scope:=sc,globals:=g,closure:=Om cl,defaults:=df,kwdefaults:=kd,doc:=doc,pyModule:=md,code:=code,closureTuple:=ct,builtins:=bl},#[]⟩
 | _=>default
noncomputable def toks:Nat->List String->List Ac
 | _,[]=>[]
 | t,x::r=>s x t::toks (t+1) r
noncomputable def AT(st:Stmt)(nm qn:String)(t line ac x:Nat)(ns:List String)(a:Nat)(df md:Ac):List Obj:=
 [t0,f0,tp (toks (t+3) ns),t0,fo .none st qn 0 [] .none .none .none .none .none .none 0,
  co nm qn t line ac 0 0 3 x (t+3+ns.length) line (r a) (.bool true) (r (a+1)) .none (r (a+2)) (r (a+3)) (r (a+4)) (t+4+ns.length),
  fo (.type "function") st qn 3 [] df .none .none md (r (a+5)) .none 0]
noncomputable def cl(nm qn:String)(bs mro:List Ac)(ns:Nat)(subs:List Ac)(sl:List (Option Ac)):Obj:=
 ⟨.type "type",none,.cls {name:= .ofString nm,bases:=bs,mro:=mro,ns:=ns,qualname:= .ofString qn,subclasses:=subs},sl.toArray⟩
noncomputable def pl(c:Ac)(d:Option Nat)(sl:List (Option Ac)):Obj:=⟨c,d,.plain,sl.toArray⟩
noncomputable def ce(v:Option Ac):Obj:=⟨.type "cell",none,.cell v,#[]⟩
noncomputable def q1:Value:=s "grammarmill.source" 194
noncomputable def q2:Value:=s "grammarmill.tables" 315
noncomputable def q3:Value:=s "grammarmill.driver" 521
noncomputable def q4:Value:=s "grammarmill.grammar" 919
noncomputable def q5:Value:=s "grammarmill.nodes" 1074
noncomputable def q6:Value:=s "law_nn0388_01" 1279
noncomputable def fb(l:List Ac):Obj:=fl (.type "builtin_function_or_method") l
noncomputable def EZ:Obj:=fb [.builtin "type.__prepare__",.type "type"]
noncomputable def ib(c:Nat):Obj:=fb [.builtin "object.__init_subclass__",r c]
noncomputable def su(c:Nat):Obj:=fl (.type "super") [r c,r c,r c]
noncomputable def gx(x:String)(n c:Nat)(a b:Ac):Obj:=fl (.type "getset_descriptor") [s x n,r c,a,b]
noncomputable def gd(n c:Nat):Obj:=gx "__dict__" n c (.builtin "function.__dict__") (.builtin "function.__dict__#set")
noncomputable def gw(n c:Nat):Obj:=gx "__weakref__" n c (.builtin "ExceptionGroup.__weakref__") .none
noncomputable def s6(x:Option Ac)(nm:String)(a b:Nat)(f:String):List (Option Ac):= [x,none,some (s nm a),some (s nm b),some (.builtin f),some (.bool true)]
noncomputable def cc(nm:String)(t l b:Nat):Obj:=co nm nm t l 0 0 0 0 181 (t+3) l (r (b+1)) (.bool false) (r (b+2)) .none .none .none .none (t+4)
noncomputable def Fj(q:Ac)(b:Nat):Obj:=pl (.type "frame") none [some (r (b+3)),some (r 3),some (r b),none,some q,none,some (r 0)]
noncomputable def kf(q:Ac)(a l:Nat)(w:List (String×Nat×Ac)):List (String×Nat×Ac):=("__module__",a,q)::("__firstlineno__",a+4,zt l (a+3))::w
noncomputable def kd(q:Ac)(a l:Nat)(nm:String)(w:List (String×Nat×Ac)):List (String×Nat×Ac):=("__module__",a,q)::("__qualname__",a+2,s nm (a+1))::("__firstlineno__",a+4,zt l (a+3))::w
noncomputable def w0:List (String×Nat×Ac):= [("__init__",216,r 36),("told",223,r 43),("__static_attributes__",226,r 44)]
noncomputable def w1:List (String×Nat×Ac):= [("__static_attributes__",246,r 57)]
noncomputable def w2:List (String×Nat×Ac):= [("__static_attributes__",262,r 69)]
noncomputable def w3:List (String×Nat×Ac):= [("__init__",288,r 88),("told",295,r 95),("is_end",302,r 102),("__static_attributes__",307,r 103)]
noncomputable def w4:List (String×Nat×Ac):= [("__init__",354,r 123),("terminal",362,r 130),("left",370,r 137),("length",378,r 144),("before",386,r 151),("state_count",393,r 158),("explicit",402,r 165),("default",410,r 172),("goto",419,r 179),("action",429,r 186),("expected",440,r 193),("is_consistent",449,r 200),("__static_attributes__",457,r 201)]
noncomputable def w5:List (String×Nat×Ac):= [("__init__",483,r 221),("state_count",490,r 228),("explicit",499,r 235),("goto",508,r 242),("__static_attributes__",516,r 243)]
noncomputable def w6:List (String×Nat×Ac):= [("shift",546,r 261),("reduce",556,r 268),("recover",563,r 275),("__static_attributes__",564,r 276)]
noncomputable def w7:List (String×Nat×Ac):= [("__init__",596,r 297),("told",603,r 304),("message",610,r 311),("__static_attributes__",615,r 312)]
noncomputable def w8:List (String×Nat×Ac):= [("__init__",645,r 332),("is_clean",652,r 339),("__static_attributes__",657,r 340)]
noncomputable def w9:List (String×Nat×Ac):= [("__init__",684,r 360),("next_token",692,r 367),("__static_attributes__",695,r 368)]
noncomputable def gY:List (String×Nat×Ac):= [("__init__",725,r 389),("begin",732,r 396),("outcome",739,r 403),("parse",747,r 410),("pull",755,r 417),("offer",763,r 424),("needs",770,r 431),("look",778,r 438),("lone_rule",786,r 445),("terminal_of",795,r 452),("note",803,r 459),("place",810,r 466),("finish",819,r 473),("step",830,r 480),("is_established",838,r 487),("shift",846,r 494),("reduce",858,r 501),("act",867,r 508),("go_on",877,r 515),("expected",884,r 522),("tell_fault",890,r 527),("fail",898,r 534),("__static_attributes__",911,r 535)]
noncomputable def gZ:List (String×Nat×Ac):= [("__init__",950,r 556),("__static_attributes__",958,r 557)]
noncomputable def jA:List (String×Nat×Ac):= [("__init__",983,r 575),("symbol_count",990,r 582),("is_terminal",998,r 589),("is_middle",1006,r 596),("number",1014,r 603),("rules_of",1022,r 610),("item",1031,r 617),("rule_of",1039,r 624),("dot_of",1047,r 631),("after",1055,r 638),("__static_attributes__",1066,r 639)]
noncomputable def jB:List (String×Nat×Ac):= [("__init__",1097,r 659),("is_leaf",1104,r 666),("head",1111,r 673),("told",1121,r 680),("leaves",1127,r 685),("reductions",1133,r 690),("height",1140,r 697),("show",1147,r 704),("__static_attributes__",1151,r 705)]
noncomputable def jC:List (String×Nat×Ac):= [("__init__",1178,r 725),("is_leaf",1185,r 732),("head",1192,r 739),("__static_attributes__",1197,r 740)]
noncomputable def jD:List (String×Nat×Ac):= [("__init__",1237,r 770),("shift",1245,r 777),("reduce",1256,r 784),("recover",1263,r 791),("__static_attributes__",1265,r 792)]
noncomputable def jE:List (String×Nat×Ac):= [("__doc__",166,.none),("__package__",167,.none),("__loader__",168,.builtin "__main__.__loader__#opaque"),("__spec__",169,.none),("__annotations__",170,r 6),("__builtins__",171,r 4),("__file__",173,s "/claim/cut.py" 172),("__cached__",174,.none),("_wall",193,r 21),("ToolError",233,r 46),("TableError",249,r 59),("ParseError",265,r 71),("Token",314,r 105),("ACCEPT",320,zt 1048576 319),("BARRED",325,zn 1048576 324),("ERROR_tables",327,zt 1 326),("UNDEFINED_tables",329,zt 2 328),("Tables",464,r 203),("ParseTables",520,r 245),("ERROR_driver",524,zt 1 523),("UNDEFINED_driver",526,zt 2 525),("Handler",571,r 278),("Fault",622,r 314),("Outcome",664,r 342),("TokenRow",702,r 370),("Core",918,r 537),("Rule",965,r 559),("Grammar",1073,r 641),("Tree",1158,r 707),("Leaf",1200,r 742),("postorder",1211,r 751),("derivation",1217,r 756),("TreeHandler",1272,r 794),("left_names",1278,r 803),("_law_pen",1286,r 808),("_law_draw",1295,r 815),("_law_pick",1303,r 822),("_law_pairs",1309,r 827),("_law_heads",1315,r 832),("_law_closed",1321,r 837),("_law_states",1327,r 842),("_law_tables",1333,r 847),("_law_word",1339,r 852),("_law_led",1357,r 859),("_law_right",1363,r 864),("law",1377,r 871)]
noncomputable def Adt:List Value:= [z 1,z 0,r 20,z 5,z 0,r 27,z 16,z 0,r 55,z 18,z 0,r 67,z 20,z 0,r 79,z 38,z 0,r 115,z 99,z 0,r 214,z 125,z 0,r 253,z 135,z 0,r 288,z 148,z 0,r 324,z 158,z 0,r 352,z 171,z 0,r 380,z 293,z 0,r 547,z 303,z 0,r 569,z 348,z 0,r 651,z 382,z 0,r 717,z 395,z 0,r 750,z 404,z 0,r 755,z 414,z 0,r 762,z 430,z 0,r 802,z 433,z 0,r 807,z 435,z 0,r 814,z 442,z 0,r 821,z 444,z 0,r 826,z 453,z 0,r 831,z 459,z 0,r 836,z 473,z 0,r 841,z 493,z 0,r 846,z 521,z 0,r 851,z 534,z 0,r 858,z 552,z 0,r 863,z 565,z 0,r 870]
noncomputable def md(P:AK)(v:Ac)(k n:Nat):Obj:=di P (("__name__",165,v)::jE.take k) n
noncomputable def Ei(k:Nat):Obj:=fl .none (Adt.take k)
noncomputable def VX(P:AK):List Obj:= [boot_o_0 P,boot_o_1 P,boot_o_2 P,boot_o_3 P,boot_o_4 P,boot_o_5 P,boot_o_6 P,boot_o_7 P,boot_o_8 P,boot_o_9 P,boot_o_10 P,t0,f0,co "<module>" "<module>" 182 1 0 0 0 0 181 185 1 (r 11) (.bool false) (r 12) .none .none .none .none 186,pl (.type "frame") none [some (r 13),some (r 3),some (r 3),none,some (s "__main__" 164),none,some (r 0)]]
noncomputable def ch1(P:AK):List (Nat×Obj):= [(2,dc P .none [("type.__subclasses__.Exception.0",230,z 46),("type.__subclasses__.Exception.n",231,z 1)] 2),
 (3,md P q1 10 11),
 (12,Ei 6)]
noncomputable def jF(P:AK):List Obj:=AT (st 0) "_wall" "_wall" 187 1 1 181 ["k"] 15 .none (s "__main__" 164)++([tp [.type "Exception"],EZ,di P (kd q1 203 5 "ToolError" w0) 6,t0,fl .none [z 7,z 4,r 35,z 12,z 4,r 42],cc "ToolError" 198 5 24,Fj q1 24,tp [.none]]++(AT (sm 2 0) "__init__" "ToolError.__init__" 208 7 3 181 ["self","what","at"] 30 (r 29) q1++(AT (sm 2 1) "told" "ToolError.told" 217 12 1 181 ["self"] 37 .none q1++([tp [s "at" 224,s "what" 225],di P (kf q1 203 5 (w0++ [("__weakref__",228,r 47),("__doc__",229,.none)])) 3,cl "ToolError" "ToolError" [.type "Exception"] [r 46,.type "Exception",.type "BaseException",.type "object"] 45 [] (s6 (some (r 22)) "ToolError" 196 204 "Exception.__new__"),gw 227 46,su 46,ib 46]))))
noncomputable def ch2(P:AK):List (Nat×Obj):= [(3,md P q1 11 12),
 (12,Ei 9),
 (46,cl "ToolError" "ToolError" [.type "Exception"] [r 46,.type "Exception",.type "BaseException",.type "object"] 45 [r 59] (s6 (some (r 22)) "ToolError" 196 204 "Exception.__new__"))]
noncomputable def jG(P:AK):List Obj:= [tp [r 46],EZ,di P (kd q1 241 16 "TableError" w1) 4,t0,f0,cc "TableError" 236 16 52,Fj q1 52,t0,di P (kf q1 241 16 (w1++ [("__doc__",247,.none)])) 2,cl "TableError" "TableError" [r 46] [r 59,r 46,.type "Exception",.type "BaseException",.type "object"] 58 [] (s6 (some (r 50)) "TableError" 234 242 "Exception.__new__"),su 59,ib 59]
noncomputable def ch3(P:AK):List (Nat×Obj):= [(3,md P q1 12 13),
 (12,Ei 12),
 (46,cl "ToolError" "ToolError" [.type "Exception"] [r 46,.type "Exception",.type "BaseException",.type "object"] 45 [r 59,r 71] (s6 (some (r 22)) "ToolError" 196 204 "Exception.__new__"))]
noncomputable def jH(P:AK):List Obj:= [tp [r 46],EZ,di P (kd q1 257 18 "ParseError" w2) 4,t0,f0,cc "ParseError" 252 18 64,Fj q1 64,t0,di P (kf q1 257 18 (w2++ [("__doc__",263,.none)])) 2,cl "ParseError" "ParseError" [r 46] [r 71,r 46,.type "Exception",.type "BaseException",.type "object"] 70 [] (s6 (some (r 62)) "ParseError" 250 258 "Exception.__new__"),su 71,ib 71]
noncomputable def ch4(P:AK):List (Nat×Obj):= [(3,md P q2 17 18),
 (12,Ei 15)]
noncomputable def jI(P:AK):List Obj:= [t0,EZ,di P (kd q1 273 20 "Token" w3) 7,t0,fl .none [z 22,z 4,r 87,z 28,z 4,r 94,z 31,z 4,r 101],cc "Token" 268 20 76,Fj q1 76,tp [.none]]++(AT (sm 5 0) "__init__" "Token.__init__" 278 22 5 181 ["self","kind","text","at","worth"] 82 (r 81) q1++(AT (sm 5 1) "told" "Token.told" 289 28 1 181 ["self"] 89 .none q1++(AT (sm 5 2) "is_end" "Token.is_end" 296 31 1 181 ["self"] 96 .none q1++([tp [s "at" 303,s "kind" 304,s "text" 305,s "worth" 306],di P (kf q1 273 20 (w3++ [("__dict__",309,r 106),("__weakref__",311,r 107),("__doc__",312,.none)])) 4,cl "Token" "Token" [.type "object"] [r 105,.type "object"] 104 [] (s6 none "Token" 266 274 "object.__new__"),gd 308 105,gw 310 105,su 105,ib 105]))))
noncomputable def ch5(P:AK):List (Nat×Obj):= [(3,md P q2 18 19),
 (12,Ei 18)]
noncomputable def jJ(P:AK):List Obj:= [t0,EZ,di P (kd q2 337 38 "Tables" w4) 16,t0,fl .none [z 40,z 4,r 122,z 51,z 4,r 129,z 54,z 4,r 136,z 57,z 4,r 143,z 60,z 4,r 150,z 63,z 4,r 157,z 66,z 4,r 164,z 69,z 4,r 171,z 72,z 4,r 178,z 75,z 4,r 185,z 83,z 4,r 192,z 92,z 4,r 199],cc "Tables" 332 38 112,Fj q2 112]++(AT (sm 11 0) "__init__" "Tables.__init__" 342 40 6 181 ["self","names","terminal_count","lefts","lengths","befores","number"] 117 .none q2++(AT (sm 11 1) "terminal" "Tables.terminal" 355 51 2 181 ["self","name"] 124 .none q2++(AT (sm 11 2) "left" "Tables.left" 363 54 2 181 ["self","rule"] 131 .none q2++(AT (sm 11 3) "length" "Tables.length" 371 57 2 181 ["self","rule"] 138 .none q2++(AT (sm 11 4) "before" "Tables.before" 379 60 2 181 ["self","rule"] 145 .none q2++(AT (sm 11 5) "state_count" "Tables.state_count" 387 63 1 181 ["self"] 152 .none q2++(AT (sm 11 6) "explicit" "Tables.explicit" 394 66 3 181 ["self","state","terminal"] 159 .none q2++(AT (sm 11 7) "default" "Tables.default" 403 69 2 181 ["self","state"] 166 .none q2++(AT (sm 11 8) "goto" "Tables.goto" 411 72 3 181 ["self","state","nonterminal"] 173 .none q2++(AT (sm 11 9) "action" "Tables.action" 420 75 3 181 ["self","state","terminal","told"] 180 .none q2++(AT (sm 11 10) "expected" "Tables.expected" 430 83 2 181 ["self","state","found","terminal","told"] 187 .none q2++(AT (sm 11 11) "is_consistent" "Tables.is_consistent" 441 92 2 181 ["self","state","terminal"] 194 .none q2++([tp [s "befores" 450,s "defaults" 451,s "lefts" 452,s "lengths" 453,s "names" 454,s "numbers" 455,s "terminal_count" 456],di P (kf q2 337 38 (w4++ [("__dict__",459,r 204),("__weakref__",461,r 205),("__doc__",462,.none)])) 4,cl "Tables" "Tables" [.type "object"] [r 203,.type "object"] 202 [] (s6 none "Tables" 330 338 "object.__new__"),gd 458 203,gw 460 203,su 203,ib 203])))))))))))))
noncomputable def ch6(P:AK):List (Nat×Obj):= [(3,md P q3 21 22),
 (12,Ei 21),
 (203,cl "Tables" "Tables" [.type "object"] [r 203,.type "object"] 202 [r 245] (s6 none "Tables" 330 338 "object.__new__"))]
noncomputable def jK(P:AK):List Obj:= [tp [r 203],EZ,di P (kd q2 472 99 "ParseTables" (w5++ [("__classcell__",517,r 211)])) 9,ce (some (r 245)),t0,fl .none [z 101,z 4,r 220,z 114,z 4,r 227,z 117,z 4,r 234,z 120,z 4,r 241],cc "ParseTables" 467 99 211,pl (.type "frame") none [some (r 214),some (r 3),some (r 210),none,some q2,none,some (r 0)],tp [r 211],tp [s "__class__" 480],f0,fo .none (sm 12 0) "ParseTables.__init__" 0 [] .none .none .none .none .none .none 0,co "__init__" "ParseTables.__init__" 477 101 8 0 0 3 181 481 101 (r 217) (.bool true) (r 218) .none .none .none (r 219) 482,fo (.type "function") (sm 12 0) "ParseTables.__init__" 3 [("__class__",211)] .none .none .none q2 (r 220) (r 216) 0]++(AT (sm 12 1) "state_count" "ParseTables.state_count" 484 114 1 181 ["self"] 222 .none q2++(AT (sm 12 2) "explicit" "ParseTables.explicit" 491 117 3 181 ["self","state","terminal"] 229 .none q2++(AT (sm 12 3) "goto" "ParseTables.goto" 500 120 3 181 ["self","state","nonterminal"] 236 .none q2++([tp [s "conflicts" 509,s "defaults" 510,s "gotos" 511,s "grammar" 512,s "mode" 513,s "rows" 514,s "settled" 515],di P (kf q2 472 99 (w5++ [("__doc__",518,.none)])) 3,cl "ParseTables" "ParseTables" [r 203] [r 245,r 203,.type "object"] 244 [] (s6 (some (r 208)) "ParseTables" 465 473 "object.__new__"),su 245,ib 245]))))
noncomputable def ch7(P:AK):List (Nat×Obj):= [(3,md P q3 22 23),
 (12,Ei 24)]
noncomputable def jL(P:AK):List Obj:= [t0,EZ,di P (kd q3 534 125 "Handler" w6) 7,t0,fl .none [z 127,z 4,r 260,z 130,z 4,r 267,z 133,z 4,r 274],cc "Handler" 529 125 250,Fj q3 250]++(AT (sm 16 0) "shift" "Handler.shift" 539 127 2 181 ["self","token"] 255 .none q3++(AT (sm 16 1) "reduce" "Handler.reduce" 547 130 4 181 ["self","rule","values","control"] 262 .none q3++(AT (sm 16 2) "recover" "Handler.recover" 557 133 1 181 ["self"] 269 .none q3++([t0,di P (kf q3 534 125 (w6++ [("__dict__",566,r 279),("__weakref__",568,r 280),("__doc__",569,.none)])) 4,cl "Handler" "Handler" [.type "object"] [r 278,.type "object"] 277 [] (s6 none "Handler" 527 535 "object.__new__"),gd 565 278,gw 567 278,su 278,ib 278]))))
noncomputable def ch8(P:AK):List (Nat×Obj):= [(3,md P q3 23 24),
 (12,Ei 27)]
noncomputable def jM(P:AK):List Obj:= [t0,EZ,di P (kd q3 579 135 "Fault" w7) 7,t0,fl .none [z 137,z 4,r 296,z 143,z 4,r 303,z 146,z 4,r 310],cc "Fault" 574 135 285,Fj q3 285,tp [zn 1 585]]++(AT (sm 17 0) "__init__" "Fault.__init__" 586 137 5 181 ["self","token","state","expected","index"] 291 (r 290) q3++(AT (sm 17 1) "told" "Fault.told" 597 143 1 181 ["self"] 298 .none q3++(AT (sm 17 2) "message" "Fault.message" 604 146 1 181 ["self"] 305 .none q3++([tp [s "expected" 611,s "index" 612,s "state" 613,s "token" 614],di P (kf q3 579 135 (w7++ [("__dict__",617,r 315),("__weakref__",619,r 316),("__doc__",620,.none)])) 4,cl "Fault" "Fault" [.type "object"] [r 314,.type "object"] 313 [] (s6 none "Fault" 572 580 "object.__new__"),gd 616 314,gw 618 314,su 314,ib 314]))))
noncomputable def ch9(P:AK):List (Nat×Obj):= [(3,md P q3 24 25),
 (12,Ei 30)]
noncomputable def jN(P:AK):List Obj:= [t0,EZ,di P (kd q3 630 148 "Outcome" w8) 6,t0,fl .none [z 150,z 4,r 331,z 156,z 4,r 338],cc "Outcome" 625 148 321,Fj q3 321]++(AT (sm 18 0) "__init__" "Outcome.__init__" 635 150 5 181 ["self","accepted","value","faults","moves"] 326 .none q3++(AT (sm 18 1) "is_clean" "Outcome.is_clean" 646 156 1 181 ["self"] 333 .none q3++([tp [s "accepted" 653,s "faults" 654,s "moves" 655,s "value" 656],di P (kf q3 630 148 (w8++ [("__dict__",659,r 343),("__weakref__",661,r 344),("__doc__",662,.none)])) 4,cl "Outcome" "Outcome" [.type "object"] [r 342,.type "object"] 341 [] (s6 none "Outcome" 623 631 "object.__new__"),gd 658 342,gw 660 342,su 342,ib 342])))
noncomputable def ch10(P:AK):List (Nat×Obj):= [(3,md P q3 25 26),
 (12,Ei 33)]
noncomputable def jO(P:AK):List Obj:= [t0,EZ,di P (kd q3 672 158 "TokenRow" w9) 6,t0,fl .none [z 160,z 4,r 359,z 164,z 4,r 366],cc "TokenRow" 667 158 349,Fj q3 349]++(AT (sm 19 0) "__init__" "TokenRow.__init__" 677 160 2 181 ["self","tokens"] 354 .none q3++(AT (sm 19 1) "next_token" "TokenRow.next_token" 685 164 1 181 ["self","token"] 361 .none q3++([tp [s "at" 693,s "tokens" 694],di P (kf q3 672 158 (w9++ [("__dict__",697,r 371),("__weakref__",699,r 372),("__doc__",700,.none)])) 4,cl "TokenRow" "TokenRow" [.type "object"] [r 370,.type "object"] 369 [] (s6 none "TokenRow" 665 673 "object.__new__"),gd 696 370,gw 698 370,su 370,ib 370])))
noncomputable def ch11(P:AK):List (Nat×Obj):= [(3,md P q3 26 27),
 (12,Ei 36)]
noncomputable def jP(P:AK):List Obj:= [t0,EZ,di P (kd q3 710 171 "Core" gY) 26,t0,fl .none [z 173,z 4,r 388,z 180,z 4,r 395,z 190,z 4,r 402,z 193,z 4,r 409,z 196,z 4,r 416,z 204,z 4,r 423,z 207,z 4,r 430,z 210,z 4,r 437,z 214,z 4,r 444,z 219,z 4,r 451,z 223,z 4,r 458,z 228,z 4,r 465,z 231,z 4,r 472,z 235,z 4,r 479,z 253,z 4,r 486,z 256,z 4,r 493,z 262,z 4,r 500,z 272,z 4,r 507,z 275,z 4,r 514,z 282,z 4,r 521,z 285,z 4,r 526,z 289,z 4,r 533],cc "Core" 705 171 377,Fj q3 377,tp [.none,zt 5000 715]]++(AT (sm 20 0) "__init__" "Core.__init__" 716 173 4 181 ["self","tables","handler","most"] 383 (r 382) q3++(AT (sm 20 1) "begin" "Core.begin" 726 180 1 181 ["self"] 390 .none q3++(AT (sm 20 2) "outcome" "Core.outcome" 733 190 1 181 ["self"] 397 .none q3++(AT (sm 20 3) "parse" "Core.parse" 740 193 2 181 ["self","tokens"] 404 .none q3++(AT (sm 20 4) "pull" "Core.pull" 748 196 2 181 ["self","source"] 411 .none q3++(AT (sm 20 5) "offer" "Core.offer" 756 204 2 181 ["self","token"] 418 .none q3++(AT (sm 20 6) "needs" "Core.needs" 764 207 1 181 ["self"] 425 .none q3++(AT (sm 20 7) "look" "Core.look" 771 210 2 181 ["self","token"] 432 .none q3++(AT (sm 20 8) "lone_rule" "Core.lone_rule" 779 214 2 181 ["self","state"] 439 .none q3++(AT (sm 20 9) "terminal_of" "Core.terminal_of" 787 219 2 181 ["self","token","number"] 446 .none q3++(AT (sm 20 10) "note" "Core.note" 796 223 2 181 ["self","move"] 453 .none q3++(AT (sm 20 11) "place" "Core.place" 804 228 1 181 ["self"] 460 .none q3++(AT (sm 20 12) "finish" "Core.finish" 811 231 3 181 ["self","answer","value"] 467 .none q3++(AT (sm 20 13) "step" "Core.step" 820 235 1 181 ["self","state","lone","terminal","action"] 474 .none q3++(AT (sm 20 14) "is_established" "Core.is_established" 831 253 2 181 ["self","terminal"] 481 .none q3++(AT (sm 20 15) "shift" "Core.shift" 839 256 2 181 ["self","goal"] 488 .none q3++(AT (sm 20 16) "reduce" "Core.reduce" 847 262 2 181 ["self","rule","length","first","value","kept"] 495 .none q3++(AT (sm 20 17) "act" "Core.act" 859 272 3 181 ["self","rule","values"] 502 .none q3++(AT (sm 20 18) "go_on" "Core.go_on" 868 275 3 181 ["self","rule","value","goal"] 509 .none q3++(AT (sm 20 19) "expected" "Core.expected" 878 282 1 181 ["self"] 516 .none q3++([t0,f0,fo .none (sm 20 20) "Core.tell_fault" 0 [] .none .none .none .none .none .none 0,co "tell_fault" "Core.tell_fault" 885 285 1 0 0 3 181 888 285 (r 523) (.bool true) (r 524) .none .none .none (r 525) 889,fo (.type "function") (sm 20 20) "Core.tell_fault" 3 [] .none .none .none q3 (r 526) .none 0]++(AT (sm 20 21) "fail" "Core.fail" 891 289 2 181 ["self","terminal"] 528 .none q3++([tp [s "answer" 899,s "count" 900,s "faults" 901,s "handler" 902,s "lone" 903,s "looked" 904,s "most" 905,s "moves" 906,s "states" 907,s "tables" 908,s "value" 909,s "values" 910],di P (kf q3 710 171 (gY++ [("__dict__",913,r 538),("__weakref__",915,r 539),("__doc__",916,.none)])) 4,cl "Core" "Core" [.type "object"] [r 537,.type "object"] 536 [] (s6 none "Core" 703 711 "object.__new__"),gd 912 537,gw 914 537,su 537,ib 537])))))))))))))))))))))))
noncomputable def ch12(P:AK):List (Nat×Obj):= [(3,md P q4 27 28),
 (12,Ei 39)]
noncomputable def jQ(P:AK):List Obj:= [t0,EZ,di P (kd q4 928 293 "Rule" gZ) 5,t0,fl .none [z 295,z 4,r 555],cc "Rule" 923 293 544,Fj q4 544,tp [zn 1 934,.none,zt 0 935,zt 0 936]]++(AT (sm 22 0) "__init__" "Rule.__init__" 937 295 8 181 ["self","number","left","right","level_of","action","line","before"] 550 (r 549) q4++([tp [s "action" 951,s "before" 952,s "left" 953,s "level_of" 954,s "line" 955,s "number" 956,s "right" 957],di P (kf q4 928 293 (gZ++ [("__dict__",960,r 560),("__weakref__",962,r 561),("__doc__",963,.none)])) 4,cl "Rule" "Rule" [.type "object"] [r 559,.type "object"] 558 [] (s6 none "Rule" 921 929 "object.__new__"),gd 959 559,gw 961 559,su 559,ib 559]))
noncomputable def ch13(P:AK):List (Nat×Obj):= [(3,md P q4 28 29),
 (12,Ei 42)]
noncomputable def jR(P:AK):List Obj:= [t0,EZ,di P (kd q4 973 303 "Grammar" jA) 14,t0,fl .none [z 305,z 4,r 574,z 321,z 4,r 581,z 324,z 4,r 588,z 327,z 4,r 595,z 330,z 4,r 602,z 333,z 4,r 609,z 336,z 4,r 616,z 339,z 4,r 623,z 342,z 4,r 630,z 345,z 4,r 637],cc "Grammar" 968 303 566,Fj q4 566,t0,f0,fo .none (sm 23 0) "Grammar.__init__" 0 [] .none .none .none .none .none .none 0,co "__init__" "Grammar.__init__" 978 305 7 0 0 3 181 981 305 (r 571) (.bool true) (r 572) .none .none .none (r 573) 982,fo (.type "function") (sm 23 0) "Grammar.__init__" 3 [] .none .none .none q4 (r 574) .none 0]++(AT (sm 23 1) "symbol_count" "Grammar.symbol_count" 984 321 1 181 ["self"] 576 .none q4++(AT (sm 23 2) "is_terminal" "Grammar.is_terminal" 991 324 2 181 ["self","symbol"] 583 .none q4++(AT (sm 23 3) "is_middle" "Grammar.is_middle" 999 327 2 181 ["self","symbol"] 590 .none q4++(AT (sm 23 4) "number" "Grammar.number" 1007 330 2 181 ["self","name"] 597 .none q4++(AT (sm 23 5) "rules_of" "Grammar.rules_of" 1015 333 2 181 ["self","symbol"] 604 .none q4++(AT (sm 23 6) "item" "Grammar.item" 1023 336 3 181 ["self","rule","dot"] 611 .none q4++(AT (sm 23 7) "rule_of" "Grammar.rule_of" 1032 339 2 181 ["self","item"] 618 .none q4++(AT (sm 23 8) "dot_of" "Grammar.dot_of" 1040 342 2 181 ["self","item"] 625 .none q4++(AT (sm 23 9) "after" "Grammar.after" 1048 345 2 181 ["self","item"] 632 .none q4++([tp [s "by_left" 1056,s "expect" 1057,s "item_count" 1058,s "levels" 1059,s "names" 1060,s "offsets" 1061,s "owners" 1062,s "rules" 1063,s "start" 1064,s "terminal_count" 1065],di P (kf q4 973 303 (jA++ [("__dict__",1068,r 642),("__weakref__",1070,r 643),("__doc__",1071,.none)])) 4,cl "Grammar" "Grammar" [.type "object"] [r 641,.type "object"] 640 [] (s6 none "Grammar" 966 974 "object.__new__"),gd 1067 641,gw 1069 641,su 641,ib 641]))))))))))
noncomputable def ch14(P:AK):List (Nat×Obj):= [(3,md P q5 28 29)]
noncomputable def jS(P:AK):List Obj:= []
noncomputable def ch15(P:AK):List (Nat×Obj):= [(3,md P q5 29 30),
 (12,Ei 45)]
noncomputable def jT(P:AK):List Obj:= [t0,EZ,di P (kd q5 1083 348 "Tree" jB) 12,t0,fl .none [z 350,z 4,r 658,z 355,z 4,r 665,z 358,z 4,r 672,z 361,z 4,r 679,z 371,z 4,r 684,z 374,z 4,r 689,z 377,z 4,r 696,z 380,z 4,r 703],cc "Tree" 1078 348 648,Fj q5 648]++(AT (sm 25 0) "__init__" "Tree.__init__" 1088 350 4 181 ["self","name","rule","children"] 653 .none q5++(AT (sm 25 1) "is_leaf" "Tree.is_leaf" 1098 355 1 181 ["self"] 660 .none q5++(AT (sm 25 2) "head" "Tree.head" 1105 358 1 181 ["self"] 667 .none q5++(AT (sm 25 3) "told" "Tree.told" 1112 361 1 181 ["self","done","node","start"] 674 .none q5++([t0,f0,fo .none (sm 25 4) "Tree.leaves" 0 [] .none .none .none .none .none .none 0,co "leaves" "Tree.leaves" 1122 371 1 0 0 3 181 1125 371 (r 681) (.bool true) (r 682) .none .none .none (r 683) 1126,fo (.type "function") (sm 25 4) "Tree.leaves" 3 [] .none .none .none q5 (r 684) .none 0,t0,f0,fo .none (sm 25 5) "Tree.reductions" 0 [] .none .none .none .none .none .none 0,co "reductions" "Tree.reductions" 1128 374 1 0 0 3 181 1131 374 (r 686) (.bool true) (r 687) .none .none .none (r 688) 1132,fo (.type "function") (sm 25 5) "Tree.reductions" 3 [] .none .none .none q5 (r 689) .none 0]++(AT (sm 25 6) "height" "Tree.height" 1134 377 1 181 ["self"] 691 .none q5++(AT (sm 25 7) "show" "Tree.show" 1141 380 1 181 ["self"] 698 .none q5++([tp [s "children" 1148,s "name" 1149,s "rule" 1150],di P (kf q5 1083 348 (jB++ [("__dict__",1153,r 708),("__weakref__",1155,r 709),("__doc__",1156,.none)])) 4,cl "Tree" "Tree" [.type "object"] [r 707,.type "object"] 706 [] (s6 none "Tree" 1076 1084 "object.__new__"),gd 1152 707,gw 1154 707,su 707,ib 707]))))))))
noncomputable def ch16(P:AK):List (Nat×Obj):= [(3,md P q5 32 33),
 (12,Ei 54),
 (707,cl "Tree" "Tree" [.type "object"] [r 707,.type "object"] 706 [r 742] (s6 none "Tree" 1076 1084 "object.__new__"))]
noncomputable def jU(P:AK):List Obj:= [tp [r 707],EZ,di P (kd q5 1166 382 "Leaf" jC) 7,t0,fl .none [z 384,z 4,r 724,z 390,z 4,r 731,z 393,z 4,r 738],cc "Leaf" 1161 382 714,Fj q5 714]++(AT (sm 26 0) "__init__" "Leaf.__init__" 1171 384 2 181 ["self","token"] 719 .none q5++(AT (sm 26 1) "is_leaf" "Leaf.is_leaf" 1179 390 1 181 ["self"] 726 .none q5++(AT (sm 26 2) "head" "Leaf.head" 1186 393 1 181 ["self"] 733 .none q5++([tp [s "children" 1193,s "name" 1194,s "rule" 1195,s "token" 1196],di P (kf q5 1166 382 (jC++ [("__doc__",1198,.none)])) 2,cl "Leaf" "Leaf" [r 707] [r 742,r 707,.type "object"] 741 [] (s6 (some (r 712)) "Leaf" 1159 1167 "object.__new__"),su 742,ib 742]++(AT (st 27) "postorder" "postorder" 1201 395 1 181 ["tree","found","line","node","child"] 745 .none q5++([t0,f0,fo .none (st 28) "derivation" 0 [] .none .none .none .none .none .none 0,co "derivation" "derivation" 1212 404 1 0 0 3 181 1215 404 (r 752) (.bool true) (r 753) .none .none .none (r 754) 1216,fo (.type "function") (st 28) "derivation" 3 [] .none .none .none q5 (r 755) .none 0]))))))
noncomputable def ch17(P:AK):List (Nat×Obj):= [(3,md P q6 35 36),
 (12,Ei 63)]
noncomputable def jV(P:AK):List Obj:= [t0,EZ,di P (kd q5 1225 414 "TreeHandler" jD) 8,t0,fl .none [z 416,z 4,r 769,z 419,z 4,r 776,z 422,z 4,r 783,z 428,z 4,r 790],cc "TreeHandler" 1220 414 759,Fj q5 759]++(AT (sm 29 0) "__init__" "TreeHandler.__init__" 1230 416 2 181 ["self","names"] 764 .none q5++(AT (sm 29 1) "shift" "TreeHandler.shift" 1238 419 2 181 ["self","token"] 771 .none q5++(AT (sm 29 2) "reduce" "TreeHandler.reduce" 1246 422 4 181 ["self","rule","values","control","name"] 778 .none q5++(AT (sm 29 3) "recover" "TreeHandler.recover" 1257 428 1 181 ["self"] 785 .none q5++([tp [s "names" 1264],di P (kf q5 1225 414 (jD++ [("__dict__",1267,r 795),("__weakref__",1269,r 796),("__doc__",1270,.none)])) 4,cl "TreeHandler" "TreeHandler" [.type "object"] [r 794,.type "object"] 793 [] (s6 none "TreeHandler" 1218 1226 "object.__new__"),gd 1266 794,gw 1268 794,su 794,ib 794,t0,f0,fo .none (st 30) "left_names" 0 [] .none .none .none .none .none .none 0,co "left_names" "left_names" 1273 430 1 0 0 3 181 1276 430 (r 799) (.bool true) (r 800) .none .none .none (r 801) 1277,fo (.type "function") (st 30) "left_names" 3 [] .none .none .none q5 (r 802) .none 0,t0,f0,fo .none (st 32) "_law_pen" 0 [] .none .none .none .none .none .none 0,co "_law_pen" "_law_pen" 1281 433 1 0 0 3 181 1284 433 (r 804) (.bool true) (r 805) .none .none .none (r 806) 1285,fo (.type "function") (st 32) "_law_pen" 3 [] .none .none .none q6 (r 807) .none 0])))))
noncomputable def ch18(P:AK):List (Nat×Obj):= [(3,md P q6 46 47),
 (12,Ei 96)]
noncomputable def jW(P:AK):List Obj:=AT (st 33) "_law_draw" "_law_draw" 1287 435 2 181 ["pen","many","digit"] 809 .none q6++(AT (st 34) "_law_pick" "_law_pick" 1296 442 2 181 ["pen","some"] 816 .none q6++([t0,f0,fo .none (st 35) "_law_pairs" 0 [] .none .none .none .none .none .none 0,co "_law_pairs" "_law_pairs" 1304 444 1 0 0 3 181 1307 444 (r 823) (.bool true) (r 824) .none .none .none (r 825) 1308,fo (.type "function") (st 35) "_law_pairs" 3 [] .none .none .none q6 (r 826) .none 0,t0,f0,fo .none (st 36) "_law_heads" 0 [] .none .none .none .none .none .none 0,co "_law_heads" "_law_heads" 1310 453 2 0 0 3 181 1313 453 (r 828) (.bool true) (r 829) .none .none .none (r 830) 1314,fo (.type "function") (st 36) "_law_heads" 3 [] .none .none .none q6 (r 831) .none 0,t0,f0,fo .none (st 37) "_law_closed" 0 [] .none .none .none .none .none .none 0,co "_law_closed" "_law_closed" 1316 459 3 0 0 3 181 1319 459 (r 833) (.bool true) (r 834) .none .none .none (r 835) 1320,fo (.type "function") (st 37) "_law_closed" 3 [] .none .none .none q6 (r 836) .none 0,t0,f0,fo .none (st 38) "_law_states" 0 [] .none .none .none .none .none .none 0,co "_law_states" "_law_states" 1322 473 1 0 0 3 181 1325 473 (r 838) (.bool true) (r 839) .none .none .none (r 840) 1326,fo (.type "function") (st 38) "_law_states" 3 [] .none .none .none q6 (r 841) .none 0,t0,f0,fo .none (st 39) "_law_tables" 0 [] .none .none .none .none .none .none 0,co "_law_tables" "_law_tables" 1328 493 2 0 0 3 181 1331 493 (r 843) (.bool true) (r 844) .none .none .none (r 845) 1332,fo (.type "function") (st 39) "_law_tables" 3 [] .none .none .none q6 (r 846) .none 0,t0,f0,fo .none (st 40) "_law_word" 0 [] .none .none .none .none .none .none 0,co "_law_word" "_law_word" 1334 521 2 0 0 3 181 1337 521 (r 848) (.bool true) (r 849) .none .none .none (r 850) 1338,fo (.type "function") (st 40) "_law_word" 3 [] .none .none .none q6 (r 851) .none 0]++(AT (st 41) "_law_led" "_law_led" 1340 534 4 181 ["pairs","tables","moves","word","row","places","shifted","rows","move","name","parts","kept"] 853 .none q6++([t0,f0,fo .none (st 42) "_law_right" 0 [] .none .none .none .none .none .none 0,co "_law_right" "_law_right" 1358 552 4 0 0 3 181 1361 552 (r 860) (.bool true) (r 861) .none .none .none (r 862) 1362,fo (.type "function") (st 42) "_law_right" 3 [] .none .none .none q6 (r 863) .none 0]++(AT (st 43) "law" "law" 1364 565 1 181 ["script","pen","pairs","tables","is_plain","turn","word","is_made"] 865 .none q6)))))
noncomputable def chF(P:AK):List (Nat×Obj):= [(2,dc P .none [("type.__subclasses__.Exception.0",230,z 46),("type.__subclasses__.Exception.n",231,z 1)] 2),
 (3,md P q6 46 47),
 (12,Ei 96),
 (46,cl "ToolError" "ToolError" [.type "Exception"] [r 46,.type "Exception",.type "BaseException",.type "object"] 45 [r 59,r 71] (s6 (some (r 22)) "ToolError" 196 204 "Exception.__new__")),
 (203,cl "Tables" "Tables" [.type "object"] [r 203,.type "object"] 202 [r 245] (s6 none "Tables" 330 338 "object.__new__")),
 (707,cl "Tree" "Tree" [.type "object"] [r 707,.type "object"] 706 [r 742] (s6 none "Tree" 1076 1084 "object.__new__"))]
noncomputable def bs:BT->Nat->Obj->BT
 | .nil,_,_=>.nil
 | .node v l r,i,o=>match Da i 0 with
  | true=>.node o l r
  | false=>match Da (i % 2) 1 with
   | true=>.node v (bs l (i / 2) o) r
   | false=>.node v l (bs r (i / 2-1) o)
noncomputable def bi:BT->Nat->Obj->BT
 | .nil,_,o=>.node o .nil .nil
 | .node v l r,i,o=>match Da i 0 with
  | true=>.node o l r
  | false=>match Da (i % 2) 1 with
   | true=>.node v (bi l (i / 2) o) r
   | false=>.node v l (bi r (i / 2-1) o)
noncomputable def D1:BT->List (Nat×Obj)->BT
 | t,[]=>t
 | t,(i,o)::l=>D1 (bs t i o) l
noncomputable def DQ:BT->Nat->List Obj->BT
 | t,_,[]=>t
 | t,n,o::l=>DQ (bi t n o) (n+1) l
noncomputable def T0(P:AK):BT:=DQ .nil 0 (VX P)
noncomputable def T1(P:AK):BT:=DQ (D1 (T0 P) (ch1 P)) 15 (jF P)
noncomputable def T2(P:AK):BT:=DQ (D1 (T1 P) (ch2 P)) 50 (jG P)
noncomputable def T3(P:AK):BT:=DQ (D1 (T2 P) (ch3 P)) 62 (jH P)
noncomputable def T4(P:AK):BT:=DQ (D1 (T3 P) (ch4 P)) 74 (jI P)
noncomputable def T5(P:AK):BT:=DQ (D1 (T4 P) (ch5 P)) 110 (jJ P)
noncomputable def T6(P:AK):BT:=DQ (D1 (T5 P) (ch6 P)) 208 (jK P)
noncomputable def T7(P:AK):BT:=DQ (D1 (T6 P) (ch7 P)) 248 (jL P)
noncomputable def T8(P:AK):BT:=DQ (D1 (T7 P) (ch8 P)) 283 (jM P)
noncomputable def T9(P:AK):BT:=DQ (D1 (T8 P) (ch9 P)) 319 (jN P)
noncomputable def OV(P:AK):BT:=DQ (D1 (T9 P) (ch10 P)) 347 (jO P)
noncomputable def OW(P:AK):BT:=DQ (D1 (OV P) (ch11 P)) 375 (jP P)
noncomputable def OX(P:AK):BT:=DQ (D1 (OW P) (ch12 P)) 542 (jQ P)
noncomputable def OY(P:AK):BT:=DQ (D1 (OX P) (ch13 P)) 564 (jR P)
noncomputable def OZ(P:AK):BT:=DQ (D1 (OY P) (ch14 P)) 646 (jS P)
noncomputable def O0(P:AK):BT:=DQ (D1 (OZ P) (ch15 P)) 646 (jT P)
noncomputable def O1(P:AK):BT:=DQ (D1 (O0 P) (ch16 P)) 712 (jU P)
noncomputable def O2(P:AK):BT:=DQ (D1 (O1 P) (ch17 P)) 757 (jV P)
noncomputable def VY(P:AK):BT:=DQ (D1 (O2 P) (ch18 P)) 809 (jW P)
noncomputable abbrev p0:Pos:={line:=0,col:=0,endLine:=0,endCol:=0}
noncomputable def env:Env:={scope:=pE.main.scope,locals:=mainNs,globals:=mainNs,cells:= [],code:= .ref 13,frame:=some 14}
noncomputable def cE:Code:= .body (QS pE) env
noncomputable def sA(T:AK->BT)(n k:Nat)(w:A7)(os:Qk):SharedT:=⟨T w.params,n,{},#[],{},k,os⟩
noncomputable def Ag(a n:Nat):List Stmt:=((QS pE).drop a).take n
end Mine.Internal.Hd
end
namespace Mine.Internal.Hd
theorem g1:∀w:A7,(λos=>Ev Dl pE w 11 (some (.ref 6)) 1 301 (sA T0 15 187 w os) (Ew (Ag 0 3) env cE ⟨0,0,0,0⟩ [DG p0]))=
  λos=>some (.next,sA T1 50 234 w os,cE,⟨5,0,15,29⟩):=by
 intro w;refine Aa Ey<|Aa DN ?_
 kernel_rfl
theorem g2:∀w:A7,(λos=>Ev Dl pE w 11 (some (.ref 6)) 1 214 (sA T1 50 234 w os) (Ew (Ag 3 1) env cE ⟨5,0,15,29⟩ [DG p0]))=
  λos=>some (.next,sA T2 62 250 w os,cE,⟨16,0,17,8⟩):=by
 intro w;refine Aa Ey<|Aa DN ?_
 kernel_rfl
theorem g3:∀w:A7,(λos=>Ev Dl pE w 11 (some (.ref 6)) 1 214 (sA T2 62 250 w os) (Ew (Ag 4 1) env cE ⟨16,0,17,8⟩ [DG p0]))=
  λos=>some (.next,sA T3 74 266 w os,cE,⟨18,0,19,8⟩):=by
 intro w;refine Aa Ey<|Aa DN ?_
 kernel_rfl
theorem g4:∀w:A7,(λos=>Ev Dl pE w 11 (some (.ref 6)) 1 354 (sA T3 74 266 w os) (Ew (Ag 5 6) env cE ⟨18,0,19,8⟩ [DG p0]))=
  λos=>some (.next,sA T4 110 330 w os,cE,⟨37,0,37,16⟩):=by
 intro w;refine Aa Ey<|Aa DN ?_
 kernel_rfl
theorem g5:∀w:A7,(λos=>Ev Dl pE w 11 (some (.ref 6)) 1 593 (sA T4 110 330 w os) (Ew (Ag 11 1) env cE ⟨37,0,37,16⟩ [DG p0]))=
  λos=>some (.next,sA T5 208 465 w os,cE,⟨38,0,98,19⟩):=by
 intro w;refine Aa Ey<|Aa DN ?_
 kernel_rfl
theorem g6:∀w:A7,(λos=>Ev Dl pE w 11 (some (.ref 6)) 1 388 (sA T5 208 465 w os) (Ew (Ag 12 4) env cE ⟨38,0,98,19⟩ [DG p0]))=
  λos=>some (.next,sA T6 248 527 w os,cE,⟨124,0,124,16⟩):=by
 intro w;refine Aa Ey<|Aa DN ?_
 kernel_rfl
theorem g7:∀w:A7,(λos=>Ev Dl pE w 11 (some (.ref 6)) 1 287 (sA T6 248 527 w os) (Ew (Ag 16 1) env cE ⟨124,0,124,16⟩ [DG p0]))=
  λos=>some (.next,sA T7 283 572 w os,cE,⟨125,0,134,16⟩):=by
 intro w;refine Aa Ey<|Aa DN ?_
 kernel_rfl
theorem g8:∀w:A7,(λos=>Ev Dl pE w 11 (some (.ref 6)) 1 298 (sA T7 283 572 w os) (Ew (Ag 17 1) env cE ⟨125,0,134,16⟩ [DG p0]))=
  λos=>some (.next,sA T8 319 623 w os,cE,⟨135,0,147,16⟩):=by
 intro w;refine Aa Ey<|Aa DN ?_
 kernel_rfl
theorem g9:∀w:A7,(λos=>Ev Dl pE w 11 (some (.ref 6)) 1 260 (sA T8 319 623 w os) (Ew (Ag 18 1) env cE ⟨135,0,147,16⟩ [DG p0]))=
  λos=>some (.next,sA T9 347 665 w os,cE,⟨148,0,157,16⟩):=by
 intro w;refine Aa Ey<|Aa DN ?_
 kernel_rfl
theorem g10:∀w:A7,(λos=>Ev Dl pE w 11 (some (.ref 6)) 1 256 (sA T9 347 665 w os) (Ew (Ag 19 1) env cE ⟨148,0,157,16⟩ [DG p0]))=
  λos=>some (.next,sA OV 375 703 w os,cE,⟨158,0,170,20⟩):=by
 intro w;refine Aa Ey<|Aa DN ?_
 kernel_rfl
theorem g11:∀w:A7,(λos=>Ev Dl pE w 11 (some (.ref 6)) 1 913 (sA OV 375 703 w os) (Ew (Ag 20 1) env cE ⟨158,0,170,20⟩ [DG p0]))=
  λos=>some (.next,sA OW 542 919 w os,cE,⟨171,0,291,36⟩):=by
 intro w;refine Aa Ey<|Aa DN ?_
 kernel_rfl
theorem g12:∀w:A7,(λos=>Ev Dl pE w 11 (some (.ref 6)) 1 253 (sA OW 542 919 w os) (Ew (Ag 21 2) env cE ⟨171,0,291,36⟩ [DG p0]))=
  λos=>some (.next,sA OX 564 966 w os,cE,⟨293,0,302,28⟩):=by
 intro w;refine Aa Ey<|Aa DN ?_
 kernel_rfl
theorem g13:∀w:A7,(λos=>Ev Dl pE w 11 (some (.ref 6)) 1 516 (sA OX 564 966 w os) (Ew (Ag 23 1) env cE ⟨293,0,302,28⟩ [DG p0]))=
  λos=>some (.next,sA OY 646 1074 w os,cE,⟨303,0,346,17⟩):=by
 intro w;refine Aa Ey<|Aa DN ?_
 kernel_rfl
theorem g14:∀w:A7,(λos=>Ev Dl pE w 11 (some (.ref 6)) 1 10 (sA OY 646 1074 w os) (Ew (Ag 24 1) env cE ⟨303,0,346,17⟩ [DG p0]))=
  λos=>some (.next,sA OZ 646 1076 w os,cE,⟨347,0,347,8⟩):=by
 intro w;refine Aa Ey<|Aa DN ?_
 kernel_rfl
theorem g15:∀w:A7,(λos=>Ev Dl pE w 11 (some (.ref 6)) 1 441 (sA OZ 646 1076 w os) (Ew (Ag 25 1) env cE ⟨347,0,347,8⟩ [DG p0]))=
  λos=>some (.next,sA O0 712 1159 w os,cE,⟨348,0,381,17⟩):=by
 intro w;refine Aa Ey<|Aa DN ?_
 kernel_rfl
theorem g16:∀w:A7,(λos=>Ev Dl pE w 11 (some (.ref 6)) 1 370 (sA O0 712 1159 w os) (Ew (Ag 26 3) env cE ⟨348,0,381,17⟩ [DG p0]))=
  λos=>some (.next,sA O1 757 1218 w os,cE,⟨404,0,413,16⟩):=by
 intro w;refine Aa Ey<|Aa DN ?_
 kernel_rfl
theorem g17:∀w:A7,(λos=>Ev Dl pE w 11 (some (.ref 6)) 1 382 (sA O1 757 1218 w os) (Ew (Ag 29 4) env cE ⟨404,0,413,16⟩ [DG p0]))=
  λos=>some (.next,sA O2 809 1287 w os,cE,⟨433,0,434,79⟩):=by
 intro w;refine Aa Ey<|Aa DN ?_
 kernel_rfl
theorem g18:∀w:A7,(λos=>Ev Dl pE w 11 (some (.ref 6)) 1 320 (sA O2 809 1287 w os) (Ew (Ag 33 11) env cE ⟨433,0,434,79⟩ [DG p0]))=
  λos=>some (.next,sA VY 872 1378 w os,cE,⟨565,0,573,15⟩):=by
 intro w;refine Aa Ey<|Aa DN ?_
 kernel_rfl
end Mine.Internal.Hd
namespace Mine.Internal.Hd
noncomputable def IT(P:AK):Heap:=⟨(VX P).toArray,{}⟩
noncomputable def VZ:Nat->List (Nat×Obj)->List Obj->List Obj
 | _,_,[]=>[]
 | _,[],o::l=>o::l
 | i,(k,c)::r,o::l=>match Da i k with
  | true=>c::VZ (i+1) r l
  | false=>o::VZ (i+1) ((k,c)::r) l
noncomputable def fin(P:AK):List Obj:=VZ 0 (chF P) (VX P++(jF P++(jG P++(jH P++(jI P++(jJ P++(jK P++(jL P++(jM P++(jN P++(jO P++(jP P++(jQ P++(jR P++(jS P++(jT P++(jU P++(jV P++(jW P)))))))))))))))))))
noncomputable def hp(P:AK):Heap:=⟨(fin P).toArray,{}⟩
theorem pre:∀w:A7,(λos=>topGo Dl pE w 11 (some (.ref 6)) 12 ⟨JG w.params,#[],boot_drawn,boot_toks,os⟩ (topStub pE))=
  λos=>some (⟨IT w.params,#[],{},187,os⟩,⟨denote Dl cE,cE,p0,[DG p0]⟩):=by
 intro w;refine Aa AlK<|Aa AlL<|Aa DN ?_
 kernel_rfl
theorem RT:∀w:A7,(λos=>segRun Dl pE w 11 (some (.ref 6)) 1 1 ⟨IT w.params,#[],{},187,os⟩ (blockOf (QS pE) env cE p0 [DG p0]))=
  λos=>some (.next,(sA T0 15 187 w os).abs,cE,p0):=by
 intro w;refine Aa AlM<|Aa DN ?_
 kernel_rfl
theorem last:∀w:A7,(λos=>topRun Dl pE w 11 (some (.ref 6)) 2 (sA VY 872 1378 w os).abs ⟨doneF .next,cE,⟨565,0,573,15⟩,[DG p0]⟩)=
  λos=>some ⟨hp w.params,#[],{},1378,os⟩:=by
 intro w;refine Aa AlN<|Aa DN ?_
 kernel_rfl
theorem size:∀w:A7,((JG w.params).isNs FO&&(#[]:Array GenState).size==0,(JG w.params).objs.size,(JG w.params).nsMap FO "__annotations__")=(true,11,some (CB 6)):=by
 intro w;refine Aa AlO ?_
 kernel_rfl
theorem Adu:QS pE=Ag 0 3++(Ag 3 1++(Ag 4 1++(Ag 5 6++(Ag 11 1++(Ag 12 4++(Ag 16 1++(Ag 17 1++(Ag 18 1++(Ag 19 1++(Ag 20 1++(Ag 21 2++(Ag 23 1++(Ag 24 1++(Ag 25 1++(Ag 26 3++(Ag 29 4++(Ag 33 11++ []))))))))))))))))):=by kernel_rfl
theorem rest:∀(w:A7)(os:Qk),topRun Dl pE w 11 (some (.ref 6)) (301+(214+(214+(354+(593+(388+(287+(298+(260+(256+(913+(253+(516+(10+(441+(370+(382+(320+2)))))))))))))))))) (sA T0 15 187 w os).abs (restOf (QS pE) env cE p0 [DG p0])=some ⟨hp w.params,#[],{},1378,os⟩:=by intro w os;exact Aa Adu<|piece_app (s:=(sA T0 15 187 w os).abs) (s':=(sA T1 50 234 w os).abs) (EA (congrFun (g1 w) os)) (Ez (s:=(sA T1 50 234 w os).abs) (s':=(sA T2 62 250 w os).abs) (EA (congrFun (g2 w) os)) (Ez (s:=(sA T2 62 250 w os).abs) (s':=(sA T3 74 266 w os).abs) (EA (congrFun (g3 w) os)) (Ez (s:=(sA T3 74 266 w os).abs) (s':=(sA T4 110 330 w os).abs) (EA (congrFun (g4 w) os)) (Ez (s:=(sA T4 110 330 w os).abs) (s':=(sA T5 208 465 w os).abs) (EA (congrFun (g5 w) os)) (Ez (s:=(sA T5 208 465 w os).abs) (s':=(sA T6 248 527 w os).abs) (EA (congrFun (g6 w) os)) (Ez (s:=(sA T6 248 527 w os).abs) (s':=(sA T7 283 572 w os).abs) (EA (congrFun (g7 w) os)) (Ez (s:=(sA T7 283 572 w os).abs) (s':=(sA T8 319 623 w os).abs) (EA (congrFun (g8 w) os)) (Ez (s:=(sA T8 319 623 w os).abs) (s':=(sA T9 347 665 w os).abs) (EA (congrFun (g9 w) os)) (Ez (s:=(sA T9 347 665 w os).abs) (s':=(sA OV 375 703 w os).abs) (EA (congrFun (g10 w) os)) (Ez (s:=(sA OV 375 703 w os).abs) (s':=(sA OW 542 919 w os).abs) (EA (congrFun (g11 w) os)) (Ez (s:=(sA OW 542 919 w os).abs) (s':=(sA OX 564 966 w os).abs) (EA (congrFun (g12 w) os)) (Ez (s:=(sA OX 564 966 w os).abs) (s':=(sA OY 646 1074 w os).abs) (EA (congrFun (g13 w) os)) (Ez (s:=(sA OY 646 1074 w os).abs) (s':=(sA OZ 646 1076 w os).abs) (EA (congrFun (g14 w) os)) (Ez (s:=(sA OZ 646 1076 w os).abs) (s':=(sA O0 712 1159 w os).abs) (EA (congrFun (g15 w) os)) (Ez (s:=(sA O0 712 1159 w os).abs) (s':=(sA O1 757 1218 w os).abs) (EA (congrFun (g16 w) os)) (Ez (s:=(sA O1 757 1218 w os).abs) (s':=(sA O2 809 1287 w os).abs) (EA (congrFun (g17 w) os)) (Ez (s:=(sA O2 809 1287 w os).abs) (s':=(sA VY 872 1378 w os).abs) (EA (congrFun (g18 w) os)) (piece_nil (congrFun (last w) os)))))))))))))))))))
theorem run:∀(w:A7)(os:Qk),topRun Dl pE w 11 (some (.ref 6)) (12+(1+(301+(214+(214+(354+(593+(388+(287+(298+(260+(256+(913+(253+(516+(10+(441+(370+(382+(320+2)))))))))))))))))))) ⟨JG w.params,#[],boot_drawn,boot_toks,os⟩ (topStub pE)=some ⟨hp w.params,#[],{},1378,os⟩:=
 λw os=>go_top (congrFun (pre w) os) (piece_block (congrFun (RT w) os) (rest w os))
end Mine.Internal.Hd
namespace Mine.Internal.Hd
noncomputable def q:Program:={pE with main:={pE.main with body:= [st 43]}}
noncomputable def loose:List Str:=((jE.drop 8).take 45).map λx=>HD x.1
noncomputable def as:List Nat:=BN 872
noncomputable def V0:List Nat->List Obj->Frag
 | a::l,o::r=>(a,o)::V0 l r
 | _,_=>[]
noncomputable def K(P:AK):Frag:=V0 as (fin P)
noncomputable abbrev H:Hook:=kHook K as (λZ=>by kernel_rfl)
noncomputable abbrev mods:List Str:=Ur pE.main.body
noncomputable abbrev sF(w:A7)(os:Qk):Shared:=⟨hp w.params,#[],{},1378,os⟩
theorem l1:∀w:A7,(λos=>(staticsOk mods (JG w.params) (hp w.params)&&namesBound pE (hp w.params)&&gensDone (sF w os)&&laidKept (JG w.params) (hp w.params)))=λZ=>true:=by intro w;kernel_rfl
theorem l2:∀w:A7,(λos=>seen ((recsOf q).map (·.name)) (ownsOf q) [] {sF w os with gens:= #[]})=λZ=>expectedOf q:=by intro w;kernel_rfl
theorem l3:∀w:A7,(λos=>(sF w os).heap.bltView)=λZ=>bltViewBooted:=by intro w;kernel_rfl
theorem l4:∀w:A7,(λos=>((sF w os).heap.keysOk (NR q loose) ((recsOf q).map (·.name)) ((litsOf q).map (·.1)) ((clssOf q (NR q loose)).map (·.name))&&(sF w os).heap.accountedOkI mods&&(sF w os).heap.isNs FO&&(sF w os).heap.isNs Qn&&tablesOk q (sF w os).heap&&true&&(if true then(sF w os).gens.size==0 else !leftWithCleanup (sF w os).gens)))=λZ=>true:=by intro w;kernel_rfl
theorem l5:∀w:A7,(λos=>tabsOk q (sF w os))=λZ=>true:=by intro w;kernel_rfl
theorem l6:∀w:A7,(λos=>pinSeenD q (drecsOf q) (sF w os))=λZ=>pinGoodD (drecsOf q):=by intro w;kernel_rfl
theorem l7:∀w:A7,(λos=>plainSeenE q (NR q loose) (sF w os))=λZ=>plainGoodE q (NR q loose):=by intro w;kernel_rfl
theorem l8:∀w:A7,(λos=>plainSeenD q loose (sF w os))=λZ=>plainGoodD q loose:=by intro w;kernel_rfl
theorem l9:∀w:A7,(λos=>wideSeen q (sF w os))=λZ=>wideGood q:=by intro w;kernel_rfl
theorem l10:∀w:A7,(λos=>clsSeenW q loose (sF w os))=λZ=>clsGoodW q loose:=by intro w;kernel_rfl
noncomputable def RU(o:Obj):Option Obj:=QT ⟨#[o],{}⟩ 0
theorem get1(l:List Obj)(i:Nat):QT ⟨l.toArray,{}⟩ i=(l[i]?).bind RU:=by unfold QT;refine Aa X7 ?_;cases l[i]?<;>rfl
theorem gets{l:List Obj}(e:l.map RU=l.map some):(BN l.length).map (QT ⟨l.toArray,{}⟩)=l.map some:=by
 refine AS e ?_;apply Uo;intro i;refine Aa Bp<|Aa Bp ?_;by_cases h:i<l.length
 ·exact Aa (KE h)<|Aa (BG h)<|congrArg some ((get1 l i).trans (congrArg (Option.bind · RU) (BG h)))
 ·rw[Ip (by exact Aa FS<|GU h),Ip (GU h)];rfl
theorem zips(l:List Obj):∀as:List Nat,l.length=as.length->(V0 as l).map (λp=>some p.2)=l.map some:=by
 induction l with
 | nil=>intro as h;cases as<;>rfl
 | cons o l ih=>intro as h;cases as with
  | nil=>exfalso;injection h
  | cons a as=>exact congrArg (some o:: ·) (ih as (QQ h))
theorem len(P:AK):(fin P).length=872:=by kernel_rfl
theorem free(P:AK):(fin P).map RU=(fin P).map some:=by kernel_rfl
theorem l11:∀w:A7,(λos=>H.obs (sF w os))=λZ=>H.val w:=λw=>funext λZ=>
 (congrArg (λn=>(BN n).map (QT (hp w.params))) (len w.params).symm).trans ((gets (free w.params)).trans (zips _ as ((len w.params).trans FS.symm)).symm)
end Mine.Internal.Hd
namespace Mine.Internal.Hd
theorem op1:opening pE=plainProg pE.main.scope.names:=by kernel_rfl
theorem op2:∀s,fenceModules? pE s=some s:=by intro s;kernel_rfl
theorem Adv:∀w:A7,(λos=>((staticsOk mods (JG w.params) (hp w.params)&&namesBound pE (hp w.params)&&gensDone (sF w os)&&laidKept (JG w.params) (hp w.params)),
    openSeen q loose mods (λZ=>true) true (sF w os),H.obs (sF w os)))=λZ=>(true,openGood q loose,H.val w):=by
 intro w;funext os;unfold openSeen openGood;exact Ir (congrFun (l1 w) os) (Ir (Ir (congrFun (l2 w) os) (Ir (congrFun (l3 w) os) (Ir (congrFun (l4 w) os) (Ir (congrFun (l5 w) os) (Ir (congrFun (l6 w) os) (Ir (congrFun (l7 w) os) (Ir (congrFun (l8 w) os) (Ir (congrFun (l9 w) os) (congrFun (l10 w) os))))))))) (congrFun (l11 w) os))
theorem left:LeftO pE q loose (λZ=>true) H.obs H.val 13000 true:=
 LeftO.of_pieces (boot_open op1 rfl op2) size run (by kernel_rfl) Adv
end Mine.Internal.Hd
namespace Mine.Internal.Hd
noncomputable abbrev L:OpenLaw:=Mf
theorem u1:namesResolve pE=true:=by kernel_rfl
theorem v1:QU pE pE.main.body "vars"=false:=by kernel_rfl
theorem v2:QU pE pE.main.body "dir"=false:=by kernel_rfl
theorem v3:QU pE pE.main.body "locals"=false:=by kernel_rfl
theorem v4:(["vars","dir","locals"]:List Str).filter (QU pE pE.main.body)= []:=
 (YI (JA.mp v1)).trans ((YI (JA.mp v2)).trans (YI (JA.mp v3)))
theorem v5:Us {strict:= !(Ur pE.main.body).all YJ.contains,foot:=none,bare:= []} pE.main.body=true:=by kernel_rfl
theorem u2:Us {strict:= !(Ur pE.main.body).all YJ.contains,foot:=none,bare:=(["vars","dir","locals"]:List Str).filter (QU pE pE.main.body)} pE.main.body=true:=
 (congrArg (λb=>Us {strict:= !(Ur pE.main.body).all YJ.contains,foot:=none,bare:=b} pE.main.body) v4).trans v5
theorem u3:namesMeet pE pE.main.body (λZ n=>attrL n)=true:=by kernel_rfl
theorem u4:Us {strict:=true,foot:=some L.bound',writes:=L.writes,may:=L.may} L.footing=true:=by kernel_rfl
theorem u5:L.bound'.all (λn=>!builtinNamed n || L.about== [n] || !L.reads n)=true:=by kernel_rfl
theorem u6:namesMeet L.prog L.above (λZ n=>!L.own.contains n)=true:=by kernel_rfl
theorem u7:looksOpen pE=true:=Fb (Fb (Fb (Fb (Fb (by kernel_rfl) (by kernel_rfl)) u1) (by kernel_rfl)) u2) u3
theorem u8:row.wellSaid=true:=by
 have h:row.partSaid=true:=by
  refine Fb ?_ (by kernel_rfl)
  iterate 12 refine Fb ?_ (by kernel_rfl)
  exact u7
 exact Fb (Fb h (by kernel_rfl)) (by kernel_rfl)
theorem jX:Mf.wellSaid=true:=by
 refine Fb (Fb ?_ u6) (by kernel_rfl)
 iterate 6 refine Fb ?_ (by kernel_rfl)
 refine Fb ?_ u5
 iterate 3 refine Fb ?_ (by kernel_rfl)
 refine Fb ?_ u4
 iterate 5 refine Fb ?_ (by kernel_rfl)
 exact u8
end Mine.Internal.Hd
namespace Mine.Internal
variable{c:Cx}{P:Fz}{V:St}{hd:AV}{a m b d j n i tk ep NB:Nat}{x:Str}{o:Obj}{W Ap ρ0:Al}{e:Expr}{C da S:Addr}{h' h:Heap}{f v:Ac}{w:A7}{sc scope:BF}{op:FL}{A:BB}{s':Aj}{nm:String}{xs ks ys:List AV}{t:EK}{tg Cs:List Nat}{Ab:List Int}{Os:List BD}{p:Array Nat}{ts:List Expr}{body:List Stmt}{wr As:List Addr}{a2:Option AV}{Db us ord:List Ac}{κs:List (List AV)}{mm:List (Nat×Int)}{g:Str->Option Addr}{rws:List (List Int)}{binds:List (Str×Ac)}{mo:List (Str×GR)}{Cg:List (Option Nat)}{ns names:List (Str×Bi)}{Ae:List (List (Nat×Nat))}
noncomputable def jY:Nat->Ac
 | 0=>Hd.s "grammarmill.source" 194
 | 1=>Hd.s "grammarmill.tables" 315
 | 2=>Hd.s "grammarmill.driver" 521
 | 3=>Hd.s "grammarmill.grammar" 919
 | 4=>Hd.s "grammarmill.nodes" 1074
 | _=>Hd.s "law_nn0388_01" 1279
noncomputable def kT:List (Nat×Stmt×String×Ac×Nat):= [(88,Hd.sm 5 0,"Token.__init__",Hd.r 81,0),(95,Hd.sm 5 1,"Token.told",.none,0),(123,Hd.sm 11 0,"Tables.__init__",.none,1),(130,Hd.sm 11 1,"Tables.terminal",.none,1),(137,Hd.sm 11 2,"Tables.left",.none,1),(144,Hd.sm 11 3,"Tables.length",.none,1),(151,Hd.sm 11 4,"Tables.before",.none,1),(172,Hd.sm 11 7,"Tables.default",.none,1),(186,Hd.sm 11 9,"Tables.action",.none,1),(193,Hd.sm 11 10,"Tables.expected",.none,1),(200,Hd.sm 11 11,"Tables.is_consistent",.none,1),(235,Hd.sm 12 2,"ParseTables.explicit",.none,1),(242,Hd.sm 12 3,"ParseTables.goto",.none,1),(297,Hd.sm 17 0,"Fault.__init__",Hd.r 290,2),(332,Hd.sm 18 0,"Outcome.__init__",.none,2),(360,Hd.sm 19 0,"TokenRow.__init__",.none,2),(367,Hd.sm 19 1,"TokenRow.next_token",.none,2),(389,Hd.sm 20 0,"Core.__init__",Hd.r 382,2),(396,Hd.sm 20 1,"Core.begin",.none,2),(403,Hd.sm 20 2,"Core.outcome",.none,2),(410,Hd.sm 20 3,"Core.parse",.none,2),(417,Hd.sm 20 4,"Core.pull",.none,2),(431,Hd.sm 20 6,"Core.needs",.none,2),(438,Hd.sm 20 7,"Core.look",.none,2),(445,Hd.sm 20 8,"Core.lone_rule",.none,2),(452,Hd.sm 20 9,"Core.terminal_of",.none,2),(459,Hd.sm 20 10,"Core.note",.none,2),(473,Hd.sm 20 12,"Core.finish",.none,2),(480,Hd.sm 20 13,"Core.step",.none,2),(487,Hd.sm 20 14,"Core.is_established",.none,2),(494,Hd.sm 20 15,"Core.shift",.none,2),(501,Hd.sm 20 16,"Core.reduce",.none,2),(508,Hd.sm 20 17,"Core.act",.none,2),(515,Hd.sm 20 18,"Core.go_on",.none,2),(522,Hd.sm 20 19,"Core.expected",.none,2),(527,Hd.sm 20 20,"Core.tell_fault",.none,2),(534,Hd.sm 20 21,"Core.fail",.none,2),(556,Hd.sm 22 0,"Rule.__init__",Hd.r 549,3),(575,Hd.sm 23 0,"Grammar.__init__",.none,3),(603,Hd.sm 23 4,"Grammar.number",.none,3),(659,Hd.sm 25 0,"Tree.__init__",.none,4),(666,Hd.sm 25 1,"Tree.is_leaf",.none,4),(685,Hd.sm 25 4,"Tree.leaves",.none,4),(690,Hd.sm 25 5,"Tree.reductions",.none,4),(725,Hd.sm 26 0,"Leaf.__init__",.none,4),(732,Hd.sm 26 1,"Leaf.is_leaf",.none,4),(751,Hd.st 27,"postorder",.none,4),(756,Hd.st 28,"derivation",.none,4),(770,Hd.sm 29 0,"TreeHandler.__init__",.none,4),(777,Hd.sm 29 1,"TreeHandler.shift",.none,4),(784,Hd.sm 29 2,"TreeHandler.reduce",.none,4),(803,Hd.st 30,"left_names",.none,4),(808,Hd.st 32,"_law_pen",.none,5),(815,Hd.st 33,"_law_draw",.none,5),(822,Hd.st 34,"_law_pick",.none,5),(827,Hd.st 35,"_law_pairs",.none,5),(832,Hd.st 36,"_law_heads",.none,5),(837,Hd.st 37,"_law_closed",.none,5),(842,Hd.st 38,"_law_states",.none,5),(847,Hd.st 39,"_law_tables",.none,5),(852,Hd.st 40,"_law_word",.none,5),(859,Hd.st 41,"_law_led",.none,5),(864,Hd.st 42,"_law_right",.none,5),(871,Hd.st 43,"law",.none,5)]
noncomputable def ko(x:Nat×Stmt×String×Ac×Nat):Obj:=Hd.fo (.type "function") x.2.1 x.2.2.1 3 [] x.2.2.2.1 .none .none (jY x.2.2.2.2) (Hd.r (x.1-1)) .none 0
theorem kAll(P:AK):(kT.map λx=>(Hd.K P).lookup x.1)=kT.map λx=>some (ko x):=by kernel_rfl
theorem kx{x:Nat×Stmt×String×Ac×Nat}(h:kT[i]?=some x)(P:AK):(Hd.K P).lookup x.1=some (ko x):=by have e:=congrArg (λl=>l[i]?) (kAll P);simp only[Bp,h] at e;exact Ay e
theorem cAll(P:AK):(kT.all λx=>NH (Hd.K P) (.ref (x.1-1)) (.ofString x.2.2.1))=true:=by kernel_rfl
theorem cx{x:Nat×Stmt×String×Ac×Nat}(h:kT[i]?=some x)(P:AK):NH (Hd.K P) (.ref (x.1-1)) (.ofString x.2.2.1)=true:=EP.mp (cAll P) _ (A8 h)
theorem Adw(P:AK):(Hd.K P).lookup 221=some (Hd.fo (.type "function") (Hd.sm 12 0) "ParseTables.__init__" 3 [("__class__",211)] .none .none .none (Hd.s "grammarmill.tables" 315) (Hd.r 220) (Hd.r 216) 0):=by kernel_rfl
def Glob(x:Str)(v:Ac):Prop:=(x==("__debug__":Str))=false/\((∀P,nsIn (Hd.K P) FO x=some (some v))\/((∀P,nsIn (Hd.K P) FO x=some none)/\XH x=some v/\x≠"__name__"))
def IV(x:Str)(i:Int):Prop:=(x==("__debug__":Str))=false/\ ∃t,∀P,nsIn (Hd.K P) FO x=some (some (.int i t))
theorem BO(P:AK):(["ACCEPT","BARRED","Core","ERROR_driver","ERROR_tables","Fault","Grammar","Leaf","Outcome","ParseTables","Rule","Token","TokenRow","Tree","TreeHandler","UNDEFINED_driver","UNDEFINED_tables","_law_closed","_law_draw","_law_heads","_law_led","_law_pairs","_law_pen","_law_pick","_law_right","_law_states","_law_tables","_law_word","derivation","law","left_names","postorder","len","int","abs","range","enumerate","zip","sorted","set","dict","list","tuple","max"].map λx=>nsIn (Hd.K P) FO (.ofString x))= [some (some (.int (1048576) 319)),some (some (.int (-1048576) 324)),some (some (.ref 537)),some (some (.int (1) 523)),some (some (.int (1) 326)),some (some (.ref 314)),some (some (.ref 641)),some (some (.ref 742)),some (some (.ref 342)),some (some (.ref 245)),some (some (.ref 559)),some (some (.ref 105)),some (some (.ref 370)),some (some (.ref 707)),some (some (.ref 794)),some (some (.int (2) 525)),some (some (.int (2) 328)),some (some (.ref 837)),some (some (.ref 815)),some (some (.ref 832)),some (some (.ref 859)),some (some (.ref 827)),some (some (.ref 808)),some (some (.ref 822)),some (some (.ref 864)),some (some (.ref 842)),some (some (.ref 847)),some (some (.ref 852)),some (some (.ref 756)),some (some (.ref 871)),some (some (.ref 803)),some (some (.ref 751)),some none,some none,some none,some none,some none,some none,some none,some none,some none,some none,some none,some none]:=by kernel_rfl
theorem GG:(["len","int","abs","range","enumerate","zip","sorted","set","dict","list","tuple","max"].map λx=>XH (.ofString x))= [some (.builtin "len"),some (.type "int"),some (.builtin "abs"),some (.type "range"),some (.type "enumerate"),some (.type "zip"),some (.builtin "sorted"),some (.type "set"),some (.type "dict"),some (.type "list"),some (.type "tuple"),some (.builtin "max")]:=by kernel_rfl
theorem Adx:IV "ACCEPT" (1048576):=⟨by decide+kernel,319,λP=>Ay (congrArg (λl=>l[0]?) (BO P))⟩
theorem Ady:IV "BARRED" (-1048576):=⟨by decide+kernel,324,λP=>Ay (congrArg (λl=>l[1]?) (BO P))⟩
theorem Adz:Glob "Core" (.ref 537):=⟨by decide+kernel,.inl λP=>Ay (congrArg (λl=>l[2]?) (BO P))⟩
theorem AdA:IV "ERROR_driver" (1):=⟨by decide+kernel,523,λP=>Ay (congrArg (λl=>l[3]?) (BO P))⟩
theorem AdB:IV "ERROR_tables" (1):=⟨by decide+kernel,326,λP=>Ay (congrArg (λl=>l[4]?) (BO P))⟩
theorem AdC:Glob "Fault" (.ref 314):=⟨by decide+kernel,.inl λP=>Ay (congrArg (λl=>l[5]?) (BO P))⟩
theorem AdD:Glob "Grammar" (.ref 641):=⟨by decide+kernel,.inl λP=>Ay (congrArg (λl=>l[6]?) (BO P))⟩
theorem AdE:Glob "Leaf" (.ref 742):=⟨by decide+kernel,.inl λP=>Ay (congrArg (λl=>l[7]?) (BO P))⟩
theorem AdF:Glob "Outcome" (.ref 342):=⟨by decide+kernel,.inl λP=>Ay (congrArg (λl=>l[8]?) (BO P))⟩
theorem AdG:Glob "ParseTables" (.ref 245):=⟨by decide+kernel,.inl λP=>Ay (congrArg (λl=>l[9]?) (BO P))⟩
theorem AdH:Glob "Rule" (.ref 559):=⟨by decide+kernel,.inl λP=>Ay (congrArg (λl=>l[10]?) (BO P))⟩
theorem AdI:Glob "Token" (.ref 105):=⟨by decide+kernel,.inl λP=>Ay (congrArg (λl=>l[11]?) (BO P))⟩
theorem AdJ:Glob "TokenRow" (.ref 370):=⟨by decide+kernel,.inl λP=>Ay (congrArg (λl=>l[12]?) (BO P))⟩
theorem AdK:Glob "Tree" (.ref 707):=⟨by decide+kernel,.inl λP=>Ay (congrArg (λl=>l[13]?) (BO P))⟩
theorem AdL:Glob "TreeHandler" (.ref 794):=⟨by decide+kernel,.inl λP=>Ay (congrArg (λl=>l[14]?) (BO P))⟩
theorem AdM:IV "UNDEFINED_driver" (2):=⟨by decide+kernel,525,λP=>Ay (congrArg (λl=>l[15]?) (BO P))⟩
theorem AdN:IV "UNDEFINED_tables" (2):=⟨by decide+kernel,328,λP=>Ay (congrArg (λl=>l[16]?) (BO P))⟩
theorem AdO:Glob "_law_closed" (.ref 837):=⟨by decide+kernel,.inl λP=>Ay (congrArg (λl=>l[17]?) (BO P))⟩
theorem AdP:Glob "_law_draw" (.ref 815):=⟨by decide+kernel,.inl λP=>Ay (congrArg (λl=>l[18]?) (BO P))⟩
theorem AdQ:Glob "_law_heads" (.ref 832):=⟨by decide+kernel,.inl λP=>Ay (congrArg (λl=>l[19]?) (BO P))⟩
theorem AdR:Glob "_law_led" (.ref 859):=⟨by decide+kernel,.inl λP=>Ay (congrArg (λl=>l[20]?) (BO P))⟩
theorem AdS:Glob "_law_pairs" (.ref 827):=⟨by decide+kernel,.inl λP=>Ay (congrArg (λl=>l[21]?) (BO P))⟩
theorem AdT:Glob "_law_pen" (.ref 808):=⟨by decide+kernel,.inl λP=>Ay (congrArg (λl=>l[22]?) (BO P))⟩
theorem AdU:Glob "_law_pick" (.ref 822):=⟨by decide+kernel,.inl λP=>Ay (congrArg (λl=>l[23]?) (BO P))⟩
theorem AdV:Glob "_law_right" (.ref 864):=⟨by decide+kernel,.inl λP=>Ay (congrArg (λl=>l[24]?) (BO P))⟩
theorem AdW:Glob "_law_states" (.ref 842):=⟨by decide+kernel,.inl λP=>Ay (congrArg (λl=>l[25]?) (BO P))⟩
theorem AdX:Glob "_law_tables" (.ref 847):=⟨by decide+kernel,.inl λP=>Ay (congrArg (λl=>l[26]?) (BO P))⟩
theorem AdY:Glob "_law_word" (.ref 852):=⟨by decide+kernel,.inl λP=>Ay (congrArg (λl=>l[27]?) (BO P))⟩
theorem AdZ:Glob "derivation" (.ref 756):=⟨by decide+kernel,.inl λP=>Ay (congrArg (λl=>l[28]?) (BO P))⟩
theorem Ad0:Glob "left_names" (.ref 803):=⟨by decide+kernel,.inl λP=>Ay (congrArg (λl=>l[30]?) (BO P))⟩
theorem Ad1:Glob "postorder" (.ref 751):=⟨by decide+kernel,.inl λP=>Ay (congrArg (λl=>l[31]?) (BO P))⟩
theorem Ad2:Glob "len" (.builtin "len"):=⟨by decide+kernel,.inr ⟨λP=>Ay (congrArg (λl=>l[32]?) (BO P)),Ay (congrArg (λl=>l[0]?) GG),by decide+kernel⟩⟩
theorem Ad3:Glob "int" (.type "int"):=⟨by decide+kernel,.inr ⟨λP=>Ay (congrArg (λl=>l[33]?) (BO P)),Ay (congrArg (λl=>l[1]?) GG),by decide+kernel⟩⟩
theorem Ad4:Glob "abs" (.builtin "abs"):=⟨by decide+kernel,.inr ⟨λP=>Ay (congrArg (λl=>l[34]?) (BO P)),Ay (congrArg (λl=>l[2]?) GG),by decide+kernel⟩⟩
theorem Ad5:Glob "range" (.type "range"):=⟨by decide+kernel,.inr ⟨λP=>Ay (congrArg (λl=>l[35]?) (BO P)),Ay (congrArg (λl=>l[3]?) GG),by decide+kernel⟩⟩
theorem Ad6:Glob "enumerate" (.type "enumerate"):=⟨by decide+kernel,.inr ⟨λP=>Ay (congrArg (λl=>l[36]?) (BO P)),Ay (congrArg (λl=>l[4]?) GG),by decide+kernel⟩⟩
theorem Ad7:Glob "zip" (.type "zip"):=⟨by decide+kernel,.inr ⟨λP=>Ay (congrArg (λl=>l[37]?) (BO P)),Ay (congrArg (λl=>l[5]?) GG),by decide+kernel⟩⟩
theorem Ad8:Glob "sorted" (.builtin "sorted"):=⟨by decide+kernel,.inr ⟨λP=>Ay (congrArg (λl=>l[38]?) (BO P)),Ay (congrArg (λl=>l[6]?) GG),by decide+kernel⟩⟩
theorem Ad9:Glob "set" (.type "set"):=⟨by decide+kernel,.inr ⟨λP=>Ay (congrArg (λl=>l[39]?) (BO P)),Ay (congrArg (λl=>l[7]?) GG),by decide+kernel⟩⟩
theorem Aea:Glob "dict" (.type "dict"):=⟨by decide+kernel,.inr ⟨λP=>Ay (congrArg (λl=>l[40]?) (BO P)),Ay (congrArg (λl=>l[8]?) GG),by decide+kernel⟩⟩
theorem Aeb:Glob "list" (.type "list"):=⟨by decide+kernel,.inr ⟨λP=>Ay (congrArg (λl=>l[41]?) (BO P)),Ay (congrArg (λl=>l[9]?) GG),by decide+kernel⟩⟩
theorem Aec:Glob "tuple" (.type "tuple"):=⟨by decide+kernel,.inr ⟨λP=>Ay (congrArg (λl=>l[42]?) (BO P)),Ay (congrArg (λl=>l[10]?) GG),by decide+kernel⟩⟩
theorem Aed:Glob "max" (.builtin "max"):=⟨by decide+kernel,.inr ⟨λP=>Ay (congrArg (λl=>l[43]?) (BO P)),Ay (congrArg (λl=>l[11]?) GG),by decide+kernel⟩⟩
noncomputable def RV:List Nat:= [88,95,105,123,130,137,144,151,172,186,193,200,221,235,242,245,297,314,332,342,360,367,370,389,396,403,410,417,431,438,445,452,459,473,480,487,494,501,508,515,522,527,534,537,556,559,575,603,641,659,666,685,690,707,725,732,742,751,756,770,777,784,794,803,808,815,822,827,832,837,842,847,852,859,864,871]
theorem Aee(P:AK):(RV.all λa=>keepIn (Hd.K P) (.ref a))=true:=by kernel_rfl
set_option genSizeOf false
set_option genInjectivity false
structure AE(c:Cx):Prop where
 K:c.K=Hd.K c.w.params
noncomputable def RX:List (Nat×List String):=
 [(105,["kind","text","at","worth"]),(245,["names","terminal_count","lefts","lengths","befores","defaults","numbers","grammar","rows","gotos","conflicts","settled","mode"]),
   (314,["token","state","expected","index"]),(342,["accepted","value","faults","moves"]),(370,["tokens","at"]),
   (537,["tables","handler","most","lone","states","values","looked","count","answer","value","faults","moves"]),
   (559,["number","left","right","level_of","action","line","before"]),
   (641,["names","terminal_count","rules","levels","expect","start","by_left","offsets","owners","item_count"]),
   (707,["name","rule","children"]),(742,["name","rule","children","token"]),(794,["names"])]
noncomputable def O3:List (Nat×String×Nat):=
 [(537,"begin",396),(537,"outcome",403),(537,"parse",410),(537,"pull",417),(537,"needs",431),(537,"look",438),(537,"lone_rule",445),(537,"terminal_of",452),(537,"note",459),
   (537,"finish",473),(537,"step",480),(537,"is_established",487),(537,"shift",494),(537,"reduce",501),(537,"act",508),(537,"go_on",515),(537,"expected",522),(537,"tell_fault",527),(537,"fail",534),
   (370,"next_token",367),(245,"terminal",130),(245,"left",137),(245,"length",144),(245,"before",151),(245,"default",172),(245,"action",186),(245,"expected",193),(245,"is_consistent",200),
   (245,"explicit",235),(245,"goto",242),(641,"number",603),(707,"is_leaf",666),(707,"leaves",685),(707,"reductions",690),(742,"is_leaf",732),(742,"leaves",685),(742,"reductions",690),
   (794,"shift",777),(794,"reduce",784),(105,"told",95)]
noncomputable def RY:List (Nat×Nat):= [(105,88),(245,221),(314,297),(342,332),(370,360),(537,389),(559,556),(641,575),(707,659),(742,725),(794,770)]
noncomputable def gV:List (String×Ac):=
 [("Core",CB 537),("Fault",CB 314),("Grammar",CB 641),("Leaf",CB 742),("Outcome",CB 342),("ParseTables",CB 245),("Rule",CB 559),("Token",CB 105),("TokenRow",CB 370),("Tree",CB 707),("TreeHandler",CB 794),
   ("_law_closed",CB 837),("_law_draw",CB 815),("_law_heads",CB 832),("_law_led",CB 859),("_law_pairs",CB 827),("_law_pen",CB 808),("_law_pick",CB 822),("_law_right",CB 864),("_law_states",CB 842),("_law_tables",CB 847),("_law_word",CB 852),
   ("derivation",CB 756),("left_names",CB 803),("postorder",CB 751),("len",QO "len"),("int",FR "int"),("abs",QO "abs"),("range",FR "range"),("enumerate",FR "enumerate"),("zip",FR "zip"),("sorted",QO "sorted"),
   ("set",FR "set"),("dict",FR "dict"),("list",FR "list"),("tuple",FR "tuple"),("max",QO "max")]
noncomputable def gI:List (String×Int):= [("ACCEPT",1048576),("BARRED",-1048576),("ERROR_driver",1),("ERROR_tables",1),("UNDEFINED_driver",2),("UNDEFINED_tables",2)]
noncomputable def EF(C:Nat):List Str:=((RX.lookup C).getD []).map .ofString
noncomputable def Aef(K:Frag)(p:Nat×List String):Bool:=
 L3 K p.1&&decide ((EF p.1).length<=100)&&decide (EF p.1).Nodup&&p.2.all (λx=>QE K p.1 (.ofString x)&&NL K p.1 (.ofString x)==some none)
noncomputable def Aeg(K:Frag)(p:Nat×String×Nat):Bool:=Rm K p.1 (.ofString p.2.1) p.2.2&& !(EF p.1).contains (.ofString p.2.1)&&keepIn K (.ref p.2.2)
noncomputable def Aeh(K:Frag)(p:Nat×Nat):Bool:=makesIn K p.1&&NJ K (.ref p.1) "__init__"==some (some (.ref p.2))&&TL K (.ref p.2)==some (.type "function")
theorem Aei(P:AK):RX.all (Aef (Hd.K P))=true:=by kernel_rfl
theorem Aej(P:AK):O3.all (Aeg (Hd.K P))=true:=by kernel_rfl
theorem Aek(P:AK):RY.all (Aeh (Hd.K P))=true:=by kernel_rfl
inductive PE where
 | v (i:Nat)
 | gi (i:Int) (j k:Nat)
 | int (i:Int)
 | str (x:String)
 | bool (b:Bool)
 | no
 | bin (op:Kx) (x y:PE)
 | neg (x:PE)
 | O4 (x:PE)
 | cmp (op:FL) (x y:PE)
 | ite (t x y:PE)
 | G5 (x y:PE)
 | Ll (x y z:PE)
 | call (f:Ac) (j k:Nat) (as:PE)
 | BU (o:PE) (x id:String) (as:PE)
 | Bg (o:PE) (x:String) (ms:List (Nat×Nat)) (as:PE)
 | attr (o:PE) (x:String) (k:Nat) (Cs:List Nat)
 | sub (o i:PE)
 | slice (mu:Bool) (o lo hi st:PE)
 | lst (mu:Bool) (as:PE)
 | tup (as:PE)
 | dict (mu:Bool)
 | comp (mu tt:Bool) (tg:List Nat) (Cg:List (Option Nat)) (elt it Cj:PE)
 | AW (op:FL) (x y:PE)
 | IW (x:PE)
 | FX (x y:PE)
 | J0 (x y:PE)
 | O5 (x y z:PE)
 | E0 (x:PE)
 | CK
 | nil
 | cons (x r:PE)
 | iV (x:PE)
 | FY (j k:Nat) (x:PE)
 | IX (j k:Nat) (x:PE)
 | MR (j k:Nat) (x y:PE)
 | BP
 | pI (x:PE)
 | dead
inductive PS where
 | nil
 | asg (i:Nat) (e:PE) (r:PS)
 | Hc (i:Nat) (e:PE) (r:PS)
 | tup (sw:Bool) (is:List Nat) (e:PE) (r:PS)
 | Ej (e o i:PE) (r:PS)
 | AQ (e o:PE) (x:String) (k:Nat) (Cs:List Nat) (r:PS)
 | ex (e:PE) (r:PS)
 | iff (t:PE) (a b r:PS)
 | wh (t:PE) (b r:PS)
 | for (tt:Bool) (tg:List Nat) (it:PE) (b r:PS)
 | ret (e:PE)
 | O6
 | brk
 | fail
 | Lm (r:PS)
 | DI (is:List Nat) (r:PS)
noncomputable def EG:Al->Nat->Option AV
 | [],_=>none
 | o::_,0=>o
 | _::r,i+1=>EG r i
noncomputable def V1:List AV->Nat->Option AV
 | [],_=>none
 | o::_,0=>some o
 | _::r,i+1=>V1 r i
noncomputable def J8:List AV->Nat->AV->List AV
 | [],_,_=>[]
 | _::r,0,v=>v::r
 | o::r,i+1,v=>o::J8 r i v
noncomputable def IY:Al->Nat->AV->Al
 | [],_,_=>[]
 | _::r,0,v=>some v::r
 | o::r,i+1,v=>o::IY r i v
noncomputable def RZ:Al->Nat->Al
 | [],_=>[]
 | _::r,0=>none::r
 | o::r,i+1=>o::RZ r i
noncomputable def R4:Al->List Nat->Al
 | W,i::is=>R4 (RZ W i) is
 | W,[]=>W
noncomputable def put:Al->List Nat->List AV->Al
 | W,i::is,v::vs=>put (IY W i v) is vs
 | W,_,_=>W
noncomputable def O7:List (Option Nat)->Al->Option Al
 | [],_=>some []
 | none::r,W=>(O7 r W).map (none:: ·)
 | some i::r,W=>(EG W i).bind λv=>(O7 r W).map (some v:: ·)
noncomputable def GH(C:Nat):List Nat->Bool
 | []=>false
 | D::r=>Da C D || GH C r
noncomputable def Ln(C:Nat):List (Nat×Nat)->Option Nat
 | []=>none
 | (D,f)::r=>if Da C D then some f else Ln C r
noncomputable abbrev Cc(C:Addr)(vs:List AV):AV:= .inst C ((EF C).take vs.length) vs
noncomputable abbrev Bw(C:Addr)(vs:List AV):BD:= .Dm ((EF C).take vs.length) vs
noncomputable abbrev Bz(b:Bool)(P:Prop):Prop:=match b with
 | true=>P
 | false=>False
noncomputable abbrev V2(b:Bool)(T F:Prop):Prop:=match b with
 | true=>T
 | false=>F
noncomputable def R5:AV->Bool
 | .raw _=>false
 | _=>true
noncomputable def stB:Option Int->Bool
 | some 0=>false
 | _=>true
noncomputable def icmp(op:FL)(i j:Int)(T F:Prop):Prop:=match op with
 | .Eq=>(i=j->T)/\(¬i=j->F)
 | .NotEq=>(¬i=j->T)/\(i=j->F)
 | .Lt=>(i<j->T)/\(j<=i->F)
 | .LtE=>(i<=j->T)/\(j<i->F)
 | .Gt=>(j<i->T)/\(i<=j->F)
 | .GtE=>(j<=i->T)/\(i<j->F)
 | _=>False
noncomputable def scmp(op:FL)(x y:Str)(T F:Prop):Prop:=match op with
 | .Eq=>(x=y->T)/\(¬x=y->F)
 | .NotEq=>(¬x=y->T)/\(x=y->F)
 | _=>False
section
variable(c:Cx)(n:Nat)
noncomputable def MS(a:AV)(V:St)(Q:AV->St->Prop):Prop:=match a with
 | .bool b=>(b=true->Q (.bool true) V)/\(b=false->Q (.bool false) V)
 | .int i=>(¬i=0->Q (.bool true) V)/\(i=0->Q (.bool false) V)
 | a=>ES c n a V (λb Aq=>Q (.bool b) Aq)
noncomputable def O9(op:FL)(a b:AV)(V:St)(Q:AV->St->Prop):Prop:=match op with
 | .Is=>match b with
  | .none=>V2 a.isNone (Q (.bool true) V) (Q (.bool false) V)
  | _=>False
 | _=>AR c n op a b V (λv Aq=>∃k,v= .bool k/\(k=true->Q (.bool true) Aq)/\(k=false->Q (.bool false) Aq))
noncomputable def V3(op:FL)(a b:AV)(V:St)(Q:AV->St->Prop):Prop:=match a with
 | .int i=>match b with
  | .int j=>icmp op i j (Q (.bool true) V) (Q (.bool false) V)
  | _=>O9 c n op a b V Q
 | .str x=>match b with
  | .str y=>scmp op x y (Q (.bool true) V) (Q (.bool false) V)
  | _=>O9 c n op a b V Q
 | _=>O9 c n op a b V Q
noncomputable def jZ(op:Kx)(a b:AV)(V:St)(Q:AV->St->Prop):Prop:=match op with
 | .Add=>match a with
  | .int i=>match b with
   | .int j=>Q (.int (i+j)) V
   | _=>Ci c n op a b V Q
  | .lst xs=>match b with
   | .lst ys=>xs.length+ys.length<=Bc/\Q (.lst (xs++ys)) V
   | _=>Ci c n op a b V Q
  | _=>Ci c n op a b V Q
 | .Sub=>match a with
  | .int i=>match b with
   | .int j=>Q (.int (i-j)) V
   | _=>Ci c n op a b V Q
  | _=>Ci c n op a b V Q
 | _=>Ci c n op a b V Q
noncomputable def Pa(vs:List AV)(k:Nat)(V:St)(Q:AV->St->Prop):Prop:=match V1 vs k with
 | some x=>Bz (R5 x) (Q x V)
 | none=>False
noncomputable def R6(a:AV)(k:Nat)(Cs:List Nat)(V:St)(Q:AV->St->Prop):Prop:=match a with
 | .inst C ns vs=>ns=(EF C).take vs.length/\Bz (GH C Cs) (Pa vs k V Q)
 | .obj C da=>Bz (GH C Cs) (∃vs,V da=some (Bw C vs)/\Pa vs k V Q)
 | _=>False
noncomputable def kA(o:AV)(k:Nat)(Cs:List Nat)(x:AV)(V:St)(Q:St->Prop):Prop:=match o with
 | .obj C da=>Bz (GH C Cs) (∃vs,V da=some (Bw C vs)/\V2 (Cf vs.length k) (Bz (Da k vs.length) (Q (V.set da (Bw C (vs++ [x]))))) (Q (V.set da (Bw C (J8 vs k x)))))
 | _=>False
noncomputable def R7(a:AV)(ms:List (Nat×Nat))(V:St)(K:Nat->Prop):Prop:=match a with
 | .inst C ns vs=>ns=(EF C).take vs.length/\(match Ln C ms with
  | some f=>K f
  | none=>False)
 | .obj C da=>(∃vs,V da=some (Bw C vs))/\(match Ln C ms with
  | some f=>K f
  | none=>False)
 | _=>False
noncomputable def E1(mu:Bool)(xs:List AV)(V:St)(Q:AV->St->Prop):Prop:=match mu with
 | true=>∀a,V a=none->Q (.ref a) (V.set a (.list xs))
 | false=>Q (.lst xs) V
noncomputable def He(tt:Bool)(tg:List Nat)(W:Al)(x:AV)(K:Al->Prop):Prop:=match tt with
 | true=>match x with
  | .tup as=>Bz (Da as.length tg.length) (K (put W tg as))
  | _=>False
 | false=>K (put W tg [x])
noncomputable def R8:AV->Option (Option Int)
 | .none=>some none
 | .int i=>some (some i)
 | _=>none
noncomputable def V4(mu:Bool)(a l h t:AV)(V:St)(Q:AV->St->Prop):Prop:=match R8 l,R8 h,R8 t with
 | some l',some h',some t'=>Bz (stB t') (match a with
  | .lst xs=>xs.length<=Bc/\E1 mu (pick xs l' h' t') V Q
  | a=>∃xs,FF c V a xs/\xs.length<=Bc/\E1 mu (pick xs l' h' t') V Q)
 | _,_,_=>False
noncomputable abbrev E2(v:AV)(K:List AV->Prop):Prop:=match v with
 | .tup xs=>K xs
 | _=>False
noncomputable abbrev D2(v:AV)(T F:Prop):Prop:=match v with
 | .bool true=>T
 | .bool false=>F
 | _=>False
noncomputable def Ael(a:AV)(Q:List AV->Prop):Prop:=match a with
 | .lst xs=>Q xs
 | .tup xs=>Q xs
 | .BH ks vs=>((∃κs:List Str,ks=κs.map .str)\/(∃κs:List Int,ks=κs.map .int))/\Q ks
 | _=>False
noncomputable abbrev Ka(o:Option AV)(K:AV->Prop):Prop:=match o with
 | some v=>K v
 | none=>False
noncomputable abbrev kB(a:AV)(K:Int->Prop):Prop:=match a with
 | .int i=>K i
 | _=>False
noncomputable abbrev V5(a:AV)(K:List AV->Prop):Prop:=match a with
 | .lst xs=>K xs
 | _=>False
noncomputable abbrev vnon(a:AV)(K:Prop):Prop:=match a with
 | .none=>K
 | _=>False
noncomputable def newD(mu:Bool)(V:St)(Q:AV->St->Prop):Prop:=match mu with
 | true=>∀d,V d=none->Q (.ref d) (V.set d (.dict [] []))
 | false=>Q (.BH [] []) V
noncomputable def kE(o:Option Al)(K:Al->Prop):Prop:=match o with
 | some W=>K W
 | none=>False
noncomputable def Pb(sw:Bool)(W:Al)(is:List Nat)(as:List AV):Al:=match sw with
 | true=>put W is.reverse as.reverse
 | false=>put W is as
noncomputable def lp(N:Al->St->Prop)(B:Al->St->Prop)(Q:Fl->Al->St->Prop):Fl->Al->St->Prop:=λfl W V=>match fl with
 | .next=>N W V
 | .cont=>N W V
 | .brk=>B W V
 | .ret a=>Q (.ret a) W V
def MT(B C:Al->St->(AV->St->Prop)->Prop)(tt:Bool)(tg:List Nat)(o:Option Al)(xs:List AV)(V:St)(N:List AV->St->Prop):Prop:=xs.length<=Bc/\kE o λρ0=>∃I:Nat->List AV->St->Prop,I 0 [] V/\(∀i x ys DZ,xs[i]?=some x->I i ys DZ->He tt tg ρ0 x λAp=>C Ap DZ λb Av=>D2 b (B Ap Av λy By=>I (i+1) (ys++ [y]) By) (I (i+1) ys Av))/\
   ∀ys C4,ys.length<=xs.length->I xs.length ys C4->N ys C4
def R9(B R:Al->St->(Fl->Al->St->Prop)->Prop)(tt:Bool)(tg:List Nat)(xs:List AV)(W:Al)(V:St)(Q:Fl->Al->St->Prop):Prop:=∃I:Nat->Al->St->Prop,I 0 W V/\
   (∀i x FE DZ,xs[i]?=some x->I i FE DZ->He tt tg FE x λAp=>B Ap DZ (lp (I (i+1)) (λDe Av=>R De Av Q) Q))/\ ∀HV C4,I xs.length HV C4->R HV C4 Q
noncomputable def vc:PE->Al->St->(AV->St->Prop)->Prop
 | .v i,W,V,Q=>Ka (EG W i) λv=>Q v V
 | .gi i _ _,_,V,Q=>Q (.int i) V
 | .int i,_,V,Q=>Q (.int i) V
 | .str x,_,V,Q=>Q (.str (.ofString x)) V
 | .bool b,_,V,Q=>Q (.bool b) V
 | .no,_,V,Q=>Q .none V
 | .bin op x y,W,V,Q=>vc x W V λa Af=>vc y W Af λb Av=>jZ c n op a b Av Q
 | .neg x,W,V,Q=>vc x W V λa Af=>kB a λi=>Q (.int (-i)) Af
 | .O4 x,W,V,Q=>vc x W V λa Af=>MS c n a Af λb Av=>D2 b (Q (.bool false) Av) (Q (.bool true) Av)
 | .cmp op x y,W,V,Q=>vc x W V λa Af=>vc y W Af λb Av=>V3 c n op a b Av Q
 | .ite t x y,W,V,Q=>vc t W V λb Af=>D2 b (vc x W Af Q) (vc y W Af Q)
 | .G5 x y,W,V,Q=>vc x W V λa Af=>MS c n a Af λb Av=>D2 b (vc y W Av Q) (Q a Av)
 | .Ll x y z,W,V,Q=>vc x W V λa Af=>MS c n a Af λb Av=>D2 b (vc y W Av λa' By=>MS c n a' By λb' CE=>D2 b' (vc z W CE Q) (Q a' CE)) (Q a Av)
 | .call f _ _ as,W,V,Q=>vc as W V λv Af=>E2 v λxs=>An c n f xs Af Q
 | .BU o x id as,W,V,Q=>vc o W V λa Af=>E9 c Af a (.ofString x) (.builtin id)/\vc as W Af λv Av=>E2 v λxs=>An c n (.builtin id) (a::xs) Av Q
 | .Bg o x ms as,W,V,Q=>vc o W V λa Af=>R7 a ms Af λf=>vc as W Af λv Av=>E2 v λxs=>An c n (.ref f) (a::xs) Av Q
 | .attr o x k Cs,W,V,Q=>vc o W V λa Af=>R6 a k Cs Af Q
 | .sub o i,W,V,Q=>vc o W V λa Af=>vc i W Af λb Av=>AL c n a b Av Q
 | .slice mu o lo hi st,W,V,Q=>vc o W V λa Af=>vc lo W Af λl Av=>vc hi W Av λh By=>vc st W By λt CE=>V4 c mu a l h t CE Q
 | .lst mu as,W,V,Q=>vc as W V λv Af=>E2 v λxs=>Bz (Cf xs.length Bc) (E1 mu xs Af Q)
 | .tup as,W,V,Q=>vc as W V λv Af=>E2 v λxs=>Bz (Cf xs.length Bc) (Q (.tup xs) Af)
 | .dict mu,_,V,Q=>newD mu V Q
 | .comp mu tt tg Cg elt it Cj,W,V,Q=>vc it W V λv Af=>E2 v λxs=>MT (vc elt) (vc Cj) tt tg (O7 Cg W) xs Af λys C4=>E1 mu ys C4 Q
 | .AW op x y,W,V,Q=>vc x W V λa Af=>vc y W Af λb Av=>V3 c n op a b Av Q
 | .IW x,W,V,Q=>vc x W V λb Af=>D2 b (Q (.bool false) Af) (Q (.bool true) Af)
 | .FX x y,W,V,Q=>vc x W V λb Af=>D2 b (vc y W Af Q) (Q (.bool false) Af)
 | .J0 x y,W,V,Q=>vc x W V λb Af=>D2 b (Q (.bool true) Af) (vc y W Af Q)
 | .O5 x y z,W,V,Q=>vc x W V λb Af=>D2 b (Q (.bool true) Af) (vc y W Af λb' Av=>D2 b' (Q (.bool true) Av) (vc z W Av Q))
 | .E0 x,W,V,Q=>vc x W V λa Af=>MS c n a Af Q
 | .CK,_,V,Q=>Q (.bool true) V
 | .nil,_,V,Q=>Q (.tup []) V
 | .cons x r,W,V,Q=>vc x W V λa Af=>vc r W Af λv Av=>E2 v λxs=>Q (.tup (a::xs)) Av
 | .iV x,W,V,Q=>vc x W V λa Af=>Ael a λxs=>Q (.tup xs) Af
 | .FY _ _ x,W,V,Q=>vc x W V λa Af=>∃k:Nat,a= .int k/\k<=Bc/\Q (.tup ((BN k).map λi:Nat=>.int i)) Af
 | .IX _ _ x,W,V,Q=>vc x W V λa Af=>V5 a λxs=>Q (.tup (xs.zipIdx.map λp=>.tup [.int p.2,p.1])) Af
 | .MR _ _ x y,W,V,Q=>vc x W V λa Af=>vc y W Af λb Av=>V5 a λxs=>V5 b λys=>Q (.tup (xs.zipWith (λa b=>.tup [a,b]) ys)) Av
 | .BP,_,V,Q=>Q .none V
 | .pI x,W,V,Q=>vc x W V λa Af=>kB a λi=>Q (.int i) Af
 | .dead,_,_,_=>False
noncomputable def nx(k:Al->St->(Fl->Al->St->Prop)->Prop)(Q:Fl->Al->St->Prop):Fl->Al->St->Prop:=λfl W V=>match fl with
 | .next=>k W V Q
 | .brk=>Q .brk W V
 | .cont=>Q .cont W V
 | .ret a=>Q (.ret a) W V
noncomputable def vs:PS->Al->St->(Fl->Al->St->Prop)->Prop
 | .nil,W,V,Q=>Q .next W V
 | .asg i e r,W,V,Q=>vc c n e W V λa Af=>vs r (IY W i a) Af Q
 | .Hc i e r,W,V,Q=>vc c n e W V λa Af=>vs r (IY W i a) Af Q
 | .tup sw is e r,W,V,Q=>vc c n e W V λv Af=>E2 v λas=>Bz (Da as.length is.length) (vs r (Pb sw W is as) Af Q)
 | .Ej e o i r,W,V,Q=>vc c n e W V λv Af=>vc c n o W Af λov Av=>vc c n i W Av λiv By=>Dd c n ov iv v By λCE=>vs r W CE Q
 | .AQ e o x k Cs r,W,V,Q=>vc c n e W V λv Af=>vc c n o W Af λov Av=>kA ov k Cs v Av λBy=>vs r W By Q
 | .ex e r,W,V,Q=>vc c n e W V λa Af=>vnon a (vs r W Af Q)
 | .iff t a b r,W,V,Q=>vc c n t W V λv Af=>D2 v (vs a W Af (nx (vs r) Q)) (vs b W Af (nx (vs r) Q))
 | .wh t b r,W,V,Q=>∃(I:Nat->Al->St->Prop)(m:Nat),I m W V/\ ∀m W V,I m W V->vc c n t W V λv Af=>D2 v
   (vs b W Af (lp (λDe Av=>∃m',m'<m/\I m' De Av) (λDe Av=>vs r De Av Q) Q))
   (vs r W Af Q)
 | .for tt tg it b r,W,V,Q=>vc c n it W V λv Af=>E2 v λxs=>R9 (vs b) (vs r) tt tg xs W Af Q
 | .ret e,W,V,Q=>vc c n e W V λa Af=>Q (.ret a) W Af
 | .O6,W,V,Q=>Q (.ret .none) W V
 | .brk,W,V,Q=>Q .brk W V
 | .fail,_,_,_=>False
 | .Lm r,W,V,Q=>∃Ap τ,(∀a GC,τ a=some GC->∃ob,V a=some ob/\IM V τ ob GC)/\DH V τ W Ap/\vs r Ap τ Q
 | .DI is r,W,V,Q=>vs r (R4 W is) V Q
end
noncomputable def E3(e:Expr)(K:(Str)->(Pos)->Bool):Bool:=if h:e.ctorIdx=23 then NF (motive_1:=λZ=>Bool) e h (λx p=>K x p) else false
theorem GJ{K:(Str)->(Pos)->Bool}(h:E3 e K=true):∃x p,e= .Name x p/\K x p=true:=by
 unfold E3 at h;by_cases kk:e.ctorIdx=23
 ·obtain⟨x,p,rfl⟩:∃x p,e= .Name x p:=NF (motive_1:=λe=>∃x p,e= .Name x p) e kk λx p=>⟨x,p,rfl⟩;exact⟨x,p,rfl,h⟩
 ·replace h:=(dif_neg kk)▸h;exact AJ h
noncomputable def MU(e:Expr)(K:(GR)->Bool):Bool:=if h:e.ctorIdx=19 then AaR (motive_1:=λZ=>Bool) e h (λx Z Z=>K x) else false
theorem Sa{K:(GR)->Bool}(h:MU e K=true):∃x k p,e= .Constant x k p/\K x=true:=by
 unfold MU at h;by_cases kk:e.ctorIdx=19
 ·obtain⟨x,k,p,rfl⟩:∃x k p,e= .Constant x k p:=AaR (motive_1:=λe=>∃x k p,e= .Constant x k p) e kk λx k p=>⟨x,k,p,rfl⟩;exact⟨x,k,p,rfl,h⟩
 ·replace h:=(dif_neg kk)▸h;exact AJ h
noncomputable def V6(e:Expr)(K:(Expr)->(Kx)->(Expr)->Bool):Bool:=if h:e.ctorIdx=2 then AaS (motive_1:=λZ=>Bool) e h (λl o r Z=>K l o r) else false
theorem Aem{K:(Expr)->(Kx)->(Expr)->Bool}(h:V6 e K=true):∃l o r p,e= .BinOp l o r p/\K l o r=true:=by
 unfold V6 at h;by_cases kk:e.ctorIdx=2
 ·obtain⟨l,o,r,p,rfl⟩:∃l o r p,e= .BinOp l o r p:=AaS (motive_1:=λe=>∃l o r p,e= .BinOp l o r p) e kk λl o r p=>⟨l,o,r,p,rfl⟩;exact⟨l,o,r,p,rfl,h⟩
 ·replace h:=(dif_neg kk)▸h;exact AJ h
noncomputable def Pc(e:Expr)(K:(Jv)->(Expr)->Bool):Bool:=if h:e.ctorIdx=3 then AaT (motive_1:=λZ=>Bool) e h (λo x Z=>K o x) else false
theorem V7{K:(Jv)->(Expr)->Bool}(h:Pc e K=true):∃o x p,e= .UnaryOp o x p/\K o x=true:=by
 unfold Pc at h;by_cases kk:e.ctorIdx=3
 ·obtain⟨o,x,p,rfl⟩:∃o x p,e= .UnaryOp o x p:=AaT (motive_1:=λe=>∃o x p,e= .UnaryOp o x p) e kk λo x p=>⟨o,x,p,rfl⟩;exact⟨o,x,p,rfl,h⟩
 ·replace h:=(dif_neg kk)▸h;exact AJ h
noncomputable def Sb(e:Expr)(K:(Expr)->(List FL)->(List Expr)->Bool):Bool:=if h:e.ctorIdx=15 then AaU (motive_1:=λZ=>Bool) e h (λl os rs Z=>K l os rs) else false
theorem kF{K:(Expr)->(List FL)->(List Expr)->Bool}(h:Sb e K=true):∃l os rs p,e= .Compare l os rs p/\K l os rs=true:=by
 unfold Sb at h;by_cases kk:e.ctorIdx=15
 ·obtain⟨l,os,rs,p,rfl⟩:∃l os rs p,e= .Compare l os rs p:=AaU (motive_1:=λe=>∃l os rs p,e= .Compare l os rs p) e kk λl os rs p=>⟨l,os,rs,p,rfl⟩;exact⟨l,os,rs,p,rfl,h⟩
 ·replace h:=(dif_neg kk)▸h;exact AJ h
noncomputable def V8(e:Expr)(K:(Expr)->(Expr)->(Expr)->Bool):Bool:=if h:e.ctorIdx=5 then AaV (motive_1:=λZ=>Bool) e h (λt a b Z=>K t a b) else false
theorem Aen{K:(Expr)->(Expr)->(Expr)->Bool}(h:V8 e K=true):∃t a b p,e= .IfExp t a b p/\K t a b=true:=by
 unfold V8 at h;by_cases kk:e.ctorIdx=5
 ·obtain⟨t,a,b,p,rfl⟩:∃t a b p,e= .IfExp t a b p:=AaV (motive_1:=λe=>∃t a b p,e= .IfExp t a b p) e kk λt a b p=>⟨t,a,b,p,rfl⟩;exact⟨t,a,b,p,rfl,h⟩
 ·replace h:=(dif_neg kk)▸h;exact AJ h
noncomputable def Lo(e:Expr)(K:(Ii)->(List Expr)->Bool):Bool:=if h:e.ctorIdx=0 then AaW (motive_1:=λZ=>Bool) e h (λo xs Z=>K o xs) else false
theorem Pd{K:(Ii)->(List Expr)->Bool}(h:Lo e K=true):∃o xs p,e= .BoolOp o xs p/\K o xs=true:=by
 unfold Lo at h;by_cases kk:e.ctorIdx=0
 ·obtain⟨o,xs,p,rfl⟩:∃o xs p,e= .BoolOp o xs p:=AaW (motive_1:=λe=>∃o xs p,e= .BoolOp o xs p) e kk λo xs p=>⟨o,xs,p,rfl⟩;exact⟨o,xs,p,rfl,h⟩
 ·replace h:=(dif_neg kk)▸h;exact AJ h
noncomputable def Hf(e:Expr)(K:(Expr)->(List Expr)->(List Keyword)->(Pos)->Bool):Bool:=if h:e.ctorIdx=16 then Ut (motive_1:=λZ=>Bool) e h (λf es ks p=>K f es ks p) else false
theorem Kb{K:(Expr)->(List Expr)->(List Keyword)->(Pos)->Bool}(h:Hf e K=true):∃f es ks p,e= .Call f es ks p/\K f es ks p=true:=by
 unfold Hf at h;by_cases kk:e.ctorIdx=16
 ·obtain⟨f,es,ks,p,rfl⟩:∃f es ks p,e= .Call f es ks p:=Ut (motive_1:=λe=>∃f es ks p,e= .Call f es ks p) e kk λf es ks p=>⟨f,es,ks,p,rfl⟩;exact⟨f,es,ks,p,rfl,h⟩
 ·replace h:=(dif_neg kk)▸h;exact AJ h
noncomputable def Lp(e:Expr)(K:(Expr)->(Str)->(Pos)->Bool):Bool:=if h:e.ctorIdx=20 then Uu (motive_1:=λZ=>Bool) e h (λb x p=>K b x p) else false
theorem Pe{K:(Expr)->(Str)->(Pos)->Bool}(h:Lp e K=true):∃b x p,e= .Attribute b x p/\K b x p=true:=by
 unfold Lp at h;by_cases kk:e.ctorIdx=20
 ·obtain⟨b,x,p,rfl⟩:∃b x p,e= .Attribute b x p:=Uu (motive_1:=λe=>∃b x p,e= .Attribute b x p) e kk λb x p=>⟨b,x,p,rfl⟩;exact⟨b,x,p,rfl,h⟩
 ·replace h:=(dif_neg kk)▸h;exact AJ h
noncomputable def Pf(e:Expr)(K:(Expr)->(Expr)->Bool):Bool:=if h:e.ctorIdx=21 then Uv (motive_1:=λZ=>Bool) e h (λb i Z=>K b i) else false
theorem V9{K:(Expr)->(Expr)->Bool}(h:Pf e K=true):∃b i p,e= .Subscript b i p/\K b i=true:=by
 unfold Pf at h;by_cases kk:e.ctorIdx=21
 ·obtain⟨b,i,p,rfl⟩:∃b i p,e= .Subscript b i p:=Uv (motive_1:=λe=>∃b i p,e= .Subscript b i p) e kk λb i p=>⟨b,i,p,rfl⟩;exact⟨b,i,p,rfl,h⟩
 ·replace h:=(dif_neg kk)▸h;exact AJ h
noncomputable def Wa(e:Expr)(K:(Option Expr)->(Option Expr)->(Option Expr)->Bool):Bool:=if h:e.ctorIdx=26 then AaX (motive_1:=λZ=>Bool) e h (λl u t Z=>K l u t) else false
theorem Aeo{K:(Option Expr)->(Option Expr)->(Option Expr)->Bool}(h:Wa e K=true):∃l u t p,e= .Slice l u t p/\K l u t=true:=by
 unfold Wa at h;by_cases kk:e.ctorIdx=26
 ·obtain⟨l,u,t,p,rfl⟩:∃l u t p,e= .Slice l u t p:=AaX (motive_1:=λe=>∃l u t p,e= .Slice l u t p) e kk λl u t p=>⟨l,u,t,p,rfl⟩;exact⟨l,u,t,p,rfl,h⟩
 ·replace h:=(dif_neg kk)▸h;exact AJ h
noncomputable def Wb(e:Expr)(K:(List Expr)->Bool):Bool:=if h:e.ctorIdx=24 then AaY (motive_1:=λZ=>Bool) e h (λes Z=>K es) else false
theorem Aep{K:(List Expr)->Bool}(h:Wb e K=true):∃es p,e= .List es p/\K es=true:=by
 unfold Wb at h;by_cases kk:e.ctorIdx=24
 ·obtain⟨es,p,rfl⟩:∃es p,e= .List es p:=AaY (motive_1:=λe=>∃es p,e= .List es p) e kk λes p=>⟨es,p,rfl⟩;exact⟨es,p,rfl,h⟩
 ·replace h:=(dif_neg kk)▸h;exact AJ h
noncomputable def Kc(e:Expr)(K:(List Expr)->Bool):Bool:=if h:e.ctorIdx=25 then Yc (motive_1:=λZ=>Bool) e h (λes Z Z=>K es) else false
theorem Lq{K:(List Expr)->Bool}(h:Kc e K=true):∃es k p,e= .Tuple es k p/\K es=true:=by
 unfold Kc at h;by_cases kk:e.ctorIdx=25
 ·obtain⟨es,k,p,rfl⟩:∃es k p,e= .Tuple es k p:=Yc (motive_1:=λe=>∃es k p,e= .Tuple es k p) e kk λes k p=>⟨es,k,p,rfl⟩;exact⟨es,k,p,rfl,h⟩
 ·replace h:=(dif_neg kk)▸h;exact AJ h
noncomputable def Wc(e:Expr)(K:(List (Option Expr))->(List Expr)->Bool):Bool:=if h:e.ctorIdx=6 then AaZ (motive_1:=λZ=>Bool) e h (λks es Z=>K ks es) else false
theorem Aeq{K:(List (Option Expr))->(List Expr)->Bool}(h:Wc e K=true):∃ks es p,e= .Dict ks es p/\K ks es=true:=by
 unfold Wc at h;by_cases kk:e.ctorIdx=6
 ·obtain⟨ks,es,p,rfl⟩:∃ks es p,e= .Dict ks es p:=AaZ (motive_1:=λe=>∃ks es p,e= .Dict ks es p) e kk λks es p=>⟨ks,es,p,rfl⟩;exact⟨ks,es,p,rfl,h⟩
 ·replace h:=(dif_neg kk)▸h;exact AJ h
noncomputable def Sc(e:Expr)(K:(Expr)->(List Comprehension)->(BF)->(Pos)->Bool):Bool:=if h:e.ctorIdx=8 then YK (motive_1:=λZ=>Bool) e h (λe0 gs sc p=>K e0 gs sc p) else false
theorem kG{K:(Expr)->(List Comprehension)->(BF)->(Pos)->Bool}(h:Sc e K=true):∃e0 gs sc p,e= .ListComp e0 gs sc p/\K e0 gs sc p=true:=by
 unfold Sc at h;by_cases kk:e.ctorIdx=8
 ·obtain⟨e0,gs,sc,p,rfl⟩:∃e0 gs sc p,e= .ListComp e0 gs sc p:=YK (motive_1:=λe=>∃e0 gs sc p,e= .ListComp e0 gs sc p) e kk λe0 gs sc p=>⟨e0,gs,sc,p,rfl⟩;exact⟨e0,gs,sc,p,rfl,h⟩
 ·replace h:=(dif_neg kk)▸h;exact AJ h
noncomputable def Lr(e:Stmt)(K:(List Expr)->(Expr)->(Pos)->Bool):Bool:=if h:e.ctorIdx=5 then Aa0 (motive_2:=λZ=>Bool) e h (λts v p=>K ts v p) else false
theorem Ph{e:Stmt}{K:(List Expr)->(Expr)->(Pos)->Bool}(h:Lr e K=true):∃ts v p,e= .Assign ts v p/\K ts v p=true:=by
 unfold Lr at h;by_cases kk:e.ctorIdx=5
 ·obtain⟨ts,v,p,rfl⟩:∃ts v p,e= .Assign ts v p:=Aa0 (motive_2:=λe=>∃ts v p,e= .Assign ts v p) e kk λts v p=>⟨ts,v,p,rfl⟩;exact⟨ts,v,p,rfl,h⟩
 ·replace h:=(dif_neg kk)▸h;exact AJ h
noncomputable def Wd(e:Stmt)(K:(Expr)->(List Stmt)->(List Stmt)->Bool):Bool:=if h:e.ctorIdx=12 then Aa1 (motive_2:=λZ=>Bool) e h (λt a b Z=>K t a b) else false
theorem Aer{e:Stmt}{K:(Expr)->(List Stmt)->(List Stmt)->Bool}(h:Wd e K=true):∃t a b p,e= .If t a b p/\K t a b=true:=by
 unfold Wd at h;by_cases kk:e.ctorIdx=12
 ·obtain⟨t,a,b,p,rfl⟩:∃t a b p,e= .If t a b p:=Aa1 (motive_2:=λe=>∃t a b p,e= .If t a b p) e kk λt a b p=>⟨t,a,b,p,rfl⟩;exact⟨t,a,b,p,rfl,h⟩
 ·replace h:=(dif_neg kk)▸h;exact AJ h
noncomputable def We(e:Stmt)(K:(Expr)->(List Stmt)->(List Stmt)->Bool):Bool:=if h:e.ctorIdx=11 then Aa2 (motive_2:=λZ=>Bool) e h (λt a b Z=>K t a b) else false
theorem Aes{e:Stmt}{K:(Expr)->(List Stmt)->(List Stmt)->Bool}(h:We e K=true):∃t a b p,e= .While t a b p/\K t a b=true:=by
 unfold We at h;by_cases kk:e.ctorIdx=11
 ·obtain⟨t,a,b,p,rfl⟩:∃t a b p,e= .While t a b p:=Aa2 (motive_2:=λe=>∃t a b p,e= .While t a b p) e kk λt a b p=>⟨t,a,b,p,rfl⟩;exact⟨t,a,b,p,rfl,h⟩
 ·replace h:=(dif_neg kk)▸h;exact AJ h
noncomputable def Wf(e:Stmt)(K:(Expr)->(Expr)->(List Stmt)->(List Stmt)->Bool):Bool:=if h:e.ctorIdx=9 then Aa3 (motive_2:=λZ=>Bool) e h (λt i a b Z=>K t i a b) else false
theorem Aet{e:Stmt}{K:(Expr)->(Expr)->(List Stmt)->(List Stmt)->Bool}(h:Wf e K=true):∃t i a b p,e= .For t i a b p/\K t i a b=true:=by
 unfold Wf at h;by_cases kk:e.ctorIdx=9
 ·obtain⟨t,i,a,b,p,rfl⟩:∃t i a b p,e= .For t i a b p:=Aa3 (motive_2:=λe=>∃t i a b p,e= .For t i a b p) e kk λt i a b p=>⟨t,i,a,b,p,rfl⟩;exact⟨t,i,a,b,p,rfl,h⟩
 ·replace h:=(dif_neg kk)▸h;exact AJ h
noncomputable def Sd(e:Stmt)(K:(Expr)->Bool):Bool:=if h:e.ctorIdx=24 then Aa4 (motive_2:=λZ=>Bool) e h (λv Z=>K v) else false
theorem kI{e:Stmt}{K:(Expr)->Bool}(h:Sd e K=true):∃v p,e= .Expr v p/\K v=true:=by
 unfold Sd at h;by_cases kk:e.ctorIdx=24
 ·obtain⟨v,p,rfl⟩:∃v p,e= .Expr v p:=Aa4 (motive_2:=λe=>∃v p,e= .Expr v p) e kk λv p=>⟨v,p,rfl⟩;exact⟨v,p,rfl,h⟩
 ·replace h:=(dif_neg kk)▸h;exact AJ h
noncomputable def Se(e:Stmt)(K:(Option Expr)->Bool):Bool:=if h:e.ctorIdx=3 then Aa5 (motive_2:=λZ=>Bool) e h (λv Z=>K v) else false
theorem kJ{e:Stmt}{K:(Option Expr)->Bool}(h:Se e K=true):∃v p,e= .Return v p/\K v=true:=by
 unfold Se at h;by_cases kk:e.ctorIdx=3
 ·obtain⟨v,p,rfl⟩:∃v p,e= .Return v p:=Aa5 (motive_2:=λe=>∃v p,e= .Return v p) e kk λv p=>⟨v,p,rfl⟩;exact⟨v,p,rfl,h⟩
 ·replace h:=(dif_neg kk)▸h;exact AJ h
noncomputable def Wg(e:Stmt)(K:(Pos)->Bool):Bool:=if h:e.ctorIdx=26 then Aa6 (motive_2:=λZ=>Bool) e h (λp=>K p) else false
theorem Aeu{e:Stmt}{K:(Pos)->Bool}(h:Wg e K=true):∃p,e= .Break p/\K p=true:=by
 unfold Wg at h;by_cases kk:e.ctorIdx=26
 ·obtain⟨p,rfl⟩:∃p,e= .Break p:=Aa6 (motive_2:=λe=>∃p,e= .Break p) e kk λp=>⟨p,rfl⟩;exact⟨p,rfl,h⟩
 ·replace h:=(dif_neg kk)▸h;exact AJ h
noncomputable def one{α:Type}(l:List α)(K:α->Bool):Bool:=match l with
 | []=>false
 | x::r=>r.isEmpty&&K x
theorem Bv{α:Type}{l:List α}{K:α->Bool}(h:one l K=true):∃x,l= [x]/\K x=true:=by
 cases l with
 | nil=>exact AJ h
 | cons x r=>cases r with
  | nil=>exact⟨x,rfl,h⟩
  | cons y r=>exact AJ h
noncomputable def fst{α:Type}(l:List α)(K:α->List α->Bool):Bool:=match l with
 | []=>false
 | x::r=>K x r
theorem fst_eq{α:Type}{l:List α}{K:α->List α->Bool}(h:fst l K=true):∃x r,l=x::r/\K x r=true:=by
 cases l with
 | nil=>exact AJ h
 | cons x r=>exact⟨x,r,rfl,h⟩
noncomputable def Hg{α:Type}(l:Option α)(K:α->Bool):Bool:=match l with
 | none=>false
 | some x=>K x
theorem FZ{α:Type}{l:Option α}{K:α->Bool}(h:Hg l K=true):∃x,l=some x/\K x=true:=by
 cases l with
 | none=>exact AJ h
 | some x=>exact⟨x,rfl,h⟩
noncomputable def PE.kd(p:PE):Nat:=PE.casesOn (motive:=λZ=>Nat) p (λZ=>0) (λZ Z Z=>0) (λZ=>0) (λZ=>0) (λZ=>0) 0 (λZ Z Z=>0) (λZ=>0) (λZ=>0) (λZ Z Z=>0) (λZ Z Z=>0) (λZ Z=>0) (λZ Z Z=>0)
 (λZ Z Z Z=>0) (λZ Z Z Z=>0) (λZ Z Z Z=>0) (λZ Z Z Z=>0) (λZ Z=>0) (λZ Z Z Z Z=>0) (λZ Z=>0) (λZ=>0) (λZ=>0) (λZ Z Z Z Z Z Z=>0)
 (λZ Z Z=>1) (λZ=>1) (λZ Z=>1) (λZ Z=>1) (λZ Z Z=>1) (λZ=>1) 6 2 (λZ Z=>2) (λZ=>3) (λZ Z Z=>3) (λZ Z Z=>4) (λZ Z Z Z=>4) 5 (λZ=>5) 0
noncomputable abbrev Ns:=List (Str×Bi)
noncomputable def isVar(k:Bi):Bool:=k== .local || k== .cell
noncomputable def Ls(ns:Ns)(i:Nat)(x:Str):Bool:=Hg ns[i]? λy=>y.1==x&&isVar y.2
noncomputable def kK(ns:Ns)(j:Nat)(x:Str):Bool:=Hg ns[j]? λy=>y.1==x&&y.2== .globalImplicit
noncomputable def Pi(ns:Ns)(f:Ac)(j k:Nat)(x:Str):Bool:=kK ns j x&&Hg gV[k]? λy=>x== .ofString y.1&&y.2==f
noncomputable def kL(ns:Ns)(i:Int)(j k:Nat)(x:Str):Bool:=kK ns j x&&Hg gI[k]? λy=>x== .ofString y.1&&y.2==i
noncomputable def kM(x:Str):Bool:= !(x==("__debug__":Str))
noncomputable def noStar(es:List Expr):Bool:=es.all λe=>!Gk e
noncomputable def Wh(e:Expr):Bool:= !(Hf e λZ es ks Z=>es.isEmpty&&ks.isEmpty)
noncomputable def plainT(e:Expr):Bool:=e.ctorIdx==23 || e.ctorIdx==16 || e.ctorIdx==20 || e.ctorIdx==21
noncomputable def atC(x:String)(k:Nat)(C:Nat):Bool:=Hg (RX.lookup C) λfs=>fs[k]?==some x
noncomputable def Hh(sc:BF):Ns:=sc.names.map MC
noncomputable def Sf(sc:BF):Bool:=sc.kind== .function&& !sc.isGenerator&& !sc.isCoroutine&&decide (sc.names.map (·.1)).Nodup
noncomputable def Sg(ns:Ns):Ns->List (Option Nat)->Bool
 | [],q=>q.isEmpty
 | x::r,q=>fst q λo q=>(match o with
  | none=>x.2== .local || x.2== .globalImplicit
  | some i=>x.2== .free&&Hg ns[i]? λy=>y.1==x.1&&y.2== .cell)&&Sg ns r q
noncomputable def D3(ns:Ns):List Nat->List Str->Bool
 | [],xs=>xs.isEmpty
 | i::is,xs=>fst xs λx xs=>Ls ns i x&&D3 ns is xs
noncomputable def MV(ns:Ns)(tt:Bool)(tg:List Nat)(e:Expr):Bool:=match tt with
 | true=>Kc e λes=>Hg (EN es) λys=>D3 ns tg ys
 | false=>E3 e λy Z=>D3 ns tg [y]
noncomputable def Wi(ns:Ns)(tg:List Nat):Bool:=tg.all λi=>Hg ns[i]? λy=>y.2== .local
noncomputable def k2(x y:PE)(i j:Nat):Bool:=Da x.kd i&&Da y.kd j
noncomputable def k1(x:PE)(i:Nat):Bool:=Da x.kd i
noncomputable def kN(elt it Cj:PE)(tt:Bool):Bool:=k1 elt 0&&(k1 it 3 || (k1 it 4&&tt))&&(k1 Cj 1 || k1 Cj 6)
noncomputable def kO(ns:Ns)(sc:BF)(tt:Bool)(Cg:List (Option Nat))(tg:List Nat)(t i:Expr):Bool:= !(i.ctorIdx==7)&&Sf sc&&Sg ns sc.names Cg&&MV (Hh sc) tt tg t&&Wi (Hh sc) tg
noncomputable def AX:PE->Ns->List Expr->Bool
 | .v i,ns,es=>one es λe=>E3 e λx Z=>Ls ns i x&&kM x
 | .gi i j k,ns,es=>one es λe=>E3 e λx Z=>kL ns i j k x
 | .int i,ns,es=>one es λe=>MU e λk=>k== .int i
 | .str x,ns,es=>one es λe=>MU e λk=>k== .str (.ofString x)
 | .bool b,ns,es=>one es λe=>MU e λk=>k== .bool b
 | .no,ns,es=>one es λe=>MU e λk=>k== .none
 | .bin op x y,ns,es=>one es λe=>V6 e λl o r=>o==op&&k2 x y 0 0&&AX x ns [l]&&AX y ns [r]
 | .neg x,ns,es=>one es λe=>Pc e λo l=>o== .USub&&k1 x 0&&AX x ns [l]
 | .O4 x,ns,es=>one es λe=>Pc e λo l=>o== .Not&&k1 x 0&&AX x ns [l]
 | .cmp op x y,ns,es=>one es λe=>Sb e λl os rs=>one os λo=>one rs λr=>o==op&&k2 x y 0 0&& !Tw o r&&AX x ns [l]&&AX y ns [r]
 | .ite t x y,ns,es=>one es λe=>V8 e λq a b=>k1 t 1&&k2 x y 0 0&&AX t ns [q]&&AX x ns [a]&&AX y ns [b]
 | .G5 x y,ns,es=>one es λe=>Lo e λo xs=>o== .And&&fst xs λa xs=>one xs λb=>k2 x y 0 0&&AX x ns [a]&&AX y ns [b]
 | .Ll x y z,ns,es=>one es λe=>Lo e λo xs=>o== .And&&fst xs λa xs=>fst xs λb xs=>one xs λd=>k2 x y 0 0&&k1 z 0&&AX x ns [a]&&AX y ns [b]&&AX z ns [d]
 | .call f j k as,ns,es=>one es λe=>Hf e λg xs ks Z=>ks.isEmpty&&E3 g λx Z=>Pi ns f j k x&&k1 as 2&&noStar xs&&AX as ns xs
 | .BU o x id as,ns,es=>one es λe=>Hf e λg xs ks p=>ks.isEmpty&&Lp g λb y ap=>y== .ofString x&&k2 o as 0 2&&noStar xs&&decide (xs.length<30)&&ap.endLine==p.line&&Wh b&&AX o ns [b]&&AX as ns xs
 | .Bg o x ms as,ns,es=>one es λe=>Hf e λg xs ks p=>ks.isEmpty&&Lp g λb y ap=>y== .ofString x&&k2 o as 0 2&&noStar xs&&decide (xs.length<30)&&ap.endLine==p.line&&Wh b&&ms.all (λm=>O3.contains (m.1,x,m.2))&&AX o ns [b]&&AX as ns xs
 | .attr o x k Cs,ns,es=>one es λe=>Lp e λb y ap=>y== .ofString x&&k1 o 0&& !(b.ctorIdx==16)&&Cs.all (atC x k)&&AX o ns [b]
 | .sub o i,ns,es=>one es λe=>Pf e λa b=>k2 o i 0 0&&AX o ns [a]&&AX i ns [b]
 | .slice mu o lo hi st,ns,es=>one es λe=>Pf e λa b=>Wa b λl h t=>k2 o lo 0 5&&k2 hi st 5 5&&AX o ns [a]&&AX lo ns l.toList&&AX hi ns h.toList&&AX st ns t.toList
 | .lst mu as,ns,es=>one es λe=>Wb e λxs=>k1 as 2&&AX as ns xs
 | .tup as,ns,es=>one es λe=>Kc e λxs=>k1 as 2&&AX as ns xs
 | .dict _,ns,es=>one es λe=>Wc e λks vs=>ks.isEmpty&&vs.isEmpty
 | .comp mu tt tg Cg elt it Cj,ns,es=>one es λe=>Sc e λe gs sc Z=>one gs λg=>(g.is_async==0&&(kN elt it Cj tt&&kO ns sc tt Cg tg g.target g.iter))&&(AX it ns [g.iter]&&AX Cj (Hh sc) g.ifs&&AX elt (Hh sc) [e])
 | .AW op x y,ns,es=>one es λe=>Sb e λl os rs=>one os λo=>one rs λr=>o==op&&k2 x y 0 0&& !Tw o r&&AX x ns [l]&&AX y ns [r]
 | .IW x,ns,es=>one es λe=>Pc e λo l=>o== .Not&&k1 x 1&&AX x ns [l]
 | .FX x y,ns,es=>one es λe=>Lo e λo xs=>o== .And&&fst xs λa xs=>one xs λb=>k2 x y 1 1&&AX x ns [a]&&AX y ns [b]
 | .J0 x y,ns,es=>one es λe=>Lo e λo xs=>o== .Or&&fst xs λa xs=>one xs λb=>k2 x y 1 1&&AX x ns [a]&&AX y ns [b]
 | .O5 x y z,ns,es=>one es λe=>Lo e λo xs=>o== .Or&&fst xs λa xs=>fst xs λb xs=>one xs λd=>k2 x y 1 1&&k1 z 1&&AX x ns [a]&&AX y ns [b]&&AX z ns [d]
 | .E0 x,ns,es=>one es λe=>k1 x 0&&plainT e&&AX x ns [e]
 | .CK,ns,es=>es.isEmpty
 | .nil,ns,es=>es.isEmpty
 | .cons x r,ns,es=>fst es λe es=>k2 x r 0 2&& !Gk e&&AX x ns [e]&&AX r ns es
 | .iV x,ns,es=>one es λe=>k1 x 0&&AX x ns [e]
 | .FY j k x,ns,es=>one es λe=>Hf e λg xs ks Z=>ks.isEmpty&&E3 g λy Z=>one xs λa=>Pi ns (.type "range") j k y&&k1 x 0&& !Gk a&&AX x ns [a]
 | .IX j k x,ns,es=>one es λe=>Hf e λg xs ks Z=>ks.isEmpty&&E3 g λy Z=>one xs λa=>Pi ns (.type "enumerate") j k y&&k1 x 0&& !Gk a&&AX x ns [a]
 | .MR j k x y,ns,es=>one es λe=>Hf e λg xs ks Z=>ks.isEmpty&&E3 g λz Z=>fst xs λa xs=>one xs λb=>Pi ns (.type "zip") j k z&&k2 x y 0 0&& !Gk a&& !Gk b&&AX x ns [a]&&AX y ns [b]
 | .BP,ns,es=>es.isEmpty
 | .pI x,ns,es=>one es λe=>k1 x 0&&AX x ns [e]
 | .dead,ns,es=>one es λZ=>true
noncomputable def MW(e:Expr):Bool:=e.ctorIdx==8 || e.ctorIdx==9 || e.ctorIdx==10
noncomputable def Pj(ns:Ns)(t:Str)(pt:Pos)(e:Expr):Bool:=Sc e λZ Z sc p=>ns.lookup t==some .local&&pt.line==p.line&& !(sc.names.any λx=>x.1==t&&(x.2== .local || x.2== .cell))
noncomputable def kP(ts:List Expr):Nat:=(ts.head?.map (·.pos.line)).getD 0
noncomputable def Sh(ns:Ns)(ts:List Expr):List Str:=ts.filterMap λe=>if E3 e (λid pos=>ns.lookup id==some .local&&pos.line==kP ts) then(EN [e]).bind YL else none
noncomputable def isStar(e:Expr):Bool:=e.ctorIdx==22
noncomputable def kQ(ns:Ns)(ts:List Expr)(xs:List Str)(e:Expr):Bool:=Kc e λvs=>(ts.length==2 || ts.length==3)&&vs.length==ts.length&& !vs.any isStar&&Sh ns ts==xs&&xs.eraseDups.length==xs.length&&xs.length==ts.length&& !vs.all (YM 8)&& !vs.all (YN 8)
noncomputable def Wj(ns:Ns)(ts:List Expr)(e:Expr):Bool:= !(e.ctorIdx==25) || Kc e λvs=>!(ts.length==2 || ts.length==3) || vs.length !=ts.length || vs.any isStar || (Sh ns ts).length !=ts.length
noncomputable def Wl(x:PE):Bool:=if h:x.ctorIdx=(PE.comp true true [] [] .no .no .no).ctorIdx then PE.comp.elim (motive:=λZ=>Bool) x h (λmu Z Z Z Z Z Z=>!mu) else false
theorem Aev{x:PE}(h:Wl x=true):∃tt tg Cg elt it Cj,x= .comp false tt tg Cg elt it Cj:=by
 unfold Wl at h;by_cases k:x.ctorIdx=(PE.comp true true [] [] .no .no .no).ctorIdx
 ·obtain⟨mu,tt,tg,Cg,elt,it,Cj,rfl⟩:∃mu tt tg Cg elt it Cj,x= .comp mu tt tg Cg elt it Cj:=PE.comp.elim (motive:=λx=>∃mu tt tg Cg elt it Cj,x= .comp mu tt tg Cg elt it Cj) x k λmu tt tg Cg elt it Cj=>⟨mu,tt,tg,Cg,elt,it,Cj,rfl⟩;cases mu with
  | true=>exact AJ h
  | false=>exact⟨tt,tg,Cg,elt,it,Cj,rfl⟩
 ·replace h:=(dif_neg k)▸h;exact AJ h
noncomputable def Do:PS->Ns->List Stmt->Bool
 | .nil,ns,ss=>ss.isEmpty
 | .asg i e r,ns,ss=>fst ss λs rest=>Lr s λts v p=>one ts λt=>E3 t λx px=>Ls ns i x&& !(v.ctorIdx==9)&& !(v.ctorIdx==10)&& !Pj ns x px v&&k1 e 0&&AX e ns [v]&&Do r ns rest
 | .Hc i e r,ns,ss=>fst ss λs rest=>Lr s λts v p=>one ts λt=>E3 t λx px=>Ls ns i x&&ns.lookup x==some .local&&Pj ns x px v&&Wl e&&AX e ns [v]&&Do r ns rest
 | .tup sw is e r,ns,ss=>fst ss λs rest=>Lr s λts v p=>one ts λt=>Kc t λes=>Hg (EN es) λxs=>D3 ns is xs&&k1 e 0&& !MW v&&(match sw with
   | true=>kQ ns es xs v
   | false=>Wj ns es v)&&AX e ns [v]&&Do r ns rest
 | .Ej e o i r,ns,ss=>fst ss λs rest=>Lr s λts v p=>one ts λt=>Pf t λa b=>k1 e 0&&k2 o i 0 0&&true&&AX e ns [v]&&AX o ns [a]&&AX i ns [b]&&Do r ns rest
 | .AQ e o x k Cs r,ns,ss=>fst ss λs rest=>Lr s λts v p=>one ts λt=>Lp t λa y Z=>y== .ofString x&&k2 e o 0 0&&true&&Cs.all (atC x k)&&AX e ns [v]&&AX o ns [a]&&Do r ns rest
 | .ex e r,ns,ss=>fst ss λs rest=>Sd s λv=>k1 e 0&& !MW v&&AX e ns [v]&&Do r ns rest
 | .iff t a b r,ns,ss=>fst ss λs rest=>Wd s λe x y=>k1 t 1&&AX t ns [e]&&Do a ns x&&Do b ns y&&Do r ns rest
 | .wh t b r,ns,ss=>fst ss λs rest=>We s λe x y=>y.isEmpty&&k1 t 1&&AX t ns [e]&&Do b ns x&&Do r ns rest
 | .for tt tg it b r,ns,ss=>fst ss λs rest=>Wf s λe i x y=>y.isEmpty&&(k1 it 3 || (k1 it 4&&tt))&& !(i.ctorIdx==7)&&MV ns tt tg e&&AX it ns [i]&&Do b ns x&&Do r ns rest
 | .ret e,ns,ss=>fst ss λs Z=>Se s λo=>Hg o λv=>k1 e 0&&AX e ns [v]
 | .O6,ns,ss=>fst ss λs Z=>Se s λo=>o.isNone
 | .brk,ns,ss=>fst ss λs Z=>Wg s λZ=>true
 | .fail,ns,ss=>true
 | .Lm r,ns,ss=>Do r ns ss
 | .DI _ r,ns,ss=>Do r ns ss
noncomputable abbrev BL(names:List (Str×Bi))(mo:List (Str×GR)):Scope:={kind:= .function,names:=names,isGenerator:=false,isCoroutine:=false,more:=mo}
theorem AO{a b:Bool}(h:(a&&b)=true):a=true/\b=true:=Bu h
theorem GK{a b c:Bool}{G:Prop}(h:(a&&b&&c)=true)(k:a=true->b=true->c=true->G):G:=k (AO (AO h).1).1 (AO (AO h).1).2 (AO h).2
theorem Kd{a b c d:Bool}{G:Prop}(h:(a&&b&&c&&d)=true)(k:a=true->b=true->c=true->d=true->G):G:=GK (AO h).1 λx0 x1 x2=>k x0 x1 x2 (AO h).2
theorem H3{a b c d e:Bool}{G:Prop}(h:(a&&b&&c&&d&&e)=true)(k:a=true->b=true->c=true->d=true->e=true->G):G:=Kd (AO h).1 λx0 x1 x2 x3=>k x0 x1 x2 x3 (AO h).2
theorem MX{a b c d e f:Bool}{G:Prop}(h:(a&&b&&c&&d&&e&&f)=true)(k:a=true->b=true->c=true->d=true->e=true->f=true->G):G:=H3 (AO h).1 λx0 x1 x2 x3 x4=>k x0 x1 x2 x3 x4 (AO h).2
theorem Pl{a b c d e f g:Bool}{G:Prop}(h:(a&&b&&c&&d&&e&&f&&g)=true)(k:a=true->b=true->c=true->d=true->e=true->f=true->g=true->G):G:=MX (AO h).1 λx0 x1 x2 x3 x4 x5=>k x0 x1 x2 x3 x4 x5 (AO h).2
theorem Si{a b c d e f g i:Bool}{G:Prop}(h:(a&&b&&c&&d&&e&&f&&g&&i)=true)(k:a=true->b=true->c=true->d=true->e=true->f=true->g=true->i=true->G):G:=Pl (AO h).1 λx0 x1 x2 x3 x4 x5 x6=>k x0 x1 x2 x3 x4 x5 x6 (AO h).2
theorem Aew{a b c d e f g i j:Bool}{G:Prop}(h:(a&&b&&c&&d&&e&&f&&g&&i&&j)=true)(k:a=true->b=true->c=true->d=true->e=true->f=true->g=true->i=true->j=true->G):G:=Si (AO h).1 λx0 x1 x2 x3 x4 x5 x6 x7=>k x0 x1 x2 x3 x4 x5 x6 x7 (AO h).2
theorem Aex{v:AV}:IY W i v=W.set i (some v):=by
 induction W generalizing i with
 | nil=>rfl
 | cons o r ih=>cases i with
  | zero=>rfl
  | succ i=>exact congrArg (o:: ·) ih
theorem Aey{vs:List AV}:V1 vs i=vs[i]?:=by
 induction vs generalizing i with
 | nil=>rfl
 | cons o r ih=>cases i with
  | zero=>rfl
  | succ i=>exact ih
theorem Pm{ns:Ns}(h:Ls ns i x=true):∃k,ns[i]?=some (x,k)/\(k= .local\/k= .cell):=by refine Ad (FZ h) ?_;clear h;intro hZ;obtain⟨y,k⟩:=hZ;intro e h;refine Ah (AO h) ?_;clear h;intro h1 h2;have hZ:=eq_of_beq h1;clear h1;subst hZ;exact⟨k,e,by simpa[isVar] using h2⟩
theorem Ld.of{v:AV}{k:Bi}{ns:Ns}(h:ns[i]?=some (x,k))(hk:k= .local\/k= .cell)(h2:EG W i=some v):Ld ns W x v:=by
 induction ns generalizing W i with
 | nil=>exact AA h
 | cons y ns ih=>cases W with
  | nil=>exact AA h2
  | cons o W=>cases i with
   | zero=>replace h:=Ay h;subst h;subst h2;rcases hk with rfl|rfl;exact .loc;exact .G1
   | succ i=>exact .skip (ih (i:=i) h h2)
theorem DV.of{v:AV}{k:Bi}{ns:Ns}(h:ns[i]?=some (x,k))(hk:k= .local\/k= .cell)(h2:W.length=ns.length):DV ns W x v (IY W i v):=by
 induction ns generalizing W i with
 | nil=>exact AA h
 | cons y ns ih=>cases W with
  | nil=>exfalso;injection h2
  | cons o W=>cases i with
   | zero=>replace h:=Ay h;subst h;rcases hk with rfl|rfl;exact .loc;exact .G1
   | succ i=>exact .skip (ih (i:=i) h (QQ h2))
theorem kR{v:AV}:(IY W i v).length=W.length:=Aa Aex<|Aa Uw rfl
theorem ER.of:∀{ns:Ns}{j:Nat},ns[j]?=some (x,.globalImplicit)->ER ns x
 | [],_,h=>by exact AA h
 | _::_,0,h=>by replace h:=Ay h;subst h;exact .here
 | _::_,j+1,h=>.skip (ER.of (ns:=_) (j:=j) h)
theorem G8.of{v:AV}{ns:Ns}(h:ns[i]?=some (x,.cell))(h2:EG W i=some v):G8 ns W x v:=by
 induction ns generalizing W i with
 | nil=>exact AA h
 | cons y ns ih=>cases W with
  | nil=>exact AA h2
  | cons o W=>cases i with
   | zero=>replace h:=Ay h;subst h;subst h2;exact .here
   | succ i=>exact .skip (ih (i:=i) h h2)
theorem Aez{o:Option Al}{K:Al->Prop}(h:kE o K):∃W,o=some W/\K W:=by
 cases o with
 | none=>exact h.elim
 | some W=>exact⟨W,rfl,h⟩
theorem AeA{o:Option AV}{K:AV->Prop}(h:Ka o K):∃v,o=some v/\K v:=by
 cases o with
 | none=>exact h.elim
 | some W=>exact⟨W,rfl,h⟩
theorem Fg.of{ns:Ns}{names:Ns}:∀{Cg:List (Option Nat)}{ρ0:Al},Sg ns names Cg=true->O7 Cg W=some ρ0->Fg ns W names ρ0:=by
 induction names with
 | nil=>
  intro Cg ρ0 h h2;cases Cg with
  | nil=>replace h2:=Ay h2;subst h2;exact .nil
  | cons _ _=>exact AJ h
 | cons xk r ih=>
  intro Cg ρ0 h h2;obtain⟨x,k⟩:=xk;refine Br (fst_eq h) ?_;clear h;rintro o q rfl h;refine Ah (AO h) ?_;clear h;intro h hr;cases o with
  | none=>
   refine Ad (D8.mp h2) ?_;clear h2;intro Gw hq e;subst e;rcases(Jz _ _).mp h with h|h
   ·have hZ:=eq_of_beq h;clear h;subst hZ;exact .loc (ih hr hq)
   ·have hZ:=eq_of_beq h;clear h;subst hZ;exact .Rj (ih hr hq)
  | some i=>
   refine Ah (AO h) ?_;clear h;intro h h3;refine Ad (FZ h3) ?_;clear h3;intro hZ;obtain⟨y,k'⟩:=hZ;intro e h3;refine Ah (AO h3) ?_;clear h3;intro h4 h5;have hZ:=eq_of_beq h;clear h;subst hZ;have hZ:=eq_of_beq h4;clear h4;subst hZ;have hZ:=eq_of_beq h5;clear h5;subst hZ;refine Ad (Aaf.mp h2) ?_;clear h2;intro v hv h2;refine Ad (D8.mp h2) ?_;clear h2;intro Gw hq e2;subst e2;exact .free (G8.of e hv) (ih hr hq)
theorem Cn.of{ns:Ns}{is:List Nat}{xs:List Str}{as:List AV}(h:D3 ns is xs=true)(hl:W.length=ns.length)(ha:as.length=is.length):Cn ns W xs as (put W is as):=by
 induction is generalizing xs as W with
 | nil=>cases xs with
  | cons _ _=>exact AJ h
  | nil=>cases as with
   | nil=>exact .nil
   | cons _ _=>exfalso;injection ha
 | cons i is ih=>
  refine Br (fst_eq h) ?_;clear h;rintro x xs rfl h;refine Ah (AO h) ?_;clear h;intro h1 h2;refine Ad (Pm h1) ?_;clear h1;intro k e hk;cases as with
  | nil=>exfalso;injection ha
  | cons a as=>exact .cons (DV.of e hk hl) (ih h2 (by exact Aa kR<|hl) (QQ ha))
theorem Wm{ns:Ns}:∀{is:List Nat}{xs:List Str},D3 ns is xs=true->is.length=xs.length
 | [],[],_=>rfl
 | [],_::_,h=>by exact AJ h
 | _::_,[],h=>by exact AJ h
 | i::is,x::xs,h=>congrArg (· +1) (Wm (AO h).2)
theorem kS{ns:Ns}{js:List Nat}{ys:List Str}(h2:D3 ns js ys=true):∀{is:List Nat}{xs:List Str},D3 ns is xs=true->D3 ns (is++js) (xs++ys)=true
 | [],[],_=>h2
 | [],_::_,h=>by exact AJ h
 | _::_,[],h=>by exact AJ h
 | i::is,x::xs,h=>by
  refine Ah (AO h) ?_;clear h;intro a b;show(Ls ns i x&&D3 ns (is++js) (xs++ys))=true;exact Aa a<|Aa (kS h2 b) rfl
theorem kU{ns:Ns}:∀{is:List Nat}{xs:List Str},D3 ns is xs=true->D3 ns is.reverse xs.reverse=true
 | [],[],_=>rfl
 | [],_::_,h=>by exact AJ h
 | _::_,[],h=>by exact AJ h
 | i::is,x::xs,h=>by
  refine Ah (AO h) ?_;clear h;intro a b;refine Aa Qi<|Aa Qi ?_;exact kS (by show(Ls ns i x&&true)=true;exact Aa a rfl) (kU b)
theorem FA.of{es:List Expr}(h:noStar es=true):FA es:=by
 induction es with
 | nil=>exact .nil
 | cons e r ih=>
  refine Ah (AO h) ?_;clear h;intro a b;exact .cons (by simpa using a) (ih b)
theorem AeB{es:List Expr}{env:Env}{pos:Pos}(h:FA es):(DA pos (Dj es env)).all (!·.1)=true:=by have:=Ot (env:=env) (pos:=pos) h;rewrite[List.any_eq_false] at this;rewrite[EP];intro x hx;simpa using this x hx
theorem mem_lookup{α:Type}{l:List (Nat×α)}{k:Nat}{v:α}(h:l.lookup k=some v):(k,v)∈l:=by
 induction l with
 | nil=>exact AA h
 | cons p r ih=>
  obtain⟨a,b⟩:=p;rewrite[Ju] at h;cases hk:k==a with
  | true=>replace h:=hk▸h;replace h:=Ay h;subst h;have hZ:=eq_of_beq hk;clear hk;subst hZ;exact .head _
  | false=>replace h:=hk▸h;exact .tail _ (ih h)
theorem AeC{x:String}{k C:Nat}(h:atC x k C=true):∃fs,(C,fs)∈RX/\fs[k]?=some x/\EF C=fs.map .ofString:=by refine Ad (FZ h) ?_;clear h;intro fs e h;exact⟨fs,mem_lookup e,eq_of_beq h,by unfold EF;exact Aa e rfl⟩
set_option genSizeOf true
set_option genInjectivity true
structure AeD(c:Cx)(C:Nat)(x:Str):Prop where
 st:L3 c.K C=true
 at_:QE c.K C x=true
 tk:NL c.K C x=some none
 nd:HM (EF C)
theorem kW(O:AE c){x:String}{k C:Nat}(h:atC x k C=true):AeD c C (.ofString x)/\(EF C)[k]?=some (.ofString x):=by refine Ch (AeC h) ?_;clear h;intro fs hm hk e;have a:=EP.mp (Aei c.w.params) _ hm;replace a:=Eq.symm O.K▸a;refine Ah (AO a) ?_;clear a;intro a a4;refine Ah (AO a) ?_;clear a;intro a a3;refine Ah (AO a) ?_;clear a;intro a1 a2;refine Ah (AO (EP.mp a4 _ (A8 hk))) ?_;intro a5 a6;exact⟨⟨a1,a5,eq_of_beq a6,⟨of_decide_eq_true a3,of_decide_eq_true a2⟩⟩,Aa e<|Aa Bp<|Aa hk rfl⟩
theorem AeE(O:AE c){x:String}{C f:Nat}(h:O3.contains (C,x,f)=true):Rm c.K C (.ofString x) f=true/\(HD x)∉EF C/\EC c (.ref f):=by
 have hm:(C,x,f)∈O3:=by simpa using h
 have a:=EP.mp (Aej c.w.params) _ hm;replace a:=Eq.symm O.K▸a;refine Ah (AO a) ?_;clear a;intro a a3;refine Ah (AO a) ?_;clear a;intro a1 a2;exact⟨a1,by simpa using a2,.of a3⟩
theorem Bz.mk{b:Bool}{P:Prop}(h:b=true)(p:P):Bz b P:=by subst h;exact p
theorem Bz.ok{b:Bool}{P:Prop}(h:Bz b P):b=true/\P:=by
 cases b with
 | true=>exact⟨rfl,h⟩
 | false=>exact h.elim
theorem Bz.le{P:Prop}(h:Bz (Cf a b) P):a<=b/\P:=⟨Ds h.ok.1,h.ok.2⟩
theorem Bz.eq{P:Prop}(h:Bz (Da a b) P):a=b/\P:=⟨JH h.ok.1,h.ok.2⟩
theorem AeF{a:AV}(h:R5 a=true):∀u,a≠ .raw u:=λu e=>by replace h:=e▸h;exact AJ h
theorem Wn{C:Nat}:∀{Cs:List Nat},GH C Cs=true->C∈Cs
 | [],h=>by exact AJ h
 | D::r,h=>by
  rcases Jz _ _ |>.mp h with h|h
  ·have hZ:=JH h;clear h;subst hZ;exact .head _
  ·exact .tail _ (Wn h)
theorem kX{C f:Nat}:∀{ms:List (Nat×Nat)},Ln C ms=some f->(C,f)∈ms
 | [],h=>by exact AA h
 | (D,g)::r,h=>by
  have h:(if Da C D then some g else Ln C r)=some f:=h;cases e:Da C D with
  | true=>replace h:=e▸h;replace h:=Ay h;subst h;have hZ:=JH e;clear e;subst hZ;exact .head _
  | false=>replace h:=e▸h;exact .tail _ (kX h)
noncomputable def kY:Ac->Bool
 | .ref a=>RV.contains a
 | .builtin _=>true
 | .type _=>true
 | _=>false
theorem AeG:gV.all (λp=>kY p.2)=true:=by decide+kernel
theorem EC.kp(O:AE c)(h:kY v=true):EC c v:=by
 cases v with
 | ref a=>
  have hm:a∈RV:=by simpa using(show RV.contains a=true from h)
  exact .of (by exact Aa O.K<|EP.mp (Aee c.w.params) _ hm)
 | builtin _=>exact .blt
 | type _=>exact .type
 | _=>exact AJ h
theorem AeH:∀p∈gV,Glob (.ofString p.1) p.2:=by
 simp only[gV,Aa7,GS,false_implies,implies_true,and_true];exact⟨Adz,AdC,AdD,AdE,AdF,AdG,AdH,AdI,AdJ,AdK,AdL,AdO,AdP,AdQ,AdR,AdS,AdT,AdU,AdV,AdW,AdX,AdY,AdZ,Ad0,Ad1,
  Ad2,Ad3,Ad4,Ad5,Ad6,Ad7,Ad8,Ad9,Aea,Aeb,Aec,Aed⟩
theorem AeI:∀p∈gI,IV (.ofString p.1) p.2:=by simp only[gI,Aa7,GS,false_implies,implies_true,and_true];exact⟨Adx,Ady,AdA,AdB,AdM,AdN⟩
theorem Sj(O:AE c){ns:Ns}{k:Nat}(h:Pi ns f j k x=true):ER ns x/\Glob x f/\EC c f:=by refine Ah (AO h) ?_;clear h;intro h1 h2;refine Ad (FZ h1) ?_;clear h1;intro hZ;obtain⟨y,m⟩:=hZ;intro e h1;refine Ah (AO h1) ?_;clear h1;intro a b;refine Ad (FZ h2) ?_;clear h2;intro p e2 h2;refine Ah (AO h2) ?_;clear h2;intro a2 b2;have hZ:=eq_of_beq a;clear a;subst hZ;have hZ:=eq_of_beq b;clear b;subst hZ;have hZ:=eq_of_beq a2;clear a2;subst hZ;have hZ:=eq_of_beq b2;clear b2;subst hZ;have hm:=A8 e2;exact⟨ER.of e,AeH _ hm,.kp O (EP.mp AeG _ hm)⟩
theorem AeJ{ns:Ns}{f:Int}{k:Nat}(h:kL ns f j k x=true):ER ns x/\IV x f:=by refine Ah (AO h) ?_;clear h;intro h1 h2;refine Ad (FZ h1) ?_;clear h1;intro hZ;obtain⟨y,m⟩:=hZ;intro e h1;refine Ah (AO h1) ?_;clear h1;intro a b;refine Ad (FZ h2) ?_;clear h2;intro p e2 h2;refine Ah (AO h2) ?_;clear h2;intro a2 b2;have hZ:=eq_of_beq a;clear a;subst hZ;have hZ:=eq_of_beq b;clear b;subst hZ;have hZ:=eq_of_beq a2;clear a2;subst hZ;have hZ:=eq_of_beq b2;clear b2;subst hZ;exact⟨ER.of e,AeI _ (A8 e2)⟩
section
variable{c:Cx}{n:Nat}{V:St}
theorem Ax.gl(O:AE c){pos:Pos}{Q:AV->St->Prop}(hg:ER sc.names x)(e:Glob x v)(q:Q (.raw v) V):Ax c n (.Name x pos) sc W V Q:=by
 refine Ah e ?_;clear e;rintro d (e|⟨e,b,ne⟩)
 ·exact Ax.glob hg (by exact Aa O.K<|e _) q d
 ·exact Ax.blt hg (by exact Aa O.K<|e _) b ne q d
theorem Ax.glI(O:AE c){pos:Pos}{i:Int}{Q:AV->St->Prop}(hg:ER sc.names x)(e:IV x i)(q:Q (.int i) V):Ax c n (.Name x pos) sc W V Q:=by obtain⟨d,t,e⟩:=e;intro F P env fr A s ok I;have h:=Ax.glob (c:=c) (n:=n) (V:=V) (pos:=pos) (W:=W) (Q:=λa s=>a= .raw (.int i t)/\s=V) hg (by exact Aa O.K<|e _) ⟨rfl,rfl⟩ d F P env fr A s ok I;refine AN h (λv s' hQ=>?_) λZ Z x=>x;obtain⟨F',Aq,b,l,I',r,e1,e2⟩:=hQ;subst e1;subst e2;subst r;exact⟨F',_,_,l,I',.int _ _,q⟩
theorem AR.mono{a b:AV}{Q Q':AV->St->Prop}(h:AR c n op a b V Q)(k:∀a s,Q a s->Q' a s):AR c n op a b V Q':=λF P v u r1 r2=>(h F P v u r1 r2).mono k
theorem ES.mono{a:AV}{Q Q':Bool->St->Prop}(h:ES c n a V Q)(k:∀a s,Q a s->Q' a s):ES c n a V Q':=λF P v r1=>(h F P v r1).mono k
theorem Pn{a:AV}{Q:AV->St->Prop}(h:MS c n a V Q):ES c n a V (λb s=>Q (.bool b) s):=by
 cases a with
 | bool b=>exact ES.bool (by cases b;exact h.2 rfl;exact h.1 rfl)
 | int i=>exact ES.int (by by_cases e:i=0;(simp[e];exact h.2 e);(simp[e];exact h.1 e))
 | _=>exact h
theorem Ke{p:Prop}[Decidable p]{Q:AV->St->Prop}(h1:p->Q (.bool true) V)(h2:¬p->Q (.bool false) V):∃k,AV.bool (decide p)= .bool k/\Q (.bool k) V:=
 ⟨_,rfl,by by_cases e:p;(simp[e];exact h1 e);(simp[e];exact h2 e)⟩
theorem Wo{a b:AV}{Q:AV->St->Prop}(h:O9 c n op a b V Q):AR c n op a b V (λv s=>∃k,v= .bool k/\Q (.bool k) s):=by
 have g:AR c n op a b V (λv Aq=>∃k,v= .bool k/\(k=true->Q (.bool true) Aq)/\(k=false->Q (.bool false) Aq))->AR c n op a b V (λv s=>∃k,v= .bool k/\Q (.bool k) s):=
  λh=>h.mono λv s ⟨k,e,x,y⟩=>⟨k,e,by cases k;exact y rfl;exact x rfl⟩
 cases op with
 | Is=>cases b with
  | none=>exact AR.isN ⟨_,rfl,by unfold O9 V2 at h;cases e:a.isNone<;>(replace h:=e▸h;exact h)⟩
  | _=>exact h.elim
 | _=>exact g h
theorem kZ{a b:AV}{Q:AV->St->Prop}(h:V3 c n op a b V Q):AR c n op a b V (λv s=>∃k,v= .bool k/\Q (.bool k) s):=by
 cases a with
 | int i=>cases b with
  | int j=>cases op with
   | Eq=>exact AR.eqI (Ke h.1 h.2)
   | NotEq=>exact AR.neI (Ke h.1 λe=>h.2 (Aa8.mp e))
   | Lt=>exact AR.lt (Ke h.1 λe=>h.2 (Hs.mp e))
   | LtE=>exact AR.le (Ke h.1 λe=>h.2 (XD.mp e))
   | Gt=>exact AR.gt (Ke h.1 λe=>h.2 (Hs.mp e))
   | GtE=>exact AR.ge (Ke h.1 λe=>h.2 (XD.mp e))
   | _=>exact h.elim
  | _=>exact Wo h
 | str x=>cases b with
  | str y=>cases op with
   | Eq=>exact AR.eqS (Ke h.1 h.2)
   | NotEq=>exact AR.neS (Ke h.1 λe=>h.2 (Aa8.mp e))
   | _=>exact h.elim
  | _=>exact Wo h
 | _=>exact Wo h
theorem AeK{op:Kx}{a b:AV}{Q:AV->St->Prop}(h:jZ c n op a b V Q):Ci c n op a b V Q:=by
 cases op with
 | Add=>cases a with
  | int i=>cases b with
   | int j=>exact Ci.add h
   | _=>exact h
  | lst xs=>cases b with
   | lst ys=>exact Ci.addL .lst .lst h.1 h.2
   | _=>exact h
  | _=>exact h
 | Sub=>cases a with
  | int i=>cases b with
   | int j=>exact Ci.sub h
   | _=>exact h
  | _=>exact h
 | _=>exact h
theorem HP.of{v:AV}{ns:List Str}{vs:List AV}{k:Nat}(h:ns[k]?=some x)(h2:vs[k]?=some v):HP ns vs x v:=by
 induction ns generalizing vs k with
 | nil=>exact AA h
 | cons y ns ih=>cases vs with
  | nil=>exact AA h2
  | cons o vs=>cases k with
   | zero=>replace h:=Ay h;subst h;replace h2:=Ay h2;subst h2;exact .here
   | succ k=>exact .skip (ih (k:=k) h h2)
theorem HQ.of{v:AV}{ns:List Str}{vs:List AV}{k:Nat}(h:ns[k]?=some x)(h2:k<vs.length):HQ ns vs x v (J8 vs k v):=by
 induction ns generalizing vs k with
 | nil=>exact AA h
 | cons y ns ih=>cases vs with
  | nil=>exact absurd h2 (Gi _)
  | cons o vs=>cases k with
   | zero=>replace h:=Ay h;subst h;exact .here
   | succ k=>exact .skip (ih (k:=k) h (XC h2))
theorem Gx.of{α:Type}{x:α}:∀{xs:List α},Gx xs x (xs++ [x])
 | []=>.nil
 | _::_=>.cons Gx.of
theorem lA{v:AV}:∀{vs:List AV}{k:Nat},(J8 vs k v).length=vs.length
 | [],_=>rfl
 | _::_,0=>rfl
 | _::_,k+1=>congrArg (· +1) (lA (k:=k))
theorem lB{ns:List Str}{k:Nat}(h:ns[k]?=some x)(hk:k<m):(ns.take m)[k]?=some x:=Aa (YO hk)<|h
theorem AeL{vs:List AV}{k:Nat}{Q:AV->St->Prop}(h:Pa vs k V Q):∃x,vs[k]?=some x/\(∀u,x≠ .raw u)/\Q x V:=by
 unfold Pa at h;replace h:=Aey▸h;cases e:vs[k]? with
 | none=>replace h:=e▸h;exact h.elim
 | some x=>replace h:=e▸h;exact⟨x,rfl,AeF h.ok.1,h.ok.2⟩
theorem AeM(O:AE c){a:AV}{x:String}{k:Nat}{Q:AV->St->Prop}(hC:Cs.all (atC x k)=true)(h:R6 a k Cs V Q):Mr c n a (.ofString x) V Q:=by
 have go:∀{a:AV}{C:Addr}{vs:List AV},IH V a C ((EF C).take vs.length) vs->GH C Cs=true->Pa vs k V Q->Mr c n a (.ofString x) V Q:=λf hm hv=>by
  refine Ah (kW O (EP.mp hC _ (Wn hm))) ?_;intro o e;refine Ch (AeL hv) ?_;clear hv;intro y hy hr q;exact Mr.fld f o.at_ (HP.of (lB e (A5.mp hy).1) hy) hr q
 cases a with
 | inst C ns vs=>refine Ah h ?_;clear h;rintro rfl h;exact go .inst h.ok.1 h.ok.2
 | obj C da=>refine Ad (h.ok.2) ?_;intro vs e hv;exact go (.obj e) h.ok.1 hv
 | _=>exact h.elim
theorem AeN(O:AE c){o v:AV}{x:String}{k:Nat}{Q:St->Prop}(hC:Cs.all (atC x k)=true)(h:kA o k Cs v V Q):Gv c n o (.ofString x) v V Q:=by
 cases o with
 | obj C da=>
  have hm:=h.ok.1;refine Ad (h.ok.2) ?_;intro vs e h;refine Ah (kW O (EP.mp hC _ (Wn hm))) ?_;intro o e2;have ok:∀m,HM ((EF C).take m):=λm=>⟨o.nd.nd.sublist (QP _ _),AP (Ux _ _) o.nd.sz⟩;cases hz:Cf vs.length k with
  | false=>
   replace h:=hz▸h;have q:Q (V.set da (Bw C (J8 vs k v))):=h;have hk:k<vs.length:=Ku λx=>TV (hz.symm.trans (Nat.ble_eq_true_of_le x));have hl:(J8 vs k v).length=vs.length:=lA;unfold Bw at q;replace q:=hl▸q;exact Gv.old e o.st o.tk (HQ.of (lB e2 hk) hk) (ok _) q
  | true=>
   replace h:=hz▸h;refine Ah (Bz.eq h) ?_;clear h;intro hk q;have ht:(EF C).take (vs++ [v]).length=(EF C).take vs.length++ [HD x]:=by refine Aa AY<|Aa Aa9<|Aa Fu ?_;refine AS hk ?_;exact Aa e2 rfl
   unfold Bw at q;replace q:=ht▸q;refine Gv.new e o.st o.tk (λhm=>?_) Gx.of Gx.of (ht▸ok _) q;refine Ar (Fs.mp hm) ?_;clear hm;intro i hi;replace hi:=Aba▸hi;split at hi
   ·have:=(LY (A5.mp hi).1 o.nd.nd).mp (hi.trans e2.symm);exact GW (Y7 this ‹_›) (HJ hk)
   ·exact AA hi
 | _=>exact h.elim
theorem AeO(O:AE c){a:AV}{x:String}{ms:List (Nat×Nat)}{K:Nat->Prop}(hC:ms.all (λm=>O3.contains (m.1,x,m.2))=true)(h:R7 a ms V K):∃f,E9 c V a (.ofString x) (.ref f)/\EC c (.ref f)/\K f:=by
 have go:∀{a:AV}{C:Addr}{vs:List AV},IH V a C ((EF C).take vs.length) vs->(match Ln C ms with | some f=>K f | none=>False)->∃f,E9 c V a (.ofString x) (.ref f)/\EC c (.ref f)/\K f:=λ{a C vs} f hv=>by
  cases e:Ln C ms with
  | none=>replace hv:=e▸hv;exact hv.elim
  | some g=>
   replace hv:=e▸hv;refine Bq (AeE O (EP.mp hC _ (kX e))) ?_;intro m1 m2 m3;exact⟨g,Ab3 f m1 (λh=>m2 (Gq h)),m3,hv⟩
 cases a with
 | inst C ns vs=>refine Ah h ?_;clear h;rintro rfl hv;exact go .inst hv
 | obj C da=>refine Ah h ?_;clear h;intro hZ;refine Ar hZ ?_;clear hZ;intro vs e;intro hv;exact go (.obj e) hv
 | _=>exact h.elim
end
noncomputable def Lu(k:Option Int):AV:=match k with
 | none=>.none
 | some i=>.int i
set_option genSizeOf false
set_option genInjectivity false
structure Mn(c:Cx)(n:Nat)(p:PE)(ns:Ns)(mo:List (Str×GR))(es:List Expr)(W:Al)(V:St)(Q:AV->St->Prop):Prop where
 ev:p.kd=0->∀e,es= [e]->Ax c n e (BL ns mo) W V Q
 is:p.kd=1->∃e,es= [e]/\B0 c n e (BL ns mo) W V (λb s=>Q (.bool b) s)
 el:p.kd=2->CD c n es (BL ns mo) W V (λxs s=>Q (.tup xs) s)
 it:p.kd=3->∀e tg,es= [e]->FU tg->EU c n e tg (BL ns mo) W V (λxs s=>Q (.tup xs) s)
 iz:p.kd=4->∀e tg,es= [e]->JR tg->EU c n e tg (BL ns mo) W V (λxs s=>Q (.tup xs) s)
 pt:p.kd=5->∀o,es=o.toList->ED c n o (BL ns mo) W V (λk s=>Q (Lu k) s)
 no:p.kd=6->es= []/\Q (.bool true) V
section
variable{c:Cx}{n:Nat}{p:PE}{ns:Ns}{mo:List (Str×GR)}{es:List Expr}{W:Al}{V:St}{Q:AV->St->Prop}
theorem BQ{α:Prop}(h:p.kd=i)(h2:p.kd=j)(ne:Da i j=false):α:=by replace h2:=h▸h2;subst h2;rewrite[Nat.beq_refl] at ne;exact NY ne
theorem Mn.CZ(k:p.kd=0)(h:Ax c n e (BL ns mo) W V Q):Mn c n p ns mo [e] W V Q:=
 ⟨λZ Z e=>by cases e;exact h,λj=>BQ k j rfl,λj=>BQ k j rfl,λj=>BQ k j rfl,λj=>BQ k j rfl,λj=>BQ k j rfl,λj=>BQ k j rfl⟩
theorem Mn.MY(k:p.kd=1)(h:B0 c n e (BL ns mo) W V (λb s=>Q (.bool b) s)):Mn c n p ns mo [e] W V Q:=
 ⟨λj=>BQ k j rfl,λZ=>⟨_,rfl,h⟩,λj=>BQ k j rfl,λj=>BQ k j rfl,λj=>BQ k j rfl,λj=>BQ k j rfl,λj=>BQ k j rfl⟩
theorem Mn.lC(k:p.kd=2)(h:CD c n es (BL ns mo) W V (λxs s=>Q (.tup xs) s)):Mn c n p ns mo es W V Q:=
 ⟨λj=>BQ k j rfl,λj=>BQ k j rfl,λZ=>h,λj=>BQ k j rfl,λj=>BQ k j rfl,λj=>BQ k j rfl,λj=>BQ k j rfl⟩
theorem Mn.lE(k:p.kd=3)(h:∀tg,FU tg->EU c n e tg (BL ns mo) W V (λxs s=>Q (.tup xs) s)):Mn c n p ns mo [e] W V Q:=
 ⟨λj=>BQ k j rfl,λj=>BQ k j rfl,λj=>BQ k j rfl,λZ Z Z e=>by cases e;exact h _,λj=>BQ k j rfl,λj=>BQ k j rfl,λj=>BQ k j rfl⟩
theorem Mn.lG(k:p.kd=4)(h:∀tg,JR tg->EU c n e tg (BL ns mo) W V (λxs s=>Q (.tup xs) s)):Mn c n p ns mo [e] W V Q:=
 ⟨λj=>BQ k j rfl,λj=>BQ k j rfl,λj=>BQ k j rfl,λj=>BQ k j rfl,λZ Z Z e=>by cases e;exact h _,λj=>BQ k j rfl,λj=>BQ k j rfl⟩
theorem Mn.lH(k:p.kd=5)(h:∀o,es=o.toList->ED c n o (BL ns mo) W V (λk s=>Q (Lu k) s)):Mn c n p ns mo es W V Q:=
 ⟨λj=>BQ k j rfl,λj=>BQ k j rfl,λj=>BQ k j rfl,λj=>BQ k j rfl,λj=>BQ k j rfl,λZ=>h,λj=>BQ k j rfl⟩
theorem Mn.mk6(k:p.kd=6)(h:es= []/\Q (.bool true) V):Mn c n p ns mo es W V Q:=
 ⟨λj=>BQ k j rfl,λj=>BQ k j rfl,λj=>BQ k j rfl,λj=>BQ k j rfl,λj=>BQ k j rfl,λj=>BQ k j rfl,λZ=>h⟩
def Sound(c:Cx)(n:Nat)(p:PE):Prop:=∀ns mo es W V Q,AX p ns es=true->vc c n p W V Q->Mn c n p ns mo es W V Q
theorem CL{x:PE}(h:k1 x i=true):x.kd=i:=JH h
theorem Ek{x y:PE}(h:k2 x y i j=true):x.kd=i/\y.kd=j:=⟨JH (AO h).1,JH (AO h).2⟩
variable{x y z:PE}{e a b d:Expr}
theorem Sound.ev(h:Sound c n x)(k:x.kd=0)(hc:AX x ns [e]=true)(q:vc c n x W V Q):Ax c n e (BL ns mo) W V Q:=(h _ _ _ _ _ _ hc q).ev k _ rfl
theorem Sound.is(h:Sound c n x)(k:x.kd=1)(hc:AX x ns [e]=true)(q:vc c n x W V Q):B0 c n e (BL ns mo) W V (λb s=>Q (.bool b) s):=by refine Ad ((h _ mo _ _ _ _ hc q).is k) ?_;intro e' he w;cases he;exact w
theorem Sound.el(h:Sound c n x)(k:x.kd=2)(hc:AX x ns es=true)(q:vc c n x W V Q):CD c n es (BL ns mo) W V (λxs s=>Q (.tup xs) s):=(h _ _ _ _ _ _ hc q).el k
theorem Sound.pt(h:Sound c n x)(k:x.kd=5){o:Option Expr}(hc:AX x ns o.toList=true)(q:vc c n x W V Q):ED c n o (BL ns mo) W V (λk s=>Q (Lu k) s):=(h _ _ _ _ _ _ hc q).pt k _ rfl
theorem ED.mono{o:Option Expr}{Q Q':Option Int->St->Prop}(h:ED c n o sc W V Q)(k:∀a s,Q a s->Q' a s):ED c n o sc W V Q':=by
 cases o with
 | none=>exact k _ _ h
 | some e=>exact Ax.mono h λa s ⟨i,e,q⟩=>⟨i,e,k _ _ q⟩
theorem EU.mono{tg:Expr}{Q Q':List AV->St->Prop}(h:EU c n e tg sc W V Q)(k:∀a s,Q a s->Q' a s):EU c n e tg sc W V Q':=λF P env A s fr ok J=>
 AN (h F P env A s fr ok J) (λv s1 h1=>AN h1 (λit s2 h2=>by
  obtain⟨F',P',Aq,I,wr,xs,S,e1,e2,e3,e4,e5,e6,q⟩:=h2;exact⟨F',P',Aq,I,wr,xs,S,e1,e2,e3,e4,e5,e6,k _ _ q⟩) λZ Z x=>x) λZ Z x=>x
theorem sel{b:Bool}{A B:Prop}{X Y:Prop}(h:D2 (.bool b) A B)(f:A->X)(g:B->Y):if b=true then X else Y:=by
 cases b
 ·exact g h
 ·exact f h
theorem lI{b:Bool}{A B:Prop}{X:Bool->Prop}(h:D2 (.bool b) A B)(f:A->X true)(g:B->X false):X b:=by
 cases b
 ·exact g h
 ·exact f h
theorem s_v:Sound c n (.v i):=λns mo es W V Q h q=>by
 refine Ad (Bv h) ?_;clear h;rintro e rfl g1;refine Br (GJ g1) ?_;clear g1;rintro x p rfl g2;refine Ah (AO g2) ?_;clear g2;intro h1 h2;refine Ad (Pm h1) ?_;clear h1;intro k hk hv;refine Ad (AeA q) ?_;clear q;intro v e q;exact .CZ rfl (Ax.name (Ld.of hk hv e) q (by simpa[kM] using h2))
theorem s_gi(O:AE c){f:Int}:Sound c n (.gi f i j):=λns mo es W V Q h q=>by
 refine Ad (Bv h) ?_;clear h;rintro e rfl g1;refine Br (GJ g1) ?_;clear g1;rintro x p rfl g2;refine Ah (AeJ g2) ?_;clear g2;intro h1 h2;exact .CZ rfl (Ax.glI O h1 h2 q)
theorem AeP{i:Int}:Sound c n (.int i):=λns mo es W V Q h q=>by
 refine Ad (Bv h) ?_;clear h;rintro e rfl g1;refine B9 (Sa g1) ?_;clear g1;rintro x k p rfl g2;have hZ:=eq_of_beq g2;clear g2;subst hZ;exact .CZ rfl (Ax.int q)
theorem AeQ{i:String}:Sound c n (.str i):=λns mo es W V Q h q=>by
 refine Ad (Bv h) ?_;clear h;rintro e rfl g1;refine B9 (Sa g1) ?_;clear g1;rintro x k p rfl g2;have hZ:=eq_of_beq g2;clear g2;subst hZ;exact .CZ rfl (Ax.str q)
theorem s_bool{i:Bool}:Sound c n (.bool i):=λns mo es W V Q h q=>by
 refine Ad (Bv h) ?_;clear h;rintro e rfl g1;refine B9 (Sa g1) ?_;clear g1;rintro x k p rfl g2;have hZ:=eq_of_beq g2;clear g2;subst hZ;exact .CZ rfl (Ax.bool q)
theorem s_no:Sound c n .no:=λns mo es W V Q h q=>by
 refine Ad (Bv h) ?_;clear h;rintro e rfl g1;refine B9 (Sa g1) ?_;clear g1;rintro x k p rfl g2;have hZ:=eq_of_beq g2;clear g2;subst hZ;exact .CZ rfl (Ax.nil q)
theorem AeR{op:Kx}(hx:Sound c n x)(hy:Sound c n y):Sound c n (.bin op x y):=λns mo es W V Q h q=>by
 refine Ad (Bv h) ?_;clear h;rintro e rfl g1;refine Ea (Aem g1) ?_;clear g1;rintro l o r p rfl g2;refine Kd g2 λh h2 h3 h4=>?_;have hZ:=eq_of_beq h;clear h;subst hZ;refine Ah (Ek h2) ?_;clear h2;intro k1 k2;exact .CZ rfl (Ax.bin ((hx.ev k1 h3 q).mono λa Af q=>(hy.ev k2 h4 q).mono λb Av q=>AeK q))
theorem AeS(hx:Sound c n x):Sound c n (.neg x):=λns mo es W V Q h q=>by
 refine Ad (Bv h) ?_;clear h;rintro e rfl g1;refine B9 (V7 g1) ?_;clear g1;rintro o l p rfl g2;refine GK g2 λh h2 h3=>?_;have hZ:=eq_of_beq h;clear h;subst hZ;exact .CZ rfl (Ax.un ((hx.ev (CL h2) h3 q).mono λa Af q=>by
  cases a with
  | int i=>exact KX.neg q
  | _=>exact q.elim))
theorem AeT(hx:Sound c n x):Sound c n (.O4 x):=λns mo es W V Q h q=>by
 refine Ad (Bv h) ?_;clear h;rintro e rfl g1;refine B9 (V7 g1) ?_;clear g1;rintro o l p rfl g2;refine GK g2 λh h2 h3=>?_;have hZ:=eq_of_beq h;clear h;subst hZ;exact .CZ rfl (Ax.un ((hx.ev (CL h2) h3 q).mono λa Af q=>KX.not ((Pn q).mono λb s q=>lI (X:=λb=>Q (.bool (!b)) s) q id id)))
theorem AeU(hx:Sound c n x)(hy:Sound c n y):Sound c n (.cmp op x y):=λns mo es W V Q h q=>by
 refine Ad (Bv h) ?_;clear h;rintro e rfl g1;refine Ea (kF g1) ?_;clear g1;rintro l os rs p rfl g2;refine Ad (Bv g2) ?_;clear g2;rintro o rfl g3;refine Ad (Bv g3) ?_;clear g3;rintro r rfl g4;refine H3 g4 λh h2 h5 h3 h4=>?_;have hZ:=eq_of_beq h;clear h;subst hZ;refine Ah (Ek h2) ?_;clear h2;intro k1 k2;exact .CZ rfl (Ax.cmp ((hx.ev k1 h3 q).mono λa Af q=>(hy.ev k2 h4 q).mono λb Av q=>(kZ q).mono λv s ⟨k,e,q⟩=>e▸q) (by simpa using h5))
theorem AeV(hx:Sound c n x)(hy:Sound c n y):Sound c n (.AW op x y):=λns mo es W V Q h q=>by
 refine Ad (Bv h) ?_;clear h;rintro e rfl g1;refine Ea (kF g1) ?_;clear g1;rintro l os rs p rfl g2;refine Ad (Bv g2) ?_;clear g2;rintro o rfl g3;refine Ad (Bv g3) ?_;clear g3;rintro r rfl g4;refine H3 g4 λh h2 h5 h3 h4=>?_;have hZ:=eq_of_beq h;clear h;subst hZ;refine Ah (Ek h2) ?_;clear h2;intro k1 k2;exact .MY rfl (B0.cmp ((hx.ev k1 h3 q).mono λa Af q=>(hy.ev k2 h4 q).mono λb Av q=>kZ q) (by simpa using h5))
theorem AeW(hx:Sound c n x)(hy:Sound c n y)(hz:Sound c n z):Sound c n (.ite x y z):=λns mo es W V Q h q=>by
 refine Ad (Bv h) ?_;clear h;rintro e rfl g1;refine Ea (Aen g1) ?_;clear g1;rintro t a b p rfl g2;refine H3 g2 λh1 h2 h3 h4 h5=>?_;refine Ah (Ek h2) ?_;clear h2;intro k1 k2;exact .CZ rfl (Ax.ite ((hx.is (CL h1) h3 q).mono λb s q=>sel q (λq=>hy.ev k1 h4 q) (λq=>hz.ev k2 h5 q)))
theorem AeX(hx:Sound c n x)(hy:Sound c n y):Sound c n (.G5 x y):=λns mo es W V Q h q=>by
 refine Ad (Bv h) ?_;clear h;rintro e rfl g1;refine B9 (Pd g1) ?_;clear g1;rintro o xs p rfl g2;refine Ah (AO g2) ?_;clear g2;intro h0 h;have hZ:=eq_of_beq h0;clear h0;subst hZ;refine Br (fst_eq h) ?_;clear h;rintro a xs rfl g3;refine Ad (Bv g3) ?_;clear g3;rintro b rfl g4;refine GK g4 λh1 h2 h3=>?_;refine Ah (Ek h1) ?_;clear h1;intro k1 k2;exact .CZ rfl (Ax.G5 ((hx.ev k1 h2 q).mono λa s q=>(Pn q).mono λb s q=>sel q (λq=>hy.ev k2 h3 q) id))
theorem AeY(hx:Sound c n x)(hy:Sound c n y)(hz:Sound c n z):Sound c n (.Ll x y z):=λns mo es W V Q h q=>by
 refine Ad (Bv h) ?_;clear h;rintro e rfl g1;refine B9 (Pd g1) ?_;clear g1;rintro o xs p rfl g2;refine Ah (AO g2) ?_;clear g2;intro h0 h;have hZ:=eq_of_beq h0;clear h0;subst hZ;refine Br (fst_eq h) ?_;clear h;rintro a xs rfl g3;refine Br (fst_eq g3) ?_;clear g3;rintro b xs rfl g4;refine Ad (Bv g4) ?_;clear g4;rintro d rfl g5;refine H3 g5 λh h4 h1 h2 h3=>?_;refine Ah (Ek h) ?_;clear h;intro k1 k2;exact .CZ rfl (Ax.Ll ((hx.ev k1 h1 q).mono λa s q=>(Pn q).mono λb s q=>sel q (λq=>(hy.ev k2 h2 q).mono λa s q=>(Pn q).mono λb s q=>sel q (λq=>hz.ev (CL h4) h3 q) id) id))
theorem AeZ(hx:Sound c n x):Sound c n (.IW x):=λns mo es W V Q h q=>by
 refine Ad (Bv h) ?_;clear h;rintro e rfl g1;refine B9 (V7 g1) ?_;clear g1;rintro o l p rfl g2;refine GK g2 λh h2 h3=>?_;have hZ:=eq_of_beq h;clear h;subst hZ;exact .MY rfl (B0.not ((hx.is (CL h2) h3 q).mono λb s q=>lI (X:=λb=>Q (.bool (!b)) s) q id id))
theorem Ae0(hx:Sound c n x)(hy:Sound c n y):Sound c n (.FX x y):=λns mo es W V Q h q=>by
 refine Ad (Bv h) ?_;clear h;rintro e rfl g1;refine B9 (Pd g1) ?_;clear g1;rintro o xs p rfl g2;refine Ah (AO g2) ?_;clear g2;intro h0 h;have hZ:=eq_of_beq h0;clear h0;subst hZ;refine Br (fst_eq h) ?_;clear h;rintro a xs rfl g3;refine Ad (Bv g3) ?_;clear g3;rintro b rfl g4;refine GK g4 λh1 h2 h3=>?_;refine Ah (Ek h1) ?_;clear h1;intro k1 k2;exact .MY rfl (B0.G5 ((hx.is k1 h2 q).mono λb s q=>sel q (λq=>hy.is k2 h3 q) id))
theorem Ae1(hx:Sound c n x)(hy:Sound c n y):Sound c n (.J0 x y):=λns mo es W V Q h q=>by
 refine Ad (Bv h) ?_;clear h;rintro e rfl g1;refine B9 (Pd g1) ?_;clear g1;rintro o xs p rfl g2;refine Ah (AO g2) ?_;clear g2;intro h0 h;have hZ:=eq_of_beq h0;clear h0;subst hZ;refine Br (fst_eq h) ?_;clear h;rintro a xs rfl g3;refine Ad (Bv g3) ?_;clear g3;rintro b rfl g4;refine GK g4 λh1 h2 h3=>?_;refine Ah (Ek h1) ?_;clear h1;intro k1 k2;exact .MY rfl (B0.or2 ((hx.is k1 h2 q).mono λb s q=>sel q id (λq=>hy.is k2 h3 q)))
theorem Ae2(hx:Sound c n x)(hy:Sound c n y)(hz:Sound c n z):Sound c n (.O5 x y z):=λns mo es W V Q h q=>by
 refine Ad (Bv h) ?_;clear h;rintro e rfl g1;refine B9 (Pd g1) ?_;clear g1;rintro o xs p rfl g2;refine Ah (AO g2) ?_;clear g2;intro h0 h;have hZ:=eq_of_beq h0;clear h0;subst hZ;refine Br (fst_eq h) ?_;clear h;rintro a xs rfl g3;refine Br (fst_eq g3) ?_;clear g3;rintro b xs rfl g4;refine Ad (Bv g4) ?_;clear g4;rintro d rfl g5;refine H3 g5 λh h4 h1 h2 h3=>?_;refine Ah (Ek h) ?_;clear h;intro k1 k2;exact .MY rfl (B0.or3 ((hx.is k1 h1 q).mono λb s q=>sel q id λq=>(hy.is k2 h2 q).mono λb s q=>sel q id λq=>hz.is (CL h4) h3 q))
theorem Ae3{env:Env}(h:plainT e=true):Eu e env (eval e env)=(do let v <-eval e env;DL e.pos;DK [v] (Ih v)):=by
 simp only[plainT,Jz,beq_iff_eq] at h;rcases h with((h|h)|h)|h
 ·exact NF (motive_1:=λe=>Eu e env (eval e env)=(do let v <-eval e env;DL e.pos;DK [v] (Ih v))) e h λZ Z=>rfl
 ·exact Ut (motive_1:=λe=>Eu e env (eval e env)=(do let v <-eval e env;DL e.pos;DK [v] (Ih v))) e h λZ Z Z Z=>rfl
 ·exact Uu (motive_1:=λe=>Eu e env (eval e env)=(do let v <-eval e env;DL e.pos;DK [v] (Ih v))) e h λZ Z Z=>rfl
 ·exact Uv (motive_1:=λe=>Eu e env (eval e env)=(do let v <-eval e env;DL e.pos;DK [v] (Ih v))) e h λZ Z Z=>rfl
theorem Ae4(hx:Sound c n x):Sound c n (.E0 x):=λns mo es W V Q h q=>by
 refine Ad (Bv h) ?_;clear h;rintro e rfl g1;refine GK g1 λh h2 h3=>?_;exact .MY rfl (B0.plain ((hx.ev (CL h) h3 q).mono λa s q=>Pn q) λenv=>Ae3 h2)
theorem El{α:Type}{l:List α}(h:l.isEmpty=true):l= []:=List.isEmpty_iff.mp h
theorem Ae5:Sound c n .CK:=λns mo es W V Q h q=>.mk6 rfl ⟨El h,q⟩
theorem Ae6:Sound c n .nil:=λns mo es W V Q h q=>by have hZ:=El h;clear h;subst hZ;exact .lC rfl (CD.nil q)
theorem Ae7{a:AV}{K:List AV->Prop}(h:E2 a K):∃xs,a= .tup xs/\K xs:=by
 cases a with
 | tup xs=>exact⟨xs,rfl,h⟩
 | _=>exact h.elim
theorem Ae8(hx:Sound c n x)(hy:Sound c n y):Sound c n (.cons x y):=λns mo es W V Q h q=>by
 refine Br (fst_eq h) ?_;clear h;rintro e es rfl g1;refine Kd g1 λh1 h2 h3 h4=>?_;refine Ah (Ek h1) ?_;clear h1;intro k1 k2;exact .lC rfl (CD.cons ((hx.ev k1 h3 q).mono λa s q=>(hy.el k2 h4 q).mono λxs s q=>q) (by simpa using h2))
theorem Ae9:Sound c n .BP:=λns mo es W V Q h q=>.lH rfl λo e=>by
 have hZ:=El h;clear h;subst hZ;cases o with
 | none=>exact q
 | some _=>exact Iz e
theorem s_pI(hx:Sound c n x):Sound c n (.pI x):=λns mo es W V Q h q=>.lH rfl λo eo=>by
 refine Ad (Bv h) ?_;clear h;rintro e rfl g1;refine Ah (AO g1) ?_;clear g1;intro h1 h2;cases o with
 | none=>exact Mm eo
 | some _=>
  cases eo;exact(hx.ev (CL h1) h2 q).mono λa s q=>by
   cases a with
   | int i=>exact⟨i,rfl,q⟩
   | _=>exact q.elim
end
section
variable{c:Cx}{n:Nat}{p:PE}{ns:Ns}{mo:List (Str×GR)}{es:List Expr}{W:Al}{V:St}{Q:AV->St->Prop}{x y z:PE}{e a b d:Expr}
theorem s_call(O:AE c){k:Nat}(hx:Sound c n x):Sound c n (.call f j k x):=λns mo es W V Q h q=>by
 refine Ad (Bv h) ?_;clear h;rintro e rfl g1;refine Ea (Kb g1) ?_;clear g1;rintro g xs ks p rfl g2;refine Ah (AO g2) ?_;clear g2;intro g3 g4;have hZ:=El g3;clear g3;subst hZ;refine Br (GJ g4) ?_;clear g4;rintro y py rfl g5;refine Kd g5 λh1 h2 h3 h4=>?_;refine Bq (Sj O h1) ?_;intro a1 a2 a3;exact .CZ rfl (Ax.call (Ax.gl O a1 a2 ⟨_,rfl,a3,(hx.el (CL h2) h4 q).mono λxs s q=>q⟩) (.of h3) λZ=>rfl)
theorem lJ{o:Expr}(h:¬o.ctorIdx=16){A:Str->Pos->Pos->Sem Ac}{y:Sem Ac}:Abb (λZ=>Sem Ac) o A (λZ=>y)=y:=by cases o<;>first | rfl | exact absurd rfl h
theorem ab_k{f:Expr}{as:List Expr}{ks:List Keyword}{p:Pos}(h:(as.isEmpty&&ks.isEmpty)=false){A:Str->Pos->Pos->Sem Ac}{y:Sem Ac}:Abb (λZ=>Sem Ac) (.Call f as ks p) A (λZ=>y)=y:=by
 cases as with
 | cons a as=>cases f<;>rfl
 | nil=>cases ks with
  | cons a as=>cases f<;>rfl
  | nil=>exact NY h
theorem Afa(h:¬e.ctorIdx=7){A:List Expr->Nat->Pos->Sem Ac}{y:Sem Ac}:AlP (λZ=>Sem Ac) e A (λZ=>y)=y:=by cases e<;>first | rfl | exact absurd rfl h
theorem lK(h:(!(i==j))=true):¬i=j:=λe=>by replace h:=e▸h;rewrite[beq_self_eq_true] at h;exact AJ h
theorem lL{o:Expr}{nm:Str}{env:Env}{whole:Sem Ac}(h:Wh o=true):KC o nm env whole=whole:=by
 by_cases k:o.ctorIdx=16
 ·obtain⟨f,as,ks,p,rfl⟩:∃f as ks p,o= .Call f as ks p:=Ut (motive_1:=λo=>∃f as ks p,o= .Call f as ks p) o k λf as ks p=>⟨f,as,ks,p,rfl⟩;unfold KC;refine ab_k ?_;cases as with
  | cons a as=>rfl
  | nil=>cases ks with
   | cons a as=>rfl
   | nil=>exact AJ h
 ·unfold KC;exact lJ k
theorem Wp{es:List Expr}{env:Env}{pos:Pos}(h:FA es)(hl:es.length<30):XZ es.length (DA pos (Dj es env)) (KA pos (KB [] env))=true:=by unfold XZ;exact Aa (AeB h)<|decide_eq_true hl
theorem Afb{id:String}(hx:Sound c n x)(hy:Sound c n y):Sound c n (.BU x nm id y):=λns mo es W V Q h q=>by
 refine Ad (Bv h) ?_;clear h;rintro e rfl g1;refine Ea (Kb g1) ?_;clear g1;rintro g xs ks p rfl g2;refine Ah (AO g2) ?_;clear g2;intro g3 g4;have hZ:=El g3;clear g3;subst hZ;refine B9 (Pe g4) ?_;clear g4;rintro b z ap rfl g5;refine Si g5 λg5 h2 h3 h4 h5 h6 h7 h8=>?_;have hZ:=eq_of_beq g5;clear g5;subst hZ;refine Ah (Ek h2) ?_;clear h2;intro k1 k2;exact .CZ rfl (Ax.BU ((hx.ev k1 h7 q).mono λa s ⟨m,q⟩=>⟨_,m,.blt,(hy.el k2 h8 q).mono λxs s q=>q⟩) (.of h3) (λenv=>Wp (.of h3) (of_decide_eq_true h4)) h5 λenv w=>lL h6)
theorem Afc(O:AE c){ms:List (Nat×Nat)}(hx:Sound c n x)(hy:Sound c n y):Sound c n (.Bg x nm ms y):=λns mo es W V Q h q=>by
 refine Ad (Bv h) ?_;clear h;rintro e rfl g1;refine Ea (Kb g1) ?_;clear g1;rintro g xs ks p rfl g2;refine Ah (AO g2) ?_;clear g2;intro g3 g4;have hZ:=El g3;clear g3;subst hZ;refine B9 (Pe g4) ?_;clear g4;rintro b z ap rfl g5;refine Aew g5 λg5 h2 h3 h4 h5 h6 h9 h7 h8=>?_;have hZ:=eq_of_beq g5;clear g5;subst hZ;refine Ah (Ek h2) ?_;clear h2;intro k1 k2;exact .CZ rfl (Ax.BU ((hx.ev k1 h7 q).mono λa s q=>by
  refine Ch (AeO O h9 q) ?_;intro f m1 m2 q;exact⟨_,m1,m2,(hy.el k2 h8 q).mono λxs s q=>q⟩) (.of h3) (λenv=>Wp (.of h3) (of_decide_eq_true h4)) h5 λenv w=>lL h6)
theorem Afd{o:Expr}{nm:Str}{pos:Pos}{env:Env}(h:(!(o.ctorIdx==16))=true):eval (.Attribute o nm pos) env=(do let v <-eval o env;DL pos.atName;let r <-DK [v] (Tv v nm true);Tx o v r;pure r):=by refine congrArg (λw:Sem Ac=>(do let v <-w;DL pos.atName;let r <-DK [v] (Tv v nm true);Tx o v r;pure r)) (?_:KC o nm env (eval o env)=eval o env);unfold KC;exact lJ (lK h)
theorem Afe(O:AE c){k:Nat}(hx:Sound c n x):Sound c n (.attr x nm k Cs):=λns mo es W V Q h q=>by
 refine Ad (Bv h) ?_;clear h;rintro e rfl g1;refine B9 (Pe g1) ?_;clear g1;rintro b z ap rfl g2;refine H3 g2 λg3 h2 h3 h4 h5=>?_;have hZ:=eq_of_beq g3;clear g3;subst hZ;exact .CZ rfl (Ax.attr ((hx.ev (CL h2) h5 q).mono λa s q=>AeM O h4 q) λenv=>Afd h3)
theorem Aff(hx:Sound c n x)(hy:Sound c n y):Sound c n (.sub x y):=λns mo es W V Q h q=>by
 refine Ad (Bv h) ?_;clear h;rintro e rfl g1;refine B9 (V9 g1) ?_;clear g1;rintro a b p rfl g2;refine GK g2 λg2 h2 h3=>?_;refine Ah (Ek g2) ?_;clear g2;intro k1 k2;exact .CZ rfl (Ax.sub ((hx.ev k1 h2 q).mono λa s q=>hy.ev k2 h3 q))
theorem Wq(k:Option Int):R8 (Lu k)=some k:=by cases k<;>rfl
theorem Afg{mu:Bool}{a:AV}{l h t:Option Int}(q:V4 c mu a (Lu l) (Lu h) (Lu t) V Q):∃xs,FF c V a xs/\t≠some 0/\xs.length<=Bc/\E1 mu (pick xs l h t) V Q:=by
 unfold V4 at q;rewrite[Wq] at q;rewrite[Wq] at q;rewrite[Wq] at q;have ht:t≠some 0:=λe=>by replace q:=e▸q;exact q.elim
 replace q:=q.ok.2;cases a with
 | lst xs=>exact⟨xs,.lst,ht,q⟩
 | _=>refine Ad q ?_;clear q;intro xs h1 h2;exact⟨xs,h1,ht,h2⟩
theorem Afh{mu:Bool}{u w:PE}(hx:Sound c n x)(hy:Sound c n y)(hu:Sound c n u)(hw:Sound c n w):Sound c n (.slice mu x y u w):=λns mo es W V Q h q=>by
 refine Ad (Bv h) ?_;clear h;rintro e rfl g1;refine B9 (V9 g1) ?_;clear g1;rintro a b p rfl g2;refine Ea (Aeo g2) ?_;clear g2;rintro l m t p2 rfl g3;refine MX g3 λg4 h2 h3 h4 h5 h6=>?_;refine Ah (Ek g4) ?_;clear g4;intro k1 k2;refine Ah (Ek h2) ?_;clear h2;intro k3 k4;have w:=(hx.ev (mo:=mo) k1 h3 q).mono λa s q=>(hy.pt (mo:=mo) k2 h4 q).mono λl s q=>(hu.pt (mo:=mo) k3 h5 q).mono λm s q=>(hw.pt (mo:=mo) k4 h6 q).mono λt s q=>Afg q;cases mu with
 | true=>exact .CZ rfl (Ax.Ack w)
 | false=>exact .CZ rfl (Ax.slice w)
theorem Afi:Sound c n .dead:=λns mo es W V Q h q=>q.elim
theorem Afj{mu:Bool}(hx:Sound c n x):Sound c n (.lst mu x):=λns mo es W V Q h q=>by
 refine Ad (Bv h) ?_;clear h;rintro e rfl g1;refine Br (Aep g1) ?_;clear g1;rintro xs p rfl g2;refine Ah (AO g2) ?_;clear g2;intro h1 h2;cases mu with
 | true=>exact .CZ rfl (Ax.lstM ((hx.el (CL h1) h2 q).mono λxs s q=>Bz.le q))
 | false=>exact .CZ rfl (Ax.lst ((hx.el (CL h1) h2 q).mono λxs s q=>Bz.le q))
theorem Afk(hx:Sound c n x):Sound c n (.tup x):=λns mo es W V Q h q=>by
 refine Ad (Bv h) ?_;clear h;rintro e rfl g1;refine B9 (Lq g1) ?_;clear g1;rintro xs k p rfl g2;refine Ah (AO g2) ?_;clear g2;intro h1 h2;exact .CZ rfl (Ax.tup ((hx.el (CL h1) h2 q).mono λxs s q=>Bz.le q))
theorem Afl{mu:Bool}:Sound c n (.dict mu):=λns mo es W V Q h q=>by
 refine Ad (Bv h) ?_;clear h;rintro e rfl g1;refine B9 (Aeq g1) ?_;clear g1;rintro ks xs p rfl g2;refine Ah (AO g2) ?_;clear g2;intro h1 h2;have hZ:=El h1;clear h1;subst hZ;have hZ:=El h2;clear h2;subst hZ;cases mu with
 | true=>exact .CZ rfl (Ax.Adp q)
 | false=>exact .CZ rfl (Ax.Adq q)
theorem s_iV(hx:Sound c n x):Sound c n (.iV x):=λns mo es W V Q h q=>by
 refine Ad (Bv h) ?_;clear h;rintro e rfl g1;refine Ah (AO g1) ?_;clear g1;intro h1 h2;have e1:=hx.ev (mo:=mo) (CL h1) h2 q;refine .lE rfl λtg ht F P env A s fr ok J=>AN (e1 F P env fr A s ok J) (λv s' hQ=>?_) λZ Z x=>x;obtain⟨F1,Af,a,l1,J1,r1,q⟩:=hQ;cases a with
 | lst xs=>exact AN (Ab4 ok.hh ht J1 r1 q) (λit s2 h2=>ET.mono l1 h2) λZ Z x=>x
 | tup xs=>exact AN (Ab5 ok.hh ht J1 r1 q) (λit s2 h2=>ET.mono l1 h2) λZ Z x=>x
 | BH ks vs=>
  refine Ah q ?_;clear q;rintro(⟨κs,rfl⟩|⟨κs,rfl⟩) q
  ·exact AN (gU (AU.str c) ok.hh ht J1 r1 q) (λit s2 h2=>ET.mono l1 h2) λZ Z x=>x
  ·exact AN (gU (AU.int c) ok.hh ht J1 r1 q) (λit s2 h2=>ET.mono l1 h2) λZ Z x=>x
 | _=>exact q.elim
theorem Afm(O:AE c){k:Nat}(hx:Sound c n x):Sound c n (.FY j k x):=λns mo es W V Q h q=>by
 refine Ad (Bv h) ?_;clear h;rintro e rfl g1;refine Ea (Kb g1) ?_;clear g1;rintro g xs ks p rfl g2;refine Ah (AO g2) ?_;clear g2;intro g3 g4;have hZ:=El g3;clear g3;subst hZ;refine Br (GJ g4) ?_;clear g4;rintro y py rfl g5;refine Ad (Bv g5) ?_;clear g5;rintro a rfl g6;refine Kd g6 λh1 h2 h3 h4=>?_;refine Bq (Sj O h1) ?_;intro a1 a2 a3;have h3:Gk a=false:=by simpa using h3
 exact .lE rfl λtg ht=>EU.call (Ax.gl O a1 a2 ⟨rfl,CD.cons ((hx.ev (CL h2) h4 q).mono λa s q=>CD.nil λF P vs A s ok J r=>by
  refine Ch q ?_;clear q;rintro k rfl hk q;exact Ab7 ht hk ok J r q) h3⟩) a3 (.cons h3 .nil) λZ=>rfl
theorem Afn(O:AE c){k:Nat}(hx:Sound c n x):Sound c n (.IX j k x):=λns mo es W V Q h q=>by
 refine Ad (Bv h) ?_;clear h;rintro e rfl g1;refine Ea (Kb g1) ?_;clear g1;rintro g xs ks p rfl g2;refine Ah (AO g2) ?_;clear g2;intro g3 g4;have hZ:=El g3;clear g3;subst hZ;refine Br (GJ g4) ?_;clear g4;rintro y py rfl g5;refine Ad (Bv g5) ?_;clear g5;rintro a rfl g6;refine Kd g6 λh1 h2 h3 h4=>?_;refine Bq (Sj O h1) ?_;intro a1 a2 a3;have h3:Gk a=false:=by simpa using h3
 exact .lG rfl λtg ht=>EU.call (Ax.gl O a1 a2 ⟨rfl,CD.cons ((hx.ev (CL h2) h4 q).mono λa s q=>CD.nil λF P vs A s ok J r=>by
  cases a with
  | lst xs=>exact Ab8 ht ok J r q
  | _=>exact q.elim) h3⟩) a3 (.cons h3 .nil) λZ=>rfl
theorem Afo(O:AE c){k:Nat}(hx:Sound c n x)(hy:Sound c n y):Sound c n (.MR j k x y):=λns mo es W V Q h q=>by
 refine Ad (Bv h) ?_;clear h;rintro e rfl g1;refine Ea (Kb g1) ?_;clear g1;rintro g xs ks p rfl g2;refine Ah (AO g2) ?_;clear g2;intro g3 g4;have hZ:=El g3;clear g3;subst hZ;refine Br (GJ g4) ?_;clear g4;rintro y py rfl g5;refine Br (fst_eq g5) ?_;clear g5;rintro a xs rfl g6;refine Ad (Bv g6) ?_;clear g6;rintro b rfl g7;refine MX g7 λh1 h2 h3 h4 h5 h6=>?_;refine Bq (Sj O h1) ?_;intro a1 a2 a3;refine Ah (Ek h2) ?_;clear h2;intro k1 k2;have h3:Gk a=false:=by simpa using h3
 have h4:Gk b=false:=by simpa using h4
 exact .lG rfl λtg ht=>EU.call (Ax.gl O a1 a2 ⟨rfl,CD.cons ((hx.ev k1 h5 q).mono λa s q=>CD.cons ((hy.ev k2 h6 q).mono λb s q=>CD.nil λF P vs A s ok J r=>by
  cases a with
  | lst xs=>cases b with
   | lst ys=>exact Ab9 ht ok J r q
   | _=>exact q.elim
  | _=>exact q.elim) h4) h3⟩) a3 (.cons h3 (.cons h4 .nil)) λZ=>rfl
theorem Wr:∀{is:List Nat}{as:List AV}{W:Al},(put W is as).length=W.length
 | [],_,_=>by cases ‹List AV›<;>rfl
 | _::_,[],_=>rfl
 | i::is,a::as,W=>(Wr (is:=is) (as:=as)).trans kR
theorem lM{tt:Bool}{t:Expr}{x:AV}{K:Al->Prop}(ht:MV ns tt tg t=true)(hl:W.length=ns.length)(h:He tt tg W x K):Ff t ns W x (λAp=>K Ap/\Ap.length=ns.length):=by
 cases tt with
 | true=>
  refine B9 (Lq ht) ?_;clear ht;rintro es k p rfl g1;refine Ad (FZ g1) ?_;clear g1;intro ys e g2;cases x with
  | tup as=>exact .tup rfl e rfl (Cn.of g2 hl (Bz.eq h).1) ⟨(Bz.eq h).2,Wr.trans hl⟩
  | _=>exact h.elim
 | false=>
  refine Br (GJ ht) ?_;clear ht;rintro y p rfl g1;have hs:=Cn.of (as:= [x]) g1 hl (Wm g1).symm;have hp:=(Wr (is:=tg) (as:= [x]) (W:=W)).trans hl;unfold He at h;generalize put W tg [x]=Ap at hs h hp;cases hs with
  | cons st s2=>cases s2;exact .name rfl st ⟨h,hp⟩
theorem HW.mono{es:List Expr}{Q Q':Bool->St->Prop}(h:HW c n es sc W V Q)(k:∀a s,Q a s->Q' a s):HW c n es sc W V Q':=by
 cases es with
 | nil=>exact k _ _ h
 | cons e r=>cases r with
  | nil=>exact B0.mono h k
  | cons _ _=>exact h.elim
theorem Ff.mono{t:Expr}{x:AV}{K K':Al->Prop}(h:Ff t ns W x K)(k:∀Ap,K Ap->K' Ap):Ff t ns W x K':=by
 cases h with
 | name e s q=>exact .name e s (k _ q)
 | tup e1 e2 e3 s q=>exact .tup e1 e2 e3 s (k _ q)
theorem Ws(h:Sf sc=true):sc=BL sc.names sc.more/\(sc.names.map (·.1)).Nodup:=by
 refine Kd h λh1 h2 h3 h5=>?_;obtain⟨k,nm,g,co,mo⟩:=sc;have hZ:=eq_of_beq h1;clear h1;subst hZ;cases g with
 | true=>exact AJ h2
 | false=>cases co with
  | true=>exact AJ h3
  | false=>exact⟨rfl,of_decide_eq_true h5⟩
theorem Afp(sc:BF):(Hh sc).map (·.1)=sc.names.map (·.1):=bP sc
theorem lN{x:Str}:∀{names:Ns}{Cg:List (Option Nat)},Sg ns names Cg=true->(x,D9)∈names->∃i:Nat,ns[i]?=some (x,.cell)
 | [],_,_,h=>by cases h
 | (y,k)::r,Cg,h,hm=>by
  refine Br (fst_eq h) ?_;clear h;rintro o q rfl h;refine Ah (AO h) ?_;clear h;intro h hr;rcases Bo.mp hm with e|hm
  ·cases e;cases o with
   | none=>simp at h
   | some i=>
    refine Ah (AO h) ?_;clear h;intro _ h3;refine Ad (FZ h3) ?_;clear h3;intro hZ;obtain⟨y,k'⟩:=hZ;intro e h3;refine Ah (AO h3) ?_;clear h3;intro h4 h5;have hZ:=eq_of_beq h4;clear h4;subst hZ;have hZ:=eq_of_beq h5;clear h5;subst hZ;exact⟨i,e⟩
  ·exact lN hr hm
theorem lP{ys:List Str}(nd:(ns.map (·.1)).Nodup)(h:D3 ns tg ys=true)(ha:Wi ns tg=true):∀y∈ys,ns.lookup y=some .local:=by
 induction tg generalizing ys with
 | nil=>have hZ:=El h;clear h;subst hZ;exact λy hy=>by cases hy
 | cons i is ih=>
  refine Br (fst_eq h) ?_;clear h;rintro x xs rfl h;refine Ah (AO h) ?_;clear h;intro h1 h2;refine Ah (AO ha) ?_;clear ha;intro a1 a2;intro y hy;rcases Bo.mp hy with rfl|hy
  ·refine Ad (Pm h1) ?_;clear h1;intro k e _;refine Ad (FZ a1) ?_;clear a1;intro p e2 h3;replace e2:=e▸e2;replace e2:=Ay e2;subst e2;have hZ:=eq_of_beq h3;clear h3;subst hZ;exact ID nd e
  ·exact ih h2 a2 y hy
theorem Afq{tt:Bool}{t:Expr}(nd:(ns.map (·.1)).Nodup)(ht:MV ns tt tg t=true)(ha:Wi ns tg=true):∀y∈Rw t,ns.lookup y=some .local:=by
 cases tt with
 | true=>
  refine B9 (Lq ht) ?_;clear ht;rintro es k p rfl g1;refine Ad (FZ g1) ?_;clear g1;intro ys e g2;show ∀y∈(EN es).getD [],_;exact Aa e<|lP nd g2 ha
 | false=>
  refine Br (GJ ht) ?_;clear ht;rintro y p rfl g1;exact lP nd g1 ha
theorem lQ{tt:Bool}{t:Expr}(ht:MV ns tt tg t=true):FU t/\(tt=true->JR t):=by
 cases tt with
 | true=>
  refine B9 (Lq ht) ?_;clear ht;rintro es k p rfl g1;exact⟨.tup _ _ _,λZ=>.tup _ _ _⟩
 | false=>
  refine Br (GJ ht) ?_;clear ht;rintro y p rfl g1;exact⟨.name _ _,λe=>by exact AJ e⟩
theorem Sound.io(h:Sound c n x){tt:Bool}{ms:Ns}{t:Expr}(k:(k1 x 3 || (k1 x 4&&tt))=true)(ht:MV ms tt tg t=true)(hc:AX x ns [e]=true)(q:vc c n x W V Q):EU c n e t (BL ns mo) W V (λxs s=>Q (.tup xs) s):=by
 rcases(Jz _ _).mp k with k|k
 ·exact(h _ _ _ _ _ _ hc q).it (CL k) _ _ rfl (lQ ht).1
 ·refine Ah (AO k) ?_;clear k;intro k k2;exact(h _ _ _ _ _ _ hc q).iz (CL k) _ _ rfl ((lQ ht).2 k2)
theorem Sound.ifs(h:Sound c n x){es:List Expr}(k:(k1 x 1 || k1 x 6)=true)(hc:AX x ns es=true)(q:vc c n x W V Q):HW c n es (BL ns mo) W V (λb s=>Q (.bool b) s):=by
 rcases(Jz _ _).mp k with k|k
 ·have m:=h _ mo _ _ _ _ hc q;refine Ad (m.is (CL k)) ?_;rintro e rfl w;exact w
 ·refine Ah ((h _ mo _ _ _ _ hc q).no (CL k)) ?_;rintro rfl q;exact q
theorem lR{env:Env}(h:(!(e.ctorIdx==7))=true):KF e env v=pure v:=by unfold KF;exact Afa (lK h)
theorem lS{tt:Bool}{tg:List Nat}{Cg:List (Option Nat)}{elt it Cj:PE}(he:Sound c n elt)(hi:Sound c n it)(hc:Sound c n Cj){e t i:Expr}{ifs:List Expr}{sc:BF}{N:List AV->St->Prop}
  (h1:(kN elt it Cj tt&&kO ns sc tt Cg tg t i)=true) (h2:(AX it ns [i]&&AX Cj (Hh sc) ifs&&AX elt (Hh sc) [e])=true)
  (q:vc c n it W V λv Af=>E2 v λxs=>MT (vc c n elt) (vc c n Cj) tt tg (O7 Cg W) xs Af N):(∀env v,KF i env v=pure v)/\((ns.map (·.1)).Nodup->K7 sc (BL ns mo) t)/\Ow c n e t i ifs sc (BL ns mo) W V N:=by
 refine Ah (AO h1) ?_;clear h1;intro a1 a2;refine GK a1 λc11 c10 c9=>?_;refine H3 a2 λc8 c7 c6 c5 c4=>?_;refine GK h2 λc3 c2 c1=>?_;refine Ah (Ws c7) ?_;clear c7;intro es nd;have er:Dv sc=BL (Hh sc) sc.more:=Aa es rfl;have nd':((Hh sc).map (·.1)).Nodup:=Aa (Afp _)<|nd;refine⟨λenv v=>lR c8,λndo=>⟨Aa es rfl,nd,λx hx=>?_,Aa er<|Afq nd' c5 c4⟩,?_⟩
 ·refine Ar (lN c6 hx) ?_;intro j hj;exact ID ndo hj
 ·refine(hi.io c10 c5 c3 q).mono λxs s q=>?_;refine Ah q ?_;clear q;intro hz q;obtain⟨ρ0,e0,I,i0,st,fin⟩:=Aez q;have hC:=Fg.of c6 e0;refine⟨hz,ρ0,I,hC,i0,λj x ys DZ hx hI=>?_,fin⟩;refine Aa er ?_;have hl:ρ0.length=(Hh sc).length:=by refine Aa (hC.facts.1) ?_;unfold Hh;exact Aa (Ai _) rfl
  refine(lM c5 hl (st j x ys DZ hx hI)).mono λAp q=>?_;exact HW.mono (hc.ifs c9 c2 q.1) λb s q=>sel q (λq=>he.ev (CL c11) c1 q) id
theorem Afr{mu tt:Bool}{elt it Cj:PE}(he:Sound c n elt)(hi:Sound c n it)(hc:Sound c n Cj):Sound c n (.comp mu tt tg Cg elt it Cj):=λns mo es W V Q h q=>by
 refine Ad (Bv h) ?_;clear h;rintro e rfl g1;refine Ea (kG g1) ?_;clear g1;rintro e0 gs sc p rfl g2;refine Ad (Bv g2) ?_;clear g2;intro hZ;obtain⟨t,i,ifs,as⟩:=hZ;rintro rfl g3;refine Ah (AO g3) ?_;clear g3;intro h h2;refine Ah (AO h) ?_;clear h;intro h h1;have hZ:=eq_of_beq h;clear h;subst hZ;obtain⟨w1,w2,w3⟩:=lS he hi hc h1 h2 q;refine .CZ rfl λF P env fr=>?_;cases mu with
 | true=>exact Ax.Acg (w2 fr.nd) w3 w1 F P env fr
 | false=>exact Ax.comp (w2 fr.nd) w3 w1 F P env fr
theorem sound(O:AE c):∀p:PE,Sound c n p
 | .v _=>s_v
 | .gi ..=>s_gi O
 | .int _=>AeP
 | .str _=>AeQ
 | .bool _=>s_bool
 | .no=>s_no
 | .bin _ x y=>AeR (sound O x) (sound O y)
 | .neg x=>AeS (sound O x)
 | .O4 x=>AeT (sound O x)
 | .cmp _ x y=>AeU (sound O x) (sound O y)
 | .ite x y z=>AeW (sound O x) (sound O y) (sound O z)
 | .G5 x y=>AeX (sound O x) (sound O y)
 | .Ll x y z=>AeY (sound O x) (sound O y) (sound O z)
 | .call _ _ _ x=>s_call O (sound O x)
 | .BU x _ _ y=>Afb (sound O x) (sound O y)
 | .Bg x _ _ y=>Afc O (sound O x) (sound O y)
 | .attr x _ _ _=>Afe O (sound O x)
 | .sub x y=>Aff (sound O x) (sound O y)
 | .slice _ x y z w=>Afh (sound O x) (sound O y) (sound O z) (sound O w)
 | .lst _ x=>Afj (sound O x)
 | .tup x=>Afk (sound O x)
 | .dict _=>Afl
 | .comp _ _ _ _ x y z=>Afr (sound O x) (sound O y) (sound O z)
 | .AW _ x y=>AeV (sound O x) (sound O y)
 | .IW x=>AeZ (sound O x)
 | .FX x y=>Ae0 (sound O x) (sound O y)
 | .J0 x y=>Ae1 (sound O x) (sound O y)
 | .O5 x y z=>Ae2 (sound O x) (sound O y) (sound O z)
 | .E0 x=>Ae4 (sound O x)
 | .CK=>Ae5
 | .nil=>Ae6
 | .cons x y=>Ae8 (sound O x) (sound O y)
 | .iV x=>s_iV (sound O x)
 | .FY _ _ x=>Afm O (sound O x)
 | .IX _ _ x=>Afn O (sound O x)
 | .MR _ _ x y=>Afo O (sound O x) (sound O y)
 | .BP=>Ae9
 | .pI x=>s_pI (sound O x)
 | .dead=>Afi
end
theorem cmp3(h:(!MW e)=true):YQ (λZ=>Option BF) e (λZ Z s Z=>some s) (λZ Z s Z=>some s) (λZ Z Z s Z=>some s) (λZ=>none)=none:=by cases e<;>first | rfl | exact AJ h
theorem Wt{t:Option Expr}{line:Nat}{env:Env}(h:(!MW e)=true):Jx e t line env=pure false:=by unfold Jx;exact Aa (cmp3 h) rfl
theorem lT{ns:Ns}{t:Str}{pt:Pos}{line:Nat}{env:Env}(he:env.scope=BL ns mo)(h1:(!(e.ctorIdx==9))=true)(h2:(!(e.ctorIdx==10))=true):Jx e (some (.Name t pt)) line env=pure (Pj ns t pt e):=by
 by_cases k:e.ctorIdx=8
 ·obtain⟨a,gs,sc,p,rfl⟩:∃a gs sc p,e= .ListComp a gs sc p:=YK (motive_1:=λe=>∃a gs sc p,e= .ListComp a gs sc p) e k λa gs sc p=>⟨a,gs,sc,p,rfl⟩;obtain⟨⟩:=env;subst he;rfl
 ·have:Pj ns t pt e=false:=dif_neg k;exact Aa this<|Wt (by unfold MW;exact Aa (Abc _ _)<|Aa (Abc _ _)<|Aa h1<|Aa h2<|Aa (beq_false_of_ne k) rfl)
theorem lU{t:Expr}{line:Nat}{env:Env}(h:t.ctorIdx=20\/t.ctorIdx=21):Jx e (some t) line env=pure false:=by
 unfold Jx;rcases h with h|h
 ·obtain⟨a,b,d,rfl⟩:∃a b d,t= .Attribute a b d:=Uu (motive_1:=λt=>∃a b d,t= .Attribute a b d) t h λa b d=>⟨a,b,d,rfl⟩;generalize YQ (λZ=>Option BF) e (λZ Z s Z=>some s) (λZ Z s Z=>some s) (λZ Z Z s Z=>some s) (λZ=>none)=o;cases o<;>rfl
 ·obtain⟨a,b,d,rfl⟩:∃a b d,t= .Subscript a b d:=Uv (motive_1:=λt=>∃a b d,t= .Subscript a b d) t h λa b d=>⟨a,b,d,rfl⟩;generalize YQ (λZ=>Option BF) e (λZ Z s Z=>some s) (λZ Z s Z=>some s) (λZ Z Z s Z=>some s) (λZ=>none)=o;cases o<;>rfl
theorem Afs(k:¬e.ctorIdx=23){f:Str->Pos->Option Str}:Abd (λZ=>Option Str) e f (λZ=>none)=none:=by cases e<;>first | rfl | exact absurd rfl k
theorem lV{ns:Ns}{env:Env}{l:Nat}(hk:∀x,env.kindOf x=ns.lookup x)(e:Expr):Abd (λZ=>Option Str) e (λid pos=>if env.kindOf id==some .local&&pos.line==l then some id else none) (λZ=>none)=(if E3 e (λid pos=>ns.lookup id==some .local&&pos.line==l) then(EN [e]).bind YL else none):=by
 by_cases k:e.ctorIdx=23
 ·obtain⟨x,p,rfl⟩:∃x p,e= .Name x p:=NF (motive_1:=λe=>∃x p,e= .Name x p) e k λx p=>⟨x,p,rfl⟩;show(if env.kindOf x==some .local&&p.line==l then some x else none)=_;exact Aa (hk _) rfl
 ·have e1:E3 e (λid pos=>ns.lookup id==some .local&&pos.line==l)=false:=dif_neg k;exact Aa e1<|Afs k
theorem lX(e:Expr):AlQ (λZ=>Bool) e (λZ Z=>true) (λZ=>false)=isStar e:=by cases e<;>rfl
theorem sw_t{k:Nat}{tp:Pos}(h:¬e.ctorIdx=25):AlR (λZ Z=>Option (List Expr×List Expr)) [Expr.Tuple ts k tp] e (λts Z Z vs Z Z=>some (ts,vs)) (λts Z vs Z Z=>some (ts,vs)) (λZ Z=>none)=none:=by cases e<;>first | rfl | exact absurd rfl h
theorem lY{ns:Ns}{f:Expr->Option Str}(hf:∀e,f e=(if E3 e (λid pos=>ns.lookup id==some .local&&pos.line==kP ts) then(EN [e]).bind YL else none)):GV f ts=Sh ns ts:=congrArg (λf=>GV f ts) (funext hf)
theorem lZ{vs:List Expr}{f:Expr->Bool}(hf:∀e,f e=isStar e):NS vs f=vs.any isStar:=congrArg (λf=>NS vs f) (funext hf)
theorem if3{α:Type}{a b c:Bool}{x y:α}(h:a=true\/b=true\/c=true):(if a=true then x else if b=true then x else if c=true then x else y)=x:=by
 rcases h with rfl|rfl|rfl
 ·rfl
 ·cases a<;>rfl
 ·cases a<;>cases b<;>rfl
theorem if5{α:Type}{a b c d e:Bool}{x y z:α}(h:a=false/\b=false/\c=false/\d=false/\e=false):(if a=true then x else if b=true then x else if c=true then x else if d=true then x else if e=true then y else z)=z:=by refine Mo h ?_;clear h;rintro rfl rfl rfl rfl rfl;rfl
theorem RT{ns:Ns}{env:Env}(he:env.scope=BL ns mo):(env.blockKind != .function)=false/\ ∀x,env.kindOf x=ns.lookup x:=by unfold Env.blockKind Qo;exact Aa he<|⟨rfl,λZ=>rfl⟩
theorem Aft{ns:Ns}{k:Nat}{tp:Pos}{xs:List Str}{env:Env}(he:env.scope=BL ns mo)(h:kQ ns ts xs e=true):Qt [.Tuple ts k tp] e env=pure (some xs):=by refine B9 (Lq h) ?_;clear h;rintro vs k2 p rfl h;refine Ah (RT he) ?_;clear he;intro hb hk;refine Si h λh1 h2 h3 h4 h5 h6 h7 h8=>?_;refine HG (b:=if(!(ts.length==2 || ts.length==3) || vs.length !=ts.length || env.blockKind != .function)=true then pure none else if NS vs _=true then pure none else if((GV _ ts).length !=ts.length || (GV _ ts).eraseDups.length !=(GV _ ts).length)=true then pure none else if vs.all (YM 8)=true then pure none else if vs.all (YN 8)=true then _ else pure (some (GV _ ts))) rfl ?_;refine Aa hb<|Aa (QD _) ?_;generalize hF:GV _ ts=N;have eN:=hF.symm.trans (lY (ns:=ns) (lV hk));replace eN:=(eq_of_beq h4)▸eN;subst eN;generalize hA:NS vs _=B;have eB:=hA.symm.trans (lZ lX);refine if5 ⟨by simp[bne,h1,h2],by refine Aa eB ?_;simpa using h3,by simp[bne,h5,h6],by simpa using h7,by simpa using h8⟩
theorem Afu{ns:Ns}{k:Nat}{tp:Pos}{env:Env}(he:env.scope=BL ns mo)(h:Wj ns ts e=true):Qt [.Tuple ts k tp] e env=pure none:=by
 by_cases hk:e.ctorIdx=25
 ·have h:Kc e (λvs=>!(ts.length==2 || ts.length==3) || vs.length !=ts.length || vs.any isStar || (Sh ns ts).length !=ts.length)=true:=by unfold Wj at h;replace h:=hk▸h;exact h
  refine B9 (Lq h) ?_;clear h;rintro vs k2 p rfl h;refine Ah (RT he) ?_;clear he;intro hb hk;refine HG (b:=if(!(ts.length==2 || ts.length==3) || vs.length !=ts.length || env.blockKind != .function)=true then pure none else if NS vs _=true then pure none else if((GV _ ts).length !=ts.length || (GV _ ts).eraseDups.length !=(GV _ ts).length)=true then pure none else if vs.all (YM 8)=true then pure none else if vs.all (YN 8)=true then _ else pure (some (GV _ ts))) rfl ?_;refine Aa hb<|Aa (QD _) ?_;generalize hF:GV _ ts=N;have eN:=hF.symm.trans (lY (ns:=ns) (lV hk));generalize hA:NS vs _=B;have eB:=hA.symm.trans (lZ lX);subst eN;subst eB;refine if3 ?_;rcases(Jz _ _).mp h with h|h
  ·rcases(Jz _ _).mp h with h|h
   ·exact .inl h
   ·exact .inr (.inl h)
  ·exact .inr (.inr (by exact Aa h rfl))
 ·unfold Qt;exact Aa (sw_t hk) rfl
section
variable{c:Cx}{n:Nat}{p:PE}{ns:Ns}{mo:List (Str×GR)}{ss:List Stmt}{W:Al}{V:St}{Q:Fl->Al->St->Prop}{x y z:PE}{e a b d:Expr}
theorem BE.pre(h:W.length=ns.length->BE c n ss (BL ns mo) W V Q):BE c n ss (BL ns mo) W V Q:=λF P env A s fr=>h fr.ln F P env A s fr
theorem BE.len(h:BE c n ss (BL ns mo) W V Q):BE c n ss (BL ns mo) W V (λfl r s=>Q fl r s/\r.length=ns.length):=λF P env A s fr ok I=>
 AN (h F P env A s fr ok I) (λfl s' hQ=>by obtain⟨F',P',Aq,Ap,HN,a,b,d,e,f,g⟩:=hQ;exact⟨F',P',Aq,Ap,HN,a,b,d,e,f,g,e.ln⟩) λZ Z x=>x
def Co(c:Cx)(n:Nat)(p:PS):Prop:=∀ns mo ss W V Q,Do p ns ss=true->vs c n p W V Q->BE c n ss (BL ns mo) W V Q
theorem BE.go{st:Stmt}{rest:List Stmt}{R:Al->St->Prop}(h:BK c n st (BL ns mo) W V (λf r s=>f= .next/\R r s))(k:∀r s,R r s->BE c n rest (BL ns mo) r s Q):BE c n (st::rest) (BL ns mo) W V Q:=
 BE.cons (h.mono λf r s hQ=>by refine Ah hQ ?_;clear hQ;intro e hr;subst e;exact k r s hr)
variable{r s t:PS}
theorem Afv:Co c n .nil:=λns mo ss W V Q h q=>by have hZ:=El h;clear h;subst hZ;exact BE.nil q
theorem Afw(hx:Sound c n x)(hr:Co c n r):Co c n (.asg i x r):=λns mo ss W V Q h q=>by
 refine Br (fst_eq h) ?_;clear h;rintro st rest rfl g1;refine B9 (Ph g1) ?_;clear g1;rintro ts v p rfl g2;refine Ad (Bv g2) ?_;clear g2;rintro t rfl g3;refine Br (GJ g3) ?_;clear g3;rintro nm px rfl g4;refine Pl g4 λg4 h2 h3 h4 h5 h6 h7=>?_;refine Ad (Pm g4) ?_;clear g4;intro k e1 e2;have h4:Pj ns nm px v=false:=by simpa using h4
 refine BE.pre λhl=>BE.go (R:=λr' s=>vs c n r r' s Q) (BK.name ((hx.ev (CL h5) h6 q).mono λa s q=>⟨_,DV.of e1 e2 hl,rfl,q⟩) λenv he=>?_) λr' s q=>hr _ _ _ _ _ _ h7 q;exact Aa (lT he h2 h3)<|Aa h4 rfl
theorem Afx(O:AE c)(hx:∀y,Sound c n y)(hr:Co c n r):Co c n (.Hc i x r):=λns mo ss W V Q h q=>by
 refine Br (fst_eq h) ?_;clear h;rintro st rest rfl g1;refine B9 (Ph g1) ?_;clear g1;rintro ts v p rfl g2;refine Ad (Bv g2) ?_;clear g2;rintro t rfl g3;refine Br (GJ g3) ?_;clear g3;rintro nm px rfl g4;refine MX g4 λg4 h3 h4 h5 h6 h7=>?_;refine Ad (Pm g4) ?_;clear g4;intro k e1 e2;have h3:ns.lookup nm=some .local:=eq_of_beq h3;refine e6_1 (Aev h5) ?_;clear h5;rintro tt tg Cg elt it Cj rfl;refine Ad (Bv h6) ?_;clear h6;intro e he f1;cases he;refine Ea (kG f1) ?_;clear f1;rintro e0 gs sc pe rfl f2;refine Ad (Bv f2) ?_;clear f2;intro hZ;obtain⟨t,i2,ifs,as⟩:=hZ;rintro rfl f3;refine Ah (AO f3) ?_;clear f3;intro h h2;refine Ah (AO h) ?_;clear h;intro h h1;have hZ:=eq_of_beq h;clear h;subst hZ;obtain⟨w1,w2,w3⟩:=lS (N:=λys s=>vs c n r (IY W i (.lst ys)) s Q) (hx elt) (hx it) (hx Cj) h1 h2 q;refine BE.pre λhl=>BE.go (R:=λr' s=>vs c n r r' s Q) (λF P env A s fr=>?_) λr' s q=>hr _ _ _ _ _ _ h7 q;refine BK.Ach (w2 fr.nd) h3 (EU.mono w3 λxs s hQ=>by obtain⟨hz,ρ0,I,b1,b2,b3,b4⟩:=hQ;exact⟨hz,ρ0,I,b1,b2,b3,λys C4 hy hI=>⟨_,DV.of e1 e2 hl,rfl,b4 ys C4 hy hI⟩⟩) w1 (λenv he=>?_) F P env A s fr;exact(lT he rfl rfl).trans (congrArg pure h4)
theorem mA{t v:Expr}{line:Nat}{env:Env}(h:(!MW v)=true):TC [t] v line env=pure false:=Wt h
theorem mB{sw:Bool}{is:List Nat}{xs:List Str}{as:List AV}(h:D3 ns is xs=true)(hl:W.length=ns.length)(ha:as.length=is.length):
  (sw=true->Cn ns W xs.reverse as.reverse (Pb sw W is as))/\(sw=false->Cn ns W xs as (Pb sw W is as)):=by
 cases sw with
 | true=>exact⟨λZ=>Cn.of (kU h) hl (by simp[ha]),(λe=>nomatch e)⟩
 | false=>exact⟨(λe=>nomatch e),λZ=>Cn.of h hl ha⟩
theorem Afy(hx:Sound c n x)(hr:Co c n r){sw:Bool}{is:List Nat}:Co c n (.tup sw is x r):=λns mo ss W V Q h q=>by
 refine Br (fst_eq h) ?_;clear h;rintro st rest rfl g1;refine B9 (Ph g1) ?_;clear g1;rintro ts v p rfl g2;refine Ad (Bv g2) ?_;clear g2;rintro t rfl g3;refine B9 (Lq g3) ?_;clear g3;rintro es k px rfl g4;refine Ad (FZ g4) ?_;clear g4;intro xs hn g5;refine MX g5 λh1 h2 h3 h4 h5 h6=>?_;refine BE.pre λhl=>BE.go (R:=λr' s=>vs c n r r' s Q) ?_ λr' s q=>hr _ _ _ _ _ _ h6 q;have e1:Ax c n v (BL ns mo) W V (λa s=>∃as,a= .tup as/\as.length=is.length/\vs c n r (Pb sw W is as) s Q):=(hx.ev (CL h2) h5 q).mono λa s q=>by
  refine Ad (Ae7 q) ?_;clear q;intro as e q;exact⟨as,e,Bz.eq q⟩
 cases sw with
 | true=>exact BK.tupS (xs:=xs) (e1.mono λa s hQ=>by refine Ch hQ ?_;clear hQ;intro as e ha q;exact⟨as,_,e,ha.trans (Wm h1),(mB h1 hl ha).1 rfl,rfl,q⟩) (λenv=>mA h3) λenv he=>Aft he h4
 | false=>exact BK.tup (xs:=xs) (e1.mono λa s hQ=>by refine Ch hQ ?_;clear hQ;intro as e ha q;exact⟨as,_,e,(mB h1 hl ha).2 rfl,rfl,q⟩) hn (λenv=>mA h3) λenv he=>Afu he h4
theorem Afz(hx:Sound c n x)(hy:Sound c n y)(hz:Sound c n z)(hr:Co c n r):Co c n (.Ej x y z r):=λns mo ss W V Q h q=>by
 refine Br (fst_eq h) ?_;clear h;rintro st rest rfl g1;refine B9 (Ph g1) ?_;clear g1;rintro ts v p rfl g2;refine Ad (Bv g2) ?_;clear g2;rintro t rfl g3;refine B9 (V9 g3) ?_;clear g3;rintro a b px rfl g4;refine Pl g4 λh1 h2 h3 h4 h5 h6 h7=>?_;refine Ah (Ek h2) ?_;clear h2;intro k1 k2;exact BE.go (R:=λr' s=>vs c n r r' s Q) (BK.AbL ((hx.ev (CL h1) h4 q).mono λa s q=>(hy.ev k1 h5 q).mono λa s q=>(hz.ev k2 h6 q).mono λa s q F P ov iv vv r1 r2 r3=>(q F P ov iv vv r1 r2 r3).mono λZ s q=>⟨rfl,q⟩) λenv=>lU (.inr rfl)) λr' s q=>hr _ _ _ _ _ _ h7 q
theorem AfA(O:AE c)(hx:Sound c n x)(hy:Sound c n y)(hr:Co c n r){k:Nat}:Co c n (.AQ x y nm k Cs r):=λns mo ss W V Q h q=>by
 refine Br (fst_eq h) ?_;clear h;rintro st rest rfl g1;refine B9 (Ph g1) ?_;clear g1;rintro ts v p rfl g2;refine Ad (Bv g2) ?_;clear g2;rintro t rfl g3;refine B9 (Pe g3) ?_;clear g3;rintro a b px rfl g4;refine Pl g4 λh1 h2 h3 h4 h5 h6 h7=>?_;have hZ:=eq_of_beq h1;clear h1;subst hZ;refine Ah (Ek h2) ?_;clear h2;intro k1 k2;exact BE.go (R:=λr' s=>vs c n r r' s Q) (BK.setAttr ((hx.ev k1 h5 q).mono λa s q=>(hy.ev k2 h6 q).mono λa s q=>λF P ov vv r1 r2=>(AeN O h4 q F P ov vv r1 r2).mono λZ s q=>⟨rfl,q⟩) λenv=>(lU (e:=v) (t:= .Attribute a (.ofString nm) px) (line:=p.line) (env:=env) (.inl rfl))) λr' s q=>hr _ _ _ _ _ _ h7 q
theorem t_ex(hx:Sound c n x)(hr:Co c n r):Co c n (.ex x r):=λns mo ss W V Q h q=>by
 refine Br (fst_eq h) ?_;clear h;rintro st rest rfl g1;refine Br (kI g1) ?_;clear g1;rintro v p rfl g2;refine Kd g2 λh1 h2 h3 h4=>?_;exact BE.go (R:=λr' s=>vs c n r r' s Q) (BK.expr ((hx.ev (CL h1) h3 q).mono λa s q=>by
  cases a with
  | none=>exact⟨rfl,rfl,q⟩
  | _=>exact q.elim) λenv=>Wt h2) λr' s q=>hr _ _ _ _ _ _ h4 q
theorem AfB(hr:Co c n r){rest:List Stmt}(h:Do r ns rest=true){fl:Fl}:nx (vs c n r) Q fl W V->(match fl with | .next=>BE c n rest (BL ns mo) W V Q | f=>Q f W V:Prop):=λq=>by
 cases fl with
 | next=>exact hr _ _ _ _ _ _ h q
 | _=>exact q
theorem AfC(hx:Sound c n x)(hs:Co c n s)(ht:Co c n t)(hr:Co c n r):Co c n (.iff x s t r):=λns mo ss W V Q h q=>by
 refine Br (fst_eq h) ?_;clear h;rintro st rest rfl g1;refine Ea (Aer g1) ?_;clear g1;rintro e a b p rfl g2;refine H3 g2 λh1 h2 h3 h4 h5=>?_;exact BE.cons ((BK.if ((hx.is (CL h1) h2 q).mono λb Aq q=>sel q (λq=>hs _ _ _ _ _ _ h3 q) (λq=>ht _ _ _ _ _ _ h4 q))).mono λf r' s q=>AfB hr h5 q)
theorem AfD(hx:Sound c n x):Co c n (.ret x):=λns mo ss W V Q h q=>by
 refine Br (fst_eq h) ?_;clear h;rintro st rest rfl g1;refine Br (kJ g1) ?_;clear g1;rintro v p rfl g2;refine Ad (FZ g2) ?_;clear g2;rintro v rfl g3;refine Ah (AO g3) ?_;clear g3;intro h1 h2;exact BE.cons (BK.ret ((hx.ev (CL h1) h2 q).mono λa s q=>q))
theorem AfE:Co c n .O6:=λns mo ss W V Q h q=>by
 refine Br (fst_eq h) ?_;clear h;rintro st rest rfl g1;refine Br (kJ g1) ?_;clear g1;rintro v p rfl g2;cases v with
 | none=>exact BE.cons (BK.AbJ q)
 | some v=>exact AJ g2
theorem AfF:Co c n .brk:=λns mo ss W V Q h q=>by
 refine Br (fst_eq h) ?_;clear h;rintro st rest rfl g1;refine Ad (Aeu g1) ?_;clear g1;rintro p rfl g2;exact BE.cons (BK.brk q)
theorem AfG(hr:Co c n r):Co c n (.Lm r):=λns mo ss W V Q h q=>by
 refine BS q ?_;clear q;intro Ap τ h1 h2 q;exact BE.freeze h1 h2 (hr _ _ _ _ _ _ h q)
theorem Sk:∀{W:Al}{i:Nat},(RZ W i).length=W.length/\ ∀(j:Nat) v,(RZ W i)[j]?=some (some v)->W[j]?=some (some v)
 | [],_=>⟨rfl,λj v h=>h⟩
 | _::r,0=>⟨rfl,λj v h=>by cases j with
  | zero=>cases h
  | succ j=>exact h⟩
 | o::r,i+1=>⟨congrArg (· +1) (Sk (W:=r) (i:=i)).1,λj v h=>by cases j with
  | zero=>exact h
  | succ j=>exact(Sk (W:=r) (i:=i)).2 j v h⟩
theorem Sl:∀{is:List Nat}{W:Al},(R4 W is).length=W.length/\ ∀(j:Nat) v,(R4 W is)[j]?=some (some v)->W[j]?=some (some v)
 | [],_=>⟨rfl,λZ Z h=>h⟩
 | i::is,W=>⟨(Sl (is:=is)).1.trans Sk.1,λj v h=>Sk.2 j v ((Sl (is:=is)).2 j v h)⟩
theorem AfH(hr:Co c n r){is:List Nat}:Co c n (.DI is r):=λns mo ss W V Q h q F P env A s fr ok I=>
 hr _ _ _ _ _ _ h q F P env A s (fr.less Sl.1 Sl.2) ok I
theorem t_wh(hx:Sound c (n+1) x)(hs:Co c (n+1) s)(hr:Co c (n+1) r):Co c (n+1) (.wh x s r):=λns mo ss W V Q h q=>by
 refine Br (fst_eq h) ?_;clear h;rintro st rest rfl g1;refine Ea (Aes g1) ?_;clear g1;rintro e a b p rfl g2;refine H3 g2 λh0 h1 h2 h3 h4=>?_;have hZ:=El h0;clear h0;subst hZ;refine Br q ?_;clear q;intro I m i0 tn;refine BE.cons (BK.while ?_);induction m using Nat.strongRecOn generalizing W V with
 | ind m ih=>
  refine Mt.turn ((hx.is (CL h1) h2 (tn m W V i0)).mono λb Aq q=>sel q (λq=>(hs _ _ _ _ _ _ h3 q).mono λfl r' s q=>?_) λq=>hr _ _ _ _ _ _ h4 q);cases fl with
  | next=>refine Ad q ?_;clear q;intro m' hm q;exact ih m' hm _ _ q
  | cont=>refine Ad q ?_;clear q;intro m' hm q;exact ih m' hm _ _ q
  | brk=>exact hr _ _ _ _ _ _ h4 q
  | ret a=>exact q
theorem AfI(hx:Sound c n x)(hs:Co c n s)(hr:Co c n r){tt:Bool}:Co c n (.for tt tg x s r):=λns mo ss W V Q h q=>by
 refine Br (fst_eq h) ?_;clear h;rintro st rest rfl g1;refine Q9 (Aet g1) ?_;clear g1;rintro e i a b p rfl g2;refine Pl g2 λh0 h1 h2 h3 h4 h5 h6=>?_;have hZ:=El h0;clear h0;subst hZ;refine BE.pre λhl=>BE.cons (BK.for ((hx.io h1 h3 h4 q).mono λxs Af q=>?_) λenv v=>lR h2);refine Ch q ?_;clear q;intro I i0 st fin;refine⟨λi r' s=>I i r' s/\r'.length=ns.length,⟨i0,hl⟩,λi x FE DZ hx ⟨hI,hl⟩=>(lM h3 hl (st i x FE DZ hx hI)).mono λAp q=>(hs _ _ _ _ _ _ h5 q.1).len.mono λfl r' s hQ=>?_,λHV C4 hI=>hr _ _ _ _ _ _ h6 (fin _ _ hI.1)⟩;refine Ah hQ ?_;clear hQ;intro q hl;cases fl with
 | next=>exact⟨q,hl⟩
 | cont=>exact⟨q,hl⟩
 | brk=>exact hr _ _ _ _ _ _ h6 q
 | ret a=>exact q
theorem Em(O:AE c):∀p:PS,Co c (n+1) p
 | .nil=>Afv
 | .asg _ x r=>Afw (sound O x) (Em O r)
 | .Hc _ x r=>Afx O (sound O) (Em O r)
 | .tup _ _ x r=>Afy (sound O x) (Em O r)
 | .Ej x y z r=>Afz (sound O x) (sound O y) (sound O z) (Em O r)
 | .AQ x y _ _ _ r=>AfA O (sound O x) (sound O y) (Em O r)
 | .ex x r=>t_ex (sound O x) (Em O r)
 | .iff x s t r=>AfC (sound O x) (Em O s) (Em O t) (Em O r)
 | .wh x s r=>t_wh (sound O x) (Em O s) (Em O r)
 | .for _ _ x s r=>AfI (sound O x) (Em O s) (Em O r)
 | .ret x=>AfD (sound O x)
 | .O6=>AfE
 | .brk=>AfF
 | .fail=>λZ Z Z Z Z Z Z q=>q.elim
 | .Lm r=>AfG (Em O r)
 | .DI _ r=>AfH (Em O r)
end
def Bk(P:AK)(fd:Kz)(k:Nat)(xs:List Str)(Db:List Ac):Prop:=∀vs s,vs.length=k->(Hd.K P).In s.heap->BindsTo s fd ⟨vs,[]⟩ (xs.zip (vs++Db))
section
variable{P:AK}{fd:Kz}{x y z u v w t q:Str}
noncomputable def Sm:Nat->(List Ac->Prop)->Prop
 | 0,p=>p []
 | n+1,p=>∀a,Sm n λl=>p (a::l)
theorem mD:∀{p:List Ac->Prop},Sm n p->∀l,l.length=n->p l:=by
 induction n with
 | zero=>intro p h l hl;exact Aa (Ug.mp hl)<|h
 | succ n ih=>
  intro p h l hl;cases l with
  | nil=>exfalso;injection hl
  | cons a l=>exact ih (h a) l (QQ hl)
theorem Be{k:Nat}{xs:List Str}(h:Sm k λvs=>bindArgs fd ⟨vs,[]⟩=pure (xs.zip (vs++ []))):Bk P fd k xs []:=λvs s hl Z=>.of_eq (mD h vs hl)
end
noncomputable def Lw{α:Type}(d:α)(st:Stmt)(K:Str->YR->List Stmt->BF->α):α:=if h:st.ctorIdx=0 then Abe (motive_2:=λZ=>α) st h (λnm pa b Z Z Z sc Z Z Z=>K nm pa b sc) else d
noncomputable def bodyOf(st:Stmt):List Stmt:=Lw [] st λZ Z b Z=>b
noncomputable def Dw(st:Stmt):Scope:=Lw default st λZ Z Z sc=>sc
noncomputable def Po(qn:String)(st:Stmt)(df kd doc md code ct:Ac):FuncData:=
 {name:=Lw default st λnm Z Z Z=>nm,qualname:= .ofString qn,params:=Lw ⟨[],[],none,[],[],none,[]⟩ st λZ pa Z Z=>pa,body:= .stmts (bodyOf st),scope:=Dw st,globals:=3,closure:=Hd.Om [],defaults:=df,kwdefaults:=kd,doc:=doc,pyModule:=md,code:=code,closureTuple:=ct,builtins:=0}
theorem AfJ{st:Stmt}{qn:String}{df kd doc md code ct:Ac}(h:st.ctorIdx=0):Hd.fo (.type "function") st qn 3 [] df kd doc md code ct 0=⟨.type "function",none,.func (Po qn st df kd doc md code ct),#[]⟩:=
 Abe (motive_2:=λst=>Hd.fo (.type "function") st qn 3 [] df kd doc md code ct 0=⟨.type "function",none,.func (Po qn st df kd doc md code ct),#[]⟩) st h λZ Z Z Z Z Z Z Z Z Z=>rfl
noncomputable def mE(st:Stmt)(len:Nat)(xs:List Str)(ps:List Nat)(p:PS):Bool:=Da st.ctorIdx 0&&Sf (Dw st)&&Da (Dw st).names.length len&&D3 (Dw st).names ps xs&&decide xs.Nodup&&Do p (Dw st).names (bodyOf st)
structure Fn(f len k:Nat)(ps:List Nat)(Db:List Ac)(p:PS):Prop where
 ok:∀P,∃(fd:Kz)(xs:List Str)(body:List Stmt)(ns:Ns)(mo:List (Str×GR)),(Hd.K P).lookup f=some ⟨.type "function",none,.func fd,#[]⟩/\fd.body= .stmts body/\fd.closure= []/\fd.globals=FO/\fd.builtins=Qn/\NH (Hd.K P) fd.code fd.qualname=true/\
  fd.scope=BL ns mo/\(ns.map (·.1)).Nodup/\ns.length=len/\D3 ns ps xs=true/\xs.Nodup/\Do p ns body=true/\Bk P fd k xs Db
theorem Fn.mk'{f len k:Nat}{st:Stmt}{qn:String}{df kd doc md code ct:Ac}{xs:List Str}{ps:List Nat}{Db:List Ac}{p:PS}
  (hK:∀P,(Hd.K P).lookup f=some (Hd.fo (.type "function") st qn 3 [] df kd doc md code ct 0)) (hc:∀P,NH (Hd.K P) code (.ofString qn)=true) (hk:mE st len xs ps p=true)
  (hb:∀P,Bk P (Po qn st df kd doc md code ct) k xs Db):Fn f len k ps Db p:=⟨λP=>by
 refine Ah (AO hk) ?_;clear hk;intro h h6;refine Ah (AO h) ?_;clear h;intro h h5;refine Ah (AO h) ?_;clear h;intro h h4;refine Ah (AO h) ?_;clear h;intro h h3;refine Ah (AO h) ?_;clear h;intro h1 h2;refine Ah (Ws h2) ?_;clear h2;intro e1 e2;exact⟨Po qn st df kd doc md code ct,xs,bodyOf st,(Dw st).names,(Dw st).more,(hK P).trans (congrArg some (AfJ (JH h1))),rfl,rfl,rfl,rfl,hc P,e1,e2,JH h3,h4,of_decide_eq_true h5,h6,hb P⟩⟩
theorem Fn.A9{len k:Nat}{xs:List Str}{ps:List Nat}{Db:List Ac}{p:PS}(i:Nat){x:Nat×Stmt×String×Ac×Nat}(h:kT[i]?=some x)(hk:mE x.2.1 len xs ps p=true)
  (hb:∀P,Bk P (Po x.2.2.1 x.2.1 x.2.2.2.1 .none .none (jY x.2.2.2.2) (Hd.r (x.1-1)) .none) k xs Db):Fn x.1 len k ps Db p:= .mk' (kx h) (cx h) hk hb
theorem Fn.code{c:Cx}{n:Nat}{V:St}{Q:AV->St->Prop}{f len k:Nat}{ps:List Nat}{Db:List Ac}{p:PS}{as das:List AV}(H:Fn f len k ps Db p)(O:AE c)(hd:∀F,Ao c.w F Db das)(hk:as.length=k)(hl:(as++das).length=ps.length)
  (h:vs c (n+1) p (put (Cy len none) ps (as++das)) V (λfl Z Aq=>CX Q fl.val Aq)):A0 c (n+2) (.ref f) as V Q:=by
 obtain⟨fd,xs,body,ns,mo,e1,e2,e3,e4,e5,e6,e7,e8,e9,e10,e11,e12,e13⟩:=H.ok c.w.params;have F:FnAt c f fd body:=⟨⟨_,_,_,Aa O.K<|e1⟩,e2,e3,e4,e5,Aa O.K<|e6,Aa e7 rfl,Aa e7 rfl,Aa e7 rfl,Aa e7<|e8⟩;refine A0.fn (xs:=xs) (ρ0:=put (Cy len none) ps (as++das)) F hd (λvs s hv X=>e13 vs s (hv.trans hk) (by refine AS O.K ?_;exact X)) ?_ e11 ?_
 ·refine Aa e7<|Aa e9 ?_;exact Cn.of e10 (by simp[e9]) hl
 ·exact Aa e7<|Em O p _ _ _ _ _ _ e12 h
theorem Fn.run{Q:AV->St->Prop}{f len k:Nat}{ps:List Nat}{p:PS}{as:List AV}(H:Fn f len k ps [] p)(O:AE c)(h:vs c (n+1) p (put (Cy len none) ps as) V (λfl Z Aq=>CX Q fl.val Aq))(hk:as.length=k:=by rfl)(hl:as.length=ps.length:=by rfl):A0 c (n+2) (.ref f) as V Q:=
 H.code O (das:= []) (λZ=>.nil) hk (by exact Aa (C8 _)<|hl) (by exact Aa (C8 _)<|h)
theorem AfK(O:AE c){C fI:Nat}(h:RY.contains (C,fI)=true):makesIn c.K C=true/\NJ c.K (.ref C) "__init__"=some (some (.ref fI))/\TL c.K (.ref fI)=some (.type "function"):=by
 have hm:(C,fI)∈RY:=by simpa using h
 have a:=EP.mp (Aek c.w.params) _ hm;replace a:=Eq.symm O.K▸a;refine Ah (AO a) ?_;clear a;intro a a3;refine Ah (AO a) ?_;clear a;intro a1 a2;exact⟨a1,eq_of_beq a2,eq_of_beq a3⟩
theorem Hi{Q:AV->St->Prop}(O:AE c){C fI:Nat}{as:List AV}(hi:RY.contains (C,fI)=true)(h:∀da,V da=none->A0 c n (.ref fI) (.obj C da::as) (V.set da (Bw C [])) (λr Aq=>r= .none/\CX Q (.obj C da) Aq)):An c (n+1) (.ref C) as V Q:=by refine Bq (AfK O hi) ?_;intro a b d;exact An.new a b d h
theorem A6{Q:AV->St->Prop}{a:AV}(q:Q a V):CX Q a V:=CX.plain q
theorem Sn{P:AK}{fd:Kz}{k:Nat}{xs:List Str}(h:∀S,Sm k λvs=>peek (Hd.K P) S (bindArgs fd ⟨vs,[]⟩)=some (xs.zip (vs++Db))):Bk P fd k xs Db:=λvs s hl X=>kp_binds X λS=>mD (h S) vs hl
noncomputable def p_88:PS:= .AQ (.v 1) (.v 0) "kind" 0 [105] (.AQ (.v 2) (.v 0) "text" 1 [105] (.AQ (.v 3) (.v 0) "at" 2 [105] (.AQ (.ite (.AW .Is (.v 4) .no) (.v 2) (.v 4)) (.v 0) "worth" 3 [105] .nil)))
theorem f_88:Fn 88 5 4 [0,1,2,3,4] [.none] p_88:= .A9 (xs:= ["self","kind","text","at","worth"]) 0 rfl (by kernel_rfl) (λP=>Sn (λS a b c d=>by show _=_;kernel_rfl))
noncomputable def p_95:PS:= .ret (.tup (.cons (.attr (.v 0) "kind" 0 [105]) (.cons (.attr (.v 0) "text" 1 [105]) .nil)))
theorem f_95:Fn 95 1 1 [0] [] p_95:= .A9 (xs:= ["self"]) 1 rfl (by kernel_rfl) (λP=>Be λa=>rfl)
noncomputable def AfL:PS:= .Ej (.v 6) (.attr (.v 0) "numbers" 6 [245]) (.sub (.v 1) (.v 6)) (.DI [6] .nil)
noncomputable def AfM:PS:= .AQ (.v 1) (.v 0) "names" 0 [245] (.AQ (.v 2) (.v 0) "terminal_count" 1 [245] (.AQ (.v 3) (.v 0) "lefts" 2 [245] (.AQ (.v 4) (.v 0) "lengths" 3 [245] (.AQ (.v 5) (.v 0) "befores" 4 [245] (.AQ (.lst false .nil) (.v 0) "defaults" 5 [245] (.AQ (.dict true) (.v 0) "numbers" 6 [245] (.for false [6] (.FY 7 28 (.v 2)) AfL .nil)))))))
theorem AfN:Fn 123 8 6 [0,1,2,3,4,5] [] AfM:= .A9 (xs:= ["self","names","terminal_count","lefts","lengths","befores"]) 2 rfl (by kernel_rfl) (λP=>Be λa b c d e f=>rfl)
noncomputable def AfO:PS:= .ret (.BU (.attr (.v 0) "numbers" 6 [245]) "get" "dict.get" (.cons (.v 1) (.cons (.gi 2 2 5) .nil)))
theorem AfP:Fn 130 3 2 [0,1] [] AfO:= .A9 (xs:= ["self","name"]) 3 rfl (by kernel_rfl) (λP=>Be λa b=>rfl)
noncomputable def AfQ:PS:= .ret (.sub (.attr (.v 0) "lefts" 2 [245]) (.v 1))
theorem AfR:Fn 137 2 2 [0,1] [] AfQ:= .A9 (xs:= ["self","rule"]) 4 rfl (by kernel_rfl) (λP=>Be λa b=>rfl)
noncomputable def AfS:PS:= .ret (.sub (.attr (.v 0) "lengths" 3 [245]) (.v 1))
theorem AfT:Fn 144 2 2 [0,1] [] AfS:= .A9 (xs:= ["self","rule"]) 5 rfl (by kernel_rfl) (λP=>Be λa b=>rfl)
noncomputable def AfU:PS:= .ret (.sub (.attr (.v 0) "befores" 4 [245]) (.v 1))
theorem AfV:Fn 151 2 2 [0,1] [] AfU:= .A9 (xs:= ["self","rule"]) 6 rfl (by kernel_rfl) (λP=>Be λa b=>rfl)
noncomputable def AfW:PS:= .ret (.sub (.attr (.v 0) "defaults" 5 [245]) (.v 1))
theorem AfX:Fn 172 2 2 [0,1] [] AfW:= .A9 (xs:= ["self","state"]) 7 rfl (by kernel_rfl) (λP=>Be λa b=>rfl)
noncomputable def AfY:PS:= .ret (.v 3)
noncomputable def AfZ:PS:= .iff (.AW .Eq (.v 3) (.int 0)) (.ret (.neg (.Bg (.v 0) "default" [(245,172)] (.cons (.v 1) .nil)))) .nil AfY
noncomputable def Af0:PS:= .asg 3 (.Bg (.v 0) "explicit" [(245,235)] (.cons (.v 1) (.cons (.v 2) .nil))) (.iff (.AW .Eq (.v 3) (.gi (-1048576) 4 1)) (.ret (.int 0)) .nil AfZ)
theorem Af1:Fn 186 5 3 [0,1,2] [] Af0:= .A9 (xs:= ["self","state","terminal"]) 8 rfl (by kernel_rfl) (λP=>Be λa b c=>rfl)
noncomputable def Af2:PS:= .DI [3,4] .nil
noncomputable def Af3:PS:= .iff (.FX (.AW .NotEq (.v 3) (.gi 1 6 3)) (.AW .NotEq (.v 3) (.gi 2 7 5))) (.asg 4 (.Bg (.v 0) "explicit" [(245,235)] (.cons (.v 1) (.cons (.v 3) .nil))) (.iff (.FX (.AW .NotEq (.v 4) (.int 0)) (.AW .NotEq (.v 4) (.gi (-1048576) 8 1))) (.ex (.BU (.v 2) "append" "list.append" (.cons (.v 3) .nil)) .nil) .nil .nil)) .nil Af2
noncomputable def Af4:PS:= .ret (.v 2)
noncomputable def Af5:PS:= .asg 2 (.lst true .nil) (.for false [3] (.FY 5 28 (.attr (.v 0) "terminal_count" 1 [245])) Af3 Af4)
theorem Af6:Fn 193 9 2 [0,1] [] Af5:= .A9 (xs:= ["self","state"]) 9 rfl (by kernel_rfl) (λP=>Be λa b=>rfl)
noncomputable def Af7:PS:= .DI [2] .nil
noncomputable def Af8:PS:= .iff (.AW .NotEq (.Bg (.v 0) "explicit" [(245,235)] (.cons (.v 1) (.cons (.v 2) .nil))) (.int 0)) (.ret (.bool false)) .nil Af7
noncomputable def Af9:PS:= .ret (.bool true)
noncomputable def Aga:PS:= .for false [2] (.FY 3 28 (.attr (.v 0) "terminal_count" 1 [245])) Af8 Af9
noncomputable def Agb:PS:= .iff (.AW .Eq (.Bg (.v 0) "default" [(245,172)] (.cons (.v 1) .nil)) (.int 0)) (.ret (.bool false)) .nil Aga
theorem Agc:Fn 200 4 2 [0,1] [] Agb:= .A9 (xs:= ["self","state"]) 10 rfl (by kernel_rfl) (λP=>Be λa b=>rfl)
noncomputable def Agd:PS:= .ret (.sub (.sub (.attr (.v 0) "rows" 8 [245]) (.v 1)) (.v 2))
theorem Age:Fn 235 3 3 [0,1,2] [] Agd:= .A9 (xs:= ["self","state","terminal"]) 11 rfl (by kernel_rfl) (λP=>Be λa b c=>rfl)
noncomputable def Agf:PS:= .ret (.BU (.sub (.attr (.v 0) "gotos" 9 [245]) (.v 1)) "get" "dict.get" (.cons (.v 2) (.cons (.neg (.int 1)) .nil)))
theorem Agg:Fn 242 3 3 [0,1,2] [] Agf:= .A9 (xs:= ["self","state","nonterminal"]) 12 rfl (by kernel_rfl) (λP=>Be λa b c=>rfl)
noncomputable def Agh:PS:= .AQ (.v 1) (.v 0) "token" 0 [314] (.AQ (.v 2) (.v 0) "state" 1 [314] (.AQ (.v 3) (.v 0) "expected" 2 [314] (.AQ (.v 4) (.v 0) "index" 3 [314] .nil)))
theorem Agi:Fn 297 5 5 [0,1,2,3,4] [] Agh:= .A9 (xs:= ["self","token","state","expected","index"]) 13 rfl (by kernel_rfl) (λP=>Sn (λS a b c d e=>by show _=_;kernel_rfl))
noncomputable def Agj:PS:= .AQ (.v 1) (.v 0) "accepted" 0 [342] (.AQ (.v 2) (.v 0) "value" 1 [342] (.AQ (.v 3) (.v 0) "faults" 2 [342] (.AQ (.v 4) (.v 0) "moves" 3 [342] .nil)))
theorem Agk:Fn 332 5 5 [0,1,2,3,4] [] Agj:= .A9 (xs:= ["self","accepted","value","faults","moves"]) 14 rfl (by kernel_rfl) (λP=>Be λa b c d e=>rfl)
noncomputable def Agl:PS:= .AQ (.v 1) (.v 0) "tokens" 0 [370] (.AQ (.int 0) (.v 0) "at" 1 [370] .nil)
theorem Agm:Fn 360 2 2 [0,1] [] Agl:= .A9 (xs:= ["self","tokens"]) 15 rfl (by kernel_rfl) (λP=>Be λa b=>rfl)
noncomputable def Agn:PS:= .ret (.v 1)
noncomputable def Ago:PS:= .asg 1 (.sub (.attr (.v 0) "tokens" 0 [370]) (.attr (.v 0) "at" 1 [370])) (.iff (.AW .NotEq (.attr (.v 1) "kind" 0 [105]) (.str "$end")) (.AQ (.bin .Add (.attr (.v 0) "at" 1 [370]) (.int 1)) (.v 0) "at" 1 [370] .nil) .nil Agn)
noncomputable def Agp:PS:= .iff (.AW .GtE (.attr (.v 0) "at" 1 [370]) (.call (.builtin "len") 2 25 (.cons (.attr (.v 0) "tokens" 0 [370]) .nil))) (.ret (.call (.ref 105) 3 7 (.cons (.str "$end") (.cons (.str "") (.cons .no .nil))))) .nil Ago
theorem Agq:Fn 367 4 1 [0] [] Agp:= .A9 (xs:= ["self"]) 16 rfl (by kernel_rfl) (λP=>Be λa=>rfl)
noncomputable def Agr:PS:= .AQ (.v 1) (.v 0) "tables" 0 [537] (.AQ (.ite (.AW .Is (.v 2) .no) .dead (.v 2)) (.v 0) "handler" 1 [537] (.AQ (.v 3) (.v 0) "most" 2 [537] (.AQ (.dict true) (.v 0) "lone" 3 [537] (.ex (.Bg (.v 0) "begin" [(537,396)] .nil) .nil))))
theorem Ags:Fn 389 5 3 [0,1,2,3] [(.int 5000 715)] Agr:= .A9 (xs:= ["self","tables","handler","most"]) 17 rfl (by kernel_rfl) (λP=>Sn (λS a b c=>by show _=_;kernel_rfl))
noncomputable def Agt:PS:= .AQ (.lst true (.cons (.int 0) .nil)) (.v 0) "states" 4 [537] (.AQ (.lst true .nil) (.v 0) "values" 5 [537] (.AQ .no (.v 0) "looked" 6 [537] (.AQ (.int 0) (.v 0) "count" 7 [537] (.AQ (.str "more") (.v 0) "answer" 8 [537] (.AQ .no (.v 0) "value" 9 [537] (.AQ (.lst true .nil) (.v 0) "faults" 10 [537] (.AQ (.lst true .nil) (.v 0) "moves" 11 [537] .nil)))))))
theorem mF:Fn 396 1 1 [0] [] Agt:= .A9 (xs:= ["self"]) 18 rfl (by kernel_rfl) (λP=>Be λa=>rfl)
noncomputable def Agu:PS:= .ret (.call (.ref 342) 1 4 (.cons (.cmp .Eq (.attr (.v 0) "answer" 8 [537]) (.str "accepted")) (.cons (.attr (.v 0) "value" 9 [537]) (.cons (.call (.type "list") 2 34 (.cons (.attr (.v 0) "faults" 10 [537]) .nil)) (.cons (.call (.type "list") 2 34 (.cons (.attr (.v 0) "moves" 11 [537]) .nil)) .nil)))))
theorem Agv:Fn 403 3 1 [0] [] Agu:= .A9 (xs:= ["self"]) 19 rfl (by kernel_rfl) (λP=>Be λa=>rfl)
noncomputable def Agw:PS:= .ret (.Bg (.v 0) "pull" [(537,417)] (.cons (.call (.ref 370) 2 8 (.cons (.v 1) .nil)) .nil))
theorem Agx:Fn 410 3 2 [0,1] [] Agw:= .A9 (xs:= ["self","tokens"]) 20 rfl (by kernel_rfl) (λP=>Be λa b=>rfl)
noncomputable def mG:PS:= .ex (.Bg (.v 0) "step" [(537,480)] .nil) .nil
noncomputable def So:PS:= .iff (.E0 (.Bg (.v 0) "needs" [(537,431)] .nil)) (.ex (.Bg (.v 0) "look" [(537,438)] (.cons (.Bg (.v 1) "next_token" [(370,367)] .nil) .nil)) .nil) .nil mG
noncomputable def Agy:PS:= .ret (.Bg (.v 0) "outcome" [(537,403)] .nil)
noncomputable def Agz:PS:= .ex (.Bg (.v 0) "begin" [(537,396)] .nil) (.wh (.AW .Eq (.attr (.v 0) "answer" 8 [537]) (.str "more")) So Agy)
theorem AgA:Fn 417 2 2 [0,1] [] Agz:= .A9 (xs:= ["self","source"]) 21 rfl (by kernel_rfl) (λP=>Be λa b=>rfl)
noncomputable def AgB:PS:= .ret (.G5 (.cmp .Is (.attr (.v 0) "looked" 6 [537]) .no) (.cmp .Eq (.Bg (.v 0) "lone_rule" [(537,445)] (.cons (.sub (.attr (.v 0) "states" 4 [537]) (.neg (.int 1))) .nil)) (.int 0)))
theorem AgC:Fn 431 1 1 [0] [] AgB:= .A9 (xs:= ["self"]) 22 rfl (by kernel_rfl) (λP=>Be λa=>rfl)
noncomputable def AgD:PS:= .AQ (.v 1) (.v 0) "looked" 6 [537] (.AQ (.bin .Add (.attr (.v 0) "count" 7 [537]) (.int 1)) (.v 0) "count" 7 [537] .nil)
theorem AgE:Fn 438 2 2 [0,1] [] AgD:= .A9 (xs:= ["self","token"]) 23 rfl (by kernel_rfl) (λP=>Be λa b=>rfl)
noncomputable def AgF:PS:= .ret (.sub (.attr (.v 0) "lone" 3 [537]) (.v 1))
noncomputable def AgG:PS:= .iff (.AW .NotIn (.v 1) (.attr (.v 0) "lone" 3 [537])) (.Ej (.ite (.E0 (.Bg (.attr (.v 0) "tables" 0 [537]) "is_consistent" [(245,200)] (.cons (.v 1) .nil))) (.Bg (.attr (.v 0) "tables" 0 [537]) "default" [(245,172)] (.cons (.v 1) .nil)) (.int 0)) (.attr (.v 0) "lone" 3 [537]) (.v 1) .nil) .nil AgF
theorem AgH:Fn 445 2 2 [0,1] [] AgG:= .A9 (xs:= ["self","state"]) 24 rfl (by kernel_rfl) (λP=>Be λa b=>rfl)
noncomputable def AgI:PS:= .asg 2 (.Bg (.attr (.v 0) "tables" 0 [537]) "terminal" [(245,130)] (.cons (.attr (.v 1) "kind" 0 [105]) .nil)) (.ret (.ite (.AW .Eq (.v 2) (.gi 1 3 2)) (.gi 2 4 4) (.v 2)))
theorem AgJ:Fn 452 5 2 [0,1] [] AgI:= .A9 (xs:= ["self","token"]) 25 rfl (by kernel_rfl) (λP=>Be λa b=>rfl)
noncomputable def AgK:PS:= .ex (.BU (.attr (.v 0) "moves" 11 [537]) "append" "list.append" (.cons (.v 1) .nil)) .nil
noncomputable def AgL:PS:= .iff (.AW .GtE (.call (.builtin "len") 2 25 (.cons (.attr (.v 0) "moves" 11 [537]) .nil)) (.attr (.v 0) "most" 2 [537])) .fail .nil AgK
theorem AgM:Fn 459 5 2 [0,1] [] AgL:= .A9 (xs:= ["self","move"]) 26 rfl (by kernel_rfl) (λP=>Be λa b=>rfl)
noncomputable def AgN:PS:= .AQ (.v 1) (.v 0) "answer" 8 [537] (.AQ (.v 2) (.v 0) "value" 9 [537] .nil)
theorem AgO:Fn 473 3 3 [0,1,2] [] AgN:= .A9 (xs:= ["self","answer","value"]) 27 rfl (by kernel_rfl) (λP=>Be λa b c=>rfl)
noncomputable def AgP:PS:= .asg 3 (.Bg (.v 0) "terminal_of" [(537,452)] (.cons (.attr (.v 0) "looked" 6 [537]) .nil)) (.asg 4 (.Bg (.attr (.v 0) "tables" 0 [537]) "action" [(245,186)] (.cons (.v 1) (.cons (.v 3) .nil))) (.iff (.AW .Eq (.v 4) (.gi 1048576 5 0)) (.ex (.Bg (.v 0) "note" [(537,459)] (.cons (.tup (.cons (.str "accept") .nil)) .nil)) (.ex (.Bg (.v 0) "finish" [(537,473)] (.cons (.str "accepted") (.cons (.sub (.attr (.v 0) "values" 5 [537]) (.neg (.int 1))) .nil))) .nil)) (.iff (.AW .Gt (.v 4) (.int 0)) (.ex (.Bg (.v 0) "shift" [(537,494),(794,777)] (.cons (.v 4) .nil)) .nil) (.iff (.FX (.AW .Lt (.v 4) (.int 0)) (.E0 (.Bg (.v 0) "is_established" [(537,487)] (.cons (.v 3) .nil)))) (.ex (.Bg (.v 0) "reduce" [(537,501),(794,784)] (.cons (.bin .Sub (.int 0) (.v 4)) .nil)) .nil) (.ex (.Bg (.v 0) "fail" [(537,534)] (.cons (.v 3) .nil)) .nil) .nil) .nil) .nil))
noncomputable def AgQ:PS:= .asg 1 (.sub (.attr (.v 0) "states" 4 [537]) (.neg (.int 1))) (.asg 2 (.Bg (.v 0) "lone_rule" [(537,445)] (.cons (.v 1) .nil)) (.iff (.AW .Gt (.v 2) (.int 0)) (.ex (.Bg (.v 0) "reduce" [(537,501),(794,784)] (.cons (.v 2) .nil)) .O6) .nil AgP))
theorem mH:Fn 480 6 1 [0] [] AgQ:= .A9 (xs:= ["self"]) 28 rfl (by kernel_rfl) (λP=>Be λa=>rfl)
noncomputable def AgR:PS:= .ret (.bool true)
theorem AgS:Fn 487 2 2 [0,1] [] AgR:= .A9 (xs:= ["self","terminal"]) 29 rfl (by kernel_rfl) (λP=>Be λa b=>rfl)
noncomputable def AgT:PS:= .ex (.Bg (.v 0) "note" [(537,459)] (.cons (.tup (.cons (.str "shift") (.cons (.v 1) .nil))) .nil)) (.ex (.BU (.attr (.v 0) "states" 4 [537]) "append" "list.append" (.cons (.v 1) .nil)) (.ex (.BU (.attr (.v 0) "values" 5 [537]) "append" "list.append" (.cons (.Bg (.attr (.v 0) "handler" 1 [537]) "shift" [(537,494),(794,777)] (.cons (.attr (.v 0) "looked" 6 [537]) .nil)) .nil)) (.AQ .no (.v 0) "looked" 6 [537] .nil)))
theorem AgU:Fn 494 2 2 [0,1] [] AgT:= .A9 (xs:= ["self","goal"]) 30 rfl (by kernel_rfl) (λP=>Be λa b=>rfl)
noncomputable def AgV:PS:= .ex (.Bg (.v 0) "note" [(537,459)] (.cons (.tup (.cons (.str "reduce") (.cons (.v 1) .nil))) .nil)) (.asg 2 (.Bg (.attr (.v 0) "tables" 0 [537]) "length" [(245,144)] (.cons (.v 1) .nil)) (.asg 3 (.bin .Sub (.bin .Sub (.call (.builtin "len") 6 25 (.cons (.attr (.v 0) "values" 5 [537]) .nil)) (.v 2)) (.Bg (.attr (.v 0) "tables" 0 [537]) "before" [(245,151)] (.cons (.v 1) .nil))) (.asg 4 (.Bg (.v 0) "act" [(537,508)] (.cons (.v 1) (.cons (.slice false (.attr (.v 0) "values" 5 [537]) (.pI (.v 3)) .BP .BP) .nil))) (.asg 5 (.bin .Sub (.call (.builtin "len") 6 25 (.cons (.attr (.v 0) "values" 5 [537]) .nil)) (.v 2)) (.AQ (.slice true (.attr (.v 0) "values" 5 [537]) .BP (.pI (.v 5)) .BP) (.v 0) "values" 5 [537] (.AQ (.slice true (.attr (.v 0) "states" 4 [537]) .BP (.pI (.bin .Add (.v 5) (.int 1))) .BP) (.v 0) "states" 4 [537] (.ex (.Bg (.v 0) "go_on" [(537,515)] (.cons (.v 1) (.cons (.v 4) .nil))) .nil)))))))
theorem AgW:Fn 501 7 2 [0,1] [] AgV:= .A9 (xs:= ["self","rule"]) 31 rfl (by kernel_rfl) (λP=>Be λa b=>rfl)
noncomputable def AgX:PS:= .ret (.Bg (.attr (.v 0) "handler" 1 [537]) "reduce" [(537,501),(794,784)] (.cons (.v 1) (.cons (.v 2) (.cons .no .nil))))
theorem AgY:Fn 508 3 3 [0,1,2] [] AgX:= .A9 (xs:= ["self","rule","values"]) 32 rfl (by kernel_rfl) (λP=>Be λa b c=>rfl)
noncomputable def AgZ:PS:= .ex (.BU (.attr (.v 0) "states" 4 [537]) "append" "list.append" (.cons (.v 3) .nil)) (.ex (.BU (.attr (.v 0) "values" 5 [537]) "append" "list.append" (.cons (.v 2) .nil)) .nil)
noncomputable def Ag0:PS:= .asg 3 (.Bg (.attr (.v 0) "tables" 0 [537]) "goto" [(245,242)] (.cons (.sub (.attr (.v 0) "states" 4 [537]) (.neg (.int 1))) (.cons (.Bg (.attr (.v 0) "tables" 0 [537]) "left" [(245,137)] (.cons (.v 1) .nil)) .nil))) (.iff (.AW .Lt (.v 3) (.int 0)) .fail .nil AgZ)
theorem Ag1:Fn 515 6 3 [0,1,2] [] Ag0:= .A9 (xs:= ["self","rule","value"]) 33 rfl (by kernel_rfl) (λP=>Be λa b c=>rfl)
noncomputable def Ag2:PS:= .ret (.Bg (.attr (.v 0) "tables" 0 [537]) "expected" [(537,522),(245,193)] (.cons (.sub (.attr (.v 0) "states" 4 [537]) (.neg (.int 1))) .nil))
theorem Ag3:Fn 522 1 1 [0] [] Ag2:= .A9 (xs:= ["self"]) 34 rfl (by kernel_rfl) (λP=>Be λa=>rfl)
noncomputable def Ag4:PS:= .Hc 1 (.comp false false [1] [none,none,some 0] (.sub (.attr (.attr (.v 2) "tables" 0 [537]) "names" 0 [245,641,794]) (.v 1)) (.iV (.Bg (.v 0) "expected" [(537,522),(245,193)] .nil)) .CK) (.ex (.BU (.attr (.v 0) "faults" 10 [537]) "append" "list.append" (.cons (.call (.ref 314) 2 1 (.cons (.attr (.v 0) "looked" 6 [537]) (.cons (.sub (.attr (.v 0) "states" 4 [537]) (.neg (.int 1))) (.cons (.v 1) (.cons (.bin .Sub (.attr (.v 0) "count" 7 [537]) (.int 1)) .nil))))) .nil)) .nil)
theorem Ag5:Fn 527 3 1 [0] [] Ag4:= .A9 (xs:= ["self"]) 35 rfl (by kernel_rfl) (λP=>Be λa=>rfl)
noncomputable def Ag6:PS:= .ex (.Bg (.v 0) "tell_fault" [(537,527)] .nil) (.ex (.Bg (.v 0) "finish" [(537,473)] (.cons (.str "aborted") (.cons .no .nil))) .nil)
theorem Ag7:Fn 534 2 2 [0,1] [] Ag6:= .A9 (xs:= ["self","terminal"]) 36 rfl (by kernel_rfl) (λP=>Be λa b=>rfl)
noncomputable def Ag8:PS:= .AQ (.v 1) (.v 0) "number" 0 [559] (.AQ (.v 2) (.v 0) "left" 1 [559] (.AQ (.v 3) (.v 0) "right" 2 [559] (.AQ (.v 4) (.v 0) "level_of" 3 [559] (.AQ (.v 5) (.v 0) "action" 4 [559] (.AQ (.v 6) (.v 0) "line" 5 [559] (.AQ (.v 7) (.v 0) "before" 6 [559] .nil))))))
theorem Ag9:Fn 556 8 4 [0,1,2,3,4,5,6,7] [(.int (-1) 934),.none,(.int 0 935),(.int 0 936)] Ag8:= .A9 (xs:= ["self","number","left","right","level_of","action","line","before"]) 37 rfl (by kernel_rfl) (λP=>Sn (λS a b c d=>by show _=_;kernel_rfl))
noncomputable def mI:PS:= .ex (.BU (.sub (.attr (.v 0) "by_left" 6 [641]) (.attr (.v 7) "left" 1 [559])) "append" "list.append" (.cons (.attr (.v 7) "number" 0 [559]) .nil)) (.ex (.BU (.attr (.v 0) "offsets" 7 [641]) "append" "list.append" (.cons (.call (.builtin "len") 8 25 (.cons (.attr (.v 0) "owners" 8 [641]) .nil)) .nil)) (.ex (.BU (.attr (.v 0) "owners" 8 [641]) "extend" "list.extend" (.cons (.bin .Mult (.lst false (.cons (.attr (.v 7) "number" 0 [559]) .nil)) (.bin .Add (.call (.builtin "len") 8 25 (.cons (.attr (.v 7) "right" 2 [559]) .nil)) (.int 1))) .nil)) (.DI [7] .nil)))
noncomputable def Aha:PS:= .AQ (.call (.builtin "len") 8 25 (.cons (.attr (.v 0) "owners" 8 [641]) .nil)) (.v 0) "item_count" 9 [641] .nil
noncomputable def Ahb:PS:= .AQ (.v 1) (.v 0) "names" 0 [641] (.AQ (.v 2) (.v 0) "terminal_count" 1 [641] (.AQ (.v 3) (.v 0) "rules" 2 [641] (.AQ (.v 4) (.v 0) "levels" 3 [641] (.AQ (.v 5) (.v 0) "expect" 4 [641] (.AQ (.v 6) (.v 0) "start" 5 [641] (.AQ (.comp false false [1] [none,none] (.lst true .nil) (.iV (.attr (.v 0) "names" 0 [641])) .CK) (.v 0) "by_left" 6 [641] (.AQ (.lst true .nil) (.v 0) "offsets" 7 [641] (.AQ (.lst true .nil) (.v 0) "owners" 8 [641] (.for false [7] (.iV (.attr (.v 0) "rules" 2 [641])) mI Aha)))))))))
theorem Ahc:Fn 575 9 7 [0,1,2,3,4,5,6] [] Ahb:= .A9 (xs:= ["self","names","terminal_count","rules","levels","expect","start"]) 38 rfl (by kernel_rfl) (λP=>Be λa b c d e f g=>rfl)
noncomputable def Ahd:PS:= .ret (.ite (.AW .In (.v 1) (.attr (.v 0) "names" 0 [641])) (.BU (.attr (.v 0) "names" 0 [641]) "index" "list.index" (.cons (.v 1) .nil)) (.neg (.int 1)))
theorem Ahe:Fn 603 2 2 [0,1] [] Ahd:= .A9 (xs:= ["self","name"]) 39 rfl (by kernel_rfl) (λP=>Be λa b=>rfl)
noncomputable def Ahf:PS:= .AQ (.v 1) (.v 0) "name" 0 [707] (.AQ (.v 2) (.v 0) "rule" 1 [707] (.AQ (.call (.type "list") 4 34 (.cons (.v 3) .nil)) (.v 0) "children" 2 [707] .nil))
theorem Ahg:Fn 659 5 4 [0,1,2,3] [] Ahf:= .A9 (xs:= ["self","name","rule","children"]) 40 rfl (by kernel_rfl) (λP=>Be λa b c d=>rfl)
noncomputable def Ahh:PS:= .ret (.bool false)
theorem Ahi:Fn 666 1 1 [0] [] Ahh:= .A9 (xs:= ["self"]) 41 rfl (by kernel_rfl) (λP=>Be λa=>rfl)
noncomputable def Ahj:PS:= .ret (.comp false false [1] [none,none] (.attr (.v 1) "token" 3 [742]) (.iV (.call (.ref 751) 1 24 (.cons (.v 0) .nil))) (.E0 (.Bg (.v 1) "is_leaf" [(707,666),(742,732)] .nil)))
theorem Ahk:Fn 685 2 1 [0] [] Ahj:= .A9 (xs:= ["self"]) 42 rfl (by kernel_rfl) (λP=>Be λa=>rfl)
noncomputable def Ahl:PS:= .ret (.comp false false [1] [none,none] (.attr (.v 1) "rule" 1 [707,742]) (.iV (.call (.ref 751) 1 24 (.cons (.v 0) .nil))) (.IW (.E0 (.Bg (.v 1) "is_leaf" [(707,666),(742,732)] .nil))))
theorem Ahm:Fn 690 2 1 [0] [] Ahl:= .A9 (xs:= ["self"]) 43 rfl (by kernel_rfl) (λP=>Be λa=>rfl)
noncomputable def Ahn:PS:= .AQ (.attr (.v 1) "kind" 0 [105]) (.v 0) "name" 0 [742] (.AQ (.int 0) (.v 0) "rule" 1 [742] (.AQ (.lst false .nil) (.v 0) "children" 2 [742] (.AQ (.v 1) (.v 0) "token" 3 [742] .nil)))
theorem Aho:Fn 725 2 2 [0,1] [] Ahn:= .A9 (xs:= ["self","token"]) 44 rfl (by kernel_rfl) (λP=>Be λa b=>rfl)
noncomputable def Ahp:PS:= .ret (.bool true)
theorem Ahq:Fn 732 1 1 [0] [] Ahp:= .A9 (xs:= ["self"]) 45 rfl (by kernel_rfl) (λP=>Be λa=>rfl)
noncomputable def Ahr:PS:= .ex (.BU (.v 2) "append" "list.append" (.cons (.v 4) .nil)) (.DI [4] .nil)
noncomputable def Ahs:PS:= .DI [3,4] .nil
noncomputable def Aht:PS:= .asg 3 (.BU (.v 2) "pop" "list.pop" .nil) (.ex (.BU (.v 1) "append" "list.append" (.cons (.v 3) .nil)) (.for false [4] (.iV (.attr (.v 3) "children" 2 [707,742])) Ahr Ahs))
noncomputable def Ahu:PS:= .ret (.slice false (.v 1) .BP .BP (.pI (.neg (.int 1))))
noncomputable def Ahv:PS:= .asg 1 (.lst true .nil) (.asg 2 (.lst true (.cons (.v 0) .nil)) (.wh (.AW .NotEq (.v 2) (.lst false .nil)) Aht Ahu))
theorem Ahw:Fn 751 5 1 [0] [] Ahv:= .A9 (xs:= ["tree"]) 46 rfl (by kernel_rfl) (λP=>Be λa=>rfl)
noncomputable def Ahx:PS:= .asg 4 (.sub (.v 3) (.neg (.int 1))) (.asg 1 (.bin .Add (.bin .Add (.slice false (.v 1) .BP (.pI (.v 4)) .BP) (.attr (.sub (.v 1) (.v 4)) "children" 2 [707,742])) (.slice false (.v 1) (.pI (.bin .Add (.v 4) (.int 1))) .BP .BP)) (.ex (.BU (.v 2) "append" "list.append" (.cons (.call (.type "tuple") 5 35 (.cons (.comp false false [1] [none,none] (.attr (.v 1) "name" 0 [707,742]) (.iV (.v 1)) .CK) .nil)) .nil)) (.Hc 3 (.comp false true [1,2] [none,none,none] (.v 1) (.IX 6 29 (.v 1)) (.IW (.E0 (.Bg (.v 2) "is_leaf" [(707,666),(742,732)] .nil)))) (.DI [4] .nil))))
noncomputable def Ahy:PS:= .ret (.v 2)
noncomputable def Ahz:PS:= .asg 1 (.lst false (.cons (.v 0) .nil)) (.asg 2 (.lst true (.cons (.tup (.cons (.attr (.v 0) "name" 0 [707,742]) .nil)) .nil)) (.asg 3 (.ite (.IW (.E0 (.Bg (.v 0) "is_leaf" [(707,666),(742,732)] .nil))) (.lst false (.cons (.int 0) .nil)) (.lst false .nil)) (.wh (.AW .NotEq (.v 3) (.lst false .nil)) Ahx Ahy)))
theorem AhA:Fn 756 7 1 [0] [] Ahz:= .A9 (xs:= ["tree"]) 47 rfl (by kernel_rfl) (λP=>Be λa=>rfl)
noncomputable def AhB:PS:= .AQ (.v 1) (.v 0) "names" 0 [794] .nil
theorem AhC:Fn 770 2 2 [0,1] [] AhB:= .A9 (xs:= ["self","names"]) 48 rfl (by kernel_rfl) (λP=>Be λa b=>rfl)
noncomputable def AhD:PS:= .ret (.call (.ref 742) 2 3 (.cons (.v 1) .nil))
theorem AhE:Fn 777 3 2 [0,1] [] AhD:= .A9 (xs:= ["self","token"]) 49 rfl (by kernel_rfl) (λP=>Be λa b=>rfl)
noncomputable def AhF:PS:= .ret (.call (.ref 707) 5 9 (.cons (.v 4) (.cons (.v 1) (.cons (.v 2) .nil))))
noncomputable def AhG:PS:= .asg 4 (.sub (.attr (.v 0) "names" 0 [794]) (.v 1)) (.iff (.E0 (.BU (.v 4) "startswith" "str.startswith" (.cons (.str "$@") .nil))) (.ret (.call (.ref 707) 5 9 (.cons (.v 4) (.cons (.v 1) (.cons (.lst false .nil) .nil))))) .nil AhF)
theorem AhH:Fn 784 6 4 [0,1,2,3] [] AhG:= .A9 (xs:= ["self","rule","values","control"]) 50 rfl (by kernel_rfl) (λP=>Be λa b c d=>rfl)
noncomputable def AhI:PS:= .ret (.comp false false [1] [none,none,some 0] (.sub (.attr (.v 2) "names" 0 [245,641,794]) (.v 1)) (.iV (.attr (.v 0) "lefts" 2 [245])) .CK)
theorem AhJ:Fn 803 1 1 [0] [] AhI:= .A9 (xs:= ["tables"]) 51 rfl (by kernel_rfl) (λP=>Be λa=>rfl)
noncomputable def AhK:PS:= .ret (.lst true (.cons (.comp true false [1] [none,none,none,none] (.bin .Add (.bin .Mult (.int 2) (.call (.builtin "abs") 2 27 (.cons (.call (.type "int") 3 26 (.cons (.v 1) .nil)) .nil))) (.call (.type "int") 3 26 (.cons (.cmp .Lt (.v 1) (.int 0)) .nil))) (.iV (.slice false (.v 0) .BP (.pI (.int 63)) .BP)) .CK) (.cons (.int 0) (.cons (.int 0) .nil))))
theorem AhL:Fn 808 1 1 [0] [] AhK:= .A9 (xs:= ["script"]) 52 rfl (by kernel_rfl) (λP=>Be λa=>rfl)
noncomputable def AhM:PS:= .asg 2 (.bin .Mod (.call (.type "int") 3 26 (.cons (.sub (.v 0) (.int 2)) .nil)) (.v 1)) (.Ej (.bin .FloorDiv (.call (.type "int") 3 26 (.cons (.sub (.v 0) (.int 2)) .nil)) (.v 1)) (.v 0) (.int 2) (.ret (.bin .Mod (.bin .Add (.v 2) (.sub (.v 0) (.int 1))) (.v 1))))
noncomputable def AhN:PS:= .Ej (.bin .Add (.sub (.v 0) (.int 1)) (.int 1)) (.v 0) (.int 1) (.iff (.FX (.AW .Eq (.sub (.v 0) (.int 2)) (.int 0)) (.AW .NotEq (.sub (.v 0) (.int 0)) (.lst false .nil))) (.Ej (.BU (.sub (.v 0) (.int 0)) "pop" "list.pop" (.cons (.int 0) .nil)) (.v 0) (.int 2) .nil) .nil AhM)
theorem AhO:Fn 815 4 2 [0,1] [] AhN:= .A9 (xs:= ["pen","many"]) 53 rfl (by kernel_rfl) (λP=>Be λa b=>rfl)
noncomputable def AhP:PS:= .ret (.sub (.v 1) (.call (.ref 815) 2 12 (.cons (.v 0) (.cons (.call (.builtin "len") 3 25 (.cons (.v 1) .nil)) .nil))))
theorem AhQ:Fn 822 4 2 [0,1] [] AhP:= .A9 (xs:= ["pen","some"]) 54 rfl (by kernel_rfl) (λP=>Be λa b=>rfl)
noncomputable def AhR:PS:= .tup true [3,5] (.tup (.cons (.call (.ref 822) 6 17 (.cons (.v 0) (.cons (.v 1) .nil))) (.cons (.call (.ref 822) 6 17 (.cons (.v 0) (.cons (.lst false (.cons (.int 2) (.cons (.int 3) (.cons (.int 2) (.cons (.int 2) .nil))))) .nil))) .nil))) (.ex (.BU (.v 2) "append" "list.append" (.cons (.tup (.cons (.v 3) (.cons (.comp false false [1] [none,none,none,some 1,some 0] (.call (.ref 822) 2 17 (.cons (.v 4) (.cons (.bin .Add (.bin .Add (.lst false (.cons (.str "a") (.cons (.str "b") .nil))) (.v 3)) (.v 3)) .nil))) (.FY 7 28 (.v 5)) .CK) .nil))) .nil)) .nil)
noncomputable def AhS:PS:= .ret (.v 2)
noncomputable def AhT:PS:= .ex (.BU (.v 2) "append" "list.append" (.cons (.tup (.cons (.v 3) (.cons (.comp false false [1] [none,none,none,some 0] (.call (.ref 822) 2 17 (.cons (.v 3) (.cons (.lst false (.cons (.str "a") (.cons (.str "b") (.cons (.str "c") .nil)))) .nil))) (.FY 7 28 (.call (.ref 822) 6 17 (.cons (.v 0) (.cons (.lst false (.cons (.int 1) (.cons (.int 2) (.cons (.int 1) (.cons (.int 1) .nil))))) .nil)))) .CK) .nil))) .nil)) .nil
noncomputable def AhU:PS:= .for false [4] (.FY 7 28 (.call (.builtin "max") 8 36 (.cons (.int 1) (.cons (.bin .Sub (.int 4) (.call (.builtin "len") 9 25 (.cons (.v 1) .nil))) .nil)))) AhR AhS
noncomputable def AhV:PS:= .asg 1 (.slice false (.lst false (.cons (.str "S") (.cons (.str "T") (.cons (.str "U") .nil)))) .BP (.pI (.call (.ref 822) 6 17 (.cons (.v 0) (.cons (.lst false (.cons (.int 2) (.cons (.int 1) (.cons (.int 2) (.cons (.int 3) .nil))))) .nil)))) .BP) (.asg 2 (.lst true (.cons (.tup (.cons (.str "$accept") (.cons (.lst false (.cons (.str "S") (.cons (.str "$end") .nil))) .nil))) .nil)) (.for false [3] (.iV (.v 1)) AhT AhU))
theorem AhW:Fn 827 10 1 [0] [] AhV:= .A9 (xs:= ["pen"]) 55 rfl (by kernel_rfl) (λP=>Be λa=>rfl)
noncomputable def AhX:PS:= .asg 2 (.bin .Add (.v 2) (.comp false true [1,2] [none,none,none,some 3,some 2] (.sub (.v 2) (.int 0)) (.iV (.v 0)) (.FX (.AW .Eq (.v 1) (.sub (.v 4) (.v 3))) (.AW .NotIn (.sub (.v 2) (.int 0)) (.v 4))))) (.asg 3 (.bin .Add (.v 3) (.int 1)) .nil)
noncomputable def AhY:PS:= .ret (.comp false false [1] [none,none,some 0] (.v 1) (.iV (.call (.builtin "sorted") 5 31 (.cons (.call (.type "set") 6 32 (.cons (.v 2) .nil)) .nil))) (.AW .NotIn (.v 1) (.comp false true [1,2] [none,none,none] (.v 1) (.iV (.v 2)) .CK)))
noncomputable def AhZ:PS:= .tup false [2,3] (.tup (.cons (.lst false (.cons (.v 1) .nil)) (.cons (.int 0) .nil))) (.wh (.AW .Lt (.v 3) (.call (.builtin "len") 4 25 (.cons (.v 2) .nil))) AhX AhY)
theorem Ah0:Fn 832 7 2 [0,1] [] AhZ:= .A9 (xs:= ["pairs","part"]) 56 rfl (by kernel_rfl) (λP=>Be λa b=>rfl)
noncomputable def Ah1:PS:= .iff (.AW .NotIn (.tup (.cons (.v 11) (.cons (.int 0) (.cons (.v 13) .nil)))) (.v 4)) (.Ej (.bool true) (.v 4) (.tup (.cons (.v 11) (.cons (.int 0) (.cons (.v 13) .nil)))) (.ex (.BU (.v 3) "append" "list.append" (.cons (.tup (.cons (.v 11) (.cons (.int 0) (.cons (.v 13) .nil)))) .nil)) .nil)) .nil .nil
noncomputable def Ah2:PS:= .for false [13] (.iV (.ite (.AW .Eq (.sub (.v 12) (.int 0)) (.sub (.v 9) (.v 7))) (.v 10) (.lst false .nil))) Ah1 .nil
noncomputable def Ah3:PS:= .asg 5 (.bin .Add (.v 5) (.int 1)) .nil
noncomputable def Ah4:PS:= .tup false [6,7,8] (.sub (.v 3) (.v 5)) (.asg 9 (.sub (.sub (.v 0) (.v 6)) (.int 1)) (.iff (.AW .Lt (.v 7) (.call (.builtin "len") 16 25 (.cons (.v 9) .nil))) (.asg 10 (.ite (.AW .Eq (.bin .Add (.v 7) (.int 1)) (.call (.builtin "len") 16 25 (.cons (.v 9) .nil))) (.lst false (.cons (.v 8) .nil)) (.sub (.v 1) (.sub (.v 9) (.bin .Add (.v 7) (.int 1))))) (.for true [11,12] (.IX 17 29 (.v 0)) Ah2 .nil)) .nil Ah3))
noncomputable def Ah5:PS:= .ret (.call (.type "tuple") 18 35 (.cons (.call (.builtin "sorted") 19 31 (.cons (.v 3) .nil)) .nil))
noncomputable def Ah6:PS:= .tup true [3,4,5] (.tup (.cons (.call (.type "list") 14 34 (.cons (.v 2) .nil)) (.cons (.call (.type "dict") 15 33 (.cons (.comp false false [1] [none,none] (.tup (.cons (.v 1) (.cons (.bool true) .nil))) (.iV (.v 2)) .CK) .nil)) (.cons (.int 0) .nil)))) (.wh (.AW .Lt (.v 5) (.call (.builtin "len") 16 25 (.cons (.v 3) .nil))) Ah4 Ah5)
theorem Ah7:Fn 837 20 3 [0,1,2] [] Ah6:= .A9 (xs:= ["pairs","heads","items"]) 57 rfl (by kernel_rfl) (λP=>Be λa b c=>rfl)
noncomputable def Ah8:PS:= .DI [9,10,11,1] .nil
noncomputable def Ah9:PS:= .Ej (.sub (.v 6) (.v 12)) (.v 8) (.v 1) (.DI [1,12] .nil)
noncomputable def mJ:PS:= .asg 12 (.call (.ref 837) 14 11 (.cons (.v 0) (.cons (.v 2) (.cons (.sub (.v 7) (.v 1)) .nil)))) (.iff (.AW .NotIn (.v 12) (.v 6)) (.Ej (.call (.builtin "len") 15 25 (.cons (.v 3) .nil)) (.v 6) (.v 12) (.ex (.BU (.v 3) "append" "list.append" (.cons (.v 12) .nil)) .nil)) .nil Ah9)
noncomputable def mK:PS:= .Lm (.ex (.BU (.v 4) "append" "list.append" (.cons (.v 8) .nil)) (.asg 5 (.bin .Add (.v 5) (.int 1)) (.DI [1,7,8,9,10,11,12] .nil)))
noncomputable def mL:PS:= .iff (.AW .Lt (.v 10) (.call (.builtin "len") 15 25 (.cons (.sub (.sub (.v 0) (.v 9)) (.int 1)) .nil))) (.asg 1 (.sub (.sub (.sub (.v 0) (.v 9)) (.int 1)) (.v 10)) (.Ej (.bin .Add (.BU (.v 7) "get" "dict.get" (.cons (.v 1) (.cons (.lst false .nil) .nil))) (.lst false (.cons (.tup (.cons (.v 9) (.cons (.bin .Add (.v 10) (.int 1)) (.cons (.v 11) .nil)))) .nil))) (.v 7) (.v 1) .nil)) .nil Ah8
noncomputable def mM:PS:= .for false [1] (.iV (.call (.builtin "sorted") 16 31 (.cons (.call (.type "list") 17 34 (.cons (.v 7) .nil)) .nil))) mJ mK
noncomputable def mN:PS:= .tup true [7,8] (.tup (.cons (.dict true) (.cons (.dict true) .nil))) (.for true [9,10,11] (.iV (.sub (.v 3) (.v 5))) mL mM)
noncomputable def Aia:PS:= .ret (.tup (.cons (.v 3) (.cons (.v 4) .nil)))
noncomputable def Aib:PS:= .asg 2 (.call (.type "dict") 13 33 (.cons (.comp false false [1] [none,none,none,some 0] (.tup (.cons (.v 1) (.cons (.call (.ref 832) 2 13 (.cons (.v 3) (.cons (.v 1) .nil))) .nil))) (.iV (.lst false (.cons (.str "S") (.cons (.str "T") (.cons (.str "U") (.cons (.str "a") (.cons (.str "b") (.cons (.str "c") (.cons (.str "$end") .nil))))))))) .CK) .nil)) (.tup true [3,4,5] (.tup (.cons (.lst true (.cons (.call (.ref 837) 14 11 (.cons (.v 0) (.cons (.v 2) (.cons (.lst false (.cons (.tup (.cons (.int 0) (.cons (.int 0) (.cons (.str "") .nil)))) .nil)) .nil)))) .nil)) (.cons (.lst true .nil) (.cons (.int 0) .nil)))) (.asg 6 (.dict true) (.Ej (.int 0) (.v 6) (.sub (.v 3) (.int 0)) (.wh (.AW .Lt (.v 5) (.call (.builtin "len") 15 25 (.cons (.v 3) .nil))) mN Aia))))
theorem Aic:Fn 842 18 1 [0] [] Aib:= .A9 (xs:= ["pairs"]) 58 rfl (by kernel_rfl) (λP=>Be λa=>rfl)
noncomputable def Aid:PS:= .DI [7] .nil
noncomputable def mO:PS:= .DI [18,19,20] .nil
noncomputable def mP:PS:= .iff (.FX (.AW .Gt (.v 18) (.int 0)) (.AW .Eq (.v 19) (.call (.builtin "len") 34 25 (.cons (.sub (.sub (.v 0) (.v 18)) (.int 1)) .nil)))) (.asg 13 (.G5 (.v 13) (.cmp .In (.sub (.v 16) (.sub (.v 4) (.v 20))) (.tup (.cons (.int 0) (.cons (.bin .Sub (.int 0) (.v 18)) .nil))))) (.iff (.AW .Eq (.sub (.v 16) (.sub (.v 4) (.v 20))) (.int 0)) (.Ej (.bin .Sub (.int 0) (.v 18)) (.v 16) (.sub (.v 4) (.v 20)) .nil) .nil .nil)) .nil mO
noncomputable def mQ:PS:= .Lm (.asg 21 (.comp false false [1] [none,none] (.bin .Sub (.int 0) (.v 1)) (.iV (.v 16)) (.AW .Lt (.v 1) (.int 0))) (.asg 22 (.call (.builtin "max") 35 36 (.cons (.bin .Add (.comp false false [1] [none,none,some 21] (.BU (.v 2) "count" "list.count" (.cons (.v 1) .nil)) (.iV (.v 21)) .CK) (.lst false (.cons (.int 0) .nil))) .nil)) (.asg 23 (.ite (.E0 (.v 1)) (.sub (.bin .Add (.comp false false [1] [none,none,some 22,some 21] (.v 1) (.iV (.v 21)) (.AW .Eq (.BU (.v 3) "count" "list.count" (.cons (.v 1) .nil)) (.v 2))) (.lst false (.cons (.int 0) .nil))) (.int 0)) (.int 0)) (.ex (.BU (.v 10) "append" "list.append" (.cons (.comp false false [1] [none,none,some 23] (.ite (.FX (.AW .Gt (.v 2) (.int 0)) (.AW .Eq (.v 1) (.bin .Sub (.int 0) (.v 2)))) (.int 0) (.v 1)) (.iV (.v 16)) .CK) .nil)) (.ex (.BU (.v 11) "append" "list.append" (.cons (.v 17) .nil)) (.ex (.BU (.v 12) "append" "list.append" (.cons (.v 23) .nil)) (.DI [14,15,16,17,21,22,23] .nil)))))))
noncomputable def mR:PS:= .iff (.AW .GtE (.sub (.v 4) (.v 7)) (.int 6)) (.Ej (.sub (.v 15) (.v 7)) (.v 17) (.sub (.v 4) (.v 7)) .nil) (.Ej (.ite (.AW .Eq (.v 7) (.str "$end")) (.gi 1048576 33 0) (.sub (.v 15) (.v 7))) (.v 16) (.sub (.v 4) (.v 7)) .nil) Aid
noncomputable def mS:PS:= .for true [18,19,20] (.iV (.v 14)) mP mQ
noncomputable def Wu:PS:= .tup true [16,17] (.tup (.cons (.bin .Mult (.lst false (.cons (.int 0) .nil)) (.int 6)) (.cons (.dict true) .nil))) (.for false [7] (.iV (.v 15)) mR mS)
noncomputable def Sp:PS:= .Lm (.asg 24 (.call (.ref 641) 36 2 (.cons (.v 2) (.cons (.int 6) (.cons (.v 5) (.cons (.dict false) (.cons .no (.cons (.sub (.v 4) (.str "S")) .nil))))))) (.ret (.tup (.cons (.call (.ref 245) 37 5 (.cons (.v 24) (.cons (.v 10) (.cons (.v 11) (.cons (.v 12) (.cons (.lst false .nil) (.cons (.lst false .nil) (.cons (.str "lalr") .nil)))))))) (.cons (.v 13) .nil)))))
noncomputable def mT:PS:= .ex (.BU (.v 5) "append" "list.append" (.cons (.call (.ref 559) 29 6 (.cons (.v 3) (.cons (.sub (.v 4) (.sub (.v 6) (.int 0))) (.cons (.call (.type "tuple") 30 35 (.cons (.comp false false [1] [none,none,some 4] (.sub (.v 2) (.v 1)) (.iV (.sub (.v 6) (.int 1))) .CK) .nil)) .nil)))) .nil)) (.DI [3,6] .nil)
noncomputable def Aie:PS:= .tup false [8,9] (.call (.ref 842) 31 19 (.cons (.v 0) .nil)) (.tup false [10,11,12,13] (.tup (.cons (.lst true .nil) (.cons (.lst true .nil) (.cons (.lst true .nil) (.cons (.bool true) .nil))))) (.for true [14,15] (.MR 32 30 (.v 8) (.v 9)) Wu Sp))
noncomputable def Aif:PS:= .asg 2 (.bin .Add (.lst false (.cons (.str "$end") (.cons (.str "error") (.cons (.str "$undefined") (.cons (.str "a") (.cons (.str "b") (.cons (.str "c") (.cons (.str "$accept") .nil)))))))) (.call (.builtin "sorted") 25 31 (.cons (.call (.type "set") 26 32 (.cons (.comp false true [1,2] [none,none,none] (.v 1) (.iV (.slice false (.v 0) (.pI (.int 1)) .BP .BP)) .CK) .nil)) .nil))) (.asg 4 (.call (.type "dict") 27 33 (.cons (.comp false true [1,2] [none,none,none] (.tup (.cons (.v 2) (.cons (.v 1) .nil))) (.IX 28 29 (.v 2)) .CK) .nil)) (.asg 5 (.lst true .nil) (.for true [3,6] (.IX 28 29 (.v 0)) mT Aie)))
theorem Aig:Fn 847 38 2 [0,1] [] Aif:= .A9 (xs:= ["pairs","has_defaults"]) 59 rfl (by kernel_rfl) (λP=>Be λa b=>rfl)
noncomputable def Aih:PS:= .Hc 8 (.comp false true [1,2] [none,none,none,some 2,some 6] (.v 2) (.iV (.v 1)) (.AW .Eq (.v 1) (.sub (.v 3) (.sub (.v 4) (.int 0))))) (.asg 7 (.ite (.FX (.AW .Lt (.v 4) (.int 4)) (.AW .Lt (.call (.builtin "len") 12 25 (.cons (.v 2) .nil)) (.int 5))) (.sub (.v 8) (.call (.ref 815) 13 12 (.cons (.v 0) (.cons (.call (.builtin "len") 12 25 (.cons (.v 8) .nil)) .nil)))) (.sub (.v 8) (.int 0))) (.asg 2 (.bin .Add (.bin .Add (.slice false (.v 2) .BP (.pI (.sub (.v 6) (.int 0))) .BP) (.v 7)) (.slice false (.v 2) (.pI (.bin .Add (.sub (.v 6) (.int 0)) (.int 1))) .BP .BP)) (.DI [4,6,8,7] .nil)))
noncomputable def Aii:PS:= .ret (.tup (.cons (.v 2) (.cons (.v 3) .nil)))
noncomputable def mU:PS:= .asg 6 (.comp false true [1,2] [none,none,none] (.v 1) (.IX 11 29 (.v 2)) (.AW .In (.v 2) (.tup (.cons (.str "S") (.cons (.str "T") (.cons (.str "U") .nil)))))) (.iff (.AW .Eq (.v 6) (.lst false .nil)) .brk .nil Aih)
noncomputable def mV:PS:= .tup true [9,5] (.tup (.cons (.call (.ref 815) 13 12 (.cons (.v 0) (.cons (.int 4) .nil))) (.cons (.call (.ref 815) 13 12 (.cons (.v 0) (.cons (.bin .Add (.call (.builtin "len") 12 25 (.cons (.v 2) .nil)) (.int 1)) .nil))) .nil))) (.iff (.AW .Eq (.v 9) (.int 0)) (.tup false [2,3] (.tup (.cons (.bin .Add (.bin .Add (.slice false (.v 2) .BP (.pI (.v 5)) .BP) (.lst false (.cons (.call (.ref 822) 14 17 (.cons (.v 0) (.cons (.lst false (.cons (.str "a") (.cons (.str "b") (.cons (.str "c") .nil)))) .nil))) .nil))) (.slice false (.v 2) (.pI (.v 5)) .BP .BP)) (.cons (.bool false) .nil))) .nil) .nil Aii)
noncomputable def Aij:PS:= .tup false [2,3] (.tup (.cons (.lst false (.cons (.str "S") .nil)) (.cons (.bool true) .nil))) (.for false [4] (.FY 10 28 (.int 30)) mU mV)
theorem Aik:Fn 852 15 2 [0,1] [] Aij:= .A9 (xs:= ["pen","pairs"]) 60 rfl (by kernel_rfl) (λP=>Be λa b=>rfl)
noncomputable def Ail:PS:= .tup true [4,5,6] (.tup (.cons (.bin .Add (.v 4) (.lst false (.cons (.sub (.v 3) (.v 6)) .nil))) (.cons (.bin .Add (.v 5) (.lst false (.cons (.sub (.v 8) (.int 1)) .nil))) (.cons (.bin .Add (.v 6) (.int 1)) .nil)))) .nil
noncomputable def Aim:PS:= .tup true [4,5] (.tup (.cons (.bin .Add (.slice false (.v 4) .BP (.pI (.v 11)) .BP) (.lst false (.cons (.v 9) .nil))) (.cons (.slice false (.v 5) .BP (.pI (.bin .Add (.v 11) (.int 1))) .BP) .nil))) (.asg 5 (.bin .Add (.v 5) (.lst false (.cons (.sub (.sub (.attr (.v 1) "gotos" 9 [245]) (.sub (.v 5) (.neg (.int 1)))) (.Bg (.attr (.v 1) "grammar" 7 [245]) "number" [(641,603)] (.cons (.v 9) .nil))) .nil))) (.ex (.BU (.v 7) "append" "list.append" (.cons (.call (.type "tuple") 12 35 (.cons (.bin .Add (.v 4) (.slice false (.v 3) (.pI (.v 6)) .BP .BP)) .nil)) .nil)) .nil))
noncomputable def Ain:PS:= .DI [8,9,10,11] .nil
noncomputable def Pp:PS:= .iff (.AW .Eq (.sub (.v 8) (.int 0)) (.str "shift")) (.iff (.J0 (.AW .Eq (.v 6) (.call (.builtin "len") 13 25 (.cons (.v 3) .nil))) (.AW .NotEq (.sub (.v 8) (.int 1)) (.sub (.sub (.attr (.v 1) "rows" 8 [245]) (.sub (.v 5) (.neg (.int 1)))) (.bin .Add (.BU (.str "abc") "index" "str.index" (.cons (.sub (.v 3) (.v 6)) .nil)) (.int 3))))) (.ret .no) .nil Ail) (.iff (.AW .Eq (.sub (.v 8) (.int 0)) (.str "reduce")) (.tup false [9,10] (.sub (.v 0) (.sub (.v 8) (.int 1))) (.asg 11 (.bin .Sub (.call (.builtin "len") 13 25 (.cons (.v 4) .nil)) (.call (.builtin "len") 13 25 (.cons (.v 10) .nil))) (.iff (.J0 (.AW .Lt (.v 11) (.int 0)) (.AW .NotEq (.slice false (.v 4) (.pI (.v 11)) .BP .BP) (.v 10))) (.ret .no) .nil Aim))) (.iff (.O5 (.AW .NotEq (.v 8) (.tup (.cons (.str "accept") .nil))) (.AW .NotEq (.v 4) (.lst false (.cons (.str "S") .nil))) (.AW .NotEq (.v 6) (.call (.builtin "len") 13 25 (.cons (.v 3) .nil)))) (.ret .no) .nil .nil) .nil) Ain
noncomputable def Aio:PS:= .ret (.tup (.cons (.v 7) (.cons (.v 6) .nil)))
noncomputable def Aip:PS:= .tup false [4,5,6,7] (.tup (.cons (.lst false .nil) (.cons (.lst false (.cons (.int 0) .nil)) (.cons (.int 0) (.cons (.lst true (.cons (.call (.type "tuple") 12 35 (.cons (.v 3) .nil)) .nil)) .nil))))) (.for false [8] (.iV (.v 2)) Pp Aio)
theorem Aiq:Fn 859 14 4 [0,1,2,3] [] Aip:= .A9 (xs:= ["pairs","tables","moves","word"]) 61 rfl (by kernel_rfl) (λP=>Be λa b c d=>rfl)
noncomputable def Air:PS:= .ret (.cmp .Eq (.slice false (.sub (.v 5) (.int 0)) .BP .BP (.pI (.neg (.int 1)))) (.call (.ref 756) 12 22 (.cons (.attr (.v 4) "value" 1 [342]) .nil)))
noncomputable def Ais:PS:= .iff (.AW .NotEq (.comp false false [1] [none,none] (.Bg (.v 1) "told" [(105,95)] .nil) (.iV (.Bg (.attr (.v 4) "value" 1 [342]) "leaves" [(707,685),(742,685)] .nil)) .CK) (.comp false false [1] [none,none] (.tup (.cons (.v 1) (.cons (.v 1) .nil))) (.iV (.v 2)) .CK)) (.ret (.bool false)) .nil Air
noncomputable def Ait:PS:= .Hc 6 (.comp false false [1] [none,none] (.sub (.v 1) (.int 1)) (.iV (.attr (.v 4) "moves" 3 [342])) (.AW .Eq (.sub (.v 1) (.int 0)) (.str "reduce"))) (.iff (.J0 (.AW .NotEq (.attr (.v 4) "faults" 2 [342]) (.lst false .nil)) (.AW .NotEq (.Bg (.attr (.v 4) "value" 1 [342]) "reductions" [(707,690),(742,690)] .nil) (.v 6))) (.ret (.bool false)) .nil Ais)
noncomputable def Aiu:PS:= .iff (.IW (.E0 (.attr (.v 4) "accepted" 0 [342]))) (.ret (.Ll (.O4 (.v 3)) (.cmp .Eq (.call (.builtin "len") 11 25 (.cons (.attr (.v 4) "faults" 2 [342]) .nil)) (.int 1)) (.cmp .Eq (.attr (.sub (.attr (.v 4) "faults" 2 [342]) (.int 0)) "index" 3 [314]) (.sub (.v 5) (.int 1))))) .nil Ait
noncomputable def Aiv:PS:= .asg 4 (.Bg (.call (.ref 537) 7 0 (.cons (.v 1) (.cons (.call (.ref 794) 8 10 (.cons (.call (.ref 803) 9 23 (.cons (.v 1) .nil)) .nil)) .nil))) "parse" [(537,410)] (.cons (.comp false false [1] [none,none,none] (.call (.ref 105) 2 7 (.cons (.v 1) (.cons (.v 1) (.cons .no .nil)))) (.iV (.v 2)) .CK) .nil)) (.asg 5 (.call (.ref 859) 10 14 (.cons (.v 0) (.cons (.v 1) (.cons (.attr (.v 4) "moves" 3 [342]) (.cons (.v 2) .nil))))) (.iff (.J0 (.AW .Is (.v 5) .no) (.AW .NotEq (.attr (.v 4) "accepted" 0 [342]) (.cmp .Eq (.slice false (.attr (.v 4) "moves" 3 [342]) (.pI (.neg (.int 1))) .BP .BP) (.lst false (.cons (.tup (.cons (.str "accept") .nil)) .nil))))) (.ret (.bool false)) .nil Aiu))
theorem Aiw:Fn 864 13 4 [0,1,2,3] [] Aiv:= .A9 (xs:= ["pairs","tables","word","is_sure"]) 62 rfl (by kernel_rfl) (λP=>Be λa b c d=>rfl)
noncomputable def Aix:PS:= .DI [5,6,7] .nil
noncomputable def mW:PS:= .tup false [6,7] (.call (.ref 852) 13 21 (.cons (.v 1) (.cons (.v 2) .nil))) (.iff (.IW (.E0 (.call (.ref 864) 14 18 (.cons (.v 2) (.cons (.v 3) (.cons (.v 6) (.cons (.G5 (.v 7) (.v 4)) .nil))))))) (.ret (.bool false)) .nil Aix)
noncomputable def mX:PS:= .ret (.bool true)
noncomputable def Aiy:PS:= .asg 1 (.call (.ref 808) 8 16 (.cons (.v 0) .nil)) (.asg 2 (.call (.ref 827) 9 15 (.cons (.v 1) .nil)) (.tup false [3,4] (.call (.ref 847) 10 20 (.cons (.v 2) (.cons (.cmp .Gt (.call (.ref 815) 11 12 (.cons (.v 1) (.cons (.int 3) .nil))) (.int 0)) .nil))) (.for false [5] (.FY 12 28 (.int 2)) mW mX)))
theorem Aiz:Fn 871 15 1 [0] [] Aiy:= .A9 (xs:= ["script"]) 63 rfl (by kernel_rfl) (λP=>Be λa=>rfl)
def B5(V:St)(p q:Addr):Prop:=p≠q/\ ∃(xs:List Int)(i j:Int),V p=some (.list [.ref q,.int i,.int j])/\V q=some (.list (xs.map .int))/\xs.length<=63
def EH(p q:Addr)(V Aq:St):Prop:=∀a,a≠p->a≠q->Aq a=V a
theorem EH.refl{p q:Addr}:EH p q V V:=λZ Z Z=>rfl
theorem EH.Pq{p q:Addr}{Aq:St}(x:EH p q V Aq){ob:BD}:EH p q V (Aq.set p ob):=λa h1 h2=>(St.Am h1).trans (x a h1 h2)
theorem EH.setq{p q:Addr}{Aq:St}(x:EH p q V Aq){ob:BD}:EH p q V (Aq.set q ob):=λa h1 h2=>(St.Am h2).trans (x a h1 h2)
theorem AL.at{Q:AV->St->Prop}{a:AV}{b:Bool}{k:Nat}{x:AV}(m:Nat)(h:Cb V a b xs)(hm:xs.length=m)(hx:xs[k]?=some x)(q:Q x V)(h2:Cf m 1000=true:=by rfl):AL c n a (.int k) V Q:=
 AL.B4 h (B8 k) (by exact Aa hm<|DT (Ds h2) (by decide)) hx q
theorem Dd.at{Q:St->Prop}{a:Addr}{x:AV}(k m:Nat)(h:V a=some (.list xs))(hm:xs.length=m)(q:Q (V.set a (.list (xs.set k x))))(hk:Nat.blt k m=true:=by rfl)(h2:Cf m 1000=true:=by rfl):Dd c n (.ref a) (.int k) x V Q:=
 Dd.B4 h (B8 k) (by exact Aa hm<|Ic.mpr (Ds hk)) (by exact Aa hm<|DT (Ds h2) (by decide)) q
theorem Sq{c:Cx}{n:Nat}{W:Al}{V:St}{t:PE}{a b r:PS}{Q:Fl->Al->St->Prop}(R:Al->St->Prop)
  (h:∀N:Fl->Al->St->Prop,(∀Ap Aq,R Ap Aq->N .next Ap Aq)->(∀a Ap Aq,Q (.ret a) Ap Aq->N (.ret a) Ap Aq)->vc c n t W V λv Af=>D2 v (vs c n a W Af N) (vs c n b W Af N))
  (k:∀Ap Aq,R Ap Aq->vs c n r Ap Aq Q):vs c n (.iff t a b r) W V Q:=h (nx (vs c n r) Q) k λZ Z Z h=>h
theorem gR{p:PS}{s:St}{K:Fl->Al->St->Prop}(h:let r:=W;vs c n p r s K):vs c n p W s K:=h
set_option genSizeOf true
set_option genInjectivity true
set_option genInjectivity false in
set_option genSizeOf false in
structure O8 where
 (a b c d e f g h:Option AV)
theorem Ps{c:Cx}{n:Nat}{tt:Bool}{tg:List Nat}{b r:PS}{V:St}{xs:List AV}{K:Fl->Al->St->Prop}{X:Type}(row:X->O8->Al)(P:Nat->X->St->Prop)(x0:X)(o0:O8)(h0:P 0 x0 V)
  (step:∀i a x o s (J:Fl->Al->St->Prop),xs[i]?=some a->P i x s->(∀x' o' s',P (i+1) x' s'->J .next (row x' o') s')->(∀v W s,K (.ret v) W s->J (.ret v) W s)->He tt tg (row x o) a λAp=>vs c n b Ap s J)
  (fin:∀x o s,P xs.length x s->vs c n r (row x o) s K):
  R9 (vs c n b) (vs c n r) tt tg xs (row x0 o0) V K:=
 ⟨λi W s=>∃x o,W=row x o/\P i x s,⟨x0,o0,rfl,h0⟩,λi a FE si ha h=>Br h λx o e q=>by subst e;exact step i a x o si _ ha q (λx' o' s' h=>⟨x',o',rfl,h⟩) λZ Z Z h=>h,λW s h=>Br h λx o e q=>by subst e;exact fin x o s q⟩
theorem forY{c:Cx}{n:Nat}{tt:Bool}{tg:List Nat}{b r:PS}{V:St}{xs:List AV}{K:Fl->Al->St->Prop}{X:Type}(row:X->Al)(P:Nat->X->St->Prop)(x0:X)(h0:P 0 x0 V)
  (step:∀i a x s (J:Fl->Al->St->Prop),xs[i]?=some a->P i x s->(∀x' s',P (i+1) x' s'->J .next (row x') s')->He tt tg (row x) a λAp=>vs c n b Ap s J)
  (fin:∀x s,P xs.length x s->vs c n r (row x) s K):
  R9 (vs c n b) (vs c n r) tt tg xs (row x0) V K:=
 ⟨λi W s=>∃x,W=row x/\P i x s,⟨x0,rfl,h0⟩,λi a FE si ha h=>Ad h λx e q=>by subst e;exact step i a x si _ ha q λx' s' h=>⟨x',rfl,h⟩,λW s h=>Ad h λx e q=>by subst e;exact fin x s q⟩
theorem IZ{c:Cx}{n:Nat}{tt:Bool}{tg:List Nat}{b r:PS}{V:St}{xs:List AV}{K:Fl->Al->St->Prop}(row:Nat->Al)(P:Nat->St->Prop)(h0:P 0 V)
  (step:∀i a s (J:Fl->Al->St->Prop),xs[i]?=some a->P i s->(∀s',P (i+1) s'->J .next (row (i+1)) s')->He tt tg (row i) a λAp=>vs c n b Ap s J)
  (fin:∀s,P xs.length s->vs c n r (row xs.length) s K):
  R9 (vs c n b) (vs c n r) tt tg xs (row 0) V K:=
 ⟨λi W s=>W=row i/\P i s,⟨rfl,h0⟩,λi a FE si ha h=>Ah h λe q=>by subst e;exact step i a si _ ha q λs' h=>⟨rfl,h⟩,λW s h=>Ah h λe q=>by subst e;exact fin s q⟩
theorem Wv{c:Cx}{n:Nat}{t:PE}{b r:PS}{V:St}{K:Fl->Al->St->Prop}{X Y:Type}(row:X->Y->O8->Al)(P:X->Y->St->Prop)(μ:X->Y->Nat)(x0:X)(y0:Y)(o0:O8)(h0:P x0 y0 V)
  (step:∀x y o s (J:Fl->Al->St->Prop),P x y s->(∀x' y' o' s',μ x' y'<μ x y->P x' y' s'->J .next (row x' y' o') s')->(∀v W s,K (.ret v) W s->J (.ret v) W s)->vc c n t (row x y o) s λv s1=>D2 v (vs c n b (row x y o) s1 J) (vs c n r (row x y o) s1 K)):
  vs c n (.wh t b r) (row x0 y0 o0) V K:=
 ⟨λm W s=>∃x y o,W=row x y o/\P x y s/\μ x y=m,μ x0 y0,⟨x0,y0,o0,rfl,h0,rfl⟩,λm W s h=>UL h λx y o e q e2=>by subst e;subst e2;exact step x y o s _ q (λx' y' o' s' hm h=>⟨μ x' y',hm,x',y',o',rfl,h,rfl⟩) λZ Z Z h=>h⟩
theorem ifX{c:Cx}{n:Nat}{W:Al}{V:St}{t:PE}{a b r:PS}{K:Fl->Al->St->Prop}{X:Type}(row:X->O8->Al)(P:X->St->Prop)
  (h:∀N:Fl->Al->St->Prop,(∀x o s,P x s->N .next (row x o) s)->(∀v W s,K (.ret v) W s->N (.ret v) W s)->vc c n t W V λv Af=>D2 v (vs c n a W Af N) (vs c n b W Af N))
  (k:∀x o s,P x s->vs c n r (row x o) s K):vs c n (.iff t a b r) W V K:=h (nx (vs c n r) K) (λx o s h=>k x o s h) λZ Z Z h=>h
theorem Pt{c:Cx}{n:Nat}{V:St}{Q:AV->St->Prop}(O:AE c){p q:Addr}{m:Int}(hp:B5 V p q)(h0:0<m)(h1:m<1000)
  (k:∀(r:Int) Aq,0<=r->r<m->B5 Aq p q->EH p q V Aq->Q (.int r) Aq):A0 c (n+2) (.ref 815) [.ref p,.int m] V Q:=by
 obtain⟨Bb,xs,i,j,hp,hq,hl⟩:=hp;refine AhO.run O ?_;refine AL.at 3 (.ref hp) rfl rfl ?_;refine Dd.at 1 3 hp rfl ?_;refine Sq (λAp s=>Ap= [some (.ref p),some (.int m),none,none]/\ ∃(ys:List Int)(j':Int),s p=some (.list [.ref q,.int (i+1),.int j'])/\s q=some (.list (ys.map .int))/\ys.length<=63/\EH p q V s) (λN hn Z=>?_) ?_
 ·have Pu:(V.set p (.list [.ref q,.int (i+1),.int j])) q=some (.list (xs.map .int)):=(St.Am Bb.symm).trans hq;refine AL.at 3 (.ref St.AC) rfl rfl ?_;refine⟨λe=>?_,λe=>?_⟩
  ·refine AL.at 3 (.ref St.AC) rfl rfl ?_;refine(AR.OU (.ref Pu) ⟨_,rfl,λe=>?_,λe=>?_⟩)
   ·cases xs with
    | nil=>simp at e
    | cons y ys=>
     refine AL.at 3 (.ref St.AC) rfl rfl ?_;refine⟨Z5 (.ref Pu),An.pop0 Pu (by exact Aa (Ai _)<|B7 (Nat.lt_of_succ_le hl) (by decide)) ?_⟩;refine Dd.at 2 3 ((St.Am Bb).trans St.AC) rfl ?_;exact hn _ _ ⟨rfl,ys,y,St.AC,(St.Am Bb.symm).trans St.AC,YA hl,(EH.refl.Pq.setq).Pq⟩
   ·exact hn _ _ ⟨rfl,xs,j,St.AC,Pu,hl,EH.refl.Pq⟩
  ·exact hn _ _ ⟨rfl,xs,j,St.AC,Pu,hl,EH.refl.Pq⟩
 ·intro _ s;intro hZ;obtain⟨rfl,ys,j',hp,hq,hl,off⟩:=hZ;refine AL.at 3 (.ref hp) rfl rfl ?_;refine An.VA ?_;refine Ci.mod (λCJ=>Mk h0 CJ) ?_;refine AL.at 3 (.ref hp) rfl rfl ?_;refine An.VA ?_;refine Ci.fdiv (λCJ=>Mk h0 CJ) (M77 h0 h1) ?_;refine Dd.at 2 3 hp rfl ?_;refine AL.at 3 (.ref St.AC) rfl rfl ?_;refine Ci.mod (λCJ=>Mk h0 CJ) ?_;exact A6 (k _ _ (Int.fmod_nonneg_of_pos _ h0) (Int.fmod_lt_of_pos _ h0) ⟨Bb,ys,_,_,St.AC,(St.Am Bb.symm).trans hq,hl⟩ off.Pq)
theorem AiA{c:Cx}{n:Nat}{V:St}{Q:AV->St->Prop}(O:AE c){p q:Addr}{xs:List AV}(hp:B5 V p q)(h0:0<xs.length)(h1:xs.length<1000)
  (k:∀(i:Nat) x Aq,xs[i]?=some x->B5 Aq p q->EH p q V Aq->Q x Aq):A0 c (n+3) (.ref 822) [.ref p,.lst xs] V Q:=by
 refine AhQ.run O ?_;refine An.len .lst (N4 h1 rfl) ?_;refine(Pt O hp (m:=xs.length) (JN h0) (Iy h1 rfl) λr Aq r0 r1 D4 off=>?_).call;refine AL.B4 .lst r0 (N4 h1 rfl) (BG (M62 h0 r1)) ?_;exact A6 (k _ _ _ (BG _) D4 off)
section
variable{c:Cx}{n:Nat}{V:St}{Q:AV->St->Prop}
def Turn(c:Cx)(n:Nat)(elt Cj:PE)(tt:Bool)(tg:List Nat)(ρ0:Al)(V:St)(x:AV)(o:Option AV):Prop:=
 ∀(K:AV->St->Prop)(N:St->Prop),(∀y,o=some y->K y V)->(o=none->N V)->He tt tg ρ0 x λAp=>vc c n Cj Ap V λb Av=>D2 b (vc c n elt Ap Av K) (N Av)
theorem Hj{α:Type}{l:List α}{enc:α->AV}(g:α->Option AV){mu tt:Bool}{elt Cj:PE}{o:Option Al}(ho:o=some ρ0)(hz:l.length<=Bc)(h:∀a∈l,Turn c n elt Cj tt tg ρ0 V (enc a) (g a))(q:E1 mu (l.filterMap g) V Q):
  MT (vc c n elt) (vc c n Cj) tt tg o (l.map enc) V λys C4=>E1 mu ys C4 Q:=by
 subst ho;refine⟨Aa (Ai _)<|hz,λi ys s=>s=V/\ys=(l.take i).filterMap g,⟨rfl,rfl⟩,λi x ys DZ hx hI=>?_,λys C4 Z hI=>?_⟩
 ·refine Ah hI ?_;clear hI;rintro rfl rfl;replace hx:=Bp▸hx;rewrite[D8] at hx;refine Ad hx ?_;clear hx;rintro a ha rfl;have e:(l.take (i+1)).filterMap g=(l.take i).filterMap g++(g a).toList:=by refine Aa Fu<|Aa Iu<|Aa ha ?_;simp[HB];cases g a<;>rfl
  refine h a (A8 ha) _ _ (λy hy=>⟨rfl,?_⟩) (λhy=>⟨rfl,?_⟩)
  ·exact Aa e<|Aa hy rfl
  ·refine Aa e<|Aa hy ?_;simp
 ·refine Ah hI ?_;clear hI;rintro rfl rfl;refine Aa (Ai _)<|Aa QV ?_;exact q
theorem AiB{α β:Type}{l:List α}{f:α->β}:l.filterMap (λa=>some (f a))=l.map f:=by
 induction l with
 | nil=>rfl
 | cons a l ih=>exact Aa HB<|Aa ih rfl
theorem comp_map{α:Type}{l:List α}{enc:α->AV}(f:α->AV){mu tt:Bool}{elt:PE}{o:Option Al}(ho:o=some ρ0)(hz:l.length<=Bc)(h:∀a∈l,∀K:AV->St->Prop,K (f a) V->He tt tg ρ0 (enc a) λAp=>vc c n elt Ap V K)(q:E1 mu (l.map f) V Q):
  MT (vc c n elt) (vc c n .CK) tt tg o (l.map enc) V λys C4=>E1 mu ys C4 Q:=
 Hj (λa=>some (f a)) ho hz (λa ha K N k Z=>h a ha K (k _ rfl)) (by exact Aa AiB<|q)
theorem Ww{xs:List AV}(R:Nat->List AV->St->Prop){mu tt:Bool}{tg:List Nat}{elt:PE}{o:Option Al}{ρ0:Al}(ho:o=some ρ0)(hz:xs.length<=Bc)(h0:R 0 [] V)
  (h:∀i x ys s (K:AV->St->Prop),xs[i]?=some x->R i ys s->(∀y s',R (i+1) (ys++ [y]) s'->K y s')->He tt tg ρ0 x λAp=>vc c n elt Ap s K) (q:∀ys s,R xs.length ys s->E1 mu ys s Q):
  MT (vc c n elt) (vc c n .CK) tt tg o xs V λys C4=>E1 mu ys C4 Q:=by
 subst ho;exact⟨hz,R,h0,λi x ys s hx hR=>h i x ys s _ hx hR λy s' h=>h,λys s Z hR=>q ys s hR⟩
theorem mY(k l:Nat):max 0 (min (if(k:Int)<0 then(k:Int)+l else k) (l:Int))=((min k l:Nat):Int):=by
 refine Aa (if_neg (Hs.mpr (B8 k))) ?_;rcases zJ k l with h|h
 ·exact Aa (Abf (Ie.mpr h))<|Aa (Jt h)<|Aa (YS (B8 _)) rfl
 ·exact Aa (Int.min_eq_right (Ie.mpr h))<|Aa (YT h)<|Aa (YS (B8 _)) rfl
theorem pk_2(l:Nat):max 0 (min (-1+(l:Int)) (l:Int))=((l-1:Nat):Int):=by
 cases l with
 | zero=>rfl
 | succ n=>
  have e: -1+((n+1:Nat):Int)=n:=Aa (Int.natCast_succ _)<|Aa (wU _ _)<|Aa (wV _ _) rfl;exact Aa e<|Aa (Abf (Ie.mpr (L4 n)))<|Aa (YS (B8 _)) rfl
theorem Wx{lo hi:Option Int}(e:Gn lo hi none xs.length=((a:Int),(b:Int),1)):pick xs lo hi none=(xs.drop a).take (b-a):=by
 unfold pick;refine Aa e ?_;have hc:QH (a:Int) (b:Int) 1=(BN (b-a)).map λk=>a+k:=by
  unfold QH;have:(if(1:Int)>0 then(if(a:Int)<b then((b:Int)-a+1-1) / 1 else 0) else(if(a:Int)>b then((a:Int)-b-1-1) / (-1) else 0)).toNat=b-a:=by
   rw[if_pos (by decide)];split
   ·exact Aa (wW _)<|Aa (wS _ _)<|Aa (Int.toNat_sub _ _) rfl
   ·rename_i h;exact(Nat.sub_eq_zero_of_le (Ie.mp (Hs.mp h))).symm
  simp only[this];exact Gm λk Z=>congrArg (λx=>((a:Int)+x).toNat) (Int.one_mul k)
 refine Aa hc ?_;generalize b-a=m;induction m with
 | zero=>simp
 | succ m ih=>refine Aa YU<|Aa Bs<|Aa Iu<|Aa ih<|Aa Fu<|Aa List.getElem?_drop ?_;simp[HB];cases xs[a+m]?<;>rfl
theorem I7(xs:List AV)(k:Nat):pick xs none (some (k:Int)) none=xs.take k:=by rw[Wx (a:=0) (b:=min k xs.length) (by simp[Gn];exact mY _ _)];simp[List.take_eq_take_min]
theorem KO(xs:List AV)(k:Nat):pick xs (some (k:Int)) none none=xs.drop k:=by
 rw[Wx (a:=min k xs.length) (b:=xs.length) (by simp[Gn];exact mY _ _)];by_cases h:k<=xs.length
 ·rw[Jt h,Gp (by simp)]
 ·refine Aa (YT (YV h))<|Aa (Uc (BJ _))<|Aa (Uc (YV h)) ?_;simp
theorem AiC(xs:List AV):pick xs (some (-1)) none none=xs.drop (xs.length-1):=by rw[Wx (a:=xs.length-1) (b:=xs.length) (by simp[Gn];exact pk_2 _)];rw[Gp (by simp)]
theorem mZ(xs:List AV):pick xs none none (some (-1))=xs.reverse:=by
 unfold pick;refine Aa (krv_bounds _)<|Aa (krv_sliceRange _) ?_;have:∀m,m<=xs.length->((BN m).map λk=>xs.length-1-k).filterMap (xs[·]?)=xs.reverse.take m:=by
  intro m hm;induction m with
  | zero=>simp
  | succ m ih=>
   refine Aa YU<|Aa Bs<|Aa Iu<|Aa (ih (CN hm))<|Aa Fu<|Aa (List.getElem?_reverse (B7 (Abg _) hm)) ?_;simp[HB];cases xs[xs.length-1-m]?<;>rfl
 rw[this _ (BJ _),Gp (by simp)]
theorem MZ{mu:Bool}(e:xs=ys)(h:E1 mu ys V Q):E1 mu xs V Q:=e▸h
theorem AiD(O:AE c){l:Addr}{vs:List Ac}{ns:List Int}(h:c.h₀.IsList l vs.toArray)(r:∀F,Ao c.w F vs (ns.map .int))(hn:ns.length<=63)(k:∀p q Aq,B5 Aq p q->Q (.ref p) Aq):A0 c (n+2) (.ref 808) [.raw (.ref l)] V Q:=by
 refine AhL.run O ?_;refine⟨ns.map .int,FF.raw h r,Aa (Ai _)<|AP hn (by decide),?_⟩;refine MZ ((I7 _ 63).trans (Gp (by exact Aa (Ai _)<|hn))) ?_;refine comp_map (enc:=AV.int) (λi=>AV.int (if i<0 then 2* -i+1 else 2*i+0)) rfl (AP hn (by decide)) (λi Z K hK=>?_) λq hq=>?_
 ·refine An.VA (An.abs (Ci.mul (.of_left (by decide)) ⟨λe=>An.cY ?_,λe=>An.cY ?_⟩))
  ·show K (.int (2*(if i<0 then-i else i)+1)) V;rw[if_pos e] at hK⊢;exact hK
  ·show K (.int (2*(if i<0 then-i else i)+0)) V;rw[if_neg (Hs.mpr e)] at hK⊢;exact hK
 ·refine(λp hp=>A6 (k p q _ ?_));have Bb:p≠q:=by rintro rfl;replace hp:=St.AC▸hp;exact BR hp
  refine⟨Bb,ns.map (λi=>if i<0 then 2* -i+1 else 2*i+0),0,0,St.AC,?_,Aa (Ai _)<|hn⟩;exact Aa (St.Am Bb.symm)<|Aa St.AC<|Aa BC rfl
end
set_option genSizeOf false
inductive Sy where
 | S | T | U | a | b | c | en | ac | nu
deriving DecidableEq
variable{X:Sy}{hl:List (Sy×List Sy)}{Aw:List (List (Sy×Nat))}
noncomputable def Sy.str:Sy->Str
 | .S=>"S" | .T=>"T" | .U=>"U" | .a=>"a" | .b=>"b" | .c=>"c" | .en=>"$end" | .ac=>"$accept" | .nu=>""
noncomputable def Kf(s:Str):Sy:=if s="S" then .S else if s="T" then .T else if s="U" then .U else if s="a" then .a else if s="b" then .b else if s="c" then .c else if s="$end" then .en else if s="$accept" then .ac else .nu
theorem M0(x:Sy):Kf x.str=x:=by cases x<;>decide+kernel
theorem Sy.inj{x y:Sy}(h:x.str=y.str):x=y:=by refine AS (M0 x) ?_;exact Aa h<|Aa (M0 _) rfl
noncomputable abbrev Pr:=Sy×List Sy
noncomputable abbrev Az(x:Sy):AV:= .str x.str
noncomputable abbrev Bm(xs:List Sy):AV:= .lst (xs.map Az)
noncomputable abbrev AZ(p:Pr):AV:= .tup [Az p.1,Bm p.2]
noncomputable abbrev AB(k:Nat):AV:= .int k
variable{ps:List Pr}
noncomputable def sig(n:Nat):List Sy:= [Sy.S,.T,.U].take n
noncomputable def A4:List Sy:= [.a,.b,.c]
structure BV(n:Nat)(ps:List Pr):Prop where
 n1:1<=n
 n3:n<=3
 ps:∃(rs es:List Pr),ps=(.ac,[.S,.en])::(rs++es)/\rs.map (·.1)=sig n/\(∀f∈rs,(f.2.length=1\/f.2.length=2)/\ ∀s∈f.2,s∈A4)/\es.length=4-n/\
  ∀e∈es,e.1∈sig n/\(e.2.length=2\/e.2.length=3)/\ ∀s∈e.2,s∈[Sy.a,.b]++sig n++sig n
noncomputable def St.del(V:St)(a:Addr):St:=λb=>if b=a then none else V b
theorem St.I8{a:Addr}:V.del a a=none:=if_pos rfl
theorem St.Dp{a b:Addr}(h:b≠a):V.del a b=V b:=if_neg h
theorem St.I9{a:Addr}:(V.del a).le V:=λb ob e=>by
 by_cases h:b=a
 ·subst h;replace e:=St.I8▸e;exact AA e
 ·replace e:=(St.Dp h)▸e;exact e
theorem St.nw{a b:Addr}{ob:BD}(h:V.set a ob b=none):b≠a/\V b=none:=
 have e:b≠a:=λe=>BR ((if_pos e).symm.trans h)
 ⟨e,(St.Am e).symm.trans h⟩
theorem B5.eq{Aq:St}{p q:Addr}(h:B5 V p q)(hp:Aq p=V p)(hq:Aq q=V q):B5 Aq p q:=by obtain⟨ne,xs,i,j,h1,h2,h3⟩:=h;exact⟨ne,xs,i,j,hp.trans h1,hq.trans h2,h3⟩
theorem B5.ne{p q a:Addr}(h:B5 V p q)(ha:V a=none):a≠p/\a≠q:=by
 obtain⟨ne,xs,i,j,h1,h2,h3⟩:=h;constructor
 ·rintro rfl;replace h1:=ha▸h1;exact AA h1
 ·rintro rfl;replace h2:=ha▸h2;exact AA h2
theorem B5.set{p q a:Addr}{ob:BD}(h:B5 V p q)(n1:a≠p)(n2:a≠q):B5 (V.set a ob) p q:=h.eq (St.Am n1.symm) (St.Am n2.symm)
theorem B5.del{p q a:Addr}(h:B5 V p q)(n1:a≠p)(n2:a≠q):B5 (V.del a) p q:=h.eq (St.Dp n1.symm) (St.Dp n2.symm)
theorem Dx{α:Type}{l:List α}{f:α->AV}{x:AV}(h:(l.map f)[i]?=some x):∃a,l[i]?=some a/\f a=x:=by rwa[Bp,D8] at h
section
variable{c:Cx}{n:Nat}{V:St}{Q:AV->St->Prop}
theorem Lx{α:Type}(O:AE c){p q:Addr}{f:α->AV}{l:List α}(hp:B5 V p q)(h0:0<l.length)(h1:l.length<1000)
  (k:∀x Aq,x∈l->B5 Aq p q->EH p q V Aq->Q (f x) Aq):An c (n+3) (.ref 822) [.ref p,.lst (l.map f)] V Q:=
 (AiA O hp (by rwa[Ai]) (by rwa[Ai]) λi x Aq hx hp off=>by
  refine Ad (Dx hx) ?_;clear hx;rintro a ha rfl;exact k a Aq (A8 ha) hp off).call
theorem qA(O:AE c){p q:Addr}{l:List Sy}{m:Nat}{P:St->Prop}{mu tt:Bool}{tg:List Nat}{elt:PE}{o:Option Al}{ρ0:Al}(ho:o=some ρ0)(hp:B5 V p q)(hP:P V)(hz:m<=Bc)
  (keep:∀s s',P s->EH p q s s'->P s')
  (h:∀(i:Nat) s (K:AV->St->Prop),B5 s p q->(∀x s',x∈l->B5 s' p q->EH p q s s'->K (Az x) s')->He tt tg ρ0 (.int i) λAp=>vc c n elt Ap s K)
  (k:∀(xs:List Sy) s,xs.length=m->(∀x∈xs,x∈l)->B5 s p q->P s->E1 mu (xs.map Az) s Q):
  MT (vc c n elt) (vc c n .CK) tt tg o ((BN m).map λi:Nat=>AV.int i) V λys C4=>E1 mu ys C4 Q:=by
 refine Ww (elt:=elt) (λi ys s=>∃xs:List Sy,ys=xs.map Az/\xs.length=i/\(∀x∈xs,x∈l)/\B5 s p q/\P s) ho (by simpa using hz) ⟨[],rfl,rfl,by simp,hp,hP⟩ (λi x ys s K hx hI hK=>?_) λys s hI=>?_
 ·refine Mq hI ?_;clear hI;rintro xs rfl hl hm hp hP;refine Ad (Dx hx) ?_;clear hx;rintro j _ rfl;exact h j s K hp λy s' hy D4 off=>hK _ _ ⟨xs++ [y],by simp,by simp[hl],by simpa[or_imp,forall_and] using⟨hm,hy⟩,D4,keep _ _ hP off⟩
 ·refine Mq hI ?_;clear hI;rintro xs rfl hl hm hp hP;exact k xs s (by simpa using hl) hm hp hP
theorem AiE(n:Nat):(sig n).map Az= [AV.str "S",.str "T",.str "U"].take n:=by unfold sig;exact Aa Me rfl
theorem Bh(h:n<=1000):n<=sizeLine:=AP h (by decide)
def Rs(m i:Nat)(rs:List Pr):Prop:=rs.map (·.1)=(sig m).take i/\ ∀f∈rs,(f.2.length=1\/f.2.length=2)/\ ∀s∈f.2,s∈A4
def Es(m i:Nat)(es:List Pr):Prop:=es.length=i/\ ∀e∈es,e.1∈sig m/\(e.2.length=2\/e.2.length=3)/\ ∀s∈e.2,s∈[Sy.a,.b]++sig m++sig m
theorem Wy{α:Type}{P:α->Prop}{l:List α}{x:α}(h:∀y∈l,P y)(hx:P x)(y:α)(hy:y∈l++ [x]):P y:=
 (C9.mp hy).elim (h y) λe=>B3.mp e▸hx
theorem Rs.add{rs:List Pr}{nm:Sy}{xs:List Sy}(h:Rs m i rs)(hn:(sig m)[i]?=some nm)(hx:(xs.length=1\/xs.length=2)/\ ∀s∈xs,s∈A4):Rs m (i+1) (rs++ [(nm,xs)]):=
 ⟨Aa Bs<|Aa (h.1)<|Aa Fu<|Aa hn rfl,Wy h.2 hx⟩
theorem Es.add{es:List Pr}{nm:Sy}{xs:List Sy}(h:Es m i es)(hn:nm∈sig m)(hx:(xs.length=2\/xs.length=3)/\ ∀s∈xs,s∈[Sy.a,.b]++sig m++sig m):Es m (i+1) (es++ [(nm,xs)]):=
 ⟨Aa AY<|Aa (h.1) rfl,Wy h.2 ⟨hn,hx⟩⟩
noncomputable def Ly(rs:List Pr):BD:= .list (((Sy.ac,[Sy.S,.en])::rs:List Pr).map AZ)
theorem qB(rs:List Pr)(x:Pr):BD.list (((Sy.ac,[Sy.S,.en])::rs:List Pr).map AZ++ [AZ x])=Ly (rs++ [x]):=by unfold Ly;exact Aa EO<|Aa EO<|Aa Bs rfl
theorem qC(h:m<=3):(sig m).length=m:=by unfold sig;exact Aa JI<|Jt h
theorem AiF(O:AE c){p q:Addr}(hp:B5 V p q)(k:∀m ps Aq,BV m ps->B5 Aq p q->Q (.lst (ps.map AZ)) Aq):A0 c (n+4) (.ref 827) [.ref p] V Q:=by
 refine AhW.run O (Lx (f:=AB) (l:= [2,1,2,3]) O hp (by decide) (by decide) λm s hm hp off=>?_);have n1:1<=m/\m<=3:=by simp at hm;exact M55 hm
 have sl:=qC n1.2;refine⟨Ds rfl,MZ ((I7 _ m).trans (AiE m).symm) (λP hP=>?_)⟩;have nP:=hp.ne hP;let R (o:O8):Al:= [some (.ref p),some (Bm (sig m)),some (.ref P),o.a,o.b,o.c,none,none,none,none];refine Ps (X:=List Pr) (λZ o=>R ⟨o.a,none,none,none,none,none,none,none⟩) (λi rs s=>Rs m i rs/\B5 s p q/\s P=some (Ly rs)) [] ⟨_,none,none,none,none,none,none,none⟩ ⟨⟨rfl,λZ h=>nomatch h⟩,hp.set nP.1 nP.2,St.AC⟩ ?_ ?_
 ·intro i x rs o s J hx h hJ _;refine Ad (Dx hx) ?_;clear hx;rintro nm Ja rfl;have hi:i<(sig m).length:=(A5.mp Ja).1;have hl:rs.length<=3:=by have e:=congrArg EQ h.1.1;rewrite[Ai] at e;replace e:=JI▸e;exact AP (BA e) (AP (Ks _ _) (N7 sl n1.2))
  refine gR ?_;intro r;refine⟨Du (.ref h.2.2),Lx (f:=AB) (l:= [1,2,1,1]) O h.2.1 (by decide) (by decide) λt s' ht D4 off=>?_⟩;have ht:=m4 ht;refine⟨t,rfl,Bh (Ix ht rfl rfl),qA (l:=A4) (P:=λs=>s P=some (Ly rs)) O rfl D4 ((off P nP.1 nP.2).trans h.2.2) (Bh (Ix ht rfl rfl)) (λs s' h off=>(off P nP.1 nP.2).trans h) (λj s K hp hK=>Lx (f:=Az) (l:=A4) O hp (by decide) (by decide) hK) λxs s FD hm hp hP=>An.append hP (Bh (by exact Aa (Ai _)<|Aa Fc<|KU hl rfl)) ?_⟩;exact hJ (rs++ [(nm,xs)]) ⟨some (Az nm),none,none,none,none,none,none,none⟩ _ ⟨h.1.add Ja ⟨FD▸ht,hm⟩,hp.set nP.1 nP.2,St.AC.trans (congrArg some (qB rs (nm,xs)))⟩
 ·intro rs o s h;have hl:=h.1.1;rewrite[Ai] at hl;replace hl:=(Gp (BJ _))▸hl;have rl:rs.length=m:=by have:=congrArg EQ hl;rwa[Ai,sl] at this
  refine An.len .lst (by exact Aa (Ai _)<|Aa sl<|N2 n1.2 rfl) (An.max2 ⟨4-m,by refine Aa (Ai _)<|Aa sl ?_;congr 1;exact M79 n1,Bh (N1 (Kt _ _) rfl),?_⟩);refine Ps (X:=List Pr) (λZ o=>R o) (λi es s=>Es m i es/\B5 s p q/\s P=some (Ly (rs++es))) [] ⟨_,_,_,none,none,none,none,none⟩ ⟨⟨rfl,λZ h=>nomatch h⟩,h.2.1,Aa (C8 _)<|h.2.2⟩ ?_ ?_
  ·intro i x es o s J hx h hJ _;have hj:i<4-m:=by have:=(A5.mp hx).1;rwa[Ai,FS] at this
   refine Ad (Dx hx) ?_;clear hx;rintro j _ rfl;have el:=h.1.1;refine gR ?_;intro r;refine Lx (f:=Az) (l:=sig m) O h.2.1 (B7 (HF _) (N9 sl n1.1)) (N2 (N7 sl n1.2) rfl) λnm s1 Ja FC qD=>Lx (f:=AB) (l:= [2,3,2,2]) O FC (by decide) (by decide) λt s2 ht DW qE=>?_;have ht:=m4 ht;have HO:=(qE P nP.1 nP.2).trans ((qD P nP.1 nP.2).trans h.2.2);have l2:([Sy.a,.b]++sig m++sig m).length=2+m+m:=Aa AY<|Aa AY<|Aa sl rfl;refine⟨Du (.ref HO),t,rfl,Bh (Ix ht rfl rfl),qA (l:= [Sy.a,.b]++sig m++sig m) (P:=λs=>s P=some (Ly (rs++es))) O rfl DW HO (Bh (Ix ht rfl rfl)) (λs s' h off=>(off P nP.1 nP.2).trans h) (λj s K hp hK=>⟨Bh ?_,Bh ?_,?_⟩) λxs s FD hm hp hP=>An.append hP (Bh ?_) ?_⟩
   ·refine Aa (Ai _)<|Aa sl ?_;show 2+m<=1000;exact Mi n1.2 rfl
   ·refine Aa AY<|Aa (Ai _)<|Aa sl ?_;show 2+m+m<=1000;exact NV (Kq n1.2 _) n1.2 rfl
   ·have:=Lx (f:=Az) (l:= [Sy.a,.b]++sig m++sig m) (n:=n) O hp (M48 l2) (M34 n1 l2) hK;replace this:=Bs▸this;replace this:=Bs▸this;exact this
   ·exact Aa (Ai _)<|Aa Fc<|Aa AY<|M80 rl hj el
   ·exact hJ (es++ [(nm,xs)]) ⟨some (Az nm),some (.int j),some (AB t),none,none,none,none,none⟩ _ ⟨h.1.add Ja ⟨FD▸ht,hm⟩,hp.set nP.1 nP.2,St.AC.trans (congrArg some ((qB (rs++es) (nm,xs)).trans (congrArg Ly (DE ..))))⟩
  ·intro es o s h2;refine⟨s.del P,_,St.I9,.lst h2.2.2 St.I8 (.same _),k m _ _ ⟨n1.1,n1.2,rs,es,rfl,hl,h.1.2,?_,h2.1.2⟩ (h2.2.1.del nP.1 nP.2)⟩;have:=h2.1.1;rwa[Ai,FS] at this
end
inductive E4(ps:List Pr):Sy->Sy->Prop
 | refl (x:Sy):E4 ps x x
 | step {x y z:Sy} {r:List Sy}:E4 ps x y->(y,z::r)∈ps->E4 ps x z
noncomputable def Pv:List Sy:= [.S,.T,.U,.a,.b,.c,.en,.ac,.nu]
theorem Sr(x:Sy):x∈Pv:=by cases x<;>decide
noncomputable def miss(l:List Sy):Nat:=(Pv.filter λx=>decide (x∉l)).length
theorem filter_lt{α:Type}{p q:α->Bool}{l:List α}(h:∀x∈l,q x=true->p x=true){a:α}(ha:a∈l)(hp:p a=true)(hq:q a=false):(l.filter q).length<(l.filter p).length:=by refine AS Abh ?_;refine AS Abh ?_;refine DO (List.append_of_mem ha) ?_;clear ha;rintro s t rfl;rw[Abi,Abi,List.countP_cons_of_pos hp,List.countP_cons_of_neg (by refine Aa hq ?_;decide)];have h1:=Abj (l:=s) λx hx=>h x (CW _ hx);have h2:=Abj (l:=t) λx hx=>h x (KP _ (.tail _ hx));exact M13 h1 h2
theorem AiG{l m:List Sy}{x:Sy}(hx:x∈m)(hn:x∉l):miss (l++m)<miss l:=
 filter_lt (p:=λx=>decide (x∉l)) (q:=λx=>decide (x∉l++m)) (λy Z hy=>by simp at hy⊢;exact hy.1) (Sr x) (by simpa using hn) (by simp[hx])
theorem qF{x:Sy}{l:List Sy}:x.str∈l.map Sy.str↔x∈l:=by
 constructor
 ·intro h;refine Ad (Bj.mp h) ?_;clear h;intro y hy e;exact Sy.inj e▸hy
 ·exact Dz
theorem St.Pw{a:Addr}{ob:BD}(h:V a=none):V.le (V.set a ob):=λb o e=>by
 rw[St.Am (by rintro rfl;replace e:=h▸e;exact AA e)];exact e
theorem Ss:∀(l acc:List Str),acc.Nodup->(dd acc l).Nodup
 | [],acc,h=>h
 | x::r,acc,h=>Ss r _ (by
  split
  ·exact h
  ·rename_i hx;exact NO.mpr ⟨h,by simp,λa ha b hb=>by simp at hb;subst hb;rintro rfl;exact hx ha⟩)
theorem Sy.ok(x:Sy):AV.flat 8 (Az x)=true:=by cases x<;>decide+kernel
theorem qG(l:List Sy):AV.CO 8 (l.map Az)=true:=KY λx hx=>by refine Ad (Bj.mp hx) ?_;clear hx;rintro y _ rfl;exact y.ok
theorem Wz{x:Sy}{l:List Sy}:Az x∈l.map Az↔x∈l:=by
 constructor
 ·intro h;refine Ad (Bj.mp h) ?_;clear h;intro y hy e;exact Sy.inj (AV.str.inj e)▸hy
 ·exact Dz
section
variable{c:Cx}{n:Nat}{V:St}{Q:AV->St->Prop}
theorem BW(e:xs=ys)(h:Q (.lst ys) V):E1 false xs V Q:=e▸h
theorem bT{T F:Prop}(h:T):∃k,AV.bool true= .bool k/\(k=true->T)/\(k=false->F):=⟨true,rfl,λZ=>h,λe=>nomatch e⟩
theorem bF{T F:Prop}(h:F):∃k,AV.bool false= .bool k/\(k=true->T)/\(k=false->F):=⟨false,rfl,(λe=>nomatch e),λZ=>h⟩
theorem dN{p:Prop}[Decidable p]{R:AV->St->Prop}(h1:¬p->R (.bool true) V)(h2:p->R (.bool false) V):R (.bool (!decide p)) V:=by
 by_cases h:p
 ·exact Aa (decide_eq_true h)<|h2 h
 ·exact Aa (decide_eq_false h)<|h1 h
open Classical in
theorem qH{x:Sy}{l:List Sy}{R:AV->St->Prop}(h1:x∉l->R (.bool true) V)(h2:x∈l->R (.bool false) V):AR c n .NotIn (Az x) (.lst (l.map Az)) V R:=
 AR.AbO .lst x.ok (qG l) (dN (λh=>h1 (mt Wz.mpr h)) λh=>h2 (Wz.mp h))
structure Small(ps:List Pr):Prop where
 ln:ps.length<=5
 ne:∀p∈ps,p.2≠[]/\p.2.length<=3
noncomputable def WA(y:Sy)(l:List Sy)(p:Pr):Option Sy:=if p.1=y/\p.2.headD .nu∉l then some (p.2.headD .nu) else none
noncomputable def Na(ps:List Pr)(y:Sy)(l:List Sy):List Sy:=ps.filterMap (WA y l)
theorem AiH(hs:Small ps){y:Sy}{l:List Sy}{z:Sy}:z∈Na ps y l↔ ∃r,(y,z::r)∈ps/\z∉l:=by
 refine YW.trans ⟨λhQ=>?_,λ⟨r,hm,hz⟩=>⟨_,hm,if_pos ⟨rfl,hz⟩⟩⟩;refine Ad hQ ?_;clear hQ;intro hZ;obtain⟨a',b'⟩:=hZ;intro hm h;unfold WA at h;by_cases hc:a'=y/\b'.headD .nu∉l
 ·replace h:=(if_pos hc)▸h;have h:=Ay h;cases b' with
  | nil=>exact absurd rfl (hs.ne _ hm).1
  | cons z' r=>exact⟨r,hc.1▸(h:z'=z)▸hm,(h:z'=z)▸hc.2⟩
 ·replace h:=(if_neg hc)▸h;exact AA h
theorem AiI{α β γ:Type}{l:List α}{f:α->Option β}{g:β->γ}:(l.filterMap f).map g=l.filterMap λx=>(f x).map g:=QW
structure HI(ps:List Pr)(x0:Sy)(l:List Sy)(k:Nat):Prop where
 le:k<=l.length
 st:x0∈l
 ld:∀x∈l,E4 ps x0 x
 cl:∀(i:Nat) x y r,i<k->l[i]?=some x->(x,y::r)∈ps->y∈l
 sz:l.length+5*miss l<=60
noncomputable def hM(l:List Sy)(k:Nat):Nat:=6*miss l+(l.length-k)
theorem Nb{P:Prop}(h:m<n+1)(h1:m<n->P)(h2:m=n->P):P:=(Abk.mp h).elim h1 h2
theorem HI.zero{x0:Sy}:HI ps x0 [x0] 0:=
 ⟨Cq _,.head _,λx hx=>B3.mp hx▸ .refl _,λi x y r hi=>absurd hi (Gi _),by
  have:miss [x0]<=9:=QX _ _;exact NV (BJ _) (DU _ this) rfl⟩
theorem HI.next{x0 y:Sy}{l:List Sy}(h:HI ps x0 l j)(hs:Small ps)(hy:l[j]?=some y):HI ps x0 (l++Na ps y l) (j+1)/\hM (l++Na ps y l) (j+1)<hM l j:=by
 have AH:=(A5.mp hy).1;have hm:=λz=>AiH hs (y:=y) (l:=l) (z:=z);have Lz:(Na ps y l).length<=5:=AP (NT _ _) hs.ln;have CP:=h.sz;generalize Na ps y l=new at hm Lz;have e:=AY (as:=l) (bs:=new);have hc:new.length=0/\miss (l++new)=miss l\/miss (l++new)<miss l:=by
  cases new with
  | nil=>exact .inl ⟨rfl,congrArg miss (C8 l)⟩
  | cons z r=>exact .inr (AiG (.head _) ((hm z).mp (.head _)).choose_spec.2)
 refine⟨⟨N9 e (Zf AH),CW _ h.st,λx hx=>(C9.mp hx).elim (h.ld x) λhx=>?_,λi x z r hi hx hr=>Nb hi (λhi=>?_) λhi=>?_,M68 CP Lz e hc⟩,M67 AH Lz e hc⟩
 ·refine Ad ((hm x).mp hx) ?_;intro r hr _;exact .step (h.ld y (A8 hy)) hr
 ·replace hx:=(Fv (FM hi AH))▸hx;exact CW _ (h.cl i x z r hi hx hr)
 ·subst hi;replace hx:=(Fv AH)▸hx;replace hx:=hy▸hx;by_cases hz:z∈l
  ·exact CW _ hz
  ·exact KP _ ((hm z).mpr ⟨r,Ay hx▸hr,hz⟩)
theorem HI.all{x0:Sy}{l:List Sy}(h:HI ps x0 l l.length)(t:Sy):t∈l↔E4 ps x0 t:=⟨h.ld t,λc=>by
 induction c with
 | refl=>exact h.st
 | step h1 h2 ih=>
  refine Ar (DM ih) ?_;clear ih;intro i hi;exact h.cl i _ _ _ (A5.mp hi).1 hi h2⟩
theorem AiJ{l:List Sy}{ys:List Str}(hy:∀y,y∈ys↔y∈l.map Sy.str):∃zs:List Sy,ys=zs.map Sy.str/\ ∀z,z∈zs↔z∈l:=by
 have e:ys=(ys.map Kf).map Sy.str:=by refine Aa BC ?_;refine(QY ys).symm.trans (Gm λy h=>?_);refine Ad (Bj.mp ((hy y).mp h)) ?_;intro x _ e;refine AS e ?_;exact(congrArg Sy.str (M0 x)).symm
 exact⟨_,e,λz=>by rewrite[<-qF];refine AS e ?_;rewrite[hy];rewrite[qF];rfl⟩
theorem AiK{q:Sy->Prop}[DecidablePred q](l:List Sy):l.filterMap (λz=>if q z then none else some (Az z))=(l.filter λz=>decide (¬q z)).map Az:=by
 induction l with
 | nil=>rfl
 | cons z r ih=>
  refine Aa HB<|Aa Uy<|Aa ih ?_;by_cases h:q z
  ·rw[if_pos h,if_neg (by exact Aa decide_eq_true_eq<|λg=>g h)]
  ·exact Aa (if_neg h)<|Aa (if_pos (decide_eq_true h)) rfl
theorem AiL(O:AE c){x0:Sy}(hs:Small ps)(k:∀hs:List Sy,hs.Nodup->(∀t,t∈hs↔E4 ps x0 t/\t∉ps.map (·.1))->Q (Bm hs) V):A0 c (n+2) (.ref 832) [.lst (ps.map AZ),Az x0] V Q:=by
 refine Ah0.run O ?_;have pz:ps.length<=sizeLine:=AP hs.ln (by decide);let R (l:List Sy) (k:Nat) (_:O8):Al:= [some (.lst (ps.map AZ)),some (Az x0),some (Bm l),some (.int k),none,none,none];refine Wv R (λl k s=>s=V/\HI ps x0 l k) hM [x0] 0 ⟨none,none,none,none,none,none,none,none⟩ ⟨rfl,.zero⟩ ?_;intro l j _ _ J;intro hZ;refine Ah hZ ?_;clear hZ;rintro rfl h;intro hJ _;have lm:(l.map Az).length=l.length:=Ai _;have lz:l.length<=60:=AP (Gh _ _) h.sz;refine An.len .lst (by exact Aa lm<|N2 lz rfl) ⟨λAH=>?_,λEY=>?_⟩
 ·replace AH:=lm▸AH;have WB:=BG (Ic.mp AH);generalize l[j]=y at WB;refine Hj (enc:=AZ) (λp=>(WA y l p).map Az) rfl pz (λp hp K N hK hN=>?_) ?_
  ·obtain⟨nm,parts⟩:=p;have FG:=hs.ne _ hp;cases parts with
   | nil=>exact absurd rfl FG.1
   | cons z r=>
    have z3:((z::r).map Az).length<2^62:=Aa (Ai _)<|N2 FG.2 rfl;refine(AL.B4 (x:=Az y) .lst (B8 _) (by exact Aa lm<|N2 lz rfl) (by show(l.map Az)[j]?=_;exact Aa Bp<|Aa WB rfl) ⟨λe=>?_,λe=>?_⟩)
    ·exact AL.B4 (i:=0) .lst (by decide) z3 rfl (qH (λhz=>bT (AL.B4 (i:=0) .lst (by decide) z3 rfl (hK _ (congrArg (Qs Az) (if_pos ⟨Sy.inj e,hz⟩))))) λhz=>bF (hN (congrArg (Qs Az) (if_neg λh=>h.2 hz))))
    ·exact hN (congrArg (Qs Az) (if_neg λh=>e (congrArg Sy.str h.1)))
  ·have nx:=h.next hs WB;refine MZ (ys:=(Na ps y l).map Az) AiI.symm ⟨Bh ?_,?_⟩
   ·refine Aa lm<|Aa (Ai _) ?_;have:=nx.1.sz;replace this:=AY▸this;exact N1 (CN this) rfl
   ·refine AS Bs ?_;exact hJ _ (j+1) ⟨none,none,none,none,none,none,none,none⟩ _ nx.2 ⟨rfl,nx.1⟩
 ·replace EY:=lm▸EY;have WC:=HI.all (EM h.le (Ie.mp EY)▸h);have es:l.map Az=(l.map Sy.str).map AV.str:=Aa BC rfl;refine An.gL (xs:=l.map Sy.str) (by refine AS es ?_;exact .lst) (by refine Aa (Ai _) ?_;show _<4096;exact N2 (Kr lz _) rfl) λS hS=>?_;refine An.gM St.AC (DT (VC _ _) (by refine Aa (Ai _) ?_;show 0+_<64;exact N2 (Kq lz _) rfl)) (λys hp AH=>?_) (Ss _ _ .nil);have IG:ys.Nodup:=hp.nodup_iff.mpr (Ss _ _ .nil);have zl:=AP (BA hp.length_eq) (VC _ _);obtain⟨zs,rfl,hz⟩:=AiJ (l:=l) λy=>by rewrite[hp.mem_iff];rewrite[dE];simp
  have My:zs.Nodup:=QI _ (λa b h e=>h (congrArg Sy.str e)) IG;rewrite[Ai] at zl;rewrite[Ai] at zl;refine Aa (show(zs.map Sy.str).map AV.str=zs.map Az by rw[BC];rfl) ?_;refine Hj (enc:=Az) (λz=>if z∈ps.map (·.1) then none else some (Az z)) rfl (Bh (by have:zs.length<=0+l.length:=zl;exact AP this (Mi lz rfl))) (λz DY K N hK hN=>?_) ?_
  ·refine comp_map (enc:=AZ) (λp=>Az p.1) rfl pz (λp hp K hK=>hK) (BW (ys:=(ps.map (·.1)).map Az) (by exact Aa BC rfl) ?_);exact qH (λh=>bT (hK _ (if_neg h))) λh=>bF (hN (if_pos h))
  ·refine MZ (AiK zs) ⟨_,_,St.Pw hS,.same _,k _ (My.filter _) λt=>?_⟩;rewrite[JJ];rewrite[hz];rewrite[WC];refine Aa decide_eq_true_eq ?_;rfl
end
noncomputable abbrev It:=Nat×Nat×Sy
noncomputable abbrev Fk(x:It):List AV:= [.int x.1,.int x.2.1,Az x.2.2]
noncomputable abbrev CM(x:It):AV:= .tup (Fk x)
variable{l I Un J:List It}{bh:List (Sy×List It)}
theorem WD{x y:It}(h:Fk x=Fk y):x=y:=by obtain⟨a,b,d⟩:=x;obtain⟨a',b',d'⟩:=y;simp only[Fk,KG,AV.int.injEq,AV.str.injEq,and_true] at h;refine Bq h ?_;clear h;intro h1 h2 h3;have hZ:=Sy.inj h3;clear h3;subst hZ;have h1:=Iw h1;have h2:=Iw h2;subst h1;subst h2;rfl
theorem Px(x:It):AV.flat 8 (.tup (Fk x))=true/\AV.areKeys (Fk x)=true:=by obtain⟨a,b,d⟩:=x;cases d<;>exact⟨by kernel_rfl,by kernel_rfl⟩
theorem qI(l:List It):IP (l.map Fk):=λk hk=>by refine Ad (Bj.mp hk) ?_;clear hk;rintro x _ rfl;exact Px x
theorem WE{x:It}:Fk x∈l.map Fk↔x∈l:=by
 constructor
 ·intro h;refine Ad (Bj.mp h) ?_;clear h;intro y hy e;exact WD e▸hy
 ·exact Dz
noncomputable def Bn(ps:List Pr)(x:It):Option Sy:=(ps[x.1]?).bind λp=>p.2[x.2.1]?
noncomputable def Fm(ps:List Pr)(H:Sy->List Sy)(x:It):List Sy:=match ps[x.1]? with
 | some p=>if x.2.1+1=p.2.length then[x.2.2] else H (p.2.getD (x.2.1+1) .nu)
 | none=>[]
inductive Dq(ps:List Pr)(H:Sy->List Sy)(K:List It):It->Prop
 | base {x:It}:x∈K->Dq ps H K x
 | step {x:It} {B:Sy} {o:Nat} {q:List Sy} {s:Sy}:Dq ps H K x->Bn ps x=some B->ps[o]?=some (B,q)->s∈Fm ps H x->Dq ps H K (o,0,s)
structure Py(ps:List Pr)(H:Sy->List Sy)(Un:List It):Prop where
 ln:Un.length<64
 ok:∀x∈Un,∃p,ps[x.1]?=some p/\x.2.1<=p.2.length
 st:∀x∈Un,∀B o q s,Bn ps x=some B->ps[o]?=some (B,q)->s∈Fm ps H x->(o,0,s)∈Un
theorem Dq.univ{H:Sy->List Sy}{K:List It}(U:Py ps H Un)(hK:∀x∈K,x∈Un){x:It}(h:Dq ps H K x):x∈Un:=by
 induction h with
 | base h=>exact hK _ h
 | step _ h1 h2 h3 ih=>exact U.st _ ih _ _ _ _ h1 h2 h3
noncomputable def syms:List Sy:= [.S,.T,.U,.a,.b,.c,.en]
def E5(V:St)(hd:AV)(H:Sy->List Sy):Prop:=EE V hd (syms.map Az) (syms.map λs=>Bm (H s))
theorem Kg{p:Prop}[Decidable p]{T F:Prop}(h1:¬p->T)(h2:p->F):∃k,AV.bool (!decide p)= .bool k/\(k=true->T)/\(k=false->F):=
 ⟨_,rfl,λe=>h1 (by simpa using e),λe=>h2 (by simpa using e)⟩
theorem WF{p:Prop}[Decidable p]{T F:Prop}(h1:p->T)(h2:¬p->F):∃k,AV.bool (decide p)= .bool k/\(k=true->T)/\(k=false->F):=
 ⟨_,rfl,λe=>h1 (by simpa using e),λe=>h2 (by simpa using e)⟩
theorem E5.keep{s:St}{H:Sy->List Sy}(h:E5 V hd H)(k:∀a ob,V a=some ob->s a=some ob):E5 s hd H:=by
 unfold E5 at h⊢;generalize syms.map Az=ks at h;generalize syms.map (λs=>Bm (H s))=vs at h;cases h with
 | BH=>exact .BH
 | ref e=>exact .ref (k _ _ e)
noncomputable def LA(x y:It):Bool:=H1 (x.1,x.2.1,x.2.2.str) (y.1,y.2.1,y.2.2.str)
noncomputable def Jb(x:It):Item:=(x.1,x.2.1,x.2.2.str)
section
variable{c:Cx}{n:Nat}{V:St}{Q:AV->St->Prop}
structure CI(ps:List Pr)(H:Sy->List Sy)(K:List It)(V:St)(L D:Addr)(l:List It)(s:St):Prop where
 nd:l.Nodup
 cl:∀x∈l,Dq ps H K x
 ln:s L=some (.list (l.map CM))
 kn:s D=some (.dict ((l.map Fk).map .tup) (l.map λZ=>.bool true))
 fr:∀a,a≠L->a≠D->s a=V a
 kk:∀x∈K,x∈l
theorem CI.add{H:Sy->List Sy}{K:List It}{L D:Addr}{s:St}{x:It}(h:CI ps H K V L D l s)(ne:L≠D)(hx:x∉l)(hc:Dq ps H K x):
  CI ps H K V L D (l++ [x]) ((s.set D (.dict ((l.map Fk++ [Fk x]).map .tup) (l.map (λZ=>.bool true)++ [.bool true]))).set L (.list (l.map CM++ [CM x]))):=
 ⟨NO.mpr ⟨h.nd,by simp,λa ha b hb=>by simp at hb;subst hb;rintro rfl;exact hx ha⟩,
   λy hy=>by rcases C9.mp hy with hy|hy;exact h.cl y hy;have hZ:=B3.mp hy;clear hy;subst hZ;exact hc,
   by refine Aa St.AC ?_;simp,by refine Aa (St.Am ne.symm)<|Aa St.AC ?_;simp,λa h1 h2=>(St.Am h1).trans ((St.Am h2).trans (h.fr a h1 h2)),λx hx=>CW _ (h.kk x hx)⟩
def Done(ps:List Pr)(H:Sy->List Sy)(l:List It)(k:Nat):Prop:=∀i x,i<k->l[i]?=some x->∀B o q s,Bn ps x=some B->ps[o]?=some (B,q)->s∈Fm ps H x->(o,0,s)∈l
theorem qJ(l:List It):l.map CM=(l.map Jb).map RP:=Aa BC rfl
noncomputable def qK(x:Item):It:=(x.1.toNat,x.2.1.toNat,Kf x.2.2)
theorem Pz(x:It):qK (Jb x)=x:=by obtain⟨a,b,d⟩:=x;show((a:Int).toNat,(b:Int).toNat,Kf d.str)=_;exact Aa (M0 _) rfl
theorem AiM{x y:It}(h:Jb x=Jb y):x=y:=by refine AS (Pz x) ?_;exact Aa h<|Aa (Pz _) rfl
theorem Kh{e:PE}{r:PS}{Q:Fl->Al->St->Prop}(R:AV->St->Prop)(h:∀K:AV->St->Prop,(∀a s,R a s->K a s)->vc c n e W V K)(k:∀a s,R a s->vs c n r (IY W i a) s Q):vs c n (.asg i e r) W V Q:=h _ k
theorem CI.le{H:Sy->List Sy}{K:List It}{L D:Addr}{s:St}(h:CI ps H K V L D l s)(U:Py ps H Un)(hK:∀x∈K,x∈Un):l.length<64:=
 DT (h.nd.length_le_of_subset λx hx=>(h.cl x hx).univ U hK) U.ln
def Pg(ps:List Pr)(B:Sy)(S:List Sy)(i:Nat)(l l':List It):Prop:=(∀(j:Nat) x,l[j]?=some x->l'[j]?=some x)/\ ∀o q s,o<i->ps[o]?=some (B,q)->s∈S->(o,0,s)∈l'
theorem pre_app{α:Type}{l t:List α}{x:α}(h:l[j]?=some x):(l++t)[j]?=some x:=(Fv (A5.mp h).1).trans h
theorem Pg.zero{B:Sy}{S:List Sy}:Pg ps B S 0 l l:=⟨λZ Z h=>h,λo q s h=>absurd h (Gi _)⟩
theorem Pg.skip{B nm:Sy}{S q':List Sy}{l':List It}(h:Pg ps B S i l l')(hn:ps[i]?=some (nm,q'))(ne:nm≠B):Pg ps B S (i+1) l l':=
 ⟨h.1,λo q s ho e hs=>Nb ho (λho=>h.2 o q s ho e hs) λho=>by subst ho;exact absurd (congrArg XT (Ay (hn.symm.trans e))) ne⟩
theorem Pg.add{B:Sy}{S:List Sy}{l':List It}{x:It}(h:Pg ps B S i l l'):Pg ps B S i l (l'++ [x]):=
 ⟨λj y e=>pre_app (h.1 j y e),λo q s ho e hs=>CW _ (h.2 o q s ho e hs)⟩
def Pk(S:List Sy)(i k:Nat)(l:List It):Prop:=∀k' s,k'<k->S[k']?=some s->(i,0,s)∈l
theorem Pk.next{S:List Sy}{k:Nat}{s:Sy}{l':List It}(h:Pk S i k l)(hs:S[k]?=some s)(hm:(i,0,s)∈l')(hl:∀x∈l,x∈l'):Pk S i (k+1) l':=
 λk' s' hk e=>Nb hk (λhk=>hl _ (h k' s' hk e)) λhk=>by subst hk;have hZ:=hs.symm.trans e;clear e;have hZ:=Ay hZ;subst hZ;exact hm
theorem Pg.next{B:Sy}{S:List Sy}{l':List It}(h:Pg ps B S i l l')(k:Pk S i S.length l'):Pg ps B S (i+1) l l':=
 ⟨h.1,λo q s ho e hs=>Nb ho (λho=>h.2 o q s ho e hs) λho=>by
  subst ho;refine Ar (DM hs) ?_;clear hs;intro j hj;exact k j s (A5.mp hj).1 hj⟩
theorem Done.next{ps:List Pr}{H:Sy->List Sy}{l l':List It}{j:Nat}{x:It}(h:Done ps H l j)(hx:l[j]?=some x)(hp:∀(i:Nat) y,l[i]?=some y->l'[i]?=some y)
  (k:∀B o q s,Bn ps x=some B->ps[o]?=some (B,q)->s∈Fm ps H x->(o,0,s)∈l'):Done ps H l' (j+1):=λi y hi hy B o q s h1 h2 h3=>
 have AH:=(A5.mp hx).1
 Nb hi (λhi=>by
  have e:=BG (FM hi AH);have ey:=Ay ((hp i _ e).symm.trans hy);refine Ar (DM (h i _ hi e B o q s (ey.symm▸h1) h2 (ey.symm▸h3))) ?_;intro m hm;exact A8 (hp m _ hm)) λhi=>by
  subst hi;have ey:=Ay ((hp i _ hx).symm.trans hy);exact k B o q s (ey.symm▸h1) h2 (ey.symm▸h3)
theorem CI.all{H:Sy->List Sy}{K:List It}{L D:Addr}{s:St}(h:CI ps H K V L D l s)(d:Done ps H l l.length)(x:It):x∈l↔Dq ps H K x:=⟨h.cl x,λc=>by
 induction c with
 | base c=>exact h.kk _ c
 | step _ h1 h2 h3 ih=>
  refine Ar (DM ih) ?_;clear ih;intro i hi;exact d i _ (A5.mp hi).1 hi _ _ _ _ h1 h2 h3⟩
theorem AiN{ys:List Item}(hp:ys.Perm (l.map Jb)):∃zs:List It,ys=zs.map Jb/\ ∀z,z∈zs↔z∈l:=by
 refine⟨ys.map qK,?_,λz=>⟨λh=>?_,λh=>?_⟩⟩
 ·refine Aa BC ?_;refine(QY ys).symm.trans (Gm λy h=>?_);refine Ad (Bj.mp (hp.mem_iff.mp h)) ?_;intro x _ e;refine AS e ?_;exact congrArg Jb (Pz x).symm
 ·refine Ad (Bj.mp h) ?_;clear h;intro y hy e;refine Ad (Bj.mp (hp.mem_iff.mp hy)) ?_;intro x hx e2;refine AS e ?_;refine AS e2 ?_;exact Aa (Pz _)<|hx
 ·exact Bj.mpr ⟨Jb z,hp.mem_iff.mpr (Dz h),Pz z⟩
open Classical in
theorem qL(O:AE c){ps:List Pr}{H:Sy->List Sy}{K Un:List It}{hd:AV}(hs:Small ps)(hsy:∀p∈ps,∀s∈p.2,s∈syms)(U:Py ps H Un)(hK:∀x∈K,x∈Un)(nd:K.Nodup)(hh:E5 V hd H)
  (k:∀ys:List It,ys.Pairwise (λx y=>LA x y=true)->(∀x,x∈ys↔Dq ps H K x)->Q (.tup (ys.map CM)) V):A0 c (n+2) (.ref 837) [.lst (ps.map AZ),hd,.lst (K.map CM)] V Q:=by
 have kl:K.length<64:=DT (nd.length_le_of_subset hK) U.ln;have kz:=Bh (AP (Ht kl) (by decide));refine Ah7.run O ?_;refine An.listS .lst ((Ai _).symm▸kz) (λL hL=>?_);refine comp_map (enc:=CM) (λx=>.tup [CM x,.bool true]) rfl kz (λx hx K hK=>hK) ?_;refine BW (ys:=(K.map λx=>(Fk x,AV.bool true)).map λp=>.tup [.tup p.1,p.2]) (by exact Aa BC rfl) ?_;refine An.VV Iq.T (λp hp=>by refine Ad (Bj.mp hp) ?_;clear hp;rintro x _ rfl;exact Px x) ?_ ((Ai _).symm▸kz) (λD hD=>?_)
 ·exact Aa BC<|KN.mpr (nd.imp λh e=>h (WD e))
 have Su:L≠D:=by rintro rfl;exact BR (St.AC.symm.trans hD)
 have Ef:V D=none:=(St.Am Su.symm).symm.trans hD;have keep:∀{l s},CI ps H K V L D l s->∀a ob,V a=some ob->s a=some ob:=λI a ob e=>(I.fr a (λq=>AA (hL.symm.trans (q▸e))) (λq=>AA (Ef.symm.trans (q▸e)))).trans e;let R (k:Nat) (o:O8):Al:= [some (.lst (ps.map AZ)),some hd,some (.lst (K.map CM)),some (.ref L),some (.ref D),some (.int k),o.a,o.b,o.c,o.d,o.e,o.f,o.g,o.h,none,none,none,none,none,none];refine Wv (X:=List It) (λZ=>R) (λl j s=>CI ps H K V L D l s/\j<=l.length/\Done ps H l j) (λZ j=>64-j) K 0 ⟨_,_,_,_,_,_,_,_⟩ ⟨⟨nd,λx hx=>.base hx,(St.Am Su).trans St.AC,?_,λa h1 h2=>(St.Am h2).trans (St.Am h1),λx hx=>hx⟩,Cq _,λi x hi=>absurd hi (Gi _)⟩ ?_
 ·refine St.AC.trans ?_;simp only[BC];rfl
 intro l j o s J;intro hZ;refine Bq hZ ?_;clear hZ;intro I hj LB;intro hJ _;have ll:=I.le U hK;have lm:(l.map CM).length=l.length:=Ai _;refine An.len (.ref I.ln) (by exact Aa lm<|N4 ll rfl) ⟨λAH=>?_,λEY=>?_⟩
 ·replace AH:=lm▸AH;have AH:j<l.length:=Ic.mp AH;have hx:=BG AH;generalize l[j]=x at hx;obtain⟨r,d,sg⟩:=x;have qN:=I.cl _ (A8 hx);refine Ad (U.ok _ (qN.univ U hK)) ?_;intro p hp hdot;have FG:=(hs.ne p (A8 hp)).2;have ht:Bn ps (r,d,sg)=p.2[d]?:=by unfold Bn;exact Aa hp rfl
  have hq:Fm ps H (r,d,sg)=if d+1=p.2.length then[sg] else H (p.2.getD (d+1) .nu):=by unfold Fm;exact Aa hp rfl
  have pm:(p.2.map Az).length=p.2.length:=Ai _;refine AL.B4 (x:=CM (r,d,sg)) (.ref I.ln) (B8 _) (by exact Aa lm<|N4 ll rfl) (by show(l.map CM)[j]?=_;exact Aa Bp<|Aa hx rfl) ?_;refine AL.B4 (x:=AZ p) .lst (B8 _) (by refine Aa (Ai _) ?_;have:=hs.ln;exact N2 this rfl) (by show(ps.map AZ)[r]?=_;exact Aa Bp<|Aa hp rfl) ?_;refine AL.at 2 .tup rfl rfl ?_;refine ifX (X:=List It) (λZ o=>R j ⟨some (.int r),some (.int d),some (Az sg),o.a,o.b,o.c,o.d,o.e⟩) (λx s'=>CI ps H K V L D x s'/\l.length<=x.length/\Done ps H x (j+1)) (λN hN Z=>?_) λx o s' h=>hJ x (j+1) ⟨_,_,_,_,_,_,_,_⟩ s' (TP _ _ (FM AH ll)) ⟨h.1,AP AH h.2.1,h.2.2⟩;refine An.len .lst (by exact Aa pm<|N2 FG rfl) ⟨λEn=>?_,λEn=>hN l ⟨_,_,_,_,_,none,none,none⟩ _ ⟨I,BJ _,LB.next hx (λZ Z h=>h) λB o q s h1=>?_⟩⟩
  ·replace En:=pm▸En;have En:d<p.2.length:=Ic.mp En;have hB:=BG En;generalize p.2[d]=B at hB;refine Kh (λa s'=>s'=s/\a=Bm (Fm ps H (r,d,sg))) (λM hM=>?_) ?_
   ·refine An.len .lst (by exact Aa pm<|N2 FG rfl) ⟨λhe=>(hM _ _ ⟨rfl,?_⟩),λhe=>?_⟩
    ·replace he:=pm▸he;exact Aa hq<|Aa (if_pos (Iw he)) rfl
    ·replace he:=pm▸he;have he:¬d+1=p.2.length:=λe=>he (congrArg QR e);have hC:=BG (show d+1<p.2.length from JF En he);generalize p.2[d+1]=C at hC;refine Ar (DM (hsy p (A8 hp) C (A8 hC))) ?_;intro i hi;refine AL.B4 (i:=((d:Int)+1)) (x:=Az C) .lst (Q7 rfl) (by exact Aa pm<|N2 FG rfl) (by show(p.2.map Az)[(d+1:Nat)]?=_;exact Aa Bp<|Aa hC rfl) ?_;refine AL.RD (AU.str c) (κs:=syms.map Sy.str) (k:=C.str) (i:=i) (v:=Bm (H C)) (by exact Aa BC<|hh.keep (keep I)) (by exact Aa Bp<|Aa hi rfl) (by exact Aa Bp<|Aa hi rfl) (hM _ _ ⟨rfl,?_⟩);exact Aa hq<|Aa (if_neg he)<|Aa Dk<|Aa hC rfl
   ·intro _ _;intro hZ;refine Ah hZ ?_;clear hZ;rintro rfl rfl;have qO:∀(i:Nat)(q:List Sy)(s1:Sy),ps[i]?=some (B,q)->s1∈Fm ps H (r,d,sg)->Dq ps H K (i,0,s1):=λi q s1=>qN.step (ht.trans hB);have fin:∀l',Pg ps B (Fm ps H (r,d,sg)) ps.length l l'->Done ps H l' (j+1):=λl' g=>LB.next hx g.1 λB' o q s h1 h2 h3=>by
     have hZ:=Ay ((ht.trans hB).symm.trans h1);subst hZ;exact g.2 o q s (A5.mp h2).1 h2 h3
    generalize Fm ps H (r,d,sg)=S at qO fin;let Rb (o:O8):=R j ⟨some (.int r),some (.int d),some (Az sg),some (Bm p.2),some (Bm S),o.a,o.b,o.c⟩;refine Ps (X:=List It) (λZ=>Rb) (λi x s'=>CI ps H K V L D x s'/\Pg ps B S i l x) l ⟨_,_,_,none,none,none,none,none⟩ ⟨I,.zero⟩ ?_ λx o s' h=>hN x ⟨_,_,_,_,_,none,none,none⟩ _ ⟨h.1,?_,fin _ (by have:=h.2;rwa[Ai,KQ,Ai] at this)⟩
    ·intro i y l' o si J2 hy;intro hZ;refine Ah hZ ?_;clear hZ;intro I' qP;intro qQ _;refine Ad (U7 hy) ?_;clear hy;rintro y qR rfl;refine Ad (Dx qR) ?_;clear qR;intro hZ;obtain⟨nm,q'⟩:=hZ;rintro Ja rfl;refine(gR ?_);intro rb;refine AL.at 2 .tup rfl rfl ?_;refine AL.B4 (x:=Az B) .lst (B8 _) (by exact Aa pm<|N2 FG rfl) (by show(p.2.map Az)[d]?=_;exact Aa Bp<|Aa hB rfl) ?_;refine⟨λe=>?_,λe=>(Ps (X:=Unit) (λZ Z=>Rb ⟨some (.int i),some (AZ (nm,q')),o.c,none,none,none,none,none⟩) (λZ Z s'=>s'=si) () o rfl (λi a x o s J h=>AA h) λx o s' h=>by subst h;exact qQ l' ⟨_,_,_,none,none,none,none,none⟩ _ ⟨I',qP.skip Ja λq=>e (congrArg Sy.str q)⟩)⟩;have e:=Sy.inj e;refine Ps (X:=List It) (λZ o=>Rb ⟨some (.int i),some (AZ (nm,q')),o.a,none,none,none,none,none⟩) (λk x s'=>CI ps H K V L D x s'/\Pg ps B S i l x/\Pk S i k x) l' ⟨_,none,none,none,none,none,none,none⟩ ⟨I',qP,λk' s1 h=>absurd h (Gi _)⟩ ?_ λx o s' h=>qQ x ⟨_,_,_,none,none,none,none,none⟩ _ ⟨h.1,h.2.1.next (by have:=h.2.2;rwa[Ai] at this)⟩;intro k1 z l2 o2 sk J3 hz;intro hZ;refine Bq hZ ?_;clear hZ;intro I2 qS G9;intro qT _;refine Ad (Dx hz) ?_;clear hz;rintro s1 II rfl;have qU:=I2.le U hK;have f1:=(Px (i,0,s1)).1;have f2:=(Px (i,0,s1)).2;have I3:=(St.Am (V:=sk) (ob:= .dict ((l2.map Fk++ [Fk (i,0,s1)]).map .tup) (l2.map (λZ=>.bool true)++ [.bool true])) Su).trans I2.ln;refine gR ?_;intro rc;refine AR.cW (.ref I2.kn) (qI l2) f1 f2 (Kg (λhn=>?_) λhn=>?_)
     ·have hn:(i,0,s1)∉l2:=λh=>hn ((WE (x:=(i,0,s1))).mpr h);refine Dd.OD I2.kn (qI l2) f1 f2 (by exact Aa (Ai _)<|Bh (N3 qU rfl)) (λh=>hn ((WE (x:=(i,0,s1))).mp h)) ?_;refine⟨Du (.ref I3),?_⟩;refine An.append I3 (by exact Aa (Ai _)<|Bh (N3 qU rfl)) (qT (l2++ [(i,0,s1)]) ⟨some (Az s1),none,none,none,none,none,none,none⟩ _ ⟨I2.add Su hn (qO i q' s1 (e▸Ja) (A8 II)),qS.add,G9.next II (by simp) λx h=>CW _ h⟩)
     ·exact qT l2 ⟨some (Az s1),none,none,none,none,none,none,none⟩ _ ⟨I2,qS,G9.next II ((WE (x:=(i,0,s1))).mp hn) λZ h=>h⟩
    ·exact GU λhlt'=>AA ((Ip (BJ _)).symm.trans (h.2.1 _ _ (BG hlt')))
  ·replace En:=pm▸En;exact AA ((Ip (Ie.mp En)).symm.trans (ht.symm.trans h1))
 ·replace EY:=lm▸EY;have WC:=I.all (by rwa[EM hj (Ie.mp EY)] at LB);refine An.gK (GF.item c) (xs:=l.map Jb) (.ref (by exact Aa I.ln<|Aa (qJ _) rfl)) (KN.mpr (I.nd.imp λh e=>h (AiM e))) (by refine Aa (Ai _) ?_;assumption) λys hp AH=>?_;have zl:=hp.length_eq;refine Ad (AiN hp) ?_;clear hp;rintro zs rfl hz;rewrite[Ai] at zl;rewrite[Ai] at zl;refine An.OE FF.lst (by exact Aa (Ai _)<|Aa (Ai _)<|Bh (N3 (Mh zl ll) rfl)) ⟨V,_,keep I,.same _,?_⟩;have:=k zs (KN.mp AH) λz=>(hz z).trans (WC z);rewrite[qJ] at this;exact this
end
section
variable{κ α K:Type}[DecidableEq κ][DecidableEq K]
noncomputable def upd(m:List (κ×α))(k:κ)(a:α):List (κ×α):=if k∈m.map (·.1) then m.map λp=>if p.1=k then(p.1,a) else p else m++ [(k,a)]
theorem qV{m:List (κ×α)}(nd:(m.map (·.1)).Nodup){k:κ}{v:α}(h:m[i]?=some (k,v)):m.lookup k=some v:=by
 induction m generalizing i with
 | nil=>exact AA h
 | cons p m ih=>
  obtain⟨a,b⟩:=p;refine Ah (Ig.mp nd) ?_;clear nd;intro h1 h2;refine Aa Ju ?_;cases i with
  | zero=>cases h;simp
  | succ i=>
   have hm:k∈m.map (·.1):=Dz (f:=(·.1)) (A8 (show m[i]?=some (k,v) from h));have:(k==a)=false:=by simp;rintro rfl;exact h1 hm
   exact Aa this<|ih h2 h
theorem LC{m:List (κ×α)}{k:κ}{v:α}(h:m.lookup k=some v):(k,v)∈m:=by
 induction m with
 | nil=>exact AA h
 | cons p m ih=>
  obtain⟨a,b⟩:=p;rewrite[Ju] at h;cases e:k==a with
  | true=>replace h:=e▸h;replace h:=Ay h;subst h;have hZ:=eq_of_beq e;clear e;subst hZ;exact .head _
  | false=>replace h:=e▸h;exact .tail _ (ih h)
theorem H4{m:List (κ×α)}(nd:(m.map (·.1)).Nodup){k:κ}{v:α}(h:(k,v)∈m):m.lookup k=some v:=by refine Ar (DM h) ?_;clear h;intro i hi;exact qV nd hi
theorem qW{m:List (κ×α)}{k:κ}{a:α}:(upd m k a).map (·.1)=if k∈m.map (·.1) then m.map (·.1) else m.map (·.1)++ [k]:=by
 unfold upd;split
 ·refine Aa BC ?_;refine Gm λp Z=>?_;simp;split<;>simp_all
 ·simp
theorem PA{m:List (κ×α)}{k:κ}{a:α}(nd:(m.map (·.1)).Nodup):((upd m k a).map (·.1)).Nodup:=by
 refine Aa qW ?_;split
 ·exact nd
 ·rename_i h;exact NO.mpr ⟨nd,by simp,λx hx y hy=>by simp at hy;subst hy;rintro rfl;exact h hx⟩
theorem qX{m:List (κ×α)}{k:κ}{a:α}{p:κ×α}(h:p∈upd m k a):p=(k,a)\/(p∈m/\p.1≠k):=by
 unfold upd at h;split at h
 ·refine Ad (Bj.mp h) ?_;clear h;intro q hq e;split at e
  ·rename_i h1;exact .inl (by refine AS e ?_;exact Aa h1 rfl)
  ·rename_i h1;exact .inr ⟨e▸hq,e▸h1⟩
 ·rename_i hk;rcases C9.mp h with h|h
  ·exact .inr ⟨h,λe=>hk (e▸Dz (f:=(·.1)) h)⟩
  ·exact .inl (B3.mp h)
variable{c:Cx}{n:Nat}{V:St}{Q:AV->St->Prop}
abbrev qY(V:St)(E:AU c K)(g:κ->K)(f:α->AV)(a:AV)(m:List (κ×α)):Prop:=EE V a ((m.map λp=>g p.1).map E.enc) (m.map λp=>f p.2)
noncomputable abbrev B2(E:AU c K)(g:κ->K)(f:α->AV)(m:List (κ×α)):BD:= .dict ((m.map λp=>g p.1).map E.enc) (m.map λp=>f p.2)
theorem PB(E:AU c K){g:κ->K}{f:α->AV}{a:AV}{m:List (κ×α)}{k:κ}{v:α}(h:qY V E g f a m)(hv:m.lookup k=some v)(q:Q (f v) V):AL c n a (E.enc (g k)) V Q:=by refine Ar (DM (LC hv)) ?_;intro i hi;exact AL.RD E h (by rewrite[Bp];exact Aa hi rfl) (by exact Aa Bp<|Aa hi rfl) q
theorem qZ(E:AU c K){g:κ->K}(inj:∀x y,g x=g y->x=y){f:α->AV}{a dv:AV}{m:List (κ×α)}{k:κ}(nd:(m.map (·.1)).Nodup)(h:qY V E g f a m)(q1:∀v,m.lookup k=some v->Q (f v) V)(q2:k∉m.map (·.1)->Q dv V):An c n (.builtin "dict.get") [a,E.enc (g k),dv] V Q:=by
 refine An.cR E h (λi v h1 h2=>?_) (λh1=>q2 λh2=>h1 ?_)
 ·rw[Bp,D8] at h1 h2;refine Ad h1 ?_;clear h1;intro p hp e;refine Ad h2 ?_;clear h2;rintro p' D4 rfl;replace D4:=hp▸D4;replace D4:=Ay D4;subst D4;cases inj _ _ e;exact q1 _ (qV nd hp)
 ·refine Ad (Bj.mp h2) ?_;clear h2;rintro p hp rfl;exact Dz hp
theorem rA{g:κ->K}(inj:∀x y,g x=g y->x=y){f:α->AV}{k:κ}{a:α}:∀{m:List (κ×α)},(m.map (·.1)).Nodup->Lc (m.map λp=>g p.1) (m.map λp=>f p.2) (g k) (f a)=(m.map λp=>if p.1=k then(p.1,a) else p).map λp=>f p.2
 | [],_=>rfl
 | p::m,nd=>by
  refine Ah (Ig.mp nd) ?_;clear nd;intro h1 h2;show(if g p.1=g k then f a::m.map (λp=>f p.2) else f p.2::Lc (m.map λp=>g p.1) (m.map λp=>f p.2) (g k) (f a))=f (if p.1=k then(p.1,a) else p).2::(m.map λp=>if p.1=k then(p.1,a) else p).map λp=>f p.2;by_cases e:p.1=k
  ·rw[if_pos (by exact Aa e rfl),if_pos e,BC];refine congrArg (f a:: ·) (Gm λq hq=>?_);have:¬q.1=k:=λe2=>h1 (by show p.1∈_;refine Aa e ?_;refine AS e2 ?_;exact Dz (f:=(·.1)) hq);simp[this]
  ·exact Aa (if_neg (λh=>e (inj _ _ h)))<|Aa (if_neg e)<|Aa (rA inj h2) rfl
theorem PD(E:AU c K){g:κ->K}(inj:∀x y,g x=g y->x=y){f:α->AV}{b:Addr}{m:List (κ×α)}{k:κ}{a:α}{Q:St->Prop}(nd:(m.map (·.1)).Nodup)(h:V b=some (B2 E g f m))(hz:m.length<=Bc)(q:Q (V.set b (B2 E g f (upd m k a)))):Dd c n (.ref b) (E.enc (g k)) (f a) V Q:=by
 refine Dd.RD E h (by exact Aa (Ai _)<|hz) ?_;have hm:g k∈(m.map λp=>g p.1)↔k∈m.map (·.1):=by
  constructor
  ·intro h;refine Ad (Bj.mp h) ?_;clear h;intro p hp e;exact inj _ _ e▸Dz (f:=(·.1)) hp
  ·intro h;refine Ad (Bj.mp h) ?_;clear h;rintro p hp rfl;exact Dz (f:=λp=>g p.1) hp
 unfold upd at q;by_cases hk:k∈m.map (·.1)
 ·refine Aa (if_pos (hm.mpr hk))<|Aa (rA inj nd) ?_;replace q:=(if_pos hk)▸q;have e:((m.map λp=>if p.1=k then(p.1,a) else p).map λp=>g p.1)=m.map λp=>g p.1:=by refine Aa BC ?_;refine Gm λp Z=>?_;simp;split<;>rfl
  unfold B2 at q;replace q:=e▸q;exact q
 ·refine Aa (if_neg (mt hm.mp hk)) ?_;replace q:=(if_neg hk)▸q;have e:(B2 E g f (m++ [(k,a)]))=BD.dict (((m.map λp=>g p.1)++ [g k]).map E.enc) ((m.map λp=>f p.2)++ [f a]):=by simp[B2]
  replace q:=e▸q;exact q
end
noncomputable def Hk(x:It):It:=(x.1,x.2.1+1,x.2.2)
noncomputable def gk(ps:List Pr)(I:List It)(X:Sy):List It:=(I.filter λx=>decide (Bn ps x=some X)).map Hk
structure CS(ps:List Pr)(H:Sy->List Sy)(K ys:List It):Prop where
 lt:ys.Pairwise λx y=>LA x y=true
 mem:∀x,x∈ys↔Dq ps H K x
inductive Hl(ps:List Pr)(H:Sy->List Sy):List It->Prop
 | start {I:List It}:CS ps H [(0,0,.nu)] I->Hl ps H I
 | go {I J:List It} {X:Sy}:Hl ps H I->(∃x∈I,Bn ps x=some X)->CS ps H (gk ps I X) J->Hl ps H J
noncomputable abbrev Jc(K:List It):AV:= .lst (K.map CM)
noncomputable abbrev F8(I:List It):AV:= .tup (I.map CM)
noncomputable abbrev Fp(m:List (Sy×Nat)):AV:= .BH ((m.map λp=>p.1.str).map .str) (m.map λp=>AB p.2)
structure Sv(ps:List Pr)(H:Sy->List Sy)(Ag:List (List It))(Aw:List (List (Sy×Nat))):Prop where
 len:Aw.length=Ag.length
 PF:∃I,Ag[0]?=some I/\CS ps H [(0,0,.nu)] I
 nd:Ag.Nodup
 rs:∀I∈Ag,Hl ps H I
 mv:∀(i:Nat) I m,Ag[i]?=some I->Aw[i]?=some m->(m.map (·.1)).Nodup/\(∀X,X∈m.map (·.1)↔ ∃x∈I,Bn ps x=some X)/\ ∀X j,(X,j)∈m->∃J,Ag[j]?=some J/\CS ps H (gk ps I X) J
structure GB(ps:List Pr)(l:List It)(bh:List (Sy×List It)):Prop where
 nd:(bh.map (·.1)).Nodup
 mem:∀X,X∈bh.map (·.1)↔ ∃x∈l,Bn ps x=some X
 val:∀p∈bh,p.2=gk ps l p.1
theorem WG{x:It}:gk ps (l++ [x]) X=gk ps l X++(if Bn ps x=some X then[Hk x] else[]):=by
 unfold gk;refine Aa (QZ _ _)<|Aa Bs ?_;congr 1
 split<;>rename_i h<;>simp[h]
theorem GB.skip{x:It}(h:GB ps l bh)(hx:Bn ps x=none):GB ps (l++ [x]) bh:=
 ⟨h.nd,λX=>by rewrite[h.mem];simp[hx,or_and_right,exists_or],λp hp=>by refine Aa WG<|Aa hx ?_;simpa using h.val p hp⟩
theorem GB.none(h:GB ps l bh)(hX:X∉bh.map (·.1)):gk ps l X= []:=by unfold gk;rewrite[List.map_eq_nil_iff];rewrite[Abl];intro x hx h2;exact hX ((h.mem X).mpr ⟨x,hx,by simpa using h2⟩)
theorem GB.add{x:It}(h:GB ps l bh)(hx:Bn ps x=some X):GB ps (l++ [x]) (upd bh X (gk ps l X++ [Hk x])):=by
 refine⟨PA h.nd,λY=>?_,λp hp=>?_⟩
 ·refine Aa qW ?_;by_cases hX:X∈bh.map (·.1)
  ·refine Aa (if_pos hX) ?_;rewrite[h.mem];constructor
   ·intro hZ;refine Ad hZ ?_;clear hZ;intro y hy e;exact⟨y,CW _ hy,e⟩
   ·intro hZ;refine Ad hZ ?_;clear hZ;intro y hy e;rcases C9.mp hy with hy|hy
    ·exact⟨y,hy,e⟩
    ·have hZ:=B3.mp hy;clear hy;subst hZ;replace e:=hx▸e;replace e:=Ay e;subst e;exact(h.mem X).mp hX
  ·refine Aa (if_neg hX) ?_;rewrite[C9];rewrite[h.mem];constructor
   ·rintro(⟨y,hy,e⟩|hY)
    ·exact⟨y,CW _ hy,e⟩
    ·have hZ:=B3.mp hY;clear hY;subst hZ;exact⟨x,by simp,hx⟩
   ·intro hZ;refine Ad hZ ?_;clear hZ;intro y hy e;rcases C9.mp hy with hy|hy
    ·exact .inl ⟨y,hy,e⟩
    ·have hZ:=B3.mp hy;clear hy;subst hZ;replace e:=hx▸e;replace e:=Ay e;subst e;exact .inr (by simp)
 ·rcases qX hp with rfl|⟨hp,Bb⟩
  ·exact Aa WG<|Aa (if_pos hx) rfl
  ·rw[WG,if_neg (by refine Aa hx ?_;intro e;replace e:=Ay e;subst e;exact Bb rfl)];simpa using h.val p hp
section
variable{c:Cx}{n:Nat}{V:St}{Q:AV->St->Prop}
theorem AiO{ps:List Pr}{r d:Nat}{sg:Sy}{p:Pr}{hd L M P:AV}{k:Int}{B:Addr}{F:Option AV}{o1:Option AV}{s:St}{bh:List (Sy×List It)}{N:Fl->Al->St->Prop}(hs:Small ps)(hp:ps[r]?=some p)
  (nd:(bh.map (·.1)).Nodup) (hB:s B=some (B2 (AU.str c) Sy.str Jc bh)) (hz:bh.length<=100) (GL:∀p∈bh,p.2.length<=100)
  (h1:∀X,Bn ps (r,d,sg)=some X->N .next [some (.lst (ps.map AZ)),none,some hd,some L,some M,some (.int k),some P,some (.ref B),F,none,none,none,none,none,none,none,none,none] (s.set B (B2 (AU.str c) Sy.str Jc (upd bh X ((bh.lookup X).getD []++ [Hk (r,d,sg)])))))
  (h2:Bn ps (r,d,sg)=none->N .next [some (.lst (ps.map AZ)),none,some hd,some L,some M,some (.int k),some P,some (.ref B),F,none,none,none,none,none,none,none,none,none] s):
  vs c (n+1) mL [some (.lst (ps.map AZ)),o1,some hd,some L,some M,some (.int k),some P,some (.ref B),F,some (.int r),some (.int d),some (Az sg),none,none,none,none,none,none] s N:=by
 have ha:Bn ps (r,d,sg)=p.2[d]?:=by unfold Bn;exact Aa hp rfl
 have hl:=hs.ln;have FG:=(hs.ne p (A8 hp)).2;have RI:∀{K:AV->St->Prop},K (AZ p) s->AL c (n+1) (.lst (ps.map AZ)) (.int r) s K:=λq=>AL.B4 .lst (B8 _) (by exact Aa (Ai _)<|N2 hl rfl) (by show(ps.map AZ)[r]?=_;exact Aa Bp<|Aa hp rfl) q;refine RI (AL.at 2 .tup rfl rfl ?_);refine An.len .lst (by exact Aa (Ai _)<|N2 FG rfl) ⟨λEn=>?_,λEn=>?_⟩
 ·rewrite[Ai] at En;have En:d<p.2.length:=Ic.mp En;have hX:=BG En;generalize p.2[d]=X at hX;refine RI (AL.at 2 .tup rfl rfl ?_);refine AL.B4 (x:=Az X) .lst (B8 _) (by exact Aa (Ai _)<|N2 FG rfl) (by show(p.2.map Az)[d]?=_;exact Aa Bp<|Aa hX rfl) ?_;refine⟨Vu (.ref hB),?_⟩;have hh:=h1 X (ha.trans hX);have fin:∀K:List It,K.length<=100->(bh.lookup X).getD []=K->∀K2,K2=K++ [Hk (r,d,sg)]->Dd c (n+1) (.ref B) (Az X) (Jc K2) s λCE=>N .next [some (.lst (ps.map AZ)),none,some hd,some L,some M,some (.int k),some P,some (.ref B),F,none,none,none,none,none,none,none,none,none] CE:=λK hK e K2 e2=>by
   subst e2;replace hh:=e▸hh;exact PD (AU.str c) (λZ Z=>Sy.inj) nd hB (Bh (N1 hz rfl)) hh
  refine qZ (AU.str c) (λZ Z=>Sy.inj) nd (.ref hB) (λK hK=>?_) (λhn=>?_)
  ·have WH:=GL _ (LC hK);refine⟨Bh (by simp at WH⊢;exact N1 WH rfl),?_⟩;have:=fin K WH (by exact Aa hK rfl) _ rfl;rewrite[Jc] at this;replace this:=Bs▸this;exact this
  ·refine⟨Ds rfl,?_⟩;exact fin [] (by decide) (by
    cases e:bh.lookup X with
    | none=>rfl
    | some v=>exact absurd (Dz (f:=(·.1)) (LC e)) hn) _ rfl
 ·rewrite[Ai] at En;exact h2 (by exact Aa ha<|Aa (Ip (Ie.mp En)) rfl)
structure SI(c:Cx)(ps:List Pr)(H:Sy->List Sy)(V:St)(L M P:Addr)(hd:AV)(Ag:List (List It))(Aw:List (List (Sy×Nat)))(s:St):Prop where
 ln:s L=some (.list (Ag.map F8))
 mv:s M=some (.list (Aw.map Fp))
 pl:s P=some (.dict ((Ag.map λI=>I.map CM).map .tup) ((BN Ag.length).map AB))
 hh:E5 s hd H
 nd:Ag.Nodup
 rs:∀I∈Ag,Hl ps H I
 ap:L≠M/\L≠P/\M≠P
 fr:∀a ob,V a=some ob->s a=some ob
 ho:∀a,hd= .ref a->a≠L/\a≠M/\a≠P
 nl:V L=none/\V M=none/\V P=none
theorem E5.set{s:St}{H:Sy->List Sy}{b:Addr}{ob:BD}(h:E5 s hd H)(k:∀a,hd= .ref a->a≠b):E5 (s.set b ob) hd H:=by
 unfold E5 at h⊢;generalize syms.map Az=ks at h;generalize syms.map (λs=>Bm (H s))=vs at h;cases h with
 | BH=>exact .BH
 | ref e=>exact .ref ((St.Am (k _ rfl)).trans e)
theorem Ca{s:St}{b:Addr}{x:BD}(h:∀a ob,V a=some ob->s a=some ob)(k:V b=none):∀a ob,V a=some ob->s.set b x a=some ob:=λa ob e=>by
 rw[St.Am (by rintro rfl;replace e:=k▸e;exact AA e)];exact h a ob e
theorem AiP(h:I.map CM=J.map CM):I=J:=by
 induction I generalizing J with
 | nil=>cases J with
  | nil=>rfl
  | cons y J=>exact Iz h
 | cons x I ih=>cases J with
  | nil=>exact Mm h
  | cons y J=>
   simp only[EO,KG] at h;exact Aa (ih h.2)<|Aa (WD (AV.tup.inj h.1)) rfl
theorem WI{Ag:List (List It)}:I.map CM∈(Ag.map λI=>I.map CM)↔I∈Ag:=by
 constructor
 ·intro h;refine Ad (Bj.mp h) ?_;clear h;intro J hJ e;exact AiP e▸hJ
 ·intro h;exact Dz (f:=λI:List It=>I.map CM) h
theorem WJ(I:List It):AV.flat 8 (.tup (I.map CM))=true/\AV.areKeys (I.map CM)=true:=by
 constructor
 ·have:AV.CO 7 (I.map CM)=true:=KY λx hx=>by
   refine Ad (Bj.mp hx) ?_;clear hx;rintro y _ rfl;have:=y.2.2.ok;show(AV.UV (Az y.2.2) 6&&true)=true;exact Aa (Abm _)<|this
  exact this
 ·induction I with
  | nil=>rfl
  | cons x I ih=>exact(D7 _ _).mpr ⟨(Px x).2,ih⟩
theorem WK(Ag:List (List It)):IP (Ag.map λI=>I.map CM):=λk hk=>by refine Ad (Bj.mp hk) ?_;clear hk;rintro I _ rfl;exact WJ I
structure Jd(ps:List Pr)(H:Sy->List Sy)(Un:List It)(NB:Nat):Prop where
 U:Py ps H Un
 z:(0,0,Sy.nu)∈Un
 ad:∀x∈Un,∀X,Bn ps x=some X->Hk x∈Un
 sy:∀p∈ps,∀s∈p.2,s∈syms
 nb:∀Ag:List (List It),Ag.Nodup->(∀I∈Ag,Hl ps H I)->Ag.length<=NB
 le:NB<=1048575
 sg:∀x∈Un,0<x.1->x.2.2= .en\/x.2.2= .a\/x.2.2= .b\/x.2.2= .c
theorem AiQ{x:It}:LA x x=false:=by
 have:Dg x.2.2.str x.2.2.str=false:=by unfold Dg;exact decide_eq_false (QN _)
 unfold LA H1;simp[this]
theorem CS.nd{ps:List Pr}{H:Sy->List Sy}{K ys:List It}(h:CS ps H K ys):ys.Nodup:=h.lt.imp λ{x y} h e=>by subst e;replace h:=AiQ▸h;exact AJ h
theorem AiR{x y:It}(h:Hk x=Hk y):x=y:=by obtain⟨a,b,d⟩:=x;obtain⟨a',b',d'⟩:=y;simp only[Hk,Aag,Nat.add_right_cancel_iff] at h⊢;exact h
theorem AiS(h:I.Nodup):(gk ps I X).Nodup:=KN.mpr ((h.filter _).imp λh e=>h (AiR e))
theorem rB{H:Sy->List Sy}(B:Jd ps H Un NB)(h:∀x∈I,x∈Un):∀x∈gk ps I X,x∈Un:=λx hx=>by
 refine Ad (Bj.mp hx) ?_;clear hx;rintro y hy rfl;refine Ah (JJ.mp hy) ?_;clear hy;intro h1 h2;exact B.ad y (h y h1) X (by simpa using h2)
theorem Hl.un{H:Sy->List Sy}(B:Jd ps H Un NB)(h:Hl ps H I):I.Nodup/\ ∀x∈I,x∈Un:=by
 induction h with
 | start h=>exact⟨h.nd,λx hx=>((h.mem x).mp hx).univ B.U λy hy=>by have hZ:=B3.mp hy;clear hy;subst hZ;exact B.z⟩
 | go _ _ h ih=>exact⟨h.nd,λx hx=>((h.mem x).mp hx).univ B.U (rB B ih.2)⟩
open Classical in
theorem AiT(O:AE c){ps:List Pr}{H:Sy->List Sy}{Un:List It}{NB:Nat}(Bd:Jd ps H Un NB)(hs:Small ps){L M P B F:Addr}{hd:AV}{k:Int}{Ag:List (List It)}{Aw:List (List (Sy×Nat))}{s:St}{bh:List (Sy×List It)}{fm:List (Sy×Nat)}{X:Sy}{I:List It}{N:Fl->Al->St->Prop}
  (S:SI c ps H V L M P hd Ag Aw s) (hI:I∈Ag) (hX:∃x∈I,Bn ps x=some X) (hB:s B=some (B2 (AU.str c) Sy.str Jc bh)) (hbX:bh.lookup X=some (gk ps I X)) (hF:s F=some (B2 (AU.str c) Sy.str AB fm)) (HS:(fm.map (·.1)).Nodup) (hfX:X∉fm.map (·.1)) (WL:fm.length<=100)
  (nB:B≠L/\B≠M/\B≠P/\B≠F) (nF:F≠L/\F≠M/\F≠P) (hn:∀a,hd= .ref a->a≠F) (sF:V F=none)
  (h:∀J j GM s',CS ps H (gk ps I X) J->GM[j]?=some J->(∃t,GM=Ag++t)->SI c ps H V L M P hd GM Aw s'->s' B=s B->s' F=some (B2 (AU.str c) Sy.str AB (fm++ [(X,j)]))->
   N .next [some (.lst (ps.map AZ)),none,some hd,some (.ref L),some (.ref M),some (.int k),some (.ref P),some (.ref B),some (.ref F),none,none,none,none,none,none,none,none,none] s'):
  vs c (n+3) mJ [some (.lst (ps.map AZ)),some (Az X),some hd,some (.ref L),some (.ref M),some (.int k),some (.ref P),some (.ref B),some (.ref F),none,none,none,none,none,none,none,none,none] s N:=by
 refine Ah ((S.rs I hI).un Bd) ?_;intro nd un;have sz:=AP (Bd.nb Ag S.nd S.rs) Bd.le;refine PB (AU.str c) (.ref hB) hbX ?_;refine(qL (n:=n+1) O hs Bd.sy Bd.U (rB Bd un) (AiS nd) S.hh λJ jlt jmem=>?_).call;have hJ:CS ps H (gk ps I X) J:=⟨jlt,jmem⟩;refine Ah (WJ J) ?_;intro f1 f2;refine Sq (λAp s'=>Ap= [some (.lst (ps.map AZ)),some (Az X),some hd,some (.ref L),some (.ref M),some (.int k),some (.ref P),some (.ref B),some (.ref F),none,none,none,some (F8 J),none,none,none,none,none]/\
  ∃(GM:List (List It))(j:Nat),GM[j]?=some J/\(∃t,GM=Ag++t)/\SI c ps H V L M P hd GM Aw s'/\s' B=s B/\s' F=s F) (λN' hN Z=>?_) ?_
 ·refine AR.cW (.ref S.pl) (WK Ag) f1 f2 (Kg (λhj=>?_) λhj=>?_)
  ·have hj:J∉Ag:=λh=>hj (WI.mpr h);refine An.len (.ref S.ln) (by exact Aa (Ai _)<|N2 sz rfl) ?_;refine Aa (Ai _) ?_;refine Dd.OD S.pl (WK Ag) f1 f2 (by exact Aa (Ai _)<|Aa Ft<|N1 sz rfl) (mt WI.mp hj) ?_;have RN:=(St.Am (V:=s) (a:=P) (ob:=(.dict ((Ag.map (λI=>I.map CM)++ [J.map CM]).map .tup) ((BN Ag.length).map AB++ [.int Ag.length]))) S.ap.2.1).trans S.ln;refine⟨Du (.ref RN),An.append RN (by exact Aa (Ai _)<|Aa Ft<|N1 sz rfl) ?_⟩;refine hN _ _ ⟨rfl,Ag++ [J],Ag.length,by simp,⟨[J],rfl⟩,⟨?_,?_,?_,(S.hh.set λa e=>(S.ho a e).2.2).set λa e=>(S.ho a e).1,?_,?_,S.ap,Ca (Ca S.fr S.nl.2.2) S.nl.1,S.ho,S.nl⟩,?_,?_⟩
   ·refine Aa St.AC ?_;simp
   ·exact Aa (St.Am S.ap.1.symm)<|Aa (St.Am S.ap.2.2)<|Aa S.mv rfl
   ·refine Aa (St.Am S.ap.2.1.symm)<|Aa St.AC ?_;simp[YU]
   ·exact NO.mpr ⟨S.nd,by simp,λx hx y hy=>by simp at hy;subst hy;rintro rfl;exact hj hx⟩
   ·intro I' Eh;rcases C9.mp Eh with h'|h'
    ·exact S.rs I' h'
    ·have hZ:=B3.mp h';clear h';subst hZ;exact .go (S.rs I hI) hX hJ
   ·exact Aa (St.Am nB.1)<|Aa (St.Am nB.2.2.1) rfl
   ·exact Aa (St.Am nF.1)<|Aa (St.Am nF.2.2) rfl
  ·have hj:J∈Ag:=WI.mp hj;refine Ar (DM hj) ?_;clear hj;intro j hj;exact hN _ _ ⟨rfl,Ag,j,hj,⟨[],by simp⟩,S,rfl,rfl⟩
 ·intro _ s';intro hZ;obtain⟨rfl,GM,j,hj,ht,S',WM,IJ⟩:=hZ;replace IJ:=hF▸IJ;have Lk:=(A5.mp hj).1;refine AL.OD (κs:=GM.map λI=>I.map CM) (k:=J.map CM) (i:=j) (v:=AB j) (.ref S'.pl) (WK GM) (by exact Aa Bp<|Aa hj rfl) (by exact Aa Bp<|Aa (KE Lk) rfl) ?_;refine PD (AU.str c) (λZ Z=>Sy.inj) (a:=j) (f:=AB) HS IJ (Bh (N1 WL rfl)) ?_;have e:upd fm X j=fm++ [(X,j)]:=if_neg hfX;refine Aa e ?_;refine h J j GM _ hJ hj ht ⟨?_,?_,?_,S'.hh.set hn,S'.nd,S'.rs,S'.ap,Ca S'.fr sF,S'.ho,S'.nl⟩ ?_ St.AC
  ·exact Aa (St.Am nF.1.symm)<|Aa S'.ln rfl
  ·exact Aa (St.Am nF.2.1.symm)<|Aa S'.mv rfl
  ·exact Aa (St.Am nF.2.2.symm)<|Aa S'.pl rfl
  ·exact Aa (St.Am nB.2.2.2)<|Aa WM rfl
end
section
variable{c:Cx}{n:Nat}{V:St}{Q:AV->St->Prop}
noncomputable abbrev RS(ps:List Pr)(o1:Option AV)(hd:AV)(L M:Addr)(k:Nat)(P:Addr)(b f:Option AV):Al:= [some (.lst (ps.map AZ)),o1,some hd,some (.ref L),some (.ref M),some (.int k),some (.ref P),b,f,none,none,none,none,none,none,none,none,none]
structure Row(ps:List Pr)(H:Sy->List Sy)(Ag:List (List It))(I:List It)(m:List (Sy×Nat)):Prop where
 nd:(m.map (·.1)).Nodup
 ks:∀X,X∈m.map (·.1)↔ ∃x∈I,Bn ps x=some X
 vs:∀X j,(X,j)∈m->∃J,Ag[j]?=some J/\CS ps H (gk ps I X) J
theorem Row.app{H:Sy->List Sy}{Ag t:List (List It)}{m:List (Sy×Nat)}(h:Row ps H Ag I m):Row ps H (Ag++t) I m:=
 ⟨h.nd,h.ks,λX j hm=>by refine Ad (h.vs X j hm) ?_;intro J h1 h2;exact⟨J,Aa (Fv (A5.mp h1).1)<|h1,h2⟩⟩
theorem rC(h:GB ps l bh):bh.length<=9:=by have:=h.nd.length_le_of_subset (l₂:=Pv) λx Z=>Sr x;rewrite[Ai] at this;exact this
theorem AiU{ps:List Pr}{H:Sy->List Sy}{L M P B F:Addr}{hd:AV}{k:Nat}{Ag:List (List It)}{Aw:List (List (Sy×Nat))}{s:St}{bh:List (Sy×List It)}{fm:List (Sy×Nat)}{N:Fl->Al->St->Prop}
  (S:SI c ps H V L M P hd Ag Aw s) (hB:s B=some (B2 (AU.str c) Sy.str Jc bh)) (hF:s F=some (B2 (AU.str c) Sy.str AB fm)) (nB:B≠L/\B≠M/\B≠P/\B≠F) (nF:F≠L/\F≠M/\F≠P) (hn:∀a,hd= .ref a->a≠F/\a≠B) (sF:V F=none) (sB:V B=none) (hz:Aw.length<=Bc)
  (h:∀s',SI c ps H V L M P hd Ag (Aw++ [fm]) s'->N .next (RS ps none hd L M (k+1) P none none) s'):vs c (n+1) mK (RS ps none hd L M k P (some (.ref B)) (some (.ref F))) s N:=by
 have S':SI c ps H V L M P hd Ag Aw ((s.del F).del B):=by
  have ne:∀{a},a≠F->a≠B->((s.del F).del B) a=s a:=λh1 h2=>(St.Dp h2).trans (St.Dp h1);refine⟨(ne nF.1.symm nB.1.symm).trans S.ln,(ne nF.2.1.symm nB.2.1.symm).trans S.mv,(ne nF.2.2.symm nB.2.2.1.symm).trans S.pl,?_,S.nd,S.rs,S.ap,λa ob e=>?_,S.ho,S.nl⟩
  ·have:=S.hh;unfold E5 at this⊢;generalize syms.map Az=ks at this;generalize syms.map (λs=>Bm (H s))=vs at this;cases this with
   | BH=>exact .BH
   | ref e=>exact .ref ((ne (hn _ rfl).1 (hn _ rfl).2).trans e)
  ·rw[ne (by rintro rfl;replace e:=sF▸e;exact AA e) (by rintro rfl;replace e:=sB▸e;exact AA e)];exact S.fr a ob e
 refine⟨RS ps none hd L M k P none (some (Fp fm)),(s.del F).del B,λa GC e=>⟨GC,?_,.same _⟩,?_,?_⟩
 ·exact St.I9 _ _ (St.I9 _ _ e)
 ·refine .cons (.same _) (.forget (.cons (.same _) (.cons (.same _) (.cons (.same _) (.cons (.same _) (.cons (.same _) (.forget (.cons ?_ (DH.same _)))))))));exact .BH hF ((St.Dp nB.2.2.2.symm).trans St.I8) (.same _)
 ·refine⟨Du (.ref S'.mv),An.append S'.mv (by exact Aa (Ai _)<|hz) ?_⟩;have hk:(k:Int)+1=((k+1:Nat):Int):=rfl;have:=h ((((s.del F).del B)).set M (.list (Aw.map Fp++ [Fp fm]))) ⟨(St.Am S.ap.1).trans S'.ln,by refine Aa St.AC ?_;simp,(St.Am S.ap.2.2.symm).trans S'.pl,S'.hh.set λa e=>(S.ho a e).2.1,S.nd,S.rs,S.ap,Ca S'.fr S.nl.2.1,S.ho,S.nl⟩;exact this
theorem E5.some{s:St}{a:Addr}{H:Sy->List Sy}(h:E5 s (.ref a) H):s a≠none:=by
 unfold E5 at h;generalize syms.map Az=ks at h;generalize syms.map (λs=>Bm (H s))=vs at h;cases h with
 | ref e=>exact Aa e<|λh=>nomatch h
theorem AiV{ys:List Str}{l:List Sy}(h:ys.Perm (l.map Sy.str)):∃zs:List Sy,ys=zs.map Sy.str/\zs.Perm l:=by
 have ey:ys=(ys.map Kf).map Sy.str:=by
  refine Aa BC ?_
  conv=>lhs;rw[<-QY ys]
  refine Gm λy hy=>?_;refine Ad (Bj.mp (h.mem_iff.mp hy)) ?_;rintro x _ rfl;simp[M0]
 refine⟨ys.map Kf,ey,?_⟩;have:=h.map Kf;replace this:=BC▸this;have e:l.map (Kf∘Sy.str)=l:=(Gm λx Z=>M0 x).trans (QY l);rwa[e] at this
theorem AiW(O:AE c){ps:List Pr}{H:Sy->List Sy}{Un:List It}{NB:Nat}(Bd:Jd ps H Un NB)(hs:Small ps){L M P B F:Addr}{hd:AV}{k:Nat}{Ag:List (List It)}{Aw:List (List (Sy×Nat))}{s:St}{bh:List (Sy×List It)}{I:List It}{N:Fl->Al->St->Prop}
  (S:SI c ps H V L M P hd Ag Aw s) (hI:I∈Ag) (G:GB ps I bh) (hB:s B=some (B2 (AU.str c) Sy.str Jc bh)) (hF:s F=some (B2 (AU.str c) Sy.str AB []))
  (nB:B≠L/\B≠M/\B≠P/\B≠F) (nF:F≠L/\F≠M/\F≠P) (hn:∀a,hd= .ref a->a≠F/\a≠B) (sF:V F=none) (sB:V B=none) (hz:Aw.length<=Bc)
  (h:∀t m s',SI c ps H V L M P hd (Ag++t) (Aw++ [m]) s'->Row ps H (Ag++t) I m->N .next (RS ps none hd L M (k+1) P none none) s'):vs c (n+3) mM (RS ps none hd L M k P (some (.ref B)) (some (.ref F))) s N:=by
 have bl:=rC G;refine An.Adr (AU.str c) (.ref hB) (by exact Aa (Ai _)<|Bh (N1 bl rfl)) ?_;have IG:(bh.map λp=>p.1.str).Nodup:=by have:=G.nd;exact Aa (show(bh.map λp=>p.1.str)=(bh.map (·.1)).map Sy.str by rw[BC];rfl)<|KN.mpr (this.imp λh e=>h (Sy.inj e))
 refine An.gK (GF.str c) .lst IG (by exact Aa (Ai _)<|N2 bl rfl) λys hp AH=>?_;have hp:ys.Perm ((bh.map (·.1)).map Sy.str):=Aa BC<|hp;refine Ad (AiV hp) ?_;clear hp;rintro zs rfl GL;refine Aa (show(zs.map Sy.str).map (GF.str c).enc=zs.map Az by rw[BC];rfl) ?_;have zn:zs.Nodup:=GL.nodup_iff.mpr G.nd;have zl:=GL.length_eq;rewrite[Ai] at zl;refine IZ (λZ=>RS ps none hd L M k P (some (.ref B)) (some (.ref F))) (λi s'=>∃(t:List (List It))(fm:List (Sy×Nat)),SI c ps H V L M P hd (Ag++t) Aw s'/\s' B=some (B2 (AU.str c) Sy.str Jc bh)/\s' F=some (B2 (AU.str c) Sy.str AB fm)/\
  fm.map (·.1)=zs.take i/\ ∀X j,(X,j)∈fm->∃J,(Ag++t)[j]?=some J/\CS ps H (gk ps I X) J) ⟨[],[],Aa (C8 _)<|S,hB,hF,rfl,λX j h=>by cases h⟩ (λi x si J' hx Hm Nc=>?_) λse Hm=>?_
 ·refine NZ Hm ?_;clear Hm;intro t fm S1 Je Ki Fh WN;refine Ad (Dx hx) ?_;clear hx;rintro X hX rfl;have hXz:=A8 hX;have rD:X∈bh.map (·.1):=GL.mem_iff.mp hXz;refine Ad (Bj.mp rD) ?_;rintro p hp rfl;have hl:=H4 G.nd (k:=p.1) (v:=p.2) hp;replace hl:=(G.val p hp)▸hl;have fl:fm.length<=100:=by have:=congrArg EQ Fh;rewrite[Ai] at this;replace this:=JI▸this;exact M12 bl zl this
  refine AiT O Bd hs S1 (CW _ hI) ((G.mem p.1).mp rD) Je hl Ki (by exact Aa Fh<|zn.sublist (QP _ _)) (λhm=>?_) fl nB nF (λa e=>(hn a e).1) sF λJ j GM s' hJ hj ⟨t',WO⟩ S' WM IJ=>?_
  ·replace hm:=Fh▸hm;refine Ar (DM hm) ?_;clear hm;intro i' Nf;replace Nf:=Aba▸Nf;split at Nf
   ·have:=(LY (A5.mp Nf).1 zn).mp (Nf.trans hX.symm);exact GW ‹_› (HJ this)
   ·exact AA Nf
  ·refine Nc s' ⟨t++t',_,?_,WM.trans Je,IJ,?_,?_⟩
   ·rewrite[<-DE];refine AS WO ?_;exact S'
   ·exact Aa Bs<|Aa Fh<|Aa Fu<|Aa hX rfl
   ·intro Y j2 hm;rewrite[<-DE];refine AS WO ?_;rcases C9.mp hm with hm|hm
    ·refine Ad (WN Y j2 hm) ?_;intro J' h1 h2;exact⟨J',Aa WO<|Aa (Fv (A5.mp h1).1)<|h1,h2⟩
    ·have hZ:=B3.mp hm;clear hm;cases hZ;exact⟨J,hj,hJ⟩
 ·refine NZ Hm ?_;clear Hm;intro t fm S1 Je Ki Fh WN;rewrite[Ai] at Fh;replace Fh:=(Gp (BJ _))▸Fh;exact AiU S1 Je Ki nB nF hn sF sB hz λs' S'=>h t fm s' S' ⟨Aa Fh<|zn,λX=>by refine Aa Fh ?_;rewrite[GL.mem_iff];rewrite[G.mem];rfl,WN⟩
theorem AiX(O:AE c){ps:List Pr}{H:Sy->List Sy}{Un:List It}{NB:Nat}(Bd:Jd ps H Un NB)(hs:Small ps){L M P:Addr}{hd:AV}{k:Nat}{Ag:List (List It)}{Aw:List (List (Sy×Nat))}{s:St}{I:List It}{N:Fl->Al->St->Prop}
  (S:SI c ps H V L M P hd Ag Aw s) (hI:Ag[k]?=some I) (hz:Aw.length<=Bc)
  (h:∀t m s',SI c ps H V L M P hd (Ag++t) (Aw++ [m]) s'->Row ps H (Ag++t) I m->N .next (RS ps none hd L M (k+1) P none none) s'):vs c (n+3) mN (RS ps none hd L M k P none none) s N:=by
 refine Ah ((S.rs I (A8 hI)).un Bd) ?_;intro nd un;have il:I.length<64:=DT (nd.length_le_of_subset un) Bd.U.ln;have sz:=AP (Bd.nb Ag S.nd S.rs) Bd.le;intro B sB F sF;have Sw:F≠B:=by rintro rfl;replace sF:=St.AC▸sF;exact BR sF
 replace sF:=(St.Am Sw)▸sF;have no:∀{a ob},s a=some ob->B≠a/\F≠a:=λe=>⟨(by rintro rfl;replace e:=sB▸e;exact AA e),(by rintro rfl;replace e:=sF▸e;exact AA e)⟩;have nB:B≠L/\B≠M/\B≠P/\B≠F:=⟨(no S.ln).1,(no S.mv).1,(no S.pl).1,Sw.symm⟩;have nF:F≠L/\F≠M/\F≠P:=⟨(no S.ln).2,(no S.mv).2,(no S.pl).2⟩;have hn:∀a,hd= .ref a->a≠F/\a≠B:=λa e=>⟨(by rintro rfl;exact(e▸S.hh).some sF),(by rintro rfl;exact(e▸S.hh).some sB)⟩;have oF:V F=none:=by
  cases e:V F with
  | none=>rfl
  | some ob=>replace sF:=(S.fr _ _ e)▸sF;exact BR sF
 have oB:V B=none:=by
  cases e:V B with
  | none=>rfl
  | some ob=>replace sB:=(S.fr _ _ e)▸sB;exact BR sB
 have S0:SI c ps H V L M P hd Ag Aw ((s.set B (.dict [] [])).set F (.dict [] [])):=
  ⟨(St.Am nF.1.symm).trans ((St.Am nB.1.symm).trans S.ln),(St.Am nF.2.1.symm).trans ((St.Am nB.2.1.symm).trans S.mv),(St.Am nF.2.2.symm).trans ((St.Am nB.2.2.1.symm).trans S.pl),(S.hh.set λa e=>(hn a e).2).set λa e=>(hn a e).1,S.nd,S.rs,S.ap,Ca (Ca S.fr oB) oF,S.ho,S.nl⟩
 refine AL.B4 (x:=F8 I) (.ref S0.ln) (B8 _) (by exact Aa (Ai _)<|N2 sz rfl) (by show(Ag.map F8)[k]?=_;exact Aa Bp<|Aa hI rfl) ?_;refine IZ (λZ=>RS ps none hd L M k P (some (.ref B)) (some (.ref F))) (λi s'=>∃bh,GB ps (I.take i) bh/\SI c ps H V L M P hd Ag Aw s'/\s' B=some (B2 (AU.str c) Sy.str Jc bh)/\s' F=some (B2 (AU.str c) Sy.str AB [])) ⟨[],⟨Il,λX=>by simp,λp hp=>by cases hp⟩,S0,(St.Am Sw.symm).trans St.AC,St.AC⟩ (λi x si J' hx Hm Nc=>?_) λse Hm=>?_
 ·refine Fd Hm ?_;clear Hm;intro bh G S1 Je Ki;refine Ad (Dx hx) ?_;clear hx;intro hZ;obtain⟨r,d,sg⟩:=hZ;rintro OH rfl;have hx:=OH;refine Ad (Bd.U.ok _ (un _ (A8 hx))) ?_;intro p hp _;have ht:I.take (i+1)=I.take i++ [(r,d,sg)]:=Aa Fu<|Aa hx rfl;refine AiO hs hp G.nd Je (AP (rC G) (by decide)) (λp hp=>?_) (λX hX=>?_) λhX=>?_
  ·refine Aa (G.val p hp) ?_;unfold gk;exact Aa (Ai _)<|AP (QX _ _) (AP (Ux _ _) (N3 il rfl))
  ·have e:(bh.lookup X).getD []=gk ps (I.take i) X:=by
    cases e:bh.lookup X with
    | none=>
     refine(G.none λhm=>?_).symm;refine Ad (Bj.mp hm) ?_;clear hm;rintro p hp rfl;replace e:=(H4 G.nd (k:=p.1) (v:=p.2) hp)▸e;exact BR e
    | some K=>exact G.val _ (LC e)
   exact Aa e<|Nc _ ⟨_,ht▸G.add hX,⟨(St.Am nB.1.symm).trans S1.ln,(St.Am nB.2.1.symm).trans S1.mv,(St.Am nB.2.2.1.symm).trans S1.pl,S1.hh.set λa e=>(hn a e).2,S1.nd,S1.rs,S1.ap,Ca S1.fr oB,S1.ho,S1.nl⟩,St.AC,(St.Am Sw).trans Ki⟩
  ·exact Nc _ ⟨bh,ht▸G.skip hX,S1,Je,Ki⟩
 ·refine Fd Hm ?_;clear Hm;intro bh G S1 Je Ki;rewrite[Ai] at G;replace G:=(Gp (BJ _))▸G;exact AiW O Bd hs S1 (A8 hI) G Je Ki nB nF hn oF oB hz h
end
def GN(ps:List Pr)(H:Sy->List Sy):Prop:=∀s∈syms,(H s).Nodup/\ ∀t,t∈H s↔E4 ps s t/\t∉ps.map (·.1)
section
variable{c:Cx}{n:Nat}{V:St}{Q:AV->St->Prop}
def HL(ps:List Pr)(i:Nat)(hl:List (Sy×List Sy)):Prop:=hl.map (·.1)=syms.take i/\ ∀p∈hl,p.2.Nodup/\ ∀t,t∈p.2↔E4 ps p.1 t/\t∉ps.map (·.1)
noncomputable def rE(p:Sy×List Sy):AV:= .tup [Az p.1,Bm p.2]
theorem HL.add{l:List Sy}(h:HL ps i hl)(hX:syms[i]?=some X)(h2:l.Nodup/\ ∀t,t∈l↔E4 ps X t/\t∉ps.map (·.1)):HL ps (i+1) (hl++ [(X,l)]):=
 ⟨Aa Bs<|Aa (h.1)<|Aa Fu<|Aa hX rfl,Wy h.2 h2⟩
theorem HL.ok(h:HL ps 7 hl):(hl.map (·.1)).Nodup/\hl.length=7/\ ∃H,GN ps H/\ ∀(s:St) D,s D=some (.dict (((hl.map λp=>(p.1.str,Bm p.2)).map (·.1)).map (AU.str c).enc) ((hl.map λp=>(p.1.str,Bm p.2)).map (·.2)))->E5 s (.ref D) H:=by
 have h1:hl.map (·.1)=syms:=h.1;have hn:(hl.map (·.1)).Nodup:=by refine Aa h1 ?_;decide
 have hv:∀p∈hl,(hl.lookup p.1).getD []=p.2:=λp hp=>congrArg (·.getD []) (H4 hn (k:=p.1) (v:=p.2) hp);refine⟨hn,(Ai _).symm.trans (congrArg EQ h1),λs=>(hl.lookup s).getD [],λX hX=>?_,λs D e=>?_⟩
 ·replace hX:=Eq.symm h1▸hX;refine Ad (Bj.mp hX) ?_;clear hX;rintro p hp rfl;have:=h.2 p hp;replace this:=Eq.symm (hv p hp)▸this;exact this
 ·have eH:(syms.map λs=>Bm ((hl.lookup s).getD []))=hl.map λp=>Bm p.2:=by refine AS h1 ?_;refine Aa BC ?_;exact Gm λp hp=>congrArg Bm (hv p hp)
  unfold E5;refine Aa eH ?_;refine AS h1 ?_;refine .ref (e.trans ?_);simp only[BC];rfl
structure WS(c:Cx)(ps:List Pr)(H:Sy->List Sy)(V:St)(L M P D:Addr)(I0:List It)(Ag:List (List It))(Aw:List (List (Sy×Nat)))(k:Nat)(s:St):Prop where
 S:SI c ps H V L M P (.ref D) Ag Aw s
 m:Aw.length=k
 le:k<=Ag.length
 i0:Ag[0]?=some I0
 row:∀(i:Nat) I m,Ag[i]?=some I->Aw[i]?=some m->Row ps H Ag I m
theorem WS.next{H:Sy->List Sy}{L M P D:Addr}{I0:List It}{Ag t:List (List It)}{m:List (Sy×Nat)}{k:Nat}{s s':St}(h:WS c ps H V L M P D I0 Ag Aw k s)(hI:Ag[k]?=some I)(S:SI c ps H V L M P (.ref D) (Ag++t) (Aw++ [m]) s')(R:Row ps H (Ag++t) I m):WS c ps H V L M P D I0 (Ag++t) (Aw++ [m]) (k+1) s':=
 have hk:=(A5.mp hI).1
 ⟨S,Aa AY<|Aa h.m rfl,Aa AY<|Zf hk,pre_app h.i0,λi J m' hJ Dr=>by
  have hi:=(A5.mp Dr).1;replace hi:=AY▸hi;replace hi:=h.m▸hi;refine Nb hi (λhi=>?_) λhi=>?_
  ·replace hJ:=(Fv (FM hi hk))▸hJ;rw[Fv (by exact Aa h.m<|hi)] at Dr;exact(h.row i J m' hJ Dr).app
  ·subst hi;replace hJ:=(Fv hk)▸hJ;replace hJ:=hI▸hJ;replace Dr:=(KR (BA h.m))▸Dr;replace Dr:=h.m▸Dr;rewrite[Uz] at Dr;exact Ay hJ▸Ay Dr▸R⟩
theorem AiY(O:AE c)(hs:Small ps)(hB:∀H,GN ps H->∃Un NB,Jd ps H Un NB)(k:∀H Ag Aw,GN ps H->Sv ps H Ag Aw->Q (.tup [.lst (Ag.map F8),.lst (Aw.map Fp)]) V):A0 c (n+4) (.ref 842) [.lst (ps.map AZ)] V Q:=by
 refine Aic.run O (Ww (λi ys s=>s=V/\ ∃hl,HL ps i hl/\ys=hl.map rE) rfl (Ds rfl) ⟨rfl,[],⟨rfl,λp h=>nomatch h⟩,rfl⟩ (λi x ys s K hx hI hK=>?_) λys s hI=>?_)
 ·obtain⟨rfl,hl,h1,rfl⟩:=hI;refine Ad (Dx (l:=syms) (f:=Az) hx) ?_;rintro X hX rfl;exact(AiL O hs λDX hn hm=>hK (.tup [Az X,Bm DX]) _ ⟨rfl,_,h1.add hX ⟨hn,hm⟩,(Bs (f:=rE) (l₁:=hl) (l₂:= [(X,DX)])).symm⟩).call
 obtain⟨es,hl,h1,rfl⟩:=hI;have es:=es.symm;subst es;obtain⟨hn,FW,H,ok,hh⟩:=HL.ok (c:=c) h1;refine DO (hB H ok) ?_;intro Un NB Bd;refine BW (ys:=(hl.map λp=>(p.1.str,Bm p.2)).map λp=>.tup [(AU.str c).enc p.1,p.2]) (by exact Aa BC rfl) ?_;refine An.VV (Iq.E (AU.str c)) (λZ Z=>trivial) ?_ (by exact Aa (Ai _)<|Bh (N5 FW rfl)) (λD hD=>?_)
 ·refine Aa BC<|Aa (show((λx:Str×AV=>x.1)∘λp:Sy×List Sy=>(p.1.str,Bm p.2))=Sy.str∘λp=>p.1 from rfl) ?_;refine AS BC ?_;exact KN.mpr (hn.imp λh e=>h (Sy.inj e))
 generalize BD.dict (((hl.map λp=>(p.1.str,Bm p.2)).map (·.1)).map (AU.str c).enc) ((hl.map λp=>(p.1.str,Bm p.2)).map (·.2))=ob at hh;refine(qL (n:=n+1) O hs Bd.sy (K:= [(0,0,.nu)]) Bd.U (λx hx=>B3.mp hx▸Bd.z) (by decide) (hh _ _ St.AC) λI0 ilt imem=>?_).call;have Sx:CS ps H [(0,0,.nu)] I0:=⟨ilt,imem⟩;refine λL hL M hM P hP=>?_;have pm:=St.nw hP;have pl:=St.nw pm.2;have pd:=St.nw pl.2;have ml:=St.nw hM;have md:=St.nw ml.2;have ld:=St.nw hL;have aD:∀{x y z w:BD},((((V.set D ob).set L x).set M y).set P z).set P w D=some ob:=(St.Am pd.1.symm).trans ((St.Am pd.1.symm).trans ((St.Am md.1.symm).trans ((St.Am ld.1.symm).trans St.AC)));have aL:∀{x y z w:BD},((((V.set D ob).set L x).set M y).set P z).set P w L=some x:=(St.Am pl.1.symm).trans ((St.Am pl.1.symm).trans ((St.Am ml.1.symm).trans St.AC));have aM:∀{x y z w:BD},((((V.set D ob).set L x).set M y).set P z).set P w M=some y:=(St.Am pm.1.symm).trans ((St.Am pm.1.symm).trans St.AC);refine AL.at 1 (.ref ((St.Am pl.1.symm).trans ((St.Am ml.1.symm).trans St.AC))) rfl rfl ?_;have f:=WJ I0;refine Dd.OD (κs:= []) St.AC (λk h=>nomatch h) f.1 f.2 (Ds rfl) (λh=>nomatch h) ?_;refine Wv (X:=List (List It)×List (List (Sy×Nat))) (λZ k Z=>RS ps none (.ref D) L M k P none none) (λx k s=>WS c ps H V L M P D I0 x.1 x.2 k s) (λZ k=>NB-k) ([I0],[]) 0 ⟨none,none,none,none,none,none,none,none⟩
  ⟨⟨aL,aM,St.AC,hh _ _ aD,.cons (λZ h=>nomatch h) .nil,λI hI=>B3.mp hI▸ .start Sx,⟨ml.1.symm,pl.1.symm,pm.1.symm⟩,Ca (Ca (Ca (Ca (Ca (λa ob e=>e) hD) ld.2) md.2) pd.2) pd.2,λa e=>by cases e;exact⟨ld.1.symm,md.1.symm,pd.1.symm⟩,⟨ld.2,md.2,pd.2⟩⟩,rfl,Cq _,rfl,λi I m Z h=>nomatch h⟩ ?_
 intro hZ;obtain⟨Ag,Aw⟩:=hZ;intro k1 _ s J AlX hJ _;have sz:=AP (Bd.nb Ag AlX.S.nd AlX.S.rs) Bd.le;have lk:=AlX.le;refine An.len (.ref AlX.S.ln) (by exact Aa (Ai _)<|N2 sz rfl) ⟨λAH=>?_,λEY=>?_⟩
 ·rewrite[Ai] at AH;have hI:=BG (Ic.mp AH);exact AiX (n:=n) O Bd hs AlX.S hI (by exact Aa Ft<|AP (BA AlX.m) (AP (Ht (Ic.mp AH)) (N1 sz rfl))) λt m s' S' R=>hJ (Ag++t,Aw++ [m]) (k1+1) ⟨none,none,none,none,none,none,none,none⟩ _ (TP _ _ (B7 (Ic.mp AH) (Bd.nb Ag AlX.S.nd AlX.S.rs))) (AlX.next hI S' R)
 ·rewrite[Ai] at EY;exact⟨V,_,AlX.S.fr,.tup (.cons (.lst AlX.S.ln AlX.S.nl.1 (.same _)) (.cons (.lst AlX.S.mv AlX.S.nl.2.1 (.same _)) .nil)),
   k H Ag Aw ok ⟨by have:=AlX.m;lia,⟨I0,AlX.i0,Sx⟩,AlX.S.nd,AlX.S.rs,λi I m h1 h2=>have r:=AlX.row i I m h1 h2;⟨r.nd,r.ks,r.vs⟩⟩⟩
end
section
variable{c:Cx}{n:Nat}{V:St}{Q:AV->St->Prop}
theorem St.WP{a:Addr}{x y:BD}:(V.set a x).set a y=V.set a y:=St.set_set
theorem made{vs:List AV}(h:V da=none)(q:Q (Cc C vs) V):CX Q (.obj C da) (V.set da (Bw C vs)):=⟨V,_,St.Pw h,.inst St.AC h (.same _),q⟩
theorem CR{da C k j:Nat}{vs:List AV}{Cs:List Nat}{e:PE}{nm:String}{r:PS}{W:Al}{R:Fl->Al->St->Prop}{x:AV}(h1:∀K s,K x s->vc c n e W s K)(h2:EG W j=some (.obj C da))(h3:(GH C Cs&&(Cf vs.length k&&Da k vs.length))=true)
  (B1:List AV) (h4:Bw C (vs++ [x])=Bw C B1) (q:Internal.vs c n r W (V.set da (Bw C B1)) R):Internal.vs c n (.AQ e (.v j) nm k Cs r) W (V.set da (Bw C vs)) R:=h1 _ _ (by
 show Ka (EG W j) _;refine Aa h2 ?_;refine Bz.mk (Bu h3).1 ⟨vs,St.AC,?_⟩;refine Aa ((Bu (Bu h3).2).1) ?_;refine Bz.mk (Bu (Bu h3).2).2 ?_;refine Aa St.WP<|Aa h4 ?_;exact q)
theorem AiZ(O:AE c){a b:Int}{r:List AV}(q:Q (Cc 559 [.int a,.int b,.tup r,.int (-1),.none,.int 0,.int 0]) V):An c (n+3) (.ref 559) [.int a,.int b,.tup r] V Q:=by refine Hi O (fI:=556) (by decide+kernel) λda hd=>Ag9.code O (das:= [.int (-1),.none,.int 0,.int 0]) (λF=>.cons (.int _ _) (.cons .none (.cons (.int _ _) (.cons (.int _ _) .nil)))) rfl rfl ?_;refine CR (λZ Z k=>k) rfl rfl [.int a] rfl ?_;refine CR (λZ Z k=>k) rfl rfl [.int a,.int b] rfl ?_;refine CR (λZ Z k=>k) rfl rfl [.int a,.int b,.tup r] rfl ?_;refine CR (λZ Z k=>k) rfl rfl [.int a,.int b,.tup r,.int (-1)] rfl ?_;refine CR (λZ Z k=>k) rfl rfl [.int a,.int b,.tup r,.int (-1),.none] rfl ?_;refine CR (λZ Z k=>k) rfl rfl [.int a,.int b,.tup r,.int (-1),.none,.int 0] rfl ?_;refine CR (λZ Z k=>k) rfl rfl [.int a,.int b,.tup r,.int (-1),.none,.int 0,.int 0] rfl ?_;exact A6 ⟨rfl,made hd q⟩
noncomputable abbrev Hn(k t:Str):AV:=Cc 105 [.str k,.str t,.none,.str t]
theorem rF(O:AE c){k t:Str}(q:Q (Hn k t) V):An c (n+3) (.ref 105) [.str k,.str t,.none] V Q:=by refine Hi O (fI:=88) (by decide+kernel) λda hd=>f_88.code O (das:= [.none]) (λF=>.cons .none .nil) rfl rfl ?_;refine CR (λZ Z k=>k) rfl rfl [.str k] rfl ?_;refine CR (λZ Z k=>k) rfl rfl [.str k,.str t] rfl ?_;refine CR (λZ Z k=>k) rfl rfl [.str k,.str t,.none] rfl ?_;refine⟨_,St.AC,?_⟩;simp only[St.WP];exact A6 ⟨rfl,made hd q⟩
theorem Ai0(O:AE c){a b d e:AV}(q:Q (Cc 314 [a,b,d,e]) V):An c (n+3) (.ref 314) [a,b,d,e] V Q:=by refine Hi O (fI:=297) (by decide+kernel) λda hd=>Agi.run O ?_;refine CR (λZ Z k=>k) rfl rfl [a] rfl ?_;refine CR (λZ Z k=>k) rfl rfl [a,b] rfl ?_;refine CR (λZ Z k=>k) rfl rfl [a,b,d] rfl ?_;refine CR (λZ Z k=>k) rfl rfl [a,b,d,e] rfl ?_;exact A6 ⟨rfl,made hd q⟩
theorem Ai1(O:AE c){a b d e:AV}(q:∀da,V da=none->CX Q (.obj 342 da) (V.set da (Bw 342 [a,b,d,e]))):An c (n+3) (.ref 342) [a,b,d,e] V Q:=by refine Hi O (fI:=332) (by decide+kernel) λda hd=>Agk.run O ?_;refine CR (λZ Z k=>k) rfl rfl [a] rfl ?_;refine CR (λZ Z k=>k) rfl rfl [a,b] rfl ?_;refine CR (λZ Z k=>k) rfl rfl [a,b,d] rfl ?_;refine CR (λZ Z k=>k) rfl rfl [a,b,d,e] rfl ?_;exact A6 ⟨rfl,q da hd⟩
theorem Ai2(O:AE c){a:AV}(q:∀da,V da=none->Q (.obj 370 da) (V.set da (Bw 370 [a,.int 0]))):An c (n+3) (.ref 370) [a] V Q:=by refine Hi O (fI:=360) (by decide+kernel) λda hd=>Agm.run O ?_;refine CR (λZ Z k=>k) rfl rfl [a] rfl ?_;refine CR (λZ Z k=>k) rfl rfl [a,.int 0] rfl ?_;exact A6 ⟨rfl,.plain (q da hd)⟩
theorem Ai3(O:AE c){a b:AV}{cs:List AV}(hz:cs.length<=Bc)(q:Q (Cc 707 [a,b,.lst cs]) V):An c (n+3) (.ref 707) [a,b,.lst cs] V Q:=by
 refine Hi O (fI:=659) (by decide+kernel) λda hd=>Ahg.run O ?_;refine CR (λZ Z k=>k) rfl rfl [a] rfl ?_;refine CR (λZ Z k=>k) rfl rfl [a,b] rfl ?_;refine An.listS .lst hz λl hl=>?_;have nl:l≠da:=by rintro rfl;replace hl:=St.AC▸hl;exact BR hl
 replace hl:=(St.Am nl)▸hl;refine⟨_,(St.Am nl.symm).trans St.AC,?_⟩;refine A6 ⟨rfl,V,_,λa ob e=>?_,.inst St.AC hd (.cons (.same _) (.cons (.same _) (.cons (.lst ((St.Am nl).trans St.AC) hl (.same _)) .nil))),q⟩;rw[St.Am (by rintro rfl;replace e:=hd▸e;exact AA e),St.Am (by rintro rfl;replace e:=hl▸e;exact AA e),St.Am (by rintro rfl;replace e:=hd▸e;exact AA e)];exact e
theorem Ai4(O:AE c){k t:Str}(q:Q (Cc 742 [.str k,.int 0,.lst [],Hn k t]) V):An c (n+3) (.ref 742) [Hn k t] V Q:=by refine Hi O (fI:=725) (by decide+kernel) λda hd=>Aho.run O ?_;refine CR (λZ Z k=>⟨rfl,k⟩) rfl rfl [.str k] rfl ?_;refine CR (λZ Z k=>k) rfl rfl [.str k,.int 0] rfl ?_;refine CR (λZ Z k=>k) rfl rfl [.str k,.int 0,.lst []] rfl ?_;refine CR (λZ Z k=>k) rfl rfl [.str k,.int 0,.lst [],Hn k t] rfl ?_;exact A6 ⟨rfl,made hd q⟩
theorem Ai5(O:AE c){a:AV}(q:Q (Cc 794 [a]) V):An c (n+3) (.ref 794) [a] V Q:=by refine Hi O (fI:=770) (by decide+kernel) λda hd=>AhC.run O ?_;refine CR (λZ Z k=>k) rfl rfl [a] rfl ?_;exact A6 ⟨rfl,made hd q⟩
end
section
variable{c:Cx}{n:Nat}{V:St}{Q:AV->St->Prop}
noncomputable abbrev Rl:=Nat×Nat×List Nat
noncomputable abbrev E6(r:Rl):AV:=Cc 559 [.int r.1,.int r.2.1,.tup (r.2.2.map AB),.int (-1),.none,.int 0,.int 0]
structure GI(V:St)(da O AlX:Addr)(ls:List Addr)(vs:List AV)(i:Nat)(s:St):Prop where
 ob:s da=some (Bw 641 (vs++ [.lst (ls.map .ref),.ref O,.ref AlX]))
 o:∃xs,s O=some (.list xs)/\xs.length<=i
 w:∃xs,s AlX=some (.list xs)/\xs.length<=11*i
 l:∀a∈ls,∃xs,s a=some (.list xs)/\xs.length<=i
 fr:∀a ob,V a=some ob->s a=some ob
 ne:da≠O/\da≠AlX/\O≠AlX
 nl:∀a∈ls,a≠da/\a≠O/\a≠AlX
 nn:V da=none/\V O=none/\V AlX=none/\ ∀a∈ls,V a=none
theorem Ai6{da O AlX:Addr}{ls:List Addr}{names:AV}{rs:AV}{s0:Int}{lv:AV}{r:Rl}{i:Nat}{s:St}{N:Fl->Al->St->Prop}(h1:r.2.1<ls.length)(h2:r.2.2.length<=10)(hz:ls.length<=100)(hi:i<=50)
  (G:GI V da O AlX ls [names,.int 6,rs,lv,.none,.int s0] i s) (h:∀s',GI V da O AlX ls [names,.int 6,rs,lv,.none,.int s0] (i+1) s'->N .next [some (.obj 641 da),some names,some (.int 6),some rs,some lv,some .none,some (.int s0),none,none] s'):
  vs c (n+1) mI [some (.obj 641 da),some names,some (.int 6),some rs,some lv,some .none,some (.int s0),some (E6 r),none] s N:=by
 refine Ad G.o ?_;intro xO hO lO;refine Ad G.w ?_;intro xW hW lW;have hl:=BG h1;have hm:=NN h1;generalize ls[r.2.1]=a at hl hm;refine Ad (G.l a hm) ?_;intro xl ha la;refine Bq (G.nl a hm) ?_;intro n1 n2 n3;refine⟨_,G.ob,rfl,?_⟩;refine AL.B4 (x:= .ref a) .lst (B8 _) (by exact Aa (Ai _)<|N2 hz rfl) (by show(ls.map AV.ref)[r.2.1]?=_;exact Aa Bp<|Aa hl rfl) ?_;refine⟨Du (.ref ha),rfl,An.append ha (Bh (N1 (AP la hi) rfl)) ?_⟩;refine⟨_,(St.Am n1.symm).trans G.ob,Du (.ref ((St.Am n2.symm).trans hO)),_,(St.Am n1.symm).trans G.ob,An.len (.ref ((St.Am n3.symm).trans hW)) (N2 (AP lW (DU _ hi)) rfl) ?_⟩;refine An.append ((St.Am n2.symm).trans hO) (Bh (N1 (AP lO hi) rfl)) ?_;refine⟨_,(St.Am G.ne.1).trans ((St.Am n1.symm).trans G.ob),AbQ (.ref ((St.Am G.ne.2.2.symm).trans ((St.Am n3.symm).trans hW))),rfl,?_⟩;refine⟨rfl,An.len .tup (by exact Aa (Ai _)<|N2 h2 rfl) ?_⟩;refine Ci.mulL .lst (Q7 rfl) (by exact Aa (Ai _)<|N64 h2 rfl) ?_;have hk:(((r.2.2.map AB).length:Int)+1).toNat=r.2.2.length+1:=Aa (Ai _) rfl;refine Aa hk ?_;refine An.extend ((St.Am G.ne.2.2.symm).trans ((St.Am n3.symm).trans hW)) (Bh (by simp;exact M25 h2 hi lW)) ?_;refine h _ ⟨?_,⟨_,(St.Am G.ne.2.2).trans St.AC,by simp;assumption⟩,⟨_,St.AC,by simp;exact M24 h2 lW⟩,λb hb=>?_,?_,G.ne,G.nl,G.nn⟩
 ·exact Aa (St.Am G.ne.2.1)<|Aa (St.Am G.ne.1)<|Aa (St.Am n1.symm)<|G.ob
 ·refine Bq (G.nl b hb) ?_;intro m1 m2 m3;by_cases e:b=a
  ·subst e;exact⟨_,(St.Am m3).trans ((St.Am m2).trans St.AC),by simp;assumption⟩
  ·refine Ad (G.l b hb) ?_;intro xs hx lx;exact⟨xs,(St.Am m3).trans ((St.Am m2).trans ((St.Am e).trans hx)),Yo lx⟩
 ·exact Ca (Ca (Ca G.fr (G.nn.2.2.2 a hm)) G.nn.2.1) G.nn.2.2.1
theorem Ai7(O:AE c){names:List AV}{rs:List Rl}{s0:Int}(hr:∀r∈rs,r.2.1<names.length/\r.2.2.length<=10)(hn:names.length<=100)(hl:rs.length<=50)
  (q:∀x1 x2 x3 x4,Q (Cc 641 [.lst names,.int 6,.lst (rs.map E6),.BH [] [],.none,.int s0,x1,x2,x3,x4]) V):An c (n+3) (.ref 641) [.lst names,.int 6,.lst (rs.map E6),.BH [] [],.none,.int s0] V Q:=by
 refine Hi O (fI:=575) (by decide+kernel) λda hd=>Ahc.run O ?_;refine⟨_,St.AC,⟨_,St.AC,⟨_,St.AC,⟨_,St.AC,⟨_,St.AC,⟨_,St.AC,?_⟩⟩⟩⟩⟩⟩;refine⟨_,St.AC,?_⟩;simp only[St.WP,TD,L1];refine Ww (λi ys s=>∃ls:List Addr,ys=ls.map .ref/\ls.length=i/\s da=some (Bw 641 [.lst names,.int 6,.lst (rs.map E6),.BH [] [],.none,.int s0])/\(∀a∈ls,s a=some (.list [])/\a≠da/\V a=none)/\ ∀a ob,V a=some ob->s a=some ob) rfl (Bh (N1 hn rfl)) ⟨[],rfl,rfl,St.AC,(λa h=>by cases h),Ca (λa ob e=>e) hd⟩ (λi x ys s K hx hI hK=>?_) λys s hI=>?_
 ·refine Mq hI ?_;clear hI;rintro ls rfl FW Jf hm hf;refine(λa ha=>hK _ _ ⟨ls++ [a],by simp,by simp[FW],(St.Am (by rintro rfl;replace Jf:=ha▸Jf;exact AA Jf)).trans Jf,λb hb=>?_,Ca hf ?_⟩)
  ·rcases C9.mp hb with hb|hb
   ·refine Bq (hm b hb) ?_;intro h1 h2 h3;exact⟨(St.Am (by rintro rfl;replace h1:=ha▸h1;exact AA h1)).trans h1,h2,h3⟩
   ·cases (B3.mp hb);refine⟨St.AC,(by rintro rfl;replace Jf:=ha▸Jf;exact AA Jf),?_⟩;cases e:V a with
    | none=>rfl
    | some ob=>replace ha:=(hf _ _ e)▸ha;exact BR ha
  ·cases e:V a with
   | none=>rfl
   | some ob=>replace ha:=(hf _ _ e)▸ha;exact BR ha
 refine Mq hI ?_;clear hI;rintro ls rfl FW Jf hm hf;have no:∀{s:St}{a:Addr},(∀a ob,V a=some ob->s a=some ob)->s a=none->V a=none:=λ{s a} h e=>by
  cases e2:V a with
  | none=>rfl
  | some ob=>replace e:=(h _ _ e2)▸e;exact BR e
 refine⟨_,Jf,λxo hO=>?_⟩;have nO:xo≠da:=by rintro rfl;replace hO:=St.AC▸hO;exact BR hO
 replace hO:=(St.Am nO)▸hO;refine⟨_,(St.Am nO.symm).trans St.AC,λxw hW=>?_⟩;have nW:xw≠da:=by rintro rfl;replace hW:=St.AC▸hW;exact BR hW
 replace hW:=(St.Am nW)▸hW;have WQ:xw≠xo:=by rintro rfl;replace hW:=St.AC▸hW;exact BR hW
 replace hW:=(St.Am WQ)▸hW;replace hW:=(St.Am nW)▸hW;refine⟨_,(St.Am nW.symm).trans St.AC,?_⟩;have sO:=no hf hO;have sW:=no hf hW;refine⟨_,St.AC,?_⟩;refine IZ (λZ=>[some (.obj 641 da),some (.lst names),some (.int 6),some (.lst (rs.map E6)),some (.BH [] []),some .none,some (.int s0),none,none]) (λi s=>GI V da xo xw ls [.lst names,.int 6,.lst (rs.map E6),.BH [] [],.none,.int s0] i s) ⟨?_,⟨[],?_,Cq _⟩,⟨[],?_,Cq _⟩,λa ha=>⟨[],?_,Cq _⟩,?_,⟨nO.symm,nW.symm,WQ.symm⟩,λa ha=>?_,⟨hd,sO,sW,λa ha=>(hm a ha).2.2⟩⟩ (λi x si J hx G hJ=>?_) λse G=>?_
 ·exact Aa St.AC rfl
 ·exact Aa (St.Am nO)<|Aa (St.Am WQ.symm)<|Aa (St.Am nO)<|Aa St.AC rfl
 ·exact Aa (St.Am nW)<|Aa St.AC rfl
 ·refine Bq (hm a ha) ?_;intro h1 h2 h3;rw[St.Am h2,St.Am (by rintro rfl;replace hW:=h1▸hW;exact BR hW),St.Am h2,St.Am (by rintro rfl;replace hO:=h1▸hO;exact BR hO),St.Am h2];exact h1
 ·exact Ca (Ca (Ca (Ca (Ca hf hd) sO) hd) sW) hd
 ·refine Bq (hm a ha) ?_;intro h1 h2 h3;exact⟨h2,(by rintro rfl;replace hO:=h1▸hO;exact BR hO),(by rintro rfl;replace hW:=h1▸hW;exact BR hW)⟩
 ·refine Ad (Dx hx) ?_;clear hx;rintro r PG rfl;refine Ah (hr r (A8 PG)) ?_;intro h1 h2;have:=(A5.mp PG).1;exact Ai6 (Gr FW h1) h2 (N7 FW hn) (N3 (B7 this hl) rfl) G λs' G'=>hJ s' G'
 ·refine Ad G.w ?_;intro xs hx lx;rewrite[Ai] at lx;refine⟨_,G.ob,An.len (.ref hx) (N2 (AP lx (DU _ hl)) rfl) ⟨_,G.ob,?_⟩⟩;refine A6 ⟨rfl,V,_,Ca G.fr hd,.inst St.AC hd (.same _),q _ _ _ _⟩
end
noncomputable def num:Sy->Nat
 | .en=>0 | .a=>3 | .b=>4 | .c=>5 | .ac=>6 | .S=>7 | .T=>8 | .U=>9 | .nu=>1
noncomputable def BM(m:Nat):List Str:=([("$end":Str),("error":Str),("$undefined":Str),("a":Str),("b":Str),("c":Str),("$accept":Str)]:List Str)++(sig m).map Sy.str
noncomputable def Cp(m:Nat):List (Str×Nat):=(BM m).zipIdx
noncomputable def used(m:Nat):List Sy:= [.en,.a,.b,.c,.ac]++sig m
theorem rG(h1:1<=m)(h3:m<=3):∀X∈used m,(Cp m).lookup X.str=some (num X):=by
 have:m=1\/m=2\/m=3:=NX h1 h3;rcases this with rfl|rfl|rfl
 ·have:(used 1).all (λX=>(Cp 1).lookup X.str==some (num X))=true:=by decide+kernel
  exact λX hX=>eq_of_beq (EP.mp this X hX)
 ·have:(used 2).all (λX=>(Cp 2).lookup X.str==some (num X))=true:=by decide+kernel
  exact λX hX=>eq_of_beq (EP.mp this X hX)
 ·have:(used 3).all (λX=>(Cp 3).lookup X.str==some (num X))=true:=by decide+kernel
  exact λX hX=>eq_of_beq (EP.mp this X hX)
theorem Sz(h:m<=3):(BM m).length=7+m:=by unfold BM;exact Aa AY<|Aa (Ai _)<|Aa (qC h) rfl
noncomputable def rH(k:Nat):Sy:= [Sy.en,.nu,.nu,.a,.b,.c,.ac,.S,.T,.U].getD k .nu
theorem rI(X:Sy):rH (num X)=X:=by cases X<;>rfl
theorem WR{Y:Sy}(h:num X=num Y):X=Y:=(rI X).symm.trans ((congrArg rH h).trans (rI Y))
noncomputable def Eo(row:List Int)(p:Sy×Nat):List Int:=if 6<=num p.1 then row else row.set (num p.1) (if p.1= .en then 1048576 else(p.2:Int))
noncomputable def DR(g:List (Nat×Nat))(p:Sy×Nat):List (Nat×Nat):=if 6<=num p.1 then upd g (num p.1) p.2 else g
noncomputable def done(ps:List Pr)(x:It):Bool:=0<x.1&&(match ps[x.1]? with
 | some p=>x.2.1==p.2.length
 | none=>false)
noncomputable def B6(ps:List Pr)(t:List Int×Bool)(x:It):List Int×Bool:=
 if done ps x then(if t.1.getD (num x.2.2) 0=0 then t.1.set (num x.2.2) (-(x.1:Int)) else t.1,t.2&&(t.1.getD (num x.2.2) 0==0 || t.1.getD (num x.2.2) 0== -(x.1:Int))) else t
noncomputable def fin(be:Int)(row:List Int):List Int:=row.map λx=>if 0<be/\x= -be then 0 else x
noncomputable abbrev CG(i:Int):AV:= .int i
noncomputable abbrev Jg(r:List Int):AV:= .lst (r.map CG)
noncomputable abbrev Jh(c:Cx)(g:List (Nat×Nat)):AV:= .BH ((g.map λp=>(p.1:Int)).map (AU.int c).enc) (g.map λp=>AB p.2)
noncomputable abbrev C5(a0 a1 a2 a3 a4 a5 a6 a7 a8 a9 F9 Ga Ho Ji FH Gb a16 LD PH PJ PK:Option AV):Al:= [a0,a1,a2,a3,a4,a5,a6,a7,a8,a9,F9,Ga,Ho,Ji,FH,Gb,a16,LD,PH,PJ,PK,none,none,none,none,none,none,none,none,none,none,none,none,none,none,none,none,none]
section
variable{c:Cx}{n:Nat}{V:St}{Q:AV->St->Prop}
theorem H5(h1:1<=m)(h3:m<=3)(hX:X∈used m){s:St}{N:Addr}(hN:s N=some (B2 (AU.str c) id AB (Cp m)))(q:Q (AB (num X)) s):AL c n (.ref N) (Az X) s Q:=
 PB (AU.str c) (g:=id) (.ref hN) (rG h1 h3 X hX) q
theorem Ai8{m:Nat}(h1:1<=m)(h3:m<=3){a0 a1 a2 a3 a5 a6 a8 a9 F9 Ga Ho Ji FH:Option AV}{N AlX G:Addr}{mv:List (Sy×Nat)}{p:Sy×Nat}{row:List Int}{g:List (Nat×Nat)}{s:St}{K:Fl->Al->St->Prop}
  (hN:s N=some (B2 (AU.str c) id AB (Cp m))) (hW:s AlX=some (.list (row.map CG))) (hl:row.length=6) (hG:s G=some (B2 (AU.int c) (λk:Nat=>(k:Int)) AB g)) (hn:(g.map (·.1)).Nodup) (rJ:g.length<=100)
  (hX:p.1∈used m) (Jj:mv.lookup p.1=some p.2)
  (h:N≠AlX/\N≠G/\AlX≠G) (k:∀s',s' AlX=some (.list ((Eo row p).map CG))->s' G=some (B2 (AU.int c) (λk:Nat=>(k:Int)) AB (DR g p))->(∀a,a≠AlX->a≠G->s' a=s a)->K .next (C5 a0 a1 a2 a3 (some (.ref N)) a5 a6 none a8 a9 F9 Ga Ho Ji FH (some (Fp mv)) (some (.ref AlX)) (some (.ref G)) none none none) s'):
  vs c (n+1) mR (C5 a0 a1 a2 a3 (some (.ref N)) a5 a6 (some (Az p.1)) a8 a9 F9 Ga Ho Ji FH (some (Fp mv)) (some (.ref AlX)) (some (.ref G)) none none none) s K:=by
 obtain⟨X,j⟩:=p;have rK:∀{R:AV->St->Prop}{s},R (AB j) s->AL c (n+1) (Fp mv) (Az X) s R:=λq=>PB (AU.str c) (g:=Sy.str) (m:=mv) .BH Jj q;refine H5 h1 h3 hX hN ⟨λEY=>?_,λAH=>?_⟩
 ·have EY:6<=num X:=UG (a:=6) EY;refine rK (H5 h1 h3 hX hN ?_);refine PD (AU.int c) (g:=λk:Nat=>(k:Int)) (λZ Z=>Iw) hn hG (Bh (N1 rJ rfl)) ?_;refine k _ ?_ ?_ λa Z h2=>St.Am h2
  ·refine Aa (St.Am h.2.2)<|Aa hW ?_;unfold Eo;exact Aa (if_pos (show 6<=num (X,j).1 from EY)) rfl
  ·refine Aa St.AC ?_;unfold DR;exact Aa (if_pos (show 6<=num (X,j).1 from EY)) rfl
 ·have AH:num X<6:=NW (b:=6) AH;have fin:∀v:Int,v=(if X= .en then 1048576 else(j:Int))->Dd c (n+1) (.ref AlX) (.int (num X)) (.int v) s λs'=>K .next (C5 a0 a1 a2 a3 (some (.ref N)) a5 a6 none a8 a9 F9 Ga Ho Ji FH (some (Fp mv)) (some (.ref AlX)) (some (.ref G)) none none none) s':=λv e=>by
   refine Dd.B4 hW (B8 _) (by refine Aa (Ai _) ?_;lia) (by exact Aa (Ai _)<|N2 (BA hl) rfl) ?_;refine k _ ?_ ?_ λa h1 Z=>St.Am h1
   ·refine Aa St.AC ?_;unfold Eo;refine Aa (if_neg (show ¬6<=num (X,j).1 from Nat.not_le.mpr AH))<|Aa e ?_;exact Aa Abn rfl
   ·refine Aa (St.Am h.2.2.symm)<|Aa hG ?_;unfold DR;exact Aa (if_neg (show ¬6<=num (X,j).1 from Nat.not_le.mpr AH)) rfl
  refine⟨λe=>?_,λe=>?_⟩
  ·exact H5 h1 h3 hX hN (fin _ (if_pos (Sy.inj e)).symm)
  ·exact rK (H5 h1 h3 hX hN (fin _ (if_neg λh=>e (by exact Aa h rfl)).symm))
theorem SA{a:AV}{row:List Int}{s:St}(h:Cb s a true (row.map CG))(hi:i<row.length)(hz:row.length<=1000)(q:Q (.int (row.getD i 0)) s):AL c n a (.int i) s Q:=
 AL.B4 (x:= .int (row.getD i 0)) h (B8 _) (by exact Aa (Ai _)<|N2 hz rfl) (by show(row.map CG)[i]?=_;exact Aa Bp<|Aa Dk<|Aa (BG hi) rfl) q
open Classical in
theorem Ai9{ps:List Pr}{m:Nat}(h1:1<=m)(h3:m<=3)(hs:Small ps){a1 a2 a3 a5 a6 a8 a9 F9 Ga Ho FH Gb LD:Option AV}{N AlX:Addr}{x:It}{p:Pr}{row:List Int}{b:Bool}{s:St}{K:Fl->Al->St->Prop}
  (hp:ps[x.1]?=some p) (hN:s N=some (B2 (AU.str c) id AB (Cp m))) (hW:s AlX=some (.list (row.map CG))) (hl:row.length=6) (hX:done ps x=true->x.2.2∈used m/\num x.2.2<6) (hNW:N≠AlX)
  (k:∀s',s' AlX=some (.list ((B6 ps (row,b) x).1.map CG))->(∀a,a≠AlX->s' a=s a)->K .next (C5 (some (.lst (ps.map AZ))) a1 a2 a3 (some (.ref N)) a5 a6 none a8 a9 F9 Ga Ho (some (.bool (B6 ps (row,b) x).2)) FH Gb (some (.ref AlX)) LD none none none) s'):
  vs c (n+1) mP (C5 (some (.lst (ps.map AZ))) a1 a2 a3 (some (.ref N)) a5 a6 none a8 a9 F9 Ga Ho (some (.bool b)) FH Gb (some (.ref AlX)) LD (some (.int x.1)) (some (.int x.2.1)) (some (Az x.2.2))) s K:=by
 obtain⟨r,d,sg⟩:=x;have Kj:=hs.ln;have FG:=(hs.ne p (A8 hp)).2;have no:done ps (r,d,sg)=false->K .next (C5 (some (.lst (ps.map AZ))) a1 a2 a3 (some (.ref N)) a5 a6 none a8 a9 F9 Ga Ho (some (.bool b)) FH Gb (some (.ref AlX)) LD none none none) s:=λhd=>by
  have:=k s (by refine Aa hW ?_;unfold B6;exact Aa hd rfl) λZ Z=>rfl;unfold B6 at this;replace this:=hd▸this;exact this
 have LB:done ps (r,d,sg)=(decide (0<r)&&(d==p.2.length)):=by unfold done;exact Aa hp rfl
 refine⟨λhr=>?_,λhr=>no ?_⟩
 ·have hr:0<r:=NW (a:=0) hr;refine AL.B4 (x:=AZ p) .lst (B8 _) (by exact Aa (Ai _)<|N2 Kj rfl) (by show(ps.map AZ)[r]?=_;exact Aa Bp<|Aa hp rfl) ?_;refine AL.at 2 .tup rfl rfl ?_;refine An.len .lst (by exact Aa (Ai _)<|N2 FG rfl) ⟨λhe=>?_,λhe=>no ?_⟩
  ·have he:d=p.2.length:=by rewrite[Ai] at he;exact Iw he
   have hd:done ps (r,d,sg)=true:=by refine Aa LB ?_;simp[hr,he]
   refine Ah (hX hd) ?_;intro hu h6;have Ng:∀s' (v:Bool),s' AlX=some (.list ((B6 ps (row,b) (r,d,sg)).1.map CG))->v=(B6 ps (row,b) (r,d,sg)).2->(∀a,a≠AlX->s' a=s a)->K .next (C5 (some (.lst (ps.map AZ))) a1 a2 a3 (some (.ref N)) a5 a6 none a8 a9 F9 Ga Ho (some (.bool v)) FH Gb (some (.ref AlX)) LD none none none) s':=λs' v h1 h2 h3=>by subst h2;exact k s' h1 h3
   have e1:(B6 ps (row,b) (r,d,sg)).1=if row.getD (num sg) 0=0 then row.set (num sg) (-(r:Int)) else row:=by unfold B6;exact Aa hd rfl
   have e2:(B6 ps (row,b) (r,d,sg)).2=(b&&(row.getD (num sg) 0==0 || row.getD (num sg) 0== -(r:Int))):=by unfold B6;exact Aa hd rfl
   replace Ng:=e1▸Ng;replace Ng:=e2▸Ng;have main:∀v:Bool,v=(b&&(row.getD (num sg) 0==0 || row.getD (num sg) 0== -(r:Int)))->vs c (n+1) (.iff (.AW .Eq (.sub (.v 16) (.sub (.v 4) (.v 20))) (.int 0)) (.Ej (.bin .Sub (.int 0) (.v 18)) (.v 16) (.sub (.v 4) (.v 20)) .nil) .nil .nil) (C5 (some (.lst (ps.map AZ))) a1 a2 a3 (some (.ref N)) a5 a6 none a8 a9 F9 Ga Ho (some (.bool v)) FH Gb (some (.ref AlX)) LD (some (.int r)) (some (.int d)) (some (Az sg))) s (nx (vs c (n+1) mO) K):=λv hv=>by
    refine H5 h1 h3 hu hN (SA (.ref hW) (by lia) (N5 hl rfl) ⟨λe0=>?_,λe0=>?_⟩)
    ·refine H5 h1 h3 hu hN ?_;refine Dd.B4 hW (B8 _) (by refine Aa (Ai _) ?_;lia) (by exact Aa (Ai _)<|N2 (BA hl) rfl) ?_;refine Ng _ v ?_ hv λa h=>St.Am h;refine Aa St.AC<|Aa (if_pos e0)<|Aa Abn ?_;show some (BD.list ((row.map CG).set (num sg) (.int (0-r))))=_;exact Aa (Q0 _) rfl
    ·exact Ng _ v (by exact Aa hW<|Aa (if_neg e0) rfl) hv λZ Z=>rfl
   refine⟨λeb=>?_,λeb=>?_⟩
   ·subst eb;refine H5 h1 h3 hu hN (SA (.ref hW) (by lia) (N5 hl rfl) ?_);refine AR.UX .tup rfl rfl (WF (λhm=>?_) λhm=>?_)
    ·refine main true ?_;have hv:row.getD (num sg) 0=0\/row.getD (num sg) 0= -(r:Int):=by
      rcases Bo.mp hm with h|h
      ·exact .inl (AV.int.inj h)
      ·exact .inr ((AV.int.inj (B3.mp h)).trans (Q0 _))
     rcases hv with h|h<;>refine Aa h ?_<;>simp
    ·refine main false ?_;have ha:¬row.getD (num sg) 0=0:=λh=>hm (by exact Aa (show row.getD (num (r,d,sg).2.2) 0=0 from h)<|.head _);have hb:¬row.getD (num sg) 0= -(r:Int):=λh=>hm (by exact Aa (show row.getD (num (r,d,sg).2.2) 0= -(r:Int) from h)<|Aa (Q0 _)<|.tail _ (.head _));exact Aa (beq_eq_false_iff_ne.mpr ha)<|Aa (beq_eq_false_iff_ne.mpr hb) rfl
   ·subst eb;exact main false rfl
  ·refine Aa LB ?_;have:¬d=p.2.length:=λe=>he (by exact Aa (Ai _)<|Aa e rfl);simp[this]
 ·refine Aa LB ?_;have:r=0:=AaB.mp (UG (b:=0) hr);simp[this]
end
section
variable{c:Cx}{n:Nat}{V:St}{Q:AV->St->Prop}
def Nh(row:List Int)(be:Int):Prop:=be=0\/(0<be/\ -be∈row)
theorem SB{α β:Type}{l:List α}{g:α->Option β}{e:β->AV}{h:α->Option AV}(hh:∀x,h x=(g x).map e):l.filterMap h=(l.filterMap g).map e:=by refine Aa QW ?_;congr 1;funext x;exact Aa (hh _) rfl
theorem Aja{a2 a3 a4 a5 a6 a7 a8 a9 Ji FH Gb PH PJ PK:Option AV}{ps:AV}{hd:Bool}{AlX G RW GT DF:Addr}{row:List Int}{g:List (Nat×Nat)}{rws:List (List Int)}{Ae:List (List (Nat×Nat))}{Ab:List Int}{s:St}{K:Fl->Al->St->Prop}
  (hW:s AlX=some (.list (row.map CG))) (hG:s G=some (B2 (AU.int c) (λk:Nat=>(k:Int)) AB g)) (hR:s RW=some (.list (rws.map Jg))) (hT:s GT=some (.list (Ae.map (Jh c)))) (hD:s DF=some (.list (Ab.map CG)))
  (hz:rws.length<=1048576/\Ae.length<=1048576/\Ab.length<=1048576) (hl:row.length=6) (ne:RW≠GT/\RW≠DF/\GT≠DF) (nW:AlX≠G/\ ∀a,a=RW\/a=GT\/a=DF->a≠AlX/\a≠G)
  (k:∀be s',Nh row be->s' RW=some (.list ((rws++ [fin be row]).map Jg))->s' GT=some (.list ((Ae++ [g]).map (Jh c)))->s' DF=some (.list ((Ab++ [be]).map CG))->(∀a,a≠AlX->a≠G->a≠RW->a≠GT->a≠DF->s' a=s a)->
   K .next (C5 (some ps) (some (.bool hd)) a2 a3 a4 a5 a6 a7 a8 a9 (some (.ref RW)) (some (.ref GT)) (some (.ref DF)) Ji none none none none PH PJ PK) s'):
  vs c (n+1) mQ (C5 (some ps) (some (.bool hd)) a2 a3 a4 a5 a6 a7 a8 a9 (some (.ref RW)) (some (.ref GT)) (some (.ref DF)) Ji FH Gb (some (.ref AlX)) (some (.ref G)) PH PJ PK) s K:=by
 refine⟨C5 (some ps) (some (.bool hd)) a2 a3 a4 a5 a6 a7 a8 a9 (some (.ref RW)) (some (.ref GT)) (some (.ref DF)) Ji FH Gb (some (Jg row)) (some (Jh c g)) PH PJ PK,(s.del AlX).del G,λa ob e=>⟨ob,St.I9 _ _ (St.I9 _ _ e),.same _⟩,?_,?_⟩
 ·have os:∀{o:Option AV}{r r':Al},DH s ((s.del AlX).del G) r r'->DH s ((s.del AlX).del G) (o::r) (o::r'):=λ{o r r'} h=>by
   cases o with
   | none=>exact .forget h
   | some x=>exact .cons (.same _) h
  have w1:((s.del AlX).del G) AlX=none:=by exact Aa (St.Dp nW.1)<|St.I8
  exact os (os (os (os (os (os (os (os (os (os (os (os (os (os (os (os (.cons (.lst hW w1 (.same _)) (.cons (.BH hG St.I8 (.same _)) (DH.same _))))))))))))))))))
 ·have keep:∀a,a≠AlX->a≠G->((s.del AlX).del G) a=s a:=λa h1 h2=>(St.Dp h2).trans (St.Dp h1);refine Ah (nW.2 RW (.inl rfl)) ?_;intro WT rL;refine Ah (nW.2 GT (.inr (.inl rfl))) ?_;intro WU rM;refine Ah (nW.2 DF (.inr (.inr rfl))) ?_;intro WV rN;have WW:=(keep RW WT rL).trans hR;have WX:=(keep GT WU rM).trans hT;have Ef:=(keep DF WV rN).trans hD;generalize (s.del AlX).del G=t at keep WW WX Ef;refine Hj (enc:=CG) (λx=>if x<0 then some (AV.int (0-x)) else none) rfl (Bh (N5 hl rfl)) (λx Z K N hK hN=>⟨λh=>hK _ (if_pos h),λh=>hN (if_neg (Hs.mpr h))⟩) ?_;refine BW (SB (g:=λx:Int=>if x<0 then some (0-x) else none) (e:=CG) λx=>by split<;>rfl) ?_;have MP:∀y,y∈row.filterMap (λx:Int=>if x<0 then some (0-x) else none)->0<y/\ -y∈row:=λy hy=>by
   refine Ad (YW.mp hy) ?_;clear hy;intro x hx e;split at e
   ·replace e:=Ay e;subst e;exact⟨M54 ‹_›,Aa (show-(0-x)=x by omega)<|hx⟩
   ·exact AA e
  have Kk:=NT (λx:Int=>if x<0 then some (0-x) else none) row;generalize row.filterMap (λx:Int=>if x<0 then some (0-x) else none)=tk at MP Kk;refine comp_map (enc:=CG) (λx=>AB (tk.count x)) rfl (Bh (N1 (KT hl Kk) rfl)) (λx Z K hK=>⟨Z6 .lst,An.cZ .lst hK⟩) ?_;refine BW (ys:=(tk.map λx=>(tk.count x:Int)).map CG) (by exact Aa BC rfl) ?_;refine⟨Bh (by simp;exact N1 (KT hl Kk) rfl),?_⟩;refine An.maxL (is:=(tk.map λx=>(tk.count x:Int))++ [0]) (by exact Aa Bs<|.lst) (by simp) λmo Z Z=>?_;refine Kh (λa s'=>s'=t/\ ∃be,a= .int be/\Nh row be) (λM hM=>?_) ?_
  ·refine⟨λZ=>?_,λZ=>hM _ _ ⟨rfl,0,rfl,.inl rfl⟩⟩;refine Hj (enc:=CG) (λx=>if(tk.count x:Int)=mo then some (AV.int x) else none) rfl (Bh (N1 (KT hl Kk) rfl)) (λx Z K N hK hN=>⟨Z6 .lst,An.cZ .lst ⟨λh=>hK _ (if_pos h),λh=>hN (if_neg h)⟩⟩) ?_;refine BW (SB (g:=λx:Int=>if(tk.count x:Int)=mo then some x else none) (e:=CG) λx=>by split<;>rfl) ?_;have h2:∀y,y∈tk.filterMap (λx:Int=>if(tk.count x:Int)=mo then some x else none)->y∈tk:=λy hy=>by
    refine Ad (YW.mp hy) ?_;clear hy;intro x hx e;split at e
    ·replace e:=Ay e;subst e;exact hx
    ·exact AA e
   have SD:=NT (λx:Int=>if(tk.count x:Int)=mo then some x else none) tk;generalize tk.filterMap (λx:Int=>if(tk.count x:Int)=mo then some x else none)=ts at h2 SD;refine⟨Bh (by simp;exact AP (AP SD Kk) (N5 hl rfl)),?_⟩;cases ts with
   | nil=>exact AL.at 1 .lst rfl rfl (hM _ _ ⟨rfl,0,rfl,.inl rfl⟩)
   | cons y ys=>
    refine AL.B4 (i:=0) .lst (by decide) (by simp at SD⊢;exact M21 hl Kk SD) rfl (hM _ _ ⟨rfl,y,rfl,.inr ?_⟩);exact MP y (h2 y (.head _))
  ·intro _ _;intro hZ;obtain⟨rfl,be,rfl,hbe⟩:=hZ;refine⟨Du (.ref WW),?_⟩;refine comp_map (enc:=CG) (λx=>CG (if 0<be/\x= -be then 0 else x)) rfl (Bh (N5 hl rfl)) (λx Z M hM=>?_) ?_
   ·refine⟨λh=>⟨λh2=>?_,λh2=>?_⟩,λh=>?_⟩
    ·rw[if_pos ⟨h,by exact Aa h2<|Aa (Q0 _) rfl⟩] at hM;exact hM
    ·rw[if_neg (λq=>h2 (by exact Aa (q.2)<|Aa (Q0 _) rfl))] at hM;exact hM
    ·rewrite[if_neg (λq=>Hs.mpr h q.1)] at hM;exact hM
   refine BW (ys:=(fin be row).map CG) (by unfold fin;exact Aa BC rfl) ?_;refine An.append WW (by exact Aa (Ai _)<|Aa Ft<|N1 hz.1 rfl) ?_;refine⟨Du (.ref ((St.Am ne.1.symm).trans WX)),An.append ((St.Am ne.1.symm).trans WX) (by exact Aa (Ai _)<|Aa Ft<|N1 hz.2.1 rfl) ?_⟩;refine⟨Du (.ref ((St.Am ne.2.2.symm).trans ((St.Am ne.2.1.symm).trans Ef))),An.append ((St.Am ne.2.2.symm).trans ((St.Am ne.2.1.symm).trans Ef)) (by exact Aa (Ai _)<|Aa Ft<|N1 hz.2.2 rfl) ?_⟩;refine k be _ hbe ?_ ?_ ?_ λa h1 h2 h3 h4 h5=>?_
   ·exact Aa (St.Am ne.2.1)<|Aa (St.Am ne.1)<|Aa St.AC<|Aa Bs rfl
   ·exact Aa (St.Am ne.2.2)<|Aa St.AC<|Aa Bs rfl
   ·exact Aa St.AC<|Aa Bs rfl
   ·exact Aa (St.Am h5)<|Aa (St.Am h4)<|Aa (St.Am h3)<|Aa (keep a h1 h2) rfl
end
section
variable{c:Cx}{n:Nat}{V:St}{Q:AV->St->Prop}
theorem Ci.Ajb{a x:AV}{i:Int}(h:Cb V a true [x])(h0:0<=i)(h1:i<=1000000)(q:∀d,V d=none->Q (.ref d) (V.set d (.list (Cy i.toNat x)))):Ci c n .Mult a (.int i) V Q:=by
 intro F P v u r1 r2 A s ok I;refine Ar r2 ?_;clear r2;rintro _ rfl;obtain⟨l,vs,k,rfl,ho,r⟩:=h.at I r1;obtain⟨v0,_,rfl,r,r0⟩:=r;subst r0;refine Z3 (k:=k) ho (Ml h0 rfl) (UC h1 rfl) (by simp;exact Za h1 rfl) ?_;have e:QA (λx1 x2=>x1++x2) #[] (Cy (if([v0]:List Ac).toArray.isEmpty=true then 0 else i.toNat) ([v0]:List Ac).toArray)=(Cy i.toNat v0).toArray:=by simpa using Z2 v0 i.toNat
 refine Aa e ?_;refine Bq I.fresh ?_;intro hf hp hs;exact⟨F,_,_,.refl,(I.push (AM "list" (Cy i.toNat v0).toArray 0) (t:=s.toks)).own (Ct _ rfl) hf hp (.list (Ao.replicate r i.toNat)),.ref _,q _ hs⟩
theorem rO{p:Sy×Nat}{row:List Int}:(Eo row p).length=row.length:=by unfold Eo;split<;>simp
theorem SE{m:List (Sy×Nat)}:∀{row:List Int},(m.foldl Eo row).length=row.length:=by
 induction m with
 | nil=>intro _;rfl
 | cons p m ih=>intro row;exact ih.trans rO
theorem Ajc{x:It}{t:List Int×Bool}:(B6 ps t x).1.length=t.1.length:=by unfold B6;split;(split<;>simp);rfl
theorem WY:∀{t:List Int×Bool},(I.foldl (B6 ps) t).1.length=t.1.length:=by
 induction I with
 | nil=>intro _;rfl
 | cons p m ih=>intro t;exact ih.trans Ajc
theorem rP{m:List (Sy×Nat)}:∀{g:List (Nat×Nat)},(g.map (·.1)).Nodup->((m.foldl DR g).map (·.1)).Nodup/\(m.foldl DR g).length<=g.length+m.length:=by
 induction m with
 | nil=>intro g h;exact⟨h,BJ _⟩
 | cons p m ih=>
  intro g h;have h1:((DR g p).map (·.1)).Nodup:=by unfold DR;split;exact PA h;exact h
  have h2:(DR g p).length<=g.length+1:=by
   unfold DR upd;split
   ·split<;>simp
   ·exact Gh _ _
  refine Ah (ih h1) ?_;clear h1;intro a b;exact⟨a,by simp only[QB,Fc];exact M14 h2 b⟩
noncomputable abbrev LF(ps:List Pr)(m:List (Sy×Nat))(b:Bool)(I:List It):List Int×Bool:=I.foldl (B6 ps) (m.foldl Eo (Cy 6 0),b)
noncomputable abbrev SF(m:List (Sy×Nat)):List (Nat×Nat):=m.foldl DR []
structure TI(c:Cx)(RW GT DF:Addr)(rws:List (List Int))(Ae:List (List (Nat×Nat)))(Ab:List Int)(s:St):Prop where
 r:s RW=some (.list (rws.map Jg))
 g:s GT=some (.list (Ae.map (Jh c)))
 d:s DF=some (.list (Ab.map CG))
 ne:RW≠GT/\RW≠DF/\GT≠DF
theorem Ajd{ps:List Pr}{m:Nat}(h1:1<=m)(h3:m<=3)(hs:Small ps){hb b:Bool}{a2 a3 a5 a6 a8 a9 Gb:Option AV}{N AlX G RW GT DF:Addr}{I:List It}{row:List Int}{g:List (Nat×Nat)}{rws:List (List Int)}{Ae:List (List (Nat×Nat))}{Ab:List Int}{s:St}{K:Fl->Al->St->Prop}
  (hI:∀x∈I,(∃p,ps[x.1]?=some p)/\(done ps x=true->x.2.2∈used m/\num x.2.2<6)) (hN:s N=some (B2 (AU.str c) id AB (Cp m))) (hW:s AlX=some (.list (row.map CG))) (hl:row.length=6) (hG:s G=some (B2 (AU.int c) (λk:Nat=>(k:Int)) AB g))
  (T:TI c RW GT DF rws Ae Ab s) (hz:rws.length<=1048576/\Ae.length<=1048576/\Ab.length<=1048576) (nW:AlX≠G/\N≠AlX/\N≠G/\ ∀a,a=RW\/a=GT\/a=DF->a≠AlX/\a≠G)
  (k:∀be s',Nh (I.foldl (B6 ps) (row,b)).1 be->TI c RW GT DF (rws++ [fin be (I.foldl (B6 ps) (row,b)).1]) (Ae++ [g]) (Ab++ [be]) s'->(∀a,a≠AlX->a≠G->a≠RW->a≠GT->a≠DF->s' a=s a)->
   K .next (C5 (some (.lst (ps.map AZ))) (some (.bool hb)) a2 a3 (some (.ref N)) a5 a6 none a8 a9 (some (.ref RW)) (some (.ref GT)) (some (.ref DF)) (some (.bool (I.foldl (B6 ps) (row,b)).2)) none none none none none none none) s'):
  vs c (n+1) mS (C5 (some (.lst (ps.map AZ))) (some (.bool hb)) a2 a3 (some (.ref N)) a5 a6 none a8 a9 (some (.ref RW)) (some (.ref GT)) (some (.ref DF)) (some (.bool b)) (some (F8 I)) Gb (some (.ref AlX)) (some (.ref G)) none none none) s K:=by
 refine IZ (λi=>C5 (some (.lst (ps.map AZ))) (some (.bool hb)) a2 a3 (some (.ref N)) a5 a6 none a8 a9 (some (.ref RW)) (some (.ref GT)) (some (.ref DF)) (some (.bool ((I.take i).foldl (B6 ps) (row,b)).2)) (some (F8 I)) Gb (some (.ref AlX)) (some (.ref G)) none none none) (λi s'=>
  s' AlX=some (.list (((I.take i).foldl (B6 ps) (row,b)).1.map CG))/\ ∀a,a≠AlX->s' a=s a) ⟨hW,λZ Z=>rfl⟩ (λi x si J hx hR hJ=>?_) λse hR=>?_
 ·refine Ah hR ?_;clear hR;intro Jk fr;refine Ad (Dx hx) ?_;clear hx;rintro y hy rfl;refine Ah (hI y (A8 hy)) ?_;intro hZ;refine Ar hZ ?_;clear hZ;intro p hp;intro hd;have ht:(I.take (i+1)).foldl (B6 ps) (row,b)=B6 ps ((I.take i).foldl (B6 ps) (row,b)) y:=Aa Fu<|Aa hy<|Aa YX rfl;refine Ai9 h1 h3 hs hp ((fr N nW.2.1).trans hN) Jk (WY.trans hl) hd nW.2.1 λs' e1 e2=>ht▸hJ s' ⟨?_,λa h=>(e2 a h).trans (fr a h)⟩;exact Aa ht<|e1
 ·refine Ah hR ?_;clear hR;intro Jk fr;rw[Ai,Gp (BJ _)] at Jk⊢;refine Ah (nW.2.2.2 RW (.inl rfl)) ?_;intro WT rL;refine Ah (nW.2.2.2 GT (.inr (.inl rfl))) ?_;intro WU rM;refine Ah (nW.2.2.2 DF (.inr (.inr rfl))) ?_;intro WV rN;exact Aja Jk ((fr G nW.1.symm).trans hG) ((fr RW WT).trans T.r) ((fr GT WU).trans T.g) ((fr DF WV).trans T.d) hz (WY.trans hl) T.ne ⟨nW.1,nW.2.2.2⟩ λbe s' DP e1 e2 e3 e4=>k be s' DP ⟨e1,e2,e3,T.ne⟩ λa q1 q2 q3 q4 q5=>(e4 a q1 q2 q3 q4 q5).trans (fr a q1)
theorem Aje{ps:List Pr}{m:Nat}(h1:1<=m)(h3:m<=3)(hs:Small ps){hb b:Bool}{a2 a3 a5 a6 a8 a9:Option AV}{N RW GT DF:Addr}{I:List It}{mv:List (Sy×Nat)}{rws:List (List Int)}{Ae:List (List (Nat×Nat))}{Ab:List Int}{s:St}{K:Fl->Al->St->Prop}
  (hI:∀x∈I,(∃p,ps[x.1]?=some p)/\(done ps x=true->x.2.2∈used m/\num x.2.2<6)) (hm:(mv.map (·.1)).Nodup) (hu:∀p∈mv,p.1∈used m) (hN:s N=some (B2 (AU.str c) id AB (Cp m)))
  (T:TI c RW GT DF rws Ae Ab s) (hz:rws.length<=1048576/\Ae.length<=1048576/\Ab.length<=1048576)
  (k:∀be s',Nh (LF ps mv b I).1 be->TI c RW GT DF (rws++ [fin be (LF ps mv b I).1]) (Ae++ [SF mv]) (Ab++ [be]) s'->(∀a,s a≠none->a≠RW->a≠GT->a≠DF->s' a=s a)->
   K .next (C5 (some (.lst (ps.map AZ))) (some (.bool hb)) a2 a3 (some (.ref N)) a5 a6 none a8 a9 (some (.ref RW)) (some (.ref GT)) (some (.ref DF)) (some (.bool (LF ps mv b I).2)) none none none none none none none) s'):
  vs c (n+1) Wu (C5 (some (.lst (ps.map AZ))) (some (.bool hb)) a2 a3 (some (.ref N)) a5 a6 none a8 a9 (some (.ref RW)) (some (.ref GT)) (some (.ref DF)) (some (.bool b)) (some (F8 I)) (some (Fp mv)) none none none none none) s K:=by
 have ml:mv.length<=9:=by have:=hm.length_le_of_subset (l₂:=Pv) λx Z=>Sr x;rewrite[Ai] at this;exact this
 refine(Ci.Ajb .lst (by decide) (by decide) λAlX sW G sG=>?_);have SG:G≠AlX:=by rintro rfl;replace sG:=St.AC▸sG;exact BR sG
 replace sG:=(St.Am SG)▸sG;have no:∀{a ob},s a=some ob->a≠AlX/\a≠G:=λe=>⟨(by rintro rfl;replace e:=sW▸e;exact AA e),(by rintro rfl;replace e:=sG▸e;exact AA e)⟩;have nN:=no hN;have nR:=no T.r;have nT:=no T.g;have nD:=no T.d;refine⟨.inl ⟨_,rfl⟩,?_⟩;refine IZ (λZ=>C5 (some (.lst (ps.map AZ))) (some (.bool hb)) a2 a3 (some (.ref N)) a5 a6 none a8 a9 (some (.ref RW)) (some (.ref GT)) (some (.ref DF)) (some (.bool b)) (some (F8 I)) (some (Fp mv)) (some (.ref AlX)) (some (.ref G)) none none none) (λi s'=>
  s' AlX=some (.list (((mv.take i).foldl Eo (Cy 6 0)).map CG))/\s' G=some (B2 (AU.int c) (λk:Nat=>(k:Int)) AB ((mv.take i).foldl DR []))/\ ∀a,a≠AlX->a≠G->s' a=s a) ⟨(St.Am SG.symm).trans St.AC,St.AC,λa p q=>(St.Am q).trans (St.Am p)⟩ (λi x si J hx hR hJ=>?_) λse hR=>?_
 ·refine Bq hR ?_;clear hR;intro Jk SH fr;refine Ad (Dx hx) ?_;clear hx;rintro y hy rfl;obtain⟨p,hp,rfl⟩:∃p,mv[i]?=some p/\p.1.str=y:=by rwa[Bp,D8] at hy
  have Hp:=A8 hp;have e1:(mv.take (i+1)).foldl Eo (Cy 6 0)=Eo ((mv.take i).foldl Eo (Cy 6 0)) p:=Aa Fu<|Aa hp<|Aa YX rfl;have e2:(mv.take (i+1)).foldl DR []=DR ((mv.take i).foldl DR []) p:=Aa Fu<|Aa hp<|Aa YX rfl;refine Ah (rP (m:=mv.take i) (g:= []) Il) ?_;intro g1 g2;have:=Ux i mv;refine Ai8 (p:=p) h1 h3 ((fr N nN.1 nN.2).trans hN) Jk (SE.trans (by simp)) SH g1 (by simp at g2;exact N1 (AP g2 (Mj ml)) rfl) (hu p Hp) (H4 hm Hp) ⟨nN.1,nN.2,SG.symm⟩ λs' q1 q2 q3=>hJ s' ⟨Aa e1<|q1,Aa e2<|q2,λa p q=>(q3 a p q).trans (fr a p q)⟩
 ·refine Bq hR ?_;clear hR;intro Jk SH fr;rw[Ai,Ai,Gp (BJ _)] at Jk SH;refine Ajd h1 h3 hs hI ((fr N nN.1 nN.2).trans hN) Jk (SE.trans (by simp)) SH ⟨(fr _ nR.1 nR.2).trans T.r,(fr _ nT.1 nT.2).trans T.g,(fr _ nD.1 nD.2).trans T.d,T.ne⟩ hz ⟨SG.symm,nN.1,nN.2,λa h=>by rcases h with rfl|rfl|rfl<;>assumption⟩ λbe s' DP T' G7=>k be s' DP T' λa h q1 q2 q3=>?_;have w:a≠AlX/\a≠G:=by
   cases e:s a with
   | none=>exact absurd e h
   | some ob=>exact no e
  exact(G7 a w.1 w.2 q1 q2 q3).trans (fr a w.1 w.2)
end
theorem Ajf(h1:1<=m)(h3:m<=3):∀X∈used m,num X<7+m:=by have:m=1\/m=2\/m=3:=NX h1 h3;rcases this with rfl|rfl|rfl<;>decide
noncomputable def DS(ps:List Pr):List Rl:=ps.zipIdx.map λp=>(p.2,num p.1.1,p.1.2.map num)
noncomputable abbrev AG(c:Cx)(m:Nat)(ps:List Pr)(gr:AV)(rws:List (List Int))(Ae:List (List (Nat×Nat)))(Ab:List Int):AV:=
 Cc 245 [.lst ((BM m).map .str),.int 6,.lst (ps.map λp=>AB (num p.1)),.lst (ps.map λp=>AB p.2.length),.lst (ps.map λZ=>.int 0),.lst (Ab.map CG),.BH (((BM m).take 6).map .str) ((BN 6).map AB),gr,.lst (rws.map Jg),.lst (Ae.map (Jh c)),.lst [],.lst [],.str "lalr"]
noncomputable abbrev EI(m:Nat)(ps:List Pr)(x1 x2 x3 x4:AV):AV:=Cc 641 [.lst ((BM m).map .str),.int 6,.lst ((DS ps).map E6),.BH [] [],.none,.int 7,x1,x2,x3,x4]
def Ni(c:Cx):Prop:=∀(n:Nat)(V:St)(Q:AV->St->Prop)(m:Nat)(ps:List Pr)(x1 x2 x3 x4 rw gt df:AV),1<=m->m<=3->ps.length<=100->(∀p∈ps,p.2.length<=100)->
 Q (Cc 245 [.lst ((BM m).map .str),.int 6,.lst (ps.map λp=>AB (num p.1)),.lst (ps.map λp=>AB p.2.length),.lst (ps.map λZ=>.int 0),df,.BH (((BM m).take 6).map .str) ((BN 6).map AB),EI m ps x1 x2 x3 x4,rw,gt,.lst [],.lst [],.str "lalr"]) V->
 An c (n+4) (.ref 245) [EI m ps x1 x2 x3 x4,rw,gt,df,.lst [],.lst [],.str "lalr"] V Q
section
variable{c:Cx}{n:Nat}{V:St}{Q:AV->St->Prop}
theorem Ajg(O:AE c){ps:List Pr}{m:Nat}(h1:1<=m)(h3:m<=3)(hs:Small ps){a1 a2:Option AV}{N R:Addr}{i:Nat}{p:Pr}{rl:List Rl}{s:St}{K:Fl->Al->St->Prop}(hu:p.1∈used m/\ ∀X∈p.2,X∈used m)(hl:p.2.length<=3)
  (hN:s N=some (B2 (AU.str c) id AB (Cp m))) (hR:s R=some (.list (rl.map E6))) (hz:rl.length<=100)
  (k:K .next (C5 (some (.lst (ps.map AZ))) a1 a2 none (some (.ref N)) (some (.ref R)) none none none none none none none none none none none none none none none) (s.set R (.list ((rl++ [(i,num p.1,p.2.map num)]).map E6)))):
  vs c (n+3) mT (C5 (some (.lst (ps.map AZ))) a1 a2 (some (.int i)) (some (.ref N)) (some (.ref R)) (some (AZ p)) none none none none none none none none none none none none none none) s K:=by
 refine⟨Du (.ref hR),?_⟩;refine AL.at 2 .tup rfl rfl (H5 h1 h3 hu.1 hN ?_);refine AL.at 2 .tup rfl rfl ?_;refine comp_map (enc:=Az) (λX=>AB (num X)) rfl (Bh (N1 hl rfl)) (λX hX M hM=>H5 h1 h3 (hu.2 X hX) hN hM) ?_;refine An.OE .lst (by exact Aa (Ai _)<|Bh (N1 hl rfl)) ?_;refine AiZ (n:=n) O ?_;refine An.append hR (by exact Aa (Ai _)<|Bh (N1 hz rfl)) ?_;replace k:=Bs▸k;replace k:=EO▸k;replace k:=Aac▸k;have e:E6 (i,num p.1,p.2.map num)=Cc 559 [.int i,.int (num p.1),.tup (p.2.map λX=>AB (num X)),.int (-1),.none,.int 0,.int 0]:=by show Cc 559 [.int i,.int (num p.1),.tup ((p.2.map num).map AB),.int (-1),.none,.int 0,.int 0]=_;exact Aa BC rfl
 replace k:=e▸k;exact k
theorem Ajh(O:AE c)(Jl:Ni c){ps:List Pr}{m:Nat}(h1:1<=m)(h3:m<=3)(hs:Small ps)(hu:∀p∈ps,p.1∈used m){b:Bool}{a1:Option AV}{N R RW GT DF:Addr}{rws:List (List Int)}{Ae:List (List (Nat×Nat))}{Ab:List Int}{a8 a9:Option AV}{s:St}
  (hN:s N=some (B2 (AU.str c) id AB (Cp m))) (hR:s R=some (.list ((DS ps).map E6))) (T:TI c RW GT DF rws Ae Ab s) (nR:R≠N/\R≠RW/\R≠GT/\R≠DF) (nN:N≠RW/\N≠GT/\N≠DF) (Hq:∀a ob,V a=some ob->s a=some ob) (SJ:V R=none/\V RW=none/\V GT=none/\V DF=none)
  (q:∀x1 x2 x3 x4,Q (.tup [AG c m ps (EI m ps x1 x2 x3 x4) rws Ae Ab,.bool b]) V):
  vs c (n+4) Sp (C5 (some (.lst (ps.map AZ))) a1 (some (.lst ((BM m).map .str))) none (some (.ref N)) (some (.ref R)) none none a8 a9 (some (.ref RW)) (some (.ref GT)) (some (.ref DF)) (some (.bool b)) none none none none none none none) s (λfl Z Aq=>CX Q fl.val Aq):=by
 have hl:=hs.ln;refine Bq T.ne ?_;intro u1 u2 u3;refine⟨C5 (some (.lst (ps.map AZ))) a1 (some (.lst ((BM m).map .str))) none (some (.ref N)) (some (.lst ((DS ps).map E6))) none none a8 a9 (some (.lst (rws.map Jg))) (some (.lst (Ae.map (Jh c)))) (some (.lst (Ab.map CG))) (some (.bool b)) none none none none none none none,(((s.del R).del RW).del GT).del DF,λa ob e=>⟨ob,St.I9 _ _ (St.I9 _ _ (St.I9 _ _ (St.I9 _ _ e))),.same _⟩,?_,?_⟩
 ·have os:∀{o:Option AV}{r r':Al},DH s ((((s.del R).del RW).del GT).del DF) r r'->DH s ((((s.del R).del RW).del GT).del DF) (o::r) (o::r'):=λ{o r r'} h=>by
   cases o with
   | none=>exact .forget h
   | some x=>exact .cons (.same _) h
  refine os (os (os (os (os (.cons (.lst hR ?_ (.same _)) (os (os (os (os (.cons (.lst T.r ?_ (.same _)) (.cons (.lst T.g ?_ (.same _)) (.cons (.lst T.d St.I8 (.same _)) (DH.same _)))))))))))))
  ·exact Aa (St.Dp nR.2.2.2)<|Aa (St.Dp nR.2.2.1)<|Aa (St.Dp nR.2.1)<|Aa St.I8 rfl
  ·exact Aa (St.Dp u2)<|Aa (St.Dp u1)<|Aa St.I8 rfl
  ·exact Aa (St.Dp u3)<|Aa St.I8 rfl
 ·have rQ:((((s.del R).del RW).del GT).del DF) N=some (B2 (AU.str c) id AB (Cp m)):=by exact Aa (St.Dp nN.2.2)<|Aa (St.Dp nN.2.1)<|Aa (St.Dp nN.1)<|Aa (St.Dp nR.1.symm)<|hN
  have rR:V.le ((((s.del R).del RW).del GT).del DF):=λa ob e=>by
   have w:a≠R/\a≠RW/\a≠GT/\a≠DF:=⟨(by rintro rfl;replace e:=(SJ.1)▸e;exact AA e),(by rintro rfl;replace e:=(SJ.2.1)▸e;exact AA e),(by rintro rfl;replace e:=(SJ.2.2.1)▸e;exact AA e),(by rintro rfl;replace e:=(SJ.2.2.2)▸e;exact AA e)⟩;exact Aa (St.Dp w.2.2.2)<|Aa (St.Dp w.2.2.1)<|Aa (St.Dp w.2.1)<|Aa (St.Dp w.1)<|Hq a ob e
  generalize (((s.del R).del RW).del GT).del DF=t at rQ rR;refine H5 h1 h3 (X:= .S) (by rcases NX h1 h3 with rfl|rfl|rfl<;>decide) rQ ?_;refine Ai7 (n:=n+1) O (λr hr=>?_) ?_ (by unfold DS;simp;exact N1 hl rfl) λx1 x2 x3 x4=>?_
  ·unfold DS at hr;refine Ad (Bj.mp hr) ?_;clear hr;intro hZ;obtain⟨p,j⟩:=hZ;rintro hp rfl;have Hp:p∈ps:=by have:=Dz (f:=XT) hp;rwa[Abo] at this
   have h9:=hs.ne p Hp;refine⟨?_,by show(p.2.map num).length<=10;exact Aa (Ai _)<|N1 h9.2 rfl⟩;show num p.1<((BM m).map AV.str).length;have Lz:((BM m).map AV.str).length=7+m:=(Ai _).trans (Sz h3);exact Aa Lz<|Ajf h1 h3 _ (hu p Hp)
  ·simp[BM,sig];exact N1 (Q4 h3) rfl
  ·refine ?_;refine Jl n t _ m ps x1 x2 x3 x4 _ _ _ h1 h3 (N1 hl rfl) (λp hp=>by have:=(hs.ne p hp).2;exact N1 this rfl) ?_;exact⟨V,_,rR,.same _,q x1 x2 x3 x4⟩
theorem rS(I:List It)(row:List Int)(b:Bool):(I.foldl (B6 ps) (row,b)).1=(I.foldl (B6 ps) (row,true)).1/\(I.foldl (B6 ps) (row,b)).2=(b&&(I.foldl (B6 ps) (row,true)).2):=by
 induction I generalizing row b with
 | nil=>exact⟨rfl,(Abm b).symm⟩
 | cons x I ih=>
  rewrite[QB,QB];by_cases hd:done ps x=true
  ·have e:∀b',B6 ps (row,b') x=(if row.getD (num x.2.2) 0=0 then row.set (num x.2.2) (-(x.1:Int)) else row,b'&&(row.getD (num x.2.2) 0==0 || row.getD (num x.2.2) 0== -(x.1:Int))):=λb'=>by unfold B6;exact Aa (if_pos hd) rfl
   rewrite[e b,e true];refine Ah (ih (if row.getD (num x.2.2) 0=0 then row.set (num x.2.2) (-(x.1:Int)) else row) (b&&(row.getD (num x.2.2) 0==0 || row.getD (num x.2.2) 0== -(x.1:Int)))) ?_;intro a1 a2;refine Ah (ih (if row.getD (num x.2.2) 0=0 then row.set (num x.2.2) (-(x.1:Int)) else row) (true&&(row.getD (num x.2.2) 0==0 || row.getD (num x.2.2) 0== -(x.1:Int)))) ?_;intro b1 b2;exact⟨a1.trans b1.symm,by refine Aa a2<|Aa b2 ?_;simp[Bool.and_assoc]⟩
  ·have e:∀b',B6 ps (row,b') x=(row,b'):=λb'=>by unfold B6;exact Aa (if_neg hd) rfl
   rewrite[e b,e true];exact ih row b
noncomputable def rowOf(ps:List Pr)(m:List (Sy×Nat))(I:List It):List Int:=(LF ps m true I).1
noncomputable def Kl(ps:List Pr)(m:List (Sy×Nat))(I:List It):Bool:=(LF ps m true I).2
structure PM(ps:List Pr)(Ag:List (List It))(Aw:List (List (Sy×Nat)))(k:Nat)(rws:List (List Int))(Ae:List (List (Nat×Nat)))(Ab:List Int):Prop where
 l1:rws.length=k
 l2:Ae.length=k
 l3:Ab.length=k
 at_:∀(j:Nat) I m,j<k->Ag[j]?=some I->Aw[j]?=some m->∃be,Nh (rowOf ps m I) be/\Ab[j]?=some be/\rws[j]?=some (fin be (rowOf ps m I))/\Ae[j]?=some (SF m)
structure rT(m:Nat)(ps:List Pr)(Ag:List (List It))(Aw:List (List (Sy×Nat))):Prop where
 it:∀I∈Ag,∀x∈I,(∃p,ps[x.1]?=some p)/\(done ps x=true->x.2.2∈used m/\num x.2.2<6)
 mv:∀mv∈Aw,(mv.map (·.1)).Nodup/\ ∀p∈mv,p.1∈used m
 ln:Aw.length=Ag.length
 le:Ag.length<=1048576
theorem Aji{ps:List Pr}{m:Nat}(h1:1<=m)(h3:m<=3)(hs:Small ps){hb:Bool}{a2 a5:Option AV}{N RW GT DF:Addr}{Ag:List (List It)}{Aw:List (List (Sy×Nat))}{s:St}{K:Fl->Al->St->Prop}(U:rT m ps Ag Aw)
  (hN:s N=some (B2 (AU.str c) id AB (Cp m))) (T:TI c RW GT DF [] [] [] s) (nN:N≠RW/\N≠GT/\N≠DF)
  (k:∀rws Ae Ab b s',PM ps Ag Aw Ag.length rws Ae Ab->(b=true->∀(j:Nat) I mv,Ag[j]?=some I->Aw[j]?=some mv->Kl ps mv I=true)->TI c RW GT DF rws Ae Ab s'->(∀a,s a≠none->a≠RW->a≠GT->a≠DF->s' a=s a)->
   vs c (n+1) Sp (C5 (some (.lst (ps.map AZ))) (some (.bool hb)) a2 none (some (.ref N)) a5 none none (some (.lst (Ag.map F8))) (some (.lst (Aw.map Fp))) (some (.ref RW)) (some (.ref GT)) (some (.ref DF)) (some (.bool b)) none none none none none none none) s' K):
  vs c (n+1) (.for true [14,15] (.MR 32 30 (.v 8) (.v 9)) Wu Sp) (C5 (some (.lst (ps.map AZ))) (some (.bool hb)) a2 none (some (.ref N)) a5 none none (some (.lst (Ag.map F8))) (some (.lst (Aw.map Fp))) (some (.ref RW)) (some (.ref GT)) (some (.ref DF)) (some (.bool true)) none none none none none none none) s K:=by
 refine⟨λi W s'=>∃rws Ae Ab b,W=C5 (some (.lst (ps.map AZ))) (some (.bool hb)) a2 none (some (.ref N)) a5 none none (some (.lst (Ag.map F8))) (some (.lst (Aw.map Fp))) (some (.ref RW)) (some (.ref GT)) (some (.ref DF)) (some (.bool b)) none none none none none none none/\PM ps Ag Aw i rws Ae Ab/\i<=Ag.length/\
  (b=true->∀(j:Nat) I mv,j<i->Ag[j]?=some I->Aw[j]?=some mv->Kl ps mv I=true)/\TI c RW GT DF rws Ae Ab s'/\ ∀a,s a≠none->a≠RW->a≠GT->a≠DF->s' a=s a,⟨[],[],[],true,rfl,⟨rfl,rfl,rfl,λj I m h=>absurd h (Gi _)⟩,Cq _,λZ j I mv h=>absurd h (Gi _),T,λZ Z Z Z Z=>rfl⟩,λi x FE si hx hI=>?_,λHV se hI=>?_⟩
 ·refine UN hI ?_;clear hI;rintro rws Ae Ab b rfl tb hi A3 T' fr;refine BS (bJ hx) ?_;clear hx;rintro xa xb rU H0 rfl;refine Ad (Dx rU) ?_;clear rU;rintro I hI rfl;refine Ad (Dx H0) ?_;clear H0;rintro mv Jj rfl;have AH:=(A5.mp hI).1;have:=U.le;refine Aje h1 h3 hs (U.it I (A8 hI)) (U.mv mv (A8 Jj)).1 (U.mv mv (A8 Jj)).2 ((fr N (by exact Aa hN<|λh=>nomatch h) nN.1 nN.2.1 nN.2.2).trans hN) T' ⟨Aa tb.l1<|N3 (B7 AH this) rfl,Aa tb.l2<|N3 (B7 AH this) rfl,Aa tb.l3<|N3 (B7 AH this) rfl⟩ λbe s' DP T2 C3=>?_;obtain⟨e1,e2⟩:=rS I (mv.foldl Eo (Cy 6 0)) b;unfold LF at DP T2;rw[e1] at DP T2;refine⟨_,_,_,_,rfl,⟨by simp[tb.l1],by simp[tb.l2],by simp[tb.l3],λj I' m' hj Eh Dr=>?_⟩,AH,λGu j I' WZ hj Eh Dr=>?_,T2,λa q0 q1 q2 q3=>?_⟩
  ·by_cases PN:j<i
   ·refine Fd (tb.at_ j I' m' PN Eh Dr) ?_;intro LG b1 b2 b3 b4;exact⟨LG,b1,by rw[Fv (by refine Aa tb.l3 ?_;assumption)];exact b2,by rw[Fv (by refine Aa tb.l1 ?_;assumption)];exact b3,by rw[Fv (by refine Aa tb.l2 ?_;assumption)];exact b4⟩
   ·have:j=i:=EM (EL hj) (GU PN);subst this;replace Eh:=hI▸Eh;replace Dr:=Jj▸Dr;replace Eh:=Ay Eh;subst Eh;replace Dr:=Ay Dr;subst Dr;exact⟨be,DP,by rw[KR (by exact Aa tb.l3<|HJ rfl),tb.l3,Uz];rfl,by rw[KR (by exact Aa tb.l1<|HJ rfl),tb.l1,Uz];rfl,by rw[KR (by exact Aa tb.l2<|HJ rfl),tb.l2,Uz];rfl⟩
  ·unfold LF at Gu;replace Gu:=e2▸Gu;rewrite[D7] at Gu;by_cases PN:j<i
   ·exact A3 Gu.1 j I' WZ PN Eh Dr
   ·have:j=i:=EM (EL hj) (GU PN);subst this;replace Eh:=hI▸Eh;replace Dr:=Jj▸Dr;replace Eh:=Ay Eh;subst Eh;replace Dr:=Ay Dr;subst Dr;exact Gu.2
  ·have w:si a=s a:=fr a q0 q1 q2 q3;exact(C3 a (by exact Aa w<|q0) q1 q2 q3).trans w
 ·refine UN hI ?_;clear hI;rintro rws Ae Ab b rfl tb hi A3 T' fr;have hl:((Ag.map F8).zipWith (λa b=>AV.tup [a,b]) (Aw.map Fp)).length=Ag.length:=Aa zH<|Aa (Ai _)<|Aa (Ai _)<|Aa U.ln<|Aa (AaP _) rfl;rw[hl] at tb A3;exact k rws Ae Ab b se tb (λhb j I mv hI hm=>A3 hb j I mv (A5.mp hI).1 hI hm) T' fr
end
theorem Ajj{α:Type}{lt:α->α->Bool}(W0:∀x,lt x x=false)(tr:∀x y z,lt x y=true->lt y z=true->lt x z=true){l1 l2:List α}(h1:l1.Pairwise (λx y=>lt x y=true))(h2:l2.Pairwise (λx y=>lt x y=true))(h:∀x,x∈l1↔x∈l2):l1=l2:=by
 induction l1 generalizing l2 with
 | nil=>cases l2 with
  | nil=>rfl
  | cons y l2=>cases (h y).mpr (.head _)
 | cons x l1 ih=>cases l2 with
   | nil=>cases (h x).mp (.head _)
   | cons y l2=>
  refine Ah (Abp.mp h1) ?_;clear h1;intro a1 a2;refine Ah (Abp.mp h2) ?_;clear h2;intro b1 b2;have no:∀u v,lt u v=true->lt v u=true->False:=λu v p q=>by have:=tr u v u p q;rewrite[W0] at this;exact AJ this
  have e:x=y:=by
   rcases Bo.mp ((h x).mp (.head _)) with e|hx
   ·exact e
   ·rcases Bo.mp ((h y).mpr (.head _)) with e|hy
    ·exact e.symm
    ·exact(no _ _ (a1 y hy) (b1 x hx)).elim
  subst e;rw[ih a2 b2 λz=>⟨λhz=>?_,λhz=>?_⟩]
  ·rcases Bo.mp ((h z).mp (.tail _ hz)) with e|DY
   ·subst e;have:=a1 _ hz;rewrite[W0] at this;exact AJ this
   ·exact DY
  ·rcases Bo.mp ((h z).mpr (.tail _ hz)) with e|DY
   ·subst e;have:=b1 _ hz;rewrite[W0] at this;exact AJ this
   ·exact DY
theorem Ajk(x:Str):Dg x x=false:=by unfold Dg;exact decide_eq_false (QN _)
theorem Ajl(h3:m<=3):((sig m).map Sy.str).Pairwise λx y=>Dg x y=true:=by
 have e:(sig m).map Sy.str=(([.S,.T,.U]:List Sy).map Sy.str).take m:=by unfold sig;exact Aa Me rfl
 refine Aa e ?_;refine AlS (QP _ _) ?_;have h1:Dg Sy.S.str Sy.T.str=true:=by decide+kernel
 have h2:Dg Sy.S.str Sy.U.str=true:=by decide+kernel
 have h3:Dg Sy.T.str Sy.U.str=true:=by decide+kernel
 simp[h1,h2,h3]
theorem W1(h:X∈sig m):X∈used m:=KP _ h
theorem BV.cons{m:Nat}{ps:List Pr}(G:BV m ps):∃t:List Pr,ps=(.ac,[.S,.en])::t/\t.length=4/\(∀X,X∈t.map (·.1)↔X∈sig m)/\ ∀p∈t,(1<=p.2.length/\p.2.length<=3)/\ ∀s∈p.2,s∈A4\/s∈sig m:=by
 refine NZ G.ps ?_;rintro rs es rfl h1 h2 h3 h4;have hl:=congrArg EQ h1;have n1:=G.n1;have n3:=G.n3;have sl:(sig m).length=m:=by simp[sig];exact Jt n3
 rewrite[Ai] at hl;replace hl:=sl▸hl;refine⟨rs++es,rfl,Aa AY<|Aa hl<|Aa h3<|QM (N1 n3 rfl),λX=>?_,λp hp=>?_⟩
 ·refine Aa Bs ?_;rewrite[C9];refine Aa h1 ?_;refine⟨λh=>?_,.inl⟩;rcases h with h|h
  ·exact h
  ·refine Ad (Bj.mp h) ?_;clear h;rintro e he rfl;exact(h4 e he).1
 ·rcases C9.mp hp with hp|hp
  ·refine Ah (h2 p hp) ?_;intro a b;exact⟨And.intro (Q3 a rfl rfl) (Ix a rfl rfl),λs hs=>.inl (b s hs)⟩
  ·refine Bq (h4 p hp) ?_;intro _ a b;refine⟨And.intro (Q3 a rfl rfl) (Ix a rfl rfl),λs hs=>?_⟩;have:=b s hs;simp only[C9,Bo,GS,or_false] at this;rcases this with((rfl|rfl)|h)|h
   ·exact .inl (by decide)
   ·exact .inl (by decide)
   ·exact .inr h
   ·exact .inr h
theorem W2(h:1<=m):Sy.S∈sig m:=by obtain⟨k,rfl⟩:∃k,m=k+1:=⟨m-1,(LV h).symm⟩;exact .head _
theorem BV.small(G:BV m ps):Small ps:=by
 refine Fd G.cons ?_;rintro t rfl h1 h2 h3;refine⟨by simp[h1],λp hp=>?_⟩;rcases Bo.mp hp with rfl|hp
 ·exact⟨by simp,by simp⟩
 ·have:=(h3 p hp).1;exact⟨by intro e;replace this:=e▸this;simp at this,this.2⟩
theorem rV(h:X∈A4):X∈used m:=CW _ (by revert h;cases X<;>decide)
theorem BV.used(G:BV m ps):∀p∈ps,p.1∈used m/\ ∀X∈p.2,X∈used m:=by
 refine Fd G.cons ?_;rintro t rfl h1 h2 h3;intro p hp;rcases Bo.mp hp with rfl|hp
 ·refine⟨CW _ (by decide),λX hX=>?_⟩;rcases Bo.mp hX with rfl|hX
  ·exact W1 (W2 G.n1)
  ·have hZ:=B3.mp hX;clear hX;subst hZ;exact CW _ (by decide)
 ·refine⟨W1 ((h2 _).mp (Dz (f:=(·.1)) hp)),λX hX=>?_⟩;rcases(h3 p hp).2 X hX with h|h
  ·exact rV h
  ·exact W1 h
section
variable{c:Cx}{n:Nat}{V:St}{Q:AV->St->Prop}
theorem W3(h1:1<=m)(h3:m<=3):(BM m).Nodup:=by have:m=1\/m=2\/m=3:=NX h1 h3;rcases this with rfl|rfl|rfl<;>decide+kernel
theorem Ajm(O:AE c)(Jl:Ni c){m:Nat}{ps:List Pr}{hb:Bool}(G:BV m ps)(hB:∀H,GN ps H->∃Un NB,Jd ps H Un NB)
  (k:∀H Ag Aw rws Ae Ab b x1 x2 x3 x4,GN ps H->Sv ps H Ag Aw->PM ps Ag Aw Ag.length rws Ae Ab->(b=true->∀(j:Nat) I mv,Ag[j]?=some I->Aw[j]?=some mv->Kl ps mv I=true)->Q (.tup [AG c m ps (EI m ps x1 x2 x3 x4) rws Ae Ab,.bool b]) V):
  A0 c (n+5) (.ref 847) [.lst (ps.map AZ),.bool hb] V Q:=by
 have h1:=G.n1;have h3:=G.n3;have hs:=G.small;have hu:=G.used;refine Fd G.cons ?_;intro t e tl tn _;have hl:=hs.ln;refine Aig.run O ?_;refine⟨Aa (Ai _)<|Bh (N1 hl rfl),?_⟩;refine BW (ys:=t.map AZ) ((KO _ 1).trans (by exact Aa e rfl)) ?_;refine comp_map (enc:=AZ) (λp=>Az p.1) rfl (Bh (N5 tl rfl)) (λp Z K hK=>hK) ?_;refine BW (ys:=((t.map (·.1)).map Sy.str).map .str) (by exact Aa BC<|Aa BC rfl) ?_;refine An.gL .lst (by simp[tl];decide) λS hS=>?_;have hd:(dd [] ((t.map (·.1)).map Sy.str)).length<64:=DT (VC _ _) (by simp[tl]);refine An.gM St.AC hd (λys hp AH=>?_) (Ss _ _ (by simp));have ey:ys=(sig m).map Sy.str:=Ajj Ajk VR AH (Ajl h3) λx=>by
  rewrite[hp.mem_iff];rewrite[dE];simp only[GS,false_or,Bj (f:=Sy.str)];constructor
  ·intro hZ;refine Ad hZ ?_;clear hZ;rintro X hX rfl;exact⟨X,(tn X).mp hX,rfl⟩
  ·intro hZ;refine Ad hZ ?_;clear hZ;rintro X hX rfl;exact⟨X,(tn X).mpr hX,rfl⟩
 subst ey;have sl:(sig m).length=m:=by simp[sig];exact Jt h3
 refine⟨Bh (by simp[sl];exact Mi h3 rfl),?_⟩;have en: [AV.str "$end",.str "error",.str "$undefined",.str "a",.str "b",.str "c",.str "$accept"]++((sig m).map Sy.str).map .str=(BM m).map .str:=by unfold BM;exact Aa Bs rfl
 refine Aa en ?_;have PO:∀a ob,V a=some ob->(V.set S (.sset (dd [] ((t.map (·.1)).map Sy.str)))) a=some ob:=Ca (λa ob e=>e) hS;generalize V.set S (.sset (dd [] ((t.map (·.1)).map Sy.str)))=Af at PO;have nl:(BM m).length=7+m:=by simp[BM,sl];exact Eq.symm (JL _ _)
 have ez:((BM m).map AV.str).zipIdx.map (λp=>AV.tup [.int p.2,p.1])=(Cp m).map (λp=>AV.tup [.int p.2,.str p.1]):=by unfold Cp;exact Aa YY<|Aa BC rfl
 show(((BM m).map AV.str).zipIdx.map (λp=>AV.tup [.int p.2,p.1])).length<=Bc/\_;refine Aa ez ?_;refine comp_map (λp:Str×Nat=>AV.tup [.str p.1,.int p.2]) rfl (by unfold Cp;exact Aa KQ<|Bh (N7 nl (Mi h3 rfl))) (λp Z K hK=>hK) ?_;refine BW (ys:=((Cp m).map λp=>(p.1,AB p.2)).map λp=>.tup [(AU.str c).enc p.1,p.2]) (by exact Aa BC rfl) ?_;have nf:(Cp m).map (·.1)=BM m:=by unfold Cp;exact Abo _ _
 refine An.VV (Iq.E (AU.str c)) (λZ Z=>trivial) ?_ (by refine Aa (Ai _) ?_;unfold Cp;exact Aa KQ<|Bh (N7 nl (Mi h3 rfl))) (λN hN=>?_)
 ·exact Aa BC<|Aa (show((λx:Str×AV=>x.1)∘λp:Str×Nat=>(p.1,AB p.2))=(λp=>p.1) from rfl)<|Aa nf<|W3 h1 h3
 refine(λR hR=>?_);have PQ:R≠N:=by rintro rfl;replace hR:=St.AC▸hR;exact BR hR
 replace hR:=(St.Am PQ)▸hR;have hNd:∀s:St,s N=some (.dict ((((Cp m).map λp=>(p.1,AB p.2)).map (·.1)).map (AU.str c).enc) (((Cp m).map λp=>(p.1,AB p.2)).map (·.2)))->s N=some (B2 (AU.str c) id AB (Cp m)):=λs h=>h.trans (by simp only[B2,BC];rfl);have W4:=hNd _ ((St.Am (V:=Af.set N (.dict ((((Cp m).map λp=>(p.1,AB p.2)).map (·.1)).map (AU.str c).enc) (((Cp m).map λp=>(p.1,AB p.2)).map (·.2)))) (ob:= .list []) PQ.symm).trans St.AC);have rW:=Ca (x:=BD.list []) (Ca (x:=BD.dict ((((Cp m).map λp=>(p.1,AB p.2)).map (·.1)).map (AU.str c).enc) (((Cp m).map λp=>(p.1,AB p.2)).map (·.2))) PO (by
  cases e:V N with
  | none=>rfl
  | some ob=>replace hN:=(PO _ _ e)▸hN;exact BR hN)) (b:=R) (by
  cases e:V R with
  | none=>rfl
  | some ob=>replace hR:=(PO _ _ e)▸hR;exact BR hR)
 have sR:V R=none:=by
  cases e:V R with
  | none=>rfl
  | some ob=>replace hR:=(PO _ _ e)▸hR;exact BR hR
 have rX:((Af.set N (.dict ((((Cp m).map λp=>(p.1,AB p.2)).map (·.1)).map (AU.str c).enc) (((Cp m).map λp=>(p.1,AB p.2)).map (·.2)))).set R (.list [])) R=some (.list []):=St.AC;generalize (Af.set N (.dict ((((Cp m).map λp=>(p.1,AB p.2)).map (·.1)).map (AU.str c).enc) (((Cp m).map λp=>(p.1,AB p.2)).map (·.2)))).set R (.list [])=s0 at W4 rW rX;refine IZ (λZ=>C5 (some (.lst (ps.map AZ))) (some (.bool hb)) (some (.lst ((BM m).map .str))) none (some (.ref N)) (some (.ref R)) none none none none none none none none none none none none none none none) (λi s=>s R=some (.list (((DS ps).take i).map E6))/\ ∀a,a≠R->s a=s0 a) ⟨rX,λZ Z=>rfl⟩ (λi x si J hx hI hJ=>?_) λs hI=>?_
 ·refine Ah hI ?_;clear hI;intro H6 fr;refine Ad (U7 hx) ?_;clear hx;rintro y hy rfl;refine Ad (Dx hy) ?_;clear hy;rintro p hp rfl;have Hp:=A8 hp;have hr:(DS ps)[i]?=some (i,num p.1,p.2.map num):=by unfold DS;refine Aa Bp<|Aa X6<|Aa hp ?_;simp
  refine Ajg (n:=n+1) O h1 h3 hs (hu p Hp) (hs.ne p Hp).2 ((fr N PQ.symm).trans W4) H6 (by have:=Ux i (DS ps);unfold DS at this⊢;simp at this⊢;exact N1 (Mj hl) rfl) ?_;refine hJ _ ⟨?_,λa h=>(St.Am h).trans (fr a h)⟩;exact Aa St.AC<|Aa Fu<|Aa hr rfl
 refine Ah hI ?_;clear hI;intro SK fr;rw[Gp (by unfold DS;simp)] at SK;refine(AiY (n:=n) O hs hB λH Ag Aw hH A=>?_).call;refine DO (hB H hH) ?_;intro Un NB Bd;have hle:=AP (Bd.nb Ag A.nd A.rs) Bd.le;have U:rT m ps Ag Aw:=by
  refine⟨λI hI x hx=>?_,λmv Jj=>?_,A.len,N1 hle rfl⟩
  ·have rY:=((A.rs I hI).un Bd).2 x hx;refine Ad (Bd.U.ok x rY) ?_;intro p hp _;refine⟨⟨p,hp⟩,λhd=>?_⟩;have h0:0<x.1:=by unfold done at hd;simp only[D7,decide_eq_true_eq] at hd;exact hd.1
   rcases Bd.sg x rY h0 with e|e|e|e<;>refine Aa e ?_<;>exact⟨CW _ (by decide),by decide⟩
  ·refine Ar (DM Jj) ?_;clear Jj;intro i hi;have HZ:=(A5.mp hi).1;replace HZ:=A.len▸HZ;refine Bq (A.mv i _ mv (BG HZ) hi) ?_;intro a1 a2 _;refine⟨a1,λq hq=>?_⟩;refine Ad ((a2 q.1).mp (Dz (f:=(·.1)) hq)) ?_;intro x hx LH;unfold Bn at LH;cases hp:ps[x.1]? with
   | none=>replace LH:=hp▸LH;exact AA LH
   | some p=>
    replace LH:=hp▸LH;exact(hu p (A8 hp)).2 _ (A8 LH)
 refine λRW rZ GT LI DF GO=>?_;have n1:GT≠RW:=by rintro rfl;replace LI:=St.AC▸LI;exact BR LI
 replace LI:=(St.Am n1)▸LI;have n2:DF≠GT:=by rintro rfl;replace GO:=St.AC▸GO;exact BR GO
 replace GO:=(St.Am n2)▸GO;have n3:DF≠RW:=by rintro rfl;replace GO:=St.AC▸GO;exact BR GO
 replace GO:=(St.Am n3)▸GO;have SL:=(fr N PQ.symm).trans W4;have no:∀{a ob},s a=some ob->a≠RW/\a≠GT/\a≠DF:=λe=>⟨(by rintro rfl;replace e:=rZ▸e;exact AA e),(by rintro rfl;replace e:=LI▸e;exact AA e),(by rintro rfl;replace e:=GO▸e;exact AA e)⟩;have nN:=no SL;have nR:=no SK;have kp:∀a,a≠RW->a≠GT->a≠DF->((((s.set RW (.list [])).set GT (.list [])).set DF (.list [])) a)=s a:=λa q1 q2 q3=>by exact Aa (St.Am q3)<|Aa (St.Am q2)<|Aa (St.Am q1) rfl
 have W5:∀a ob,V a=some ob->s a=some ob:=λa ob e=>by
  by_cases h:a=R
  ·subst h;replace e:=sR▸e;exact AA e
  ·exact Aa (fr a h)<|rW a ob e
 have zn:∀a,s a=none->V a=none:=λa h=>by
  cases e:V a with
  | none=>rfl
  | some ob=>replace h:=(W5 _ _ e)▸h;exact BR h
 refine Aji (n:=n+3) h1 h3 hs U ((kp N nN.1 nN.2.1 nN.2.2).trans SL) ⟨?_,?_,St.AC,⟨n1.symm,n3.symm,n2.symm⟩⟩ nN λrws Ae Ab b s' tb A3 T' G7=>?_
 ·exact Aa (St.Am n3.symm)<|Aa (St.Am n1.symm)<|Aa St.AC rfl
 ·exact Aa (St.Am n2.symm)<|Aa St.AC rfl
 ·have W6:∀a,s a≠none->s' a=s a:=λa h=>by
   have w:a≠RW/\a≠GT/\a≠DF:=by
    cases e:s a with
    | none=>exact absurd e h
    | some ob=>exact no e
   have:=kp a w.1 w.2.1 w.2.2;exact(G7 a (by exact Aa this<|h) w.1 w.2.1 w.2.2).trans this
  refine Ajh (n:=n) O Jl h1 h3 hs (λp hp=>(hu p hp).1) ((W6 N (by exact Aa SL<|λh=>nomatch h)).trans SL) ((W6 R (by exact Aa SK<|λh=>nomatch h)).trans SK) T' ⟨PQ,nR.1,nR.2.1,nR.2.2⟩ nN (λa ob e=>(W6 a (by exact Aa (W5 a ob e)<|λh=>nomatch h)).trans (W5 a ob e)) ⟨sR,zn _ rZ,zn _ LI,zn _ GO⟩ λx1 x2 x3 x4=>k H Ag Aw rws Ae Ab b x1 x2 x3 x4 hH A tb A3
end
noncomputable def nt(X:Sy):Bool:=X== .S || X== .T || X== .U
inductive H7(ps:List Pr):List Sy->List Sy->Prop
 | refl (xs:List Sy):H7 ps xs xs
 | step {xs l r β:List Sy} {A:Sy}:H7 ps xs (l++A::r)->(A,β)∈ps->H7 ps xs (l++β++r)
noncomputable def EJ(l:List Sy):Nat:=(l.filter nt).length
theorem Ajn(l:List Sy):∀k,((∀X∈l,nt X=false)/\(l.zipIdx k).filterMap (λp=>if nt p.1 then some p.2 else none)= [])\/
  ∃a A b t,l=a++A::b/\(∀X∈a,nt X=false)/\nt A=true/\(l.zipIdx k).filterMap (λp=>if nt p.1 then some p.2 else none)=(k+a.length)::t:=by
 induction l with
 | nil=>intro k;exact .inl ⟨(λX h=>by cases h),rfl⟩
 | cons x l ih=>
  intro k;cases hx:nt x with
  | true=>
   refine .inr ⟨[],x,l,(l.zipIdx (k+1)).filterMap (λp=>if nt p.1 then some p.2 else none),rfl,(λX h=>by cases h),hx,?_⟩;refine Aa YZ<|Aa HB ?_;simp[hx]
  | false=>
   have e:((x::l).zipIdx k).filterMap (λp=>if nt p.1 then some p.2 else none)=(l.zipIdx (k+1)).filterMap (λp=>if nt p.1 then some p.2 else none):=by refine Aa YZ<|Aa HB ?_;simp[hx]
   rcases ih (k+1) with⟨h1,h2⟩|⟨a,A,b,t,h1,h2,h3,h4⟩
   ·refine .inl ⟨λX h=>?_,e.trans h2⟩;rcases Bo.mp h with rfl|h
    ·exact hx
    ·exact h1 X h
   ·refine .inr ⟨x::a,A,b,t,Aa h1 rfl,λX h=>?_,h3,(e.trans h4).trans (by simp;exact Zl)⟩;rcases Bo.mp h with rfl|h
    ·exact hx
    ·exact h2 X h
noncomputable def Gc(ps:List Pr)(A:Sy):List (List Sy):=(ps.filter λp=>decide (p.1=A)).map (·.2)
theorem tA{A:Sy}{β:List Sy}(h:β∈Gc ps A):(A,β)∈ps:=by
 refine Ad (Bj.mp h) ?_;clear h;rintro p hp rfl;refine Ah (JJ.mp hp) ?_;clear hp;intro h1 h2;have:p.1=A:=by simpa using h2
 subst this;exact h1
theorem SM(h:X∈sig m):nt X=true:=by have:=Gq h;revert this;cases X<;>decide
theorem tB(h:X∈A4):nt X=false:=(by decide:∀X∈A4,nt X=false) X h
theorem BV.rules(G:BV m ps){A:Sy}(hA:A∈sig m):∃β t,Gc ps A=β::t/\ ∀s∈β,s∈A4:=by
 refine NZ G.ps ?_;rintro rs es rfl h1 h2 _ _;have Bb:¬Sy.ac=A:=by rintro rfl;have:=SM hA;revert this;decide
 replace hA:=Eq.symm h1▸hA;refine Ad (Bj.mp hA) ?_;clear hA;rintro p hp rfl;have e:Gc ((.ac,[.S,.en])::(rs++es)) p.1=(rs.filter λq=>decide (q.1=p.1)).map (·.2)++(es.filter λq=>decide (q.1=p.1)).map (·.2):=by unfold Gc;rw[Uy,if_neg (by simpa using Bb),QZ,Bs]
 have hm:p∈rs.filter λq=>decide (q.1=p.1):=JJ.mpr ⟨hp,by simp⟩;cases hf:rs.filter (λq=>decide (q.1=p.1)) with
 | nil=>replace hm:=hf▸hm;cases hm
 | cons q t=>
  refine⟨q.2,_,Aa e<|Aa hf rfl,(h2 q ?_).2⟩;exact(JJ.mp (hf▸List.mem_cons_self (a:=q) (l:=t))).1
theorem tC(G:BV m ps){A:Sy}{β:List Sy}(hA:A∈sig m)(h:(A,β)∈ps):β.length<=3/\ ∀s∈β,s∈A4\/s∈sig m:=by
 refine Fd G.cons ?_;rintro t rfl _ _ h3;rcases Bo.mp h with e|h
 ·cases e;exact absurd (SM hA) (by decide)
 ·exact⟨(h3 _ h).1.2,(h3 _ h).2⟩
theorem Ajo(G:BV m ps){A:Sy}:(Gc ps A).length<=5:=by unfold Gc;exact Aa (Ai _)<|AP (QX _ _) G.small.ln
section
variable{c:Cx}{n:Nat}{V:St}{Q:AV->St->Prop}
theorem inNT{R:AV->St->Prop}(h1:nt X=true->R (.bool true) V)(h2:nt X=false->R (.bool false) V):AR c n .In (Az X) (.tup [.str "S",.str "T",.str "U"]) V R:=by
 have hm:Az X∈[AV.str "S",.str "T",.str "U"]↔nt X=true:=by have e: [AV.str "S",.str "T",.str "U"]=([.S,.T,.U]:List Sy).map Az:=rfl;refine Aa e ?_;rewrite[Wz];cases X<;>decide
 exact AR.UX .tup X.ok (qG [.S,.T,.U]) (by
  classical
  by_cases h:Az X∈[AV.str "S",.str "T",.str "U"]
  ·exact Aa (decide_eq_true h)<|h1 (hm.mp h)
  ·exact Aa (decide_eq_false h)<|h2 (by cases e:nt X;rfl;exact absurd (hm.mpr e) h))
end
noncomputable abbrev PR(a0 a1 a2 a3 a4 a5 a6 a7 a8 a9:Option AV):Al:= [a0,a1,a2,a3,a4,a5,a6,a7,a8,a9,none,none,none,none,none]
section
variable{c:Cx}{n:Nat}{V:St}{Q:AV->St->Prop}
theorem tD:∀(ps:List Pr)(A:Sy),ps.filterMap (λp=>if p.1=A then some (Bm p.2) else none)=(Gc ps A).map Bm
 | [],A=>rfl
 | p::r,A=>by
  have ih:=tD r A;unfold Gc at ih⊢;refine Aa HB<|Aa Uy<|Aa ih ?_;by_cases h:p.1=A
  ·rw[if_pos h,if_pos (by simpa using h)];rfl
  ·rw[if_neg h,if_neg (by simpa using h)]
theorem Ajp(O:AE c){m:Nat}{ps:List Pr}(G:BV m ps){p q:Addr}{i:Nat}{f:List Sy}{s:St}{K:Fl->Al->St->Prop}(hf:∀X∈f,X∈A4\/X∈sig m)(hl:f.length<=100)(hp:B5 s p q)
  (kb:(∀X∈f,X∈A4)->K .brk (PR (some (.ref p)) (some (.lst (ps.map AZ))) (some (Bm f)) (some (.bool true)) (some (.int i)) none (some (.lst [])) none none none) s)
  (kn:∀a A b β s',f=a++A::b->(A,β)∈ps->A∈sig m->(4<=i->∀s∈β,s∈A4)->(∀X∈a,nt X=false)->B5 s' p q->K .next (PR (some (.ref p)) (some (.lst (ps.map AZ))) (some (Bm (a++β++b))) (some (.bool true)) none none none none none none) s'):
  vs c (n+2) mU (PR (some (.ref p)) (some (.lst (ps.map AZ))) (some (Bm f)) (some (.bool true)) (some (.int i)) none none none none none) s K:=by
 have hps:=G.small.ln;have ez:(f.map Az).zipIdx.map (λp=>AV.tup [.int p.2,p.1])=f.zipIdx.map (λp=>AV.tup [.int p.2,Az p.1]):=Aa YY<|Aa BC rfl;show((f.map Az).zipIdx.map (λp=>AV.tup [.int p.2,p.1])).length<=Bc/\_;refine Aa ez ?_;refine Hj (λp:Sy×Nat=>if nt p.1 then some (AB p.2) else none) rfl (by exact Aa KQ<|Bh (N1 hl rfl)) (λp Z K N hK hN=>?_) ?_
 ·refine(inNT (λh=>bT (hK _ (if_pos h))) λh=>bF (hN (by exact Aa h rfl)))
 refine BW (SB (g:=λp:Sy×Nat=>if nt p.1 then some p.2 else none) (e:=AB) λx=>by split<;>rfl) ?_;rcases Ajn f 0 with⟨h1,h2⟩|⟨a,A,b,t,e,h2,h3,h4⟩
 ·refine Aa h2 ?_;refine(AR.gX .lst (bT (kb λX hX=>?_)));rcases hf X hX with h|h
  ·exact h
  ·have:=SM h;replace this:=(h1 X hX)▸this;exact AJ this
 ·refine Aa h4<|Aa (KJ _) ?_;refine(AR.gX .lst (bF ?_));have hA:A∈sig m:=by
   rcases hf A (by refine Aa e ?_;simp) with h|h
   ·replace h3:=(tB h)▸h3;exact AJ h3
   ·exact h
  have tE:a.length<=100:=by replace hl:=e▸hl;simp at hl;exact CN hl
  have Kk:(a.length::t).length<=100:=by rewrite[KJ] at h4;refine AS h4 ?_;exact AP (NT _ _) (by exact Aa KQ<|hl)
  have hfA:f[a.length]?=some A:=by refine Aa e ?_;simp
  have W7:∀{R:AV->St->Prop}{s},R (AB a.length) s->AL c (n+2) (.lst ((a.length::t).map AB)) (.int 0) s R:=λq=>AL.B4 (i:=0) .lst (by decide) (by exact Aa (Ai _)<|N2 Kk rfl) rfl q;refine Hj (enc:=AZ) (λp=>if p.1=A then some (Bm p.2) else none) rfl (Bh (N1 hps rfl)) (λp Z K N hK hN=>?_) ?_
  ·refine(W7 (AL.B4 (x:=Az A) .lst (B8 _) (by exact Aa (Ai _)<|N2 hl rfl) (by show(f.map Az)[a.length]?=_;exact Aa Bp<|Aa hfA rfl) ⟨λe=>?_,λe=>?_⟩))
   ·exact hK _ (if_pos (Sy.inj e))
   ·exact hN (if_neg λh=>e (by exact Aa h rfl))
  refine BW (tD ps A) ?_;refine Br (G.rules hA) ?_;intro tF t0 Km SN;have FI:=Ajo G (A:=A);refine Kh (λv s'=>∃β,v=Bm β/\β∈Gc ps A/\(4<=i->∀s∈β,s∈A4)/\B5 s' p q) (λM hM=>?_) ?_
  ·have first:M (Bm tF) s:=hM _ _ ⟨tF,rfl,Aa Km<|.head _,λZ=>SN,hp⟩
   have tG:AL c (n+2) (.lst ((Gc ps A).map Bm)) (.int 0) s M:=by exact Aa Km<|AL.B4 (i:=0) .lst (by decide) (by refine Aa (Ai _) ?_;refine AS Km ?_;exact N2 FI rfl) rfl first
   refine⟨λhi=>An.len .lst (by exact Aa (Ai _)<|N2 hl rfl) ⟨λZ=>?_,λZ=>tG⟩,λZ=>tG⟩;refine An.len .lst (by exact Aa (Ai _)<|N2 FI rfl) ?_;refine Aa (Ai _) ?_;refine(Pt (n:=n) O hp (m:=(Gc ps A).length) (by refine Aa Km ?_;simp) (N60 FI rfl) λr s' r0 r1 D4 off=>?_).call;have tH:r.toNat<(Gc ps A).length:=N58 r0 r1;refine AL.B4 (x:=Bm (Gc ps A)[r.toNat]) .lst r0 (by exact Aa (Ai _)<|N2 FI rfl) (by exact Aa Bp<|Aa (BG tH) rfl) ?_;exact hM _ _ ⟨_,rfl,NN tH,λh4=>by have:(i:Int)<4:=hi;lia,D4⟩
  ·intro _ s';intro hZ;refine Fd hZ ?_;clear hZ;rintro β rfl tI W8 D4;have Nj:=(tC G hA (tA tI)).1;refine W7 ⟨Aa (Ai _)<|Bh (N1 hl rfl),?_⟩;refine BW (ys:=a.map Az) ((I7 _ a.length).trans (by refine Aa e ?_;simp)) ?_;refine⟨Bh (by simp;exact NV tE Nj rfl),?_⟩;refine W7 ⟨Aa (Ai _)<|Bh (N1 hl rfl),?_⟩;refine BW (ys:=b.map Az) ((KO _ (a.length+1)).trans (by refine Aa e<|Aa Bs<|Aa EO<|Aa Abq ?_;simp)) ?_;have hbl:b.length<=100:=by replace hl:=e▸hl;simp at hl;exact CN (UA hl)
   refine⟨Bh (by simp;exact NV (AI tE Nj) hbl rfl),?_⟩;have:=kn a A b β s' e (tA tI) hA W8 h2 D4;rewrite[Bm] at this;replace this:=Bs▸this;replace this:=Bs▸this;exact this
theorem W9(a b:List Sy):EJ (a++b)=EJ a+EJ b:=by unfold EJ;exact Aa (QZ _ _)<|Aa AY rfl
theorem tJ(a:List Sy):EJ a<=a.length:=QX _ _
theorem Ajq{a:List Sy}(h:∀X∈a,X∈A4):EJ a=0:=by unfold EJ;rewrite[Ug];rewrite[Abl];intro X hX;refine Aa (tB (h X hX)) ?_;decide
theorem Ajr(O:AE c){ps:List Pr}{p q:Addr}{o4 o5 o6 o7 o8 o9:Option AV}{f:List Sy}{s:St}(hf:∀X∈f,X∈A4)(hl:f.length<=100)(hp:B5 s p q)
  (k:∀w b Aq,(∀s∈w,s∈A4)->w.length<=101->(b=true->w=f)->B5 Aq p q->Q (.tup [Bm w,.bool b]) Aq):
  vs c (n+3) mV (PR (some (.ref p)) (some (.lst (ps.map AZ))) (some (Bm f)) (some (.bool true)) o4 o5 o6 o7 o8 o9) s (λfl Z Aq=>CX Q fl.val Aq):=by
 refine(Pt (n:=n+1) O hp (m:=4) (by decide) (by decide) λw s1 w0 w1 FC qD=>?_).call;refine An.len .lst (by exact Aa (Ai _)<|N2 hl rfl) ?_;refine Aa (Ai _) ?_;refine(Pt (n:=n+1) O FC (m:=f.length+1) (N66 rfl) (N63 hl rfl) λr s2 r0 r1 DW qE=>?_).call;have FI:r.toNat<=f.length:=Int.toNat_le.mpr (Int.lt_add_one_iff.mp r1);have hr:r=(r.toNat:Int):=Zd r0;refine⟨λZ=>?_,λZ=>?_⟩
 ·refine Aa hr ?_;refine⟨Aa (Ai _)<|Bh (N1 hl rfl),?_⟩;refine BW (ys:=(f.take r.toNat).map Az) ((I7 _ _).trans Me.symm) ?_;refine Lx (n:=n) (f:=Az) (l:=A4) O DW (by decide) (by decide) λX s3 hX FG off3=>?_;refine⟨Bh (by simp;exact N1 (Mj hl) rfl),?_⟩;refine⟨Aa (Ai _)<|Bh (N1 hl rfl),?_⟩;refine BW (ys:=(f.drop r.toNat).map Az) ((KO _ _).trans Y0.symm) ?_;refine⟨Bh (by simp;exact M81 hl),?_⟩;have e:(f.take r.toNat).map Az++ [Az X]++(f.drop r.toNat).map Az=(f.take r.toNat++ [X]++f.drop r.toNat).map Az:=by simp
  refine Aa e ?_;refine(A6 (k _ false s3 (λY hY=>?_) (by simp;exact M63 hl FI) (λh=>nomatch h) FG));rcases C9.mp hY with hY|hY
  ·rcases C9.mp hY with hY|hY
   ·exact hf Y (Gq hY)
   ·have hZ:=B3.mp hY;clear hY;subst hZ;exact hX
  ·exact hf Y (Abr hY)
 ·exact(A6 (k f true s2 hf (N1 hl rfl) (λZ=>rfl) DW))
theorem Ajs(O:AE c){m:Nat}{ps:List Pr}(G:BV m ps){p q:Addr}(hp:B5 V p q)
  (k:∀w b Aq,(∀s∈w,s∈A4)->w.length<=101->(b=true->H7 ps [.S] w)->B5 Aq p q->Q (.tup [Bm w,.bool b]) Aq):A0 c (n+4) (.ref 852) [.ref p,.lst (ps.map AZ)] V Q:=by
 refine Aik.run O ?_;refine⟨30,rfl,Bh (Hr _ _),?_⟩;refine⟨λi W s=>∃f:List Sy,W=PR (some (.ref p)) (some (.lst (ps.map AZ))) (some (Bm f)) (some (.bool true)) none none none none none none/\B5 s p q/\(∀X∈f,X∈A4\/X∈sig m)/\H7 ps [.S] f/\f.length<=1+2*i/\(i<=4->EJ f<=1+2*i)/\(4<=i->EJ f+i<=13),⟨[.S],rfl,hp,λX hX=>by have hZ:=B3.mp hX;clear hX;subst hZ;exact .inr (W2 G.n1),.refl _,BJ _,λZ=>by decide,λh=>absurd h (by decide)⟩,λi x FE s hx hI=>?_,λHV s hI=>?_⟩
 ·refine UK hI ?_;clear hI;rintro f rfl hp hf hD hl Xa Xb;refine Ad (Dx hx) ?_;clear hx;rintro j hj rfl;have tK:i<30/\j=i:=by have:=A5.mp hj;obtain⟨h,e⟩:=this;simp at h e;exact And.intro h (Eq.symm e)
  refine Ah tK ?_;clear tK;rintro tL rfl;refine Ajp (n:=n+1) O G hf (Zk hl tL) hp (λON=>?_) λa A b β s' e SN hA W8 ha D4=>?_
  ·exact Ajr (n:=n) O ON (Zk hl tL) hp λw b' Aq hw BZ hb D4=>k w b' Aq hw BZ (λh=>by exact Aa (hb h)<|hD) D4
  ·refine Ah (tC G hA SN) ?_;intro Nj hβs;have eA:EJ (a++A::b)=EJ a+(1+EJ b):=by refine Aa (W9 _ _) ?_;unfold EJ;refine Aa Uy<|Aa (if_pos (SM hA)) ?_;simp;exact JL _ _
   have Km:EJ (a++β++b)=EJ a+EJ β+EJ b:=Aa (W9 _ _)<|Aa (W9 _ _) rfl;subst e;refine⟨a++β++b,rfl,D4,λX hX=>?_,.step hD SN,by simp at hl⊢;exact M82 Nj hl,λh4=>?_,λh4=>?_⟩
   ·rcases C9.mp hX with hX|hX
    ·rcases C9.mp hX with hX|hX
     ·exact hf X (by simp[hX])
     ·exact hβs X hX
    ·exact hf X (by simp[hX])
   ·exact M83 Nj eA Km (Xa (CN h4)) (tJ β)
   ·by_cases h:4<=j
    ·exact M84 eA Km (Xb h) (Ajq (W8 h))
    ·have:=Xa (YV h);have:=tJ β;exact M4 Nj eA Km h4 h ‹_› this
 ·refine UK hI ?_;clear hI;rintro f rfl hp hf hD hl Xa Xb;have:=Xb (by simp);simp at this
end
noncomputable def tM(x:Str):Ac->Bool
 | .str s _=>s==x
 | _=>false
section
variable{c:Cx}{n:Nat}{V:St}{Q:AV->St->Prop}
theorem An.Ajt{a:AV}{xs:List Str}(h:Cb V a true (xs.map .str))(hx:xs[j]?=some x)(nd:xs.Nodup)(hz:xs.length<1000)(q:Q (.int j) V):An c n (.builtin "list.index") [a,.str x] V Q:=by
 intro F P vs r A s ok I;refine BS (Lg r) ?_;clear r;rintro u v rfl r1 r2;obtain⟨l,us,k,rfl,ho,rl⟩:=h.at I r1;refine Ar (str_inv r2) ?_;clear r2;rintro t rfl;have hl:=rl.length;rewrite[Ai] at hl;have Lk:=(A5.mp hx).1;have at_:∀(i:Nat) y,us[i]?=some y->∃z tk,xs[i]?=some z/\y= .str z tk:=λi y hy=>by
  refine Ad (rl.get' hy) ?_;clear hy;intro b hb rb;refine Ad (Dx hb) ?_;clear hb;rintro z hz rfl;refine Ar (str_inv rb) ?_;clear rb;rintro tk rfl;exact⟨z,tk,hz,rfl⟩
 have he:∀y,y∈us.toArray->MeetsSeq.EqGives y (.str x t) (tM x y):=λy hy=>by
  obtain⟨i,hi⟩:=DM (by simpa using hy);refine Br (at_ i y hi) ?_;rintro z tk _ rfl;exact eqGives_str z x tk t
 refine L0 yU ⟨_,ho,rfl⟩ PySem.F.entry_list_index (PySem.F.args_list_index_2 _ _)
  (MeetsSeq.list_index l us.toArray k (.str x t) (tM x) he j (by simp;exact Gr hl Lk) (Iy (FM Lk hz) rfl) ?_ ?_) ⟨ho,F,V,_,.refl,I.toks _,.int _ _,q⟩
 ·have hju:us[j]?=some us[j]:=BG (Gr hl Lk);refine Br (at_ j _ hju) ?_;intro z tk h1 h2;replace h1:=hx▸h1;replace h1:=Ay h1;subst h1;exact Aa h2<|beq_self_eq_true x
 ·intro m hm hmj;have hmu:us[m]?=some us[m]:=BG (by simpa using hm);refine Br (at_ m _ hmu) ?_;intro z tk h1 h2;refine Aa h2 ?_;show(z==x)=false;rewrite[beq_eq_false_iff_ne];rintro rfl;have:=(LY (A5.mp h1).1 nd).mp (h1.trans hx.symm);exact GW hmj (HJ this)
theorem SO(h1:1<=m)(h3:m<=3)(hX:X∈used m):(BM m)[num X]?=some X.str:=by have h:=LC (rG h1 h3 X hX);unfold Cp at h;rewrite[List.mem_zipIdx_iff_getElem?] at h;exact h
theorem Aju(h1:1<=m)(h3:m<=3):AV.CO 8 ((BM m).map .str)=true:=by have:m=1\/m=2\/m=3:=NX h1 h3;rcases this with rfl|rfl|rfl<;>decide+kernel
open Classical in
theorem Ajv(O:AE c)(h1:1<=m)(h3:m<=3){x1 x2 x3 x4:AV}(hX:X∈used m)(q:Q (AB (num X)) V):A0 c (n+2) (.ref 603) [EI m ps x1 x2 x3 x4,Az X] V Q:=by
 have hl:(BM m).length=7+m:=Sz h3;refine Ahe.run O ?_;refine⟨rfl,?_⟩;refine AR.UX .lst X.ok (Aju h1 h3) (WF (λZ=>?_) λh=>?_)
 ·refine⟨rfl,AbR .lst,?_⟩;exact An.Ajt .lst (SO h1 h3 hX) (W3 h1 h3) (N2 (N7 hl (Kq h3 _)) rfl) (A6 q)
 ·exact absurd (Dz (A8 (SO h1 h3 hX))) h
end
inductive Mv where
 | sh (g:Nat)
 | rd (r:Nat)
 | ac
variable{ms:List Mv}
noncomputable def C0:Mv->AV
 | .sh g=>.tup [.str "shift",.int g]
 | .rd r=>.tup [.str "reduce",.int r]
 | .ac=>.tup [.str "accept"]
set_option genInjectivity false in
structure LS where
 row:List Sy
 pl:List Nat
 k:Nat
inductive Kn(ps:List Pr)(w:List Sy)(rws:List (List Int))(Ae:List (List (Nat×Nat))):LS->Mv->LS->List (List Sy)->Prop
 | sh {row:List Sy} {p0:List Nat} {z k g:Nat} {X:Sy} {rw:List Int}:w[k]?=some X->rws[z]?=some rw->rw.length=6->rw.getD (num X) 0=g->Kn ps w rws Ae ⟨row,p0++ [z],k⟩ (.sh g) ⟨row++ [X],p0++ [z]++ [g],k+1⟩ []
 | rd {l β:List Sy} {pl p0:List Nat} {z k r g:Nat} {A:Sy} {gt:List (Nat×Nat)}:ps[r]?=some (A,β)->pl.take (l.length+1)=p0++ [z]->Ae[z]?=some gt->(gt.map (·.1)).Nodup->gt.lookup (num A)=some g->Kn ps w rws Ae ⟨l++β,pl,k⟩ (.rd r) ⟨l++ [A],p0++ [z]++ [g],k⟩ [l++ [A]++w.drop k]
 | ac {pl:List Nat}:Kn ps w rws Ae ⟨[.S],pl,w.length⟩ .ac ⟨[.S],pl,w.length⟩ []
inductive Ge(ps:List Pr)(w:List Sy)(rws:List (List Int))(Ae:List (List (Nat×Nat))):LS->List Mv->LS->List (List Sy)->Prop
 | nil (st:LS):Ge ps w rws Ae st [] st []
 | cons {a b d:LS} {m:Mv} {ms:List Mv} {o os:List (List Sy)}:Kn ps w rws Ae a m b o->Ge ps w rws Ae b ms d os->Ge ps w rws Ae a (m::ms) d (o++os)
noncomputable abbrev E7(l:List Sy):AV:= .tup (l.map Az)
noncomputable abbrev Nk(a0 a1 a2 a3 a4 a5 a6 a7 a8 a9 F9 Ga:Option AV):Al:= [a0,a1,a2,a3,a4,a5,a6,a7,a8,a9,F9,Ga,none,none]
theorem Ajw(h:X∈A4):∃(i:Nat)(rest:List Nat),Aae ("abc":Str) X.str 0 (Str.length "abc") 1=i::rest/\(i:Int)+3=(num X:Int):=by
 have:X= .a\/X= .b\/X= .c:=(by decide:∀X∈A4,X= .a\/X= .b\/X= .c) X h;rcases this with rfl|rfl|rfl
 ·exact⟨0,[],by decide+kernel,rfl⟩
 ·exact⟨1,[],by decide+kernel,rfl⟩
 ·exact⟨2,[],by decide+kernel,rfl⟩
section
variable{c:Cx}{n:Nat}{V:St}{Q:AV->St->Prop}
theorem SP{a:AV}{p0:List Nat}{z:Nat}{s:St}(h:Cb s a true ((p0++ [z]).map AB))(hz:p0.length<=100000)(q:Q (AB z) s):AL c n a (.int (-1)) s Q:=
 AL.neg (x:=AB z) h (by decide) (by simp;exact Q7 rfl) (by simp;exact N2 (Kr hz _) rfl) (by
  have e:(-1+(((p0++ [z]).map AB).length:Int)).toNat=p0.length:=by simp;exact Zn
  refine Aa e ?_;simp) q
theorem Ajx{a:AV}{row:List Int}{i:Int}{k:Nat}{s:St}(e:i=k)(h:Cb s a true (row.map CG))(hi:k<row.length)(hz:row.length<=1000)(q:Q (.int (row.getD k 0)) s):AL c n a (.int i) s Q:=by subst e;exact SA h hi hz q
theorem SQ(l:List Sy):AV.flat 8 (Bm l)=true:=
 show AV.CO 7 (l.map Az)=true from KY λx hx=>by
  refine Ad (Bj.mp hx) ?_;clear hx;rintro y _ rfl;exact y.ok
theorem BX(h:n<=100000):n<=sizeLine:=AP h (by decide)
section
variable{m:Nat}{ps:List Pr}{w:List Sy}{x1 x2 x3 x4:AV}{rws:List (List Int)}{Ae:List (List (Nat×Nat))}{Ab:List Int}{RO:Addr}{a2:Option AV}{s:St}{K:Fl->Al->St->Prop}
noncomputable abbrev H8(c:Cx)(m:Nat)(ps:List Pr)(w:List Sy)(x1 x2 x3 x4:AV)(rws:List (List Int))(Ae:List (List (Nat×Nat)))(Ab:List Int)(RO:Addr)(a2:Option AV)(row:List Sy)(pl:List Nat)(k:Nat)(mv:Option AV):Al:=
 Nk (some (.lst (ps.map AZ))) (some (AG c m ps (EI m ps x1 x2 x3 x4) rws Ae Ab)) a2 (some (Bm w)) (some (Bm row)) (some (.lst (pl.map AB))) (some (.int k)) (some (.ref RO)) mv none none none
theorem Ajy{row:List Sy}{p0:List Nat}{z k':Nat}{X:Sy}{rw:List Int}(hX:w[k']?=some X)(SR:rws[z]?=some rw)(Nl:rw.length=6){g:Nat}(hg:rw.getD (num X) 0=g)(tN:X∈A4)(BZ:w.length<=1000)(hz:rws.length<=1048576)(hr:row.length<=10000)(hp:p0.length<=10000)
  (k:K .next (H8 c m ps w x1 x2 x3 x4 rws Ae Ab RO a2 (row++ [X]) (p0++ [z]++ [g]) (k'+1) none) s):
  vs c (n+2) Pp (H8 c m ps w x1 x2 x3 x4 rws Ae Ab RO a2 row (p0++ [z]) k' (some (C0 (.sh g)))) s K:=by
 refine Br (Ajw tN) ?_;intro i rest ho he;have tO:=(A5.mp hX).1;have hzl:=(A5.mp SR).1;have wl:(w.map Az).length=w.length:=Ai _;have tP:∀{R:AV->St->Prop}{s},R (Az X) s->AL c (n+2) (Bm w) (.int k') s R:=λq=>AL.B4 .lst (B8 _) (by exact Aa wl<|N2 BZ rfl) (by show(w.map Az)[k']?=_;exact Aa Bp<|Aa hX rfl) q;have hn6:num X<6:=(by decide:∀X∈A4,num X<6) X tN;have e1:(row++ [X]).map Az=row.map Az++ [Az X]:=Bs;have e2:(p0++ [z]++ [g]).map AB=(p0++ [z]).map AB++ [AB g]:=Bs;replace k:=(show H8 c m ps w x1 x2 x3 x4 rws Ae Ab RO a2 (row++ [X]) (p0++ [z]++ [g]) (k'+1) none=Nk (some (.lst (ps.map AZ))) (some (AG c m ps (EI m ps x1 x2 x3 x4) rws Ae Ab)) a2 (some (Bm w)) (some (.lst (row.map Az++ [Az X]))) (some (.lst ((p0++ [z]).map AB++ [AB g]))) (some (.int ((k'+1:Nat):Int))) (some (.ref RO)) none none none none by unfold H8;rw[e2];unfold Bm;rw[e1])▸k;refine gR ?_;intro r;refine AL.at 2 .tup rfl rfl ⟨λZ=>An.len .lst (by exact Aa wl<|N2 BZ rfl) ⟨λe=>absurd (Iw (e.trans (congrArg QR wl))) (Dh tO),λZ=>AL.at 2 .tup rfl rfl ⟨rfl,?_⟩⟩,λh=>absurd rfl h⟩;refine SP .lst (N1 hp rfl) (AL.B4 (x:=Jg rw) .lst (B8 _) (by exact Aa (Ai _)<|N2 hz rfl) (by show(rws.map Jg)[z]?=_;exact Aa Bp<|Aa SR rfl) ⟨AbS,tP (An.AcD ho (Ajx he .lst (Gr Nl hn6) (N5 Nl rfl) ?_))⟩);refine Aa hg ?_;refine⟨λh=>absurd rfl h,λZ=>tP ⟨BX (by refine Aa (Ai _) ?_;show row.length+1<=100000;exact KU hr rfl),AL.at 2 .tup rfl rfl ⟨BX ?_,k⟩⟩⟩;refine Aa (Ai _)<|Aa AY ?_;show p0.length+1+1<=100000;exact N7 (Go _ _ _) (KU hp rfl)
open Classical in
theorem Ajz(O:AE c)(h1:1<=m)(h3:m<=3)(hs:Small ps)(hu:∀p∈ps,p.1∈used m){l β:List Sy}{pl p0:List Nat}{z k' r g:Nat}{A:Sy}{gt:List (Nat×Nat)}(hp:ps[r]?=some (A,β))(A3:pl.take (l.length+1)=p0++ [z])(SS:Ae[z]?=some gt)(tQ:(gt.map (·.1)).Nodup)(Xc:gt.lookup (num A)=some g)
  (BZ:w.length<=1000) (hz:Ae.length<=1048576) (SU:(l++β).length<=10000) (PG:pl.length<=10000) {acc:List (List Sy)} (ha:acc.length<=10000) (hR:s RO=some (.list (acc.map E7)))
  (k:K .next (H8 c m ps w x1 x2 x3 x4 rws Ae Ab RO a2 (l++ [A]) (p0++ [z]++ [g]) k' none) (s.set RO (.list ((acc++ [l++ [A]++w.drop k']).map E7)))):
  vs c (n+2) Pp (H8 c m ps w x1 x2 x3 x4 rws Ae Ab RO a2 (l++β) pl k' (some (C0 (.rd r)))) s K:=by
 have Hp:=A8 hp;have Kj:=hs.ln;have FI:=(A5.mp hp).1;have rJ:=(A5.mp SS).1;have hβ3:β.length<=3:=(hs.ne _ Hp).2;have ll:=AY (as:=l) (bs:=β);have sl:((l++β).map Az).length=l.length+β.length:=(Ai _).trans ll;have IT:p0.length+1<=10000:=by have:=congrArg EQ A3;replace this:=JI▸this;replace this:=AY▸this;have:min (l.length+1) pl.length=p0.length+1:=this;exact N7 (Eq.symm this) (Mj PG)
 have e1:(l++ [A]).map Az=l.map Az++ [Az A]:=Bs;have e2:(p0++ [z]++ [g]).map AB=(p0++ [z]).map AB++ [AB g]:=Bs;have e3:(acc++ [l++ [A]++w.drop k']).map E7=acc.map E7++ [.tup (l.map Az++ [Az A]++(w.drop k').map Az)]:=Bs.trans (congrArg (λx=>acc.map E7++ [AV.tup x]) (Bs.trans (congrArg (· ++_) e1)));replace k:=e3▸k;replace k:=(show H8 c m ps w x1 x2 x3 x4 rws Ae Ab RO a2 (l++ [A]) (p0++ [z]++ [g]) k' none=Nk (some (.lst (ps.map AZ))) (some (AG c m ps (EI m ps x1 x2 x3 x4) rws Ae Ab)) a2 (some (Bm w)) (some (.lst (l.map Az++ [Az A]))) (some (.lst ((p0++ [z]).map AB++ [AB g]))) (some (.int k')) (some (.ref RO)) none none none none by unfold H8;rw[e2];unfold Bm;rw[e1])▸k;refine gR ?_;intro r0;refine AL.at 2 .tup rfl rfl ⟨λh=>absurd h (by decide+kernel),λZ=>AL.at 2 .tup rfl rfl ⟨λZ=>AL.at 2 .tup rfl rfl ?_,λh=>absurd rfl h⟩⟩;refine AL.B4 (x:=AZ (A,β)) .lst (B8 _) (by exact Aa (Ai _)<|N2 Kj rfl) (by show(ps.map AZ)[r]?=_;exact Aa Bp<|Aa hp rfl) ?_;refine Kh (λa s'=>a= .int l.length/\s'=s) (λM hM=>An.len .lst (by exact Aa sl<|N2 (N8 ll SU) rfl) (An.len .lst (by refine Aa (Ai _) ?_;lia) (hM _ _ ⟨congrArg AV.int (by refine Aa sl<|Aa (Ai _) ?_;lia),rfl⟩))) ?_;intro a s' h;refine Ah h ?_;clear h;rintro rfl rfl;have z1:((l++β).map Az).length<=sizeLine:=BX (by exact Aa sl<|N1 (N8 ll SU) rfl);have z2:(pl.map AB).length<=sizeLine:=BX (by exact Aa (Ai _)<|N1 PG rfl);refine⟨λh=>absurd h (Hs.mpr (B8 _)),λZ=>⟨z1,BW (ys:=β.map Az) ((KO _ l.length).trans (by simp)) (AR.Oi (SQ β) (SQ β) (Kg (λh=>absurd rfl h) λZ=>⟨z1,BW (ys:=l.map Az) ((I7 _ l.length).trans (by simp)) ?_⟩))⟩⟩;refine⟨BX (by exact Aa (Ai _)<|KU (CN (N8 ll SU)) rfl),z2,BW (ys:=(p0++ [z]).map AB) ((I7 _ (l.length+1)).trans (by refine AS Me ?_;exact Aa A3 rfl)) (gR ?_)⟩;intro r1;refine⟨rfl,SP .lst (N1 (CN IT) rfl) (AL.B4 (x:=Jh c gt) .lst (B8 _) (by exact Aa (Ai _)<|N2 hz rfl) (by show(Ae.map (Jh c))[z]?=_;exact Aa Bp<|Aa SS rfl) ⟨rfl,rfl,(Ajv (n:=n) O h1 h3 (hu _ Hp) (PB (AU.int c) (g:=λk:Nat=>(k:Int)) (m:=gt) .BH Xc ⟨BX ?_,?_⟩)).call⟩)⟩
 ·refine Aa (Ai _)<|Aa AY ?_;show p0.length+1+1<=100000;exact KU IT rfl
 refine⟨Du (.ref hR),Aa (Ai _)<|BX (N1 BZ rfl),BW (ys:=(w.drop k').map Az) ((KO _ k').trans Y0.symm) ?_⟩;have z3:(l.map Az++ [Az A]).length+((w.drop k').map Az).length<=100000:=by refine Aa AY<|Aa (Ai _)<|Aa (Ai _)<|Aa Y1 ?_;exact M75 BZ SU ll
 exact⟨BX z3,An.OE .lst (by exact Aa AY<|BX z3) (An.append hR (by exact Aa (Ai _)<|BX (N1 ha rfl)) k)⟩
open Classical in
theorem AjA{pl:List Nat}(BZ:w.length<=1000)(k:K .next (H8 c m ps w x1 x2 x3 x4 rws Ae Ab RO a2 [.S] pl w.length none) s):
  vs c (n+2) Pp (H8 c m ps w x1 x2 x3 x4 rws Ae Ab RO a2 [.S] pl w.length (some (C0 .ac))) s K:=by
 refine gR ?_;intro r;refine AL.at 1 .tup rfl rfl ⟨λh=>absurd h (by decide+kernel),λZ=>AL.at 1 .tup rfl rfl ⟨λh=>absurd h (by decide+kernel),λZ=>?_⟩⟩;refine AR.Oi (by decide+kernel) (by decide+kernel) (Kg (λh=>absurd rfl h) λZ=>(AR.Oi (SQ [.S]) (SQ [.S]) (Kg (λh=>absurd rfl h) λZ=>An.len .lst (by exact Aa (Ai _)<|N2 BZ rfl) ⟨λh=>absurd (by exact Aa (Ai _) rfl) h,λZ=>k⟩)))
end
theorem AjB(O:AE c){m:Nat}(h1:1<=m)(h3:m<=3){ps:List Pr}(hs:Small ps)(hu:∀p∈ps,p.1∈used m){w:List Sy}(hw:∀X∈w,X∈A4)(BZ:w.length<=1000){x1 x2 x3 x4:AV}{rws:List (List Int)}{Ae:List (List (Nat×Nat))}{Ab:List Int}(hz:rws.length<=1048576/\Ae.length<=1048576)
  {st Ed:LS} {mo:Mv} {o:List (List Sy)} (S:Kn ps w rws Ae st mo Ed o) (hr:st.row.length<=10000/\st.pl.length<=10000) {RO:Addr} {acc:List (List Sy)} (ha:acc.length<=10000) {a2:Option AV} {s:St} (hR:s RO=some (.list (acc.map E7))) {K:Fl->Al->St->Prop}
  (k:∀s',s' RO=some (.list ((acc++o).map E7))->(∀a,a≠RO->s' a=s a)->K .next (Nk (some (.lst (ps.map AZ))) (some (AG c m ps (EI m ps x1 x2 x3 x4) rws Ae Ab)) a2 (some (Bm w)) (some (Bm Ed.row)) (some (.lst (Ed.pl.map AB))) (some (.int Ed.k)) (some (.ref RO)) none none none none) s'):
  vs c (n+2) Pp (Nk (some (.lst (ps.map AZ))) (some (AG c m ps (EI m ps x1 x2 x3 x4) rws Ae Ab)) a2 (some (Bm w)) (some (Bm st.row)) (some (.lst (st.pl.map AB))) (some (.int st.k)) (some (.ref RO)) (some (C0 mo)) none none none) s K:=by
 cases S with
 | sh hX SR Nl hg=>
  refine Ajy hX SR Nl hg (hw _ (A8 hX)) BZ hz.1 hr.1 ?_ (k s (by exact Aa hR<|Aa (C8 _) rfl) λZ Z=>rfl);have:=hr.2;replace this:=AY▸this;exact YA this
 | rd hp A3 SS tQ Xc=>exact Ajz O h1 h3 hs hu hp A3 SS tQ Xc BZ hz.2 hr.1 hr.2 ha hR (k _ St.AC λa h=>St.Am h)
 | ac=>exact AjA BZ (k s (by exact Aa hR<|Aa (C8 _) rfl) λZ Z=>rfl)
end
section
variable{c:Cx}{n:Nat}{V:St}{Q:AV->St->Prop}
theorem Kn.len{w:List Sy}{a b:LS}{m:Mv}{o:List (List Sy)}(h:Kn ps w rws Ae a m b o):b.row.length<=a.row.length+1/\b.pl.length<=a.pl.length+1/\o.length<=1:=by
 cases h with
 | sh=>simp
 | rd _ A3=>
  have:=congrArg EQ A3;replace this:=JI▸this;simp at this⊢;exact N7 (Eq.symm this) (Ks _ _)
 | ac=>simp
theorem AjC(O:AE c){m:Nat}(h1:1<=m)(h3:m<=3){ps:List Pr}(hs:Small ps)(hu:∀p∈ps,p.1∈used m){w:List Sy}(hw:∀X∈w,X∈A4)(BZ:w.length<=1000){x1 x2 x3 x4:AV}{rws:List (List Int)}{Ae:List (List (Nat×Nat))}{Ab:List Int}(hz:rws.length<=1048576/\Ae.length<=1048576)
  {ms:List Mv} {e:LS} {os:List (List Sy)} (R:Ge ps w rws Ae ⟨[],[0],0⟩ ms e os) (hm:ms.length<=9000) (q:Q (.tup [.lst ((w::os).map E7),.int e.k]) V):
  A0 c (n+3) (.ref 859) [.lst (ps.map AZ),AG c m ps (EI m ps x1 x2 x3 x4) rws Ae Ab,.lst (ms.map C0),Bm w] V Q:=by
 refine Aiq.run O ?_;refine An.OE .lst (by exact Aa (Ai _)<|Bh (by assumption)) λRO Xd=>?_;refine forY (λx:LS×List (List Sy)=>Nk (some (.lst (ps.map AZ))) (some (AG c m ps (EI m ps x1 x2 x3 x4) rws Ae Ab)) (some (.lst (ms.map C0))) (some (Bm w)) (some (Bm x.1.row)) (some (.lst (x.1.pl.map AB))) (some (.int x.1.k)) (some (.ref RO)) none none none none) (λi x s=>
  (∃Nm,Ge ps w rws Ae x.1 (ms.drop i) e Nm/\w::os=x.2++Nm)/\s RO=some (.list (x.2.map E7))/\x.1.row.length<=i/\x.1.pl.length<=i+1/\x.2.length<=i+1/\V.le s) (⟨[],[0],0⟩,[w]) ⟨⟨os,R,rfl⟩,St.AC,BJ _,BJ _,BJ _,St.Pw Xd⟩ (λi x st s J hx hI hJ=>?_) λst s hI=>?_
 ·obtain⟨st,acc⟩:=st;refine Mp hI ?_;clear hI;intro hZ;refine Ad hZ ?_;clear hZ;intro Nm R2 e2;intro Xe l1 l2 l3 Hq;refine Ad (Dx hx) ?_;clear hx;rintro mo tR rfl;have HZ:=(A5.mp tR).1;have hd:ms.drop i=mo::ms.drop (i+1):=Aa (Ud HZ)<|Aa ((A5.mp tR).2) rfl;replace R2:=hd▸R2;cases R2 with
  | @cons _ Ed _ _ _ o os3 S R3=>
   refine Bq S.len ?_;intro s1 s2 s3;refine AjB (n:=n) O h1 h3 hs hu hw BZ hz S ⟨N3 (B7 (DT l1 HZ) hm) rfl,Zi hm l2 HZ⟩ (Zi hm l3 HZ) Xe λs' hRO' fr=>?_;refine hJ (Ed,acc++o) s' ⟨⟨os3,R3,by refine Aa e2 ?_;rewrite[DE];rfl⟩,hRO',AP s1 (Kr l1 _),AP s2 (Kr l2 _),Aa AY<|AI l3 s3,λa ob h=>?_⟩;rw[fr a (by rintro rfl;replace h:=Xd▸h;exact AA h)];exact Hq a ob h
 ·obtain⟨st,acc⟩:=st;refine Mp hI ?_;clear hI;intro hZ;refine Ad hZ ?_;clear hZ;intro Nm R2 e2;intro Xe l1 l2 l3 Hq;rewrite[Ai] at R2;replace R2:=(Uc (BJ _))▸R2;cases R2;rewrite[C8] at e2;subst e2;exact⟨V,_,Hq,.tup (.cons (.lst Xe Xd (.same _)) (.cons (.same _) .nil)),q⟩
end
inductive F where
 | nil
 | leaf (s:Sy) (r:F)
 | node (A:Sy) (i:Nat) (k:F) (r:F)
inductive Nd where
 | lf (s:Sy)
 | nd (A:Sy) (i:Nat) (k:F)
noncomputable def Nn:F->List AV
 | .nil=>[]
 | .leaf s r=>Cc 742 [Az s,.int 0,.lst [],Hn s.str s.str]::Nn r
 | .node A i k r=>Cc 707 [Az A,.int i,.lst (Nn k)]::Nn r
noncomputable def Bf:Nd->AV
 | .lf s=>Cc 742 [Az s,.int 0,.lst [],Hn s.str s.str]
 | .nd A i k=>Cc 707 [Az A,.int i,.lst (Nn k)]
noncomputable def C1:F->List Nd
 | .nil=>[]
 | .leaf s r=>.lf s::C1 r
 | .node A i k r=>.nd A i k::C1 r
theorem SV:∀f:F,Nn f=(C1 f).map Bf
 | .nil=>rfl
 | .leaf s r=>congrArg (_:: ·) (SV r)
 | .node A i k r=>congrArg (_:: ·) (SV r)
noncomputable def D5:List Nd->F
 | []=>.nil
 | .lf s::r=>.leaf s (D5 r)
 | .nd A i k::r=>.node A i k (D5 r)
theorem No:∀l:List Nd,C1 (D5 l)=l
 | []=>rfl
 | .lf s::r=>congrArg (_:: ·) (No r)
 | .nd A i k::r=>congrArg (_:: ·) (No r)
noncomputable def GP:F->List Nd
 | .nil=>[]
 | .leaf s r=>.lf s::GP r
 | .node A i k r=>GP k++ .nd A i k::GP r
noncomputable def FJ:Nd->List Nd
 | .lf s=>[.lf s]
 | .nd A i k=>GP k++ [.nd A i k]
noncomputable def Cv(l:List Nd):List Nd:=l.flatMap FJ
theorem PT:∀f:F,GP f=Cv (C1 f)
 | .nil=>rfl
 | .leaf s r=>by show Nd.lf s::GP r=_;exact Aa (PT r) rfl
 | .node A i k r=>by show GP k++ .nd A i k::GP r=_;refine Aa (PT r) ?_;show _=(GP k++ [.nd A i k])++Cv (C1 r);simp
noncomputable def kids:Nd->F
 | .lf _=>.nil
 | .nd _ _ k=>k
noncomputable def DJ:Nd->Sy
 | .lf s=>s
 | .nd A _ _=>A
noncomputable def CT:Nd->Bool
 | .lf _=>true
 | .nd ..=>false
theorem tS(x:Nd):FJ x=Cv (C1 (kids x))++ [x]:=by
 cases x with
 | lf s=>rfl
 | nd A i k=>show GP k++ [_]=_;exact Aa (PT _) rfl
theorem SW(ks:List Nd):ks.length<=(Cv ks).length:=by
 unfold Cv;induction ks with
 | nil=>exact BJ _
 | cons y r ih=>exact Aa Y2<|Aa AY<|Aa (tS _)<|Aa AY<|Aa Fc<|Aa Fc<|Aa Abs<|M28 ih
section
variable{c:Cx}{n:Nat}{V:St}{Q:AV->St->Prop}
theorem SX(O:AE c){x:Nd}{K:AV->St->Prop}(q:K (.bool (CT x)) V):R7 (Bf x) [(707,666),(742,732)] V (λf=>An c (n+2) (.ref f) [Bf x] V K):=by
 cases x with
 | lf s=>exact⟨rfl,(Ahq.run O (A6 q)).call⟩
 | nd A i k=>exact⟨rfl,(Ahi.run O (A6 q)).call⟩
theorem tT{x:Nd}{K:AV->St->Prop}(q:K (.lst ((C1 (kids x)).map Bf)) V):R6 (Bf x) 2 [707,742] V K:=by
 rewrite[<-SV] at q;cases x with
 | lf s=>exact⟨rfl,q⟩
 | nd A i k=>exact⟨rfl,q⟩
theorem tU{x:Nd}{K:AV->St->Prop}(q:K (Az (DJ x)) V):R6 (Bf x) 0 [707,742] V K:=by
 cases x with
 | lf s=>exact⟨rfl,q⟩
 | nd A i k=>exact⟨rfl,q⟩
inductive tV(V:St)(t:Nd)(f l:Addr)(m:Nat)(s:St):Prop
 | mk (fs ls:List Nd):s f=some (.list (fs.map Bf))->s l=some (.list (ls.map Bf))->fs++(Cv ls).reverse=(FJ t).reverse->m=(Cv ls).length->ls.length<=(Cv ls).length->V.le s->tV V t f l m s
theorem tW(O:AE c){t:Nd}(hz:(FJ t).length<=100000)(q:Q (.lst ((FJ t).map Bf)) V):A0 c (n+2) (.ref 751) [Bf t] V Q:=by
 refine Ahw.run O ?_;refine(λf hf=>(λl hl=>?_));have nl:l≠f:=by rintro rfl;replace hl:=St.AC▸hl;exact BR hl
 replace hl:=(St.Am nl)▸hl;refine⟨λm W s=>W= [some (Bf t),some (.ref f),some (.ref l),none,none]/\tV V t f l m s,(Cv [t]).length,⟨rfl,.mk [] [t] ((St.Am nl.symm).trans St.AC) St.AC (by simp[Cv]) rfl ?_ (Ca (Ca (λa ob e=>e) hf) hl)⟩,?_⟩
 ·exact SW _
 intro m _ s;intro hZ;refine Ah hZ ?_;clear hZ;rintro rfl I;obtain⟨fs,ls,HY,Kj,hp,em,hlen,Hq⟩:=I;subst em;have A3:=congrArg EQ hp;simp only[AY,List.length_reverse] at A3;refine(AR.OU (.ref Kj) ?_);rcases yW ls with rfl|⟨l0,x,rfl⟩
 ·refine bF ?_;simp only[Cv,Abt,yY,C8] at hp;subst hp;refine⟨_,.ref HY,by simp;exact BX hz,?_⟩;refine BW (ys:=(FJ t).map Bf) ((mZ _).trans (by simp)) ?_;exact⟨V,_,Hq,.same _,q⟩
 ·have e1:Cv (l0++ [x])=Cv l0++Cv (C1 (kids x))++ [x]:=by unfold Cv;refine Aa Y3<|Aa Y2<|Aa Abt<|Aa (C8 _)<|Aa (tS _) ?_;rewrite[DE];rfl
  rw[List.concat_eq_append] at Kj hp hlen A3⊢;rw[e1] at hp hlen A3⊢;simp only[AY,Fc,Abs] at A3 hlen;have ex:(List.map Bf (l0++ [x])).isEmpty=false:=by simp
  refine Aa ex ?_;refine bT ?_;have hls':s l=some (.list (l0.map Bf++ [Bf x])):=Aa Kj<|Aa Bs rfl;refine⟨Z5 (.ref Kj),An.pop hls' (by exact Aa (Ai _)<|DT (show _<=100000 by exact M6 hz A3 hlen) (by decide)) ?_⟩;have Rn:(s.set l (.list (l0.map Bf))) f=some (.list (fs.map Bf)):=(St.Am nl.symm).trans HY;refine⟨Du (.ref Rn),An.append Rn (by exact Aa (Ai _)<|BX (CN (N7 A3 hz))) ?_⟩;refine tT ?_;refine IZ (λZ=>[some (Bf t),some (.ref f),some (.ref l),some (Bf x),none]) (λi s'=>s' f=some (.list ((fs++ [x]).map Bf))/\s' l=some (.list ((l0++(C1 (kids x)).take i).map Bf))/\V.le s') ⟨Aa St.AC<|Aa Bs rfl,by refine Aa (St.Am nl)<|Aa St.AC ?_;simp,Ca (Ca Hq hl) hf⟩ (λi y si J hy hI hJ=>?_) λse hI=>?_
  ·refine Bq hI ?_;clear hI;intro a1 a2 a3;refine Ad (Dx hy) ?_;clear hy;rintro z DY rfl;refine⟨Du (.ref a2),An.append a2 ?_ ?_⟩
   ·have hk:=SW (C1 (kids x));have Vh:=SW l0;refine BX ?_;simp;exact M74 hz A3 hk Vh
   ·refine hJ _ ⟨(St.Am nl.symm).trans a1,?_,Ca a3 hl⟩;refine Aa St.AC<|Aa Fu<|Aa DY ?_;simp
  ·refine Bq hI ?_;clear hI;intro a1 a2 a3;rewrite[Ai] at a2;replace a2:=(Gp (BJ _))▸a2;have e2:Cv (l0++C1 (kids x))=Cv l0++Cv (C1 (kids x)):=by unfold Cv;exact Aa Y3 rfl
   refine⟨(Cv (l0++C1 (kids x))).length,by refine Aa e2 ?_;simp,rfl,.mk (fs++ [x]) (l0++C1 (kids x)) a1 a2 ?_ rfl ?_ a3⟩
   ·refine AS hp ?_;refine Aa e2 ?_;simp
   ·exact SW _
end
noncomputable def PU:Nd->Option Sy
 | .lf s=>some s
 | .nd ..=>none
noncomputable def PV:Nd->Option Nat
 | .lf _=>none
 | .nd _ i _=>some i
inductive Gf:List Nd->List (List Sy)->Prop
 | stop {row:List Nd}:(∀x∈row,CT x=true)->Gf row [row.map DJ]
 | step {a b:List Nd} {A:Sy} {i:Nat} {k:F} {fs:List (List Sy)}:(∀x∈b,CT x=true)->Gf (a++C1 k++b) fs->Gf (a++ .nd A i k::b) ((a++ .nd A i k::b).map DJ::fs)
theorem AjD(l:List Nd):∀k,((∀x∈l,CT x=true)/\(l.zipIdx k).filterMap (λp=>if CT p.1 then none else some p.2)= [])\/
  ∃a A i kk b t,l=a++ .nd A i kk::b/\(∀x∈b,CT x=true)/\(l.zipIdx k).filterMap (λp=>if CT p.1 then none else some p.2)=t++ [k+a.length]:=by
 induction l with
 | nil=>intro k;exact .inl ⟨(λX h=>by cases h),rfl⟩
 | cons x l ih=>
  intro k;have e:((x::l).zipIdx k).filterMap (λp=>if CT p.1 then none else some p.2)=(if CT x then none else some k).toList++(l.zipIdx (k+1)).filterMap (λp=>if CT p.1 then none else some p.2):=by refine Aa YZ<|Aa HB ?_;cases CT x<;>rfl
  rcases ih (k+1) with⟨h1,h2⟩|⟨a,A,i,kk,b,t,h1,h2,h4⟩
  ·cases x with
   | lf s=>exact .inl ⟨λy hy=>by rcases Bo.mp hy with rfl|hy;rfl;exact h1 y hy,e.trans (by exact Aa h2 rfl)⟩
   | nd A i kk=>exact .inr ⟨[],A,i,kk,l,[],rfl,h1,e.trans (by exact Aa h2 rfl)⟩
  ·refine .inr ⟨x::a,A,i,kk,b,(if CT x then none else some k).toList++t,Aa h1 rfl,h2,e.trans ?_⟩;refine Aa h4 ?_;rewrite[DE];refine Aa Fc ?_;rewrite[Go];exact Aa ((JL 1) _) rfl
theorem Gf.one{row:List Nd}{fs:List (List Sy)}(h:Gf row fs):∃r,fs=row.map DJ::r/\(((∀x∈row,CT x=true)/\r= [])\/((∃x∈row,CT x=false)/\ ∀a A i k b,row=a++ .nd A i k::b->(∀x∈b,CT x=true)->Gf (a++C1 k++b) r)):=by
 cases h with
 | stop h=>exact⟨_,rfl,.inl ⟨h,rfl⟩⟩
 | @step a b A i k fs hb hd=>
  refine⟨_,rfl,.inr ⟨⟨.nd A i k,by simp,rfl⟩,λa' A' i' k' b' e K9=>?_⟩⟩;have key:∀(a a' b b':List Nd) A A' i i' k k',a++ .nd A i k::b=a'++ .nd A' i' k'::b'->(∀x∈b,CT x=true)->(∀x∈b',CT x=true)->a=a'/\Nd.nd A i k= .nd A' i' k'/\b=b':=by
   intro a;induction a with
   | nil=>
    intro a' b b' A A' i i' k k' e hb K9;cases a' with
    | nil=>simp at e;exact⟨rfl,by simp[e],e.2⟩
    | cons y a'=>
     simp only[TD,L1,KG] at e;have:=hb (.nd A' i' k') (by refine Aa (e.2) ?_;simp);exact AJ this
   | cons x a ih=>
    intro a' b b' A A' i i' k k' e hb K9;cases a' with
    | nil=>
     simp only[TD,L1,KG] at e;have:=K9 (.nd A i k) (by refine AS (e.2) ?_;simp);exact AJ this
    | cons y a'=>
     simp only[L1,KG] at e;refine Bq (ih a' b b' A A' i i' k k' e.2 hb K9) ?_;intro h1 h2 h3;exact⟨Aa (e.1)<|Aa h1 rfl,h2,h3⟩
  refine Bq (key _ _ _ _ _ _ _ _ _ _ e hb K9) ?_;rintro rfl h2 rfl;cases h2;exact hd
section
variable{c:Cx}{n:Nat}{V:St}{Q:AV->St->Prop}
theorem AjE(O:AE c){t:Nd}(hz:(FJ t).length<=100000)(q:Q (.lst (((FJ t).filterMap PU).map λs=>Hn s.str s.str)) V):A0 c (n+3) (.ref 685) [Bf t] V Q:=by
 refine Ahk.run O ?_;refine(tW (n:=n) O hz ?_).call;refine Hj (enc:=Bf) (λx=>(PU x).map λs=>Hn s.str s.str) rfl (BX hz) (λx Z K N hK hN=>SX O ?_) ?_
 ·cases x with
  | lf s=>exact⟨(λZ=>⟨rfl,hK _ rfl⟩),(λe=>nomatch e)⟩
  | nd A i k=>exact⟨(λe=>nomatch e),λZ=>hN rfl⟩
 ·refine BW (by exact Aa QW rfl) (A6 q)
theorem AjF(O:AE c){t:Nd}(hz:(FJ t).length<=100000)(q:Q (.lst (((FJ t).filterMap PV).map AB)) V):A0 c (n+3) (.ref 690) [Bf t] V Q:=by
 refine Ahm.run O ?_;refine(tW (n:=n) O hz ?_).call;refine Hj (enc:=Bf) (λx=>(PV x).map AB) rfl (BX hz) (λx Z K N hK hN=>SX O ?_) ?_
 ·cases x with
  | lf s=>exact⟨(λZ=>hN rfl),(λe=>nomatch e)⟩
  | nd A i k=>exact⟨(λe=>nomatch e),λZ=>⟨rfl,hK _ rfl⟩⟩
 ·refine BW (by exact Aa QW rfl) (A6 q)
inductive tX(V:St)(t:Nd)(fo:Addr)(fs:List (List Sy))(m:Nat)(s:St):List (Option AV)->Prop
 | mk (row:List Nd) (Jm PW:List (List Sy)):s fo=some (.list (Jm.map E7))->Gf row PW->fs=Jm++PW.tail->m=PW.length->(∀f∈PW,f.length<=10000)->V.le s->
  tX V t fo fs m s [some (Bf t),some (.lst (row.map Bf)),some (.ref fo),some (.lst ((row.zipIdx.filterMap λp=>if CT p.1 then none else some p.2).map AB)),none,none,none]
theorem AjG(O:AE c){t:Nd}{fs:List (List Sy)}(hD:Gf [t] fs)(hf:fs.length<=10000)(hz:∀f∈fs,f.length<=10000)(q:Q (.lst (fs.map E7)) V):A0 c (n+3) (.ref 756) [Bf t] V Q:=by
 refine AhA.run O ?_;refine(tU (λfo Ou=>?_));refine Kh (λa s'=>s'=V.set fo (.list [.tup [Az (DJ t)]])/\a= .lst ((([t]:List Nd).zipIdx.filterMap λp=>if CT p.1 then none else some p.2).map AB)) (λM hM=>SX (n:=n) O ?_) ?_
 ·cases t with
  | lf s=>exact⟨(λZ=>(hM _ _ ⟨rfl,rfl⟩)),(λe=>nomatch e)⟩
  | nd A i k=>exact⟨(λe=>nomatch e),λZ=>(hM _ _ ⟨rfl,rfl⟩)⟩
 intro _ _;intro hZ;refine Ah hZ ?_;clear hZ;rintro rfl rfl;refine⟨λm W s=>tX V t fo fs m s W,fs.length,.mk [t] [[DJ t]] fs St.AC hD ?_ rfl hz (Ca (λa ob e=>e) Ou),?_⟩
 ·refine Ad hD.one ?_;intro r e _;exact Aa e rfl
 intro m W s I;obtain⟨row,Jm,PW,hs,hD2,HY,em,GL,Hq⟩:=I;subst em;refine Ad hD2.one ?_;intro r e2 hr;subst e2;have FI:row.length<=10000:=by have:=GL _ (.head _);rwa[Ai] at this
 rcases AjD row 0 with⟨h1,h2⟩|⟨a,A,i,k,b,tt,h1,h2,h4⟩
 ·refine Aa h2 ?_;have e3:r= []:=by
   rcases hr with⟨_,e⟩|⟨⟨x,hx,e⟩,_⟩
   ·exact e
   ·replace e:=(h1 x hx)▸e;exact NY e
  subst e3;refine(AR.OU .lst (bF ?_));replace q:=(show fs=Jm by rw[HY];simp)▸q;exact⟨V,_,Hq,.lst hs Ou (.same _),q⟩
 ·refine Aa h4<|Aa (KJ _) ?_;have hlen:tt.length<=10000:=by have:=congrArg EQ h4;have:=NT (λp:Nd×Nat=>if CT p.1 then none else some p.2) (row.zipIdx 0);replace this:=KQ▸this;simp at*;exact AP (UE this) (AP ‹_› FI)
  have en:(((tt++ [a.length]).map AB).isEmpty)=false:=by simp
  refine(AR.OU .lst ?_);refine Aa en ?_;refine bT (SP .lst (N1 hlen rfl) ?_);have tY:Gf (a++C1 k++b) r:=by
   rcases hr with⟨h,_⟩|⟨_,h⟩
   ·have:=h (.nd A i k) (by refine Aa h1 ?_;simp);exact AJ this
   ·exact h a A i k b h1 h2
  refine Ad tY.one ?_;intro r2 e4 _;subst h1;have IU:(a++C1 k++b).length<=10000:=by have:=GL ((a++C1 k++b).map DJ) (by refine Aa e4 ?_;simp);rwa[Ai] at this
  refine⟨Aa (Ai _)<|BX (N1 FI rfl),?_⟩;refine BW (ys:=a.map Bf) ((I7 _ a.length).trans (by simp)) ?_;refine AL.B4 (x:=Bf (.nd A i k)) .lst (B8 _) (by exact Aa (Ai _)<|N2 FI rfl) (by show((a++ .nd A i k::b).map Bf)[a.length]?=_;simp) ?_;refine tT (x:= .nd A i k) ?_;simp only[AY] at IU;refine⟨BX (by simp[kids];exact N1 (CN IU) rfl),?_⟩;refine⟨Aa (Ai _)<|BX (N1 FI rfl),?_⟩;refine BW (ys:=b.map Bf) ((KO _ (a.length+1)).trans (by refine Aa Bs<|Aa EO<|Aa Abq ?_;simp)) ?_;refine⟨BX (by simp[kids];exact N1 IU rfl),?_⟩;refine AS Bs ?_;refine AS Bs ?_;refine⟨Du (.ref hs),?_⟩;refine comp_map (enc:=Bf) (λx=>Az (DJ x)) rfl (by simp;exact BX (N8 (Go _ _ _) (N1 IU rfl))) (λx Z K hK=>tU hK) ?_;refine BW (ys:=((a++C1 k++b).map DJ).map Az) (by exact Aa BC rfl) ?_;have WL:Jm.length<=10000:=by replace hf:=HY▸hf;simp at hf;exact CN hf
  refine An.OE .lst (by simp;exact BX (N8 (Go _ _ _) (N1 IU rfl))) (An.append hs (by exact Aa (Ai _)<|BX (N1 WL rfl)) ?_);have ez:(((a++C1 k++b).map Bf).zipIdx.map λp=>AV.tup [.int p.2,p.1])=(a++C1 k++b).zipIdx.map λp=>AV.tup [.int p.2,Bf p.1]:=Aa YY<|Aa BC rfl;show(((a++C1 k++b).map Bf).zipIdx.map λp=>AV.tup [.int p.2,p.1]).length<=Bc/\_;refine Aa ez ?_;refine Hj (λp:Nd×Nat=>if CT p.1 then none else some (AB p.2)) rfl (by refine Aa KQ ?_;simp;exact BX (N8 (Go _ _ _) (N1 IU rfl))) (λp Z K N hK hN=>(SX (n:=n) O ?_)) ?_
  ·obtain⟨x,j⟩:=p;cases x with
   | lf s=>exact⟨(λZ=>hN rfl),(λe=>nomatch e)⟩
   | nd A i k=>exact⟨(λe=>nomatch e),λZ=>hK _ rfl⟩
  refine BW (SB (g:=λp:Nd×Nat=>if CT p.1 then none else some p.2) (e:=AB) λx=>by split<;>rfl) ?_;refine⟨r.length,Yd _,.mk (a++C1 k++b) (Jm++ [(a++C1 k++b).map DJ]) r (by exact Aa St.AC<|Aa (Bs (l₁:=Jm)) rfl) tY ?_ rfl (λf hf=>GL f (.tail _ hf)) (Ca Hq Ou)⟩;have e5:r.tail=r2:=Aa e4 rfl;refine Aa e5<|Aa HY ?_;rewrite[DE];show Jm++r=Jm++(_::r2);refine AS e4 ?_;rfl
end
structure CU(S:Nat)(rws:List (List Int))(Ae:List (List (Nat×Nat)))(Ab:List Int):Prop where
 l1:rws.length=S
 l2:Ae.length=S
 l3:Ab.length=S
 le:S<=1048576
 row:∀r∈rws,r.length=6/\ ∀x∈r,-1000<=x
 df:∀d∈Ab,0<=d/\d<=1000
 gt:∀g∈Ae,(g.map (·.1)).Nodup
noncomputable def BI(rws:List (List Int))(Ab:List Int)(z:Nat):Int:=if(∀i∈BN 6,(rws.getD z []).getD i 0=0) then Ab.getD z 0 else 0
noncomputable def act(rws:List (List Int))(Ab:List Int)(z i:Nat):Int:=if(rws.getD z []).getD i 0=0 then-Ab.getD z 0 else(rws.getD z []).getD i 0
theorem getD_mem{α:Type}{l:List α}{d:α}(h:i<l.length):l.getD i d∈l:=by exact Aa Dk<|Aa (BG h)<|NN h
theorem getD_map{α:Type}{l:List α}{f:α->AV}{d:α}(h:i<l.length):(l.map f)[i]?=some (f (l.getD i d)):=by exact Aa Bp<|Aa Dk<|Aa (BG h) rfl
section
variable{c:Cx}{n:Nat}{V:St}{Q:AV->St->Prop}{m:Nat}{ps:List Pr}{gr:AV}{S:Nat}{rws:List (List Int)}{Ae:List (List (Nat×Nat))}{Ab:List Int}
theorem PX{α:Type}{a:AV}{b:Bool}{l:List α}{f:α->AV}{s:St}(d:α)(h:Cb s a b (l.map f))(hi:i<l.length)(hz:l.length<=2000000)(q:Q (f (l.getD i d)) s):AL c n a (.int i) s Q:=
 AL.B4 h (B8 _) (by exact Aa (Ai _)<|N2 hz rfl) (getD_map hi) q
theorem Xf(O:AE c)(T:CU S rws Ae Ab){z:Nat}(hz:z<S)(hi:i<6)(q:Q (.int ((rws.getD z []).getD i 0)) V):A0 c (n+2) (.ref 235) [AG c m ps gr rws Ae Ab,.int z,.int i] V Q:=by have h:=T.row _ (getD_mem (d:= []) (by exact Aa T.l1<|hz:z<rws.length));refine Age.run O ?_;refine⟨rfl,?_⟩;refine PX (f:=Jg) [] .lst (by exact Aa T.l1<|hz) (by refine Aa T.l1 ?_;have:=T.le;exact N1 this rfl) ?_;exact SA .lst (by exact Aa (h.1)<|hi) (by refine Aa (h.1) ?_;decide) (A6 q)
theorem Xg(O:AE c)(T:CU S rws Ae Ab){z:Nat}(hz:z<S)(q:Q (.int (Ab.getD z 0)) V):A0 c (n+2) (.ref 172) [AG c m ps gr rws Ae Ab,.int z] V Q:=by refine AfX.run O ?_;refine⟨rfl,?_⟩;exact PX (f:=CG) 0 .lst (by exact Aa T.l3<|hz) (by refine Aa T.l3 ?_;have:=T.le;exact N1 this rfl) (A6 q)
theorem AjH(O:AE c){r:Nat}{p:Pr}(hp:ps[r]?=some p)(hl:ps.length<=1000)(q:Q (AB (num p.1)) V):A0 c (n+2) (.ref 137) [AG c m ps gr rws Ae Ab,.int r] V Q:=by refine AfR.run O ?_;refine⟨rfl,?_⟩;exact AL.B4 .lst (B8 _) (by exact Aa (Ai _)<|N2 hl rfl) (by show(ps.map λp=>AB (num p.1))[r]?=_;exact Aa Bp<|Aa hp rfl) (A6 q)
theorem AjI(O:AE c){r:Nat}{p:Pr}(hp:ps[r]?=some p)(hl:ps.length<=1000)(q:Q (AB p.2.length) V):A0 c (n+2) (.ref 144) [AG c m ps gr rws Ae Ab,.int r] V Q:=by refine AfT.run O ?_;refine⟨rfl,?_⟩;exact AL.B4 .lst (B8 _) (by exact Aa (Ai _)<|N2 hl rfl) (by show(ps.map λp=>AB p.2.length)[r]?=_;exact Aa Bp<|Aa hp rfl) (A6 q)
theorem AjJ(O:AE c){r:Nat}{p:Pr}(hp:ps[r]?=some p)(hl:ps.length<=1000)(q:Q (.int 0) V):A0 c (n+2) (.ref 151) [AG c m ps gr rws Ae Ab,.int r] V Q:=by refine AfV.run O ?_;refine⟨rfl,?_⟩;exact AL.B4 .lst (B8 _) (by exact Aa (Ai _)<|N2 hl rfl) (by show(ps.map λp=>AV.int 0)[r]?=_;exact Aa Bp<|Aa hp rfl) (A6 q)
theorem AjK(O:AE c)(T:CU S rws Ae Ab){z k g:Nat}(hz:z<S)(hk:(Ae.getD z []).lookup k=some g)(q:Q (.int g) V):A0 c (n+2) (.ref 242) [AG c m ps gr rws Ae Ab,.int z,.int k] V Q:=by
 have nd:=T.gt _ (getD_mem (d:= []) (by exact Aa T.l2<|hz:z<Ae.length));refine Agg.run O ?_;refine⟨rfl,?_⟩;refine PX (f:=Jh c) [] .lst (by exact Aa T.l2<|hz) (by refine Aa T.l2 ?_;have:=T.le;exact N1 this rfl) ?_;refine⟨Vu .BH,?_⟩;refine qZ (AU.int c) (g:=λk:Nat=>(k:Int)) (λZ Z=>Iw) (m:=Ae.getD z []) nd .BH (λv hv=>?_) λh=>?_
 ·replace hv:=hk▸hv;replace hv:=Ay hv;subst hv;exact A6 q
 ·exact absurd (Dz (f:=(·.1)) (LC hk)) h
theorem AjL(O:AE c)(h1:1<=m)(h3:m<=3)(hX:X= .en\/X∈A4)(q:Q (AB (num X)) V):A0 c (n+2) (.ref 130) [AG c m ps gr rws Ae Ab,Az X] V Q:=by
 refine AfP.run O ?_;refine⟨rfl,Vu .BH,?_⟩;have hu:X∈used m:=by
  rcases hX with rfl|h
  ·exact CW _ (by decide)
  ·exact rV h
 have h6:num X<6:=by rcases hX with rfl|h;decide;exact(by decide:∀X∈A4,num X<6) X h
 have ha:=SO h1 h3 hu;refine An.cR (AU.str c) (κs:=(BM m).take 6) (k:=X.str) .BH (λi v e1 e2=>?_) λh=>?_
 ·replace e2:=Bp▸e2;rewrite[D8] at e2;refine Ad e2 ?_;clear e2;rintro j e2 rfl;have hj:=KE (n:=6) (i:=i) (by have:=(A5.mp e2).1;simpa using this);replace e2:=hj▸e2;replace e2:=Ay e2;subst e2;have Xh:i<6:=by have:=(A5.mp e1).1;simp at this;exact B7 this (NA _ _)
  replace e1:=(YO Xh)▸e1;have:=(LY (A5.mp e1).1 (W3 h1 h3)).mp (e1.trans ha.symm);subst this;exact A6 q
 ·refine absurd (A8 (i:=num X) ?_) h;exact Aa (YO h6)<|ha
theorem AjM(O:AE c)(T:CU S rws Ae Ab){z:Nat}(hz:z<S)(hi:i<6)(q:Q (.int (act rws Ab z i)) V):A0 c (n+3) (.ref 186) [AG c m ps gr rws Ae Ab,.int z,.int i] V Q:=by
 have h:=T.row _ (getD_mem (d:= []) (by exact Aa T.l1<|hz:z<rws.length));have hx:=h.2 _ (getD_mem (d:=0) (by exact Aa (h.1)<|hi:i<(rws.getD z []).length));refine Af1.run O ?_;refine⟨rfl,(Xf (n:=n) O T hz hi ⟨λe=>?_,λZ=>⟨λe=>?_,λe=>?_⟩⟩).call⟩
 ·replace hx:=e▸hx;exact absurd hx (by decide)
 ·refine⟨rfl,(Xg (n:=n) O T hz ?_).call⟩;unfold act at q;replace q:=(if_pos e)▸q;exact A6 q
 ·unfold act at q;replace q:=(if_neg e)▸q;exact A6 q
theorem AjN(O:AE c)(T:CU S rws Ae Ab){z:Nat}(hz:z<S)(q:∀b,(if b then Ab.getD z 0 else 0)=BI rws Ab z->Q (.bool b) V):A0 c (n+3) (.ref 200) [AG c m ps gr rws Ae Ab,.int z] V Q:=by
 refine Agc.run O ?_;refine⟨rfl,(Xg (n:=n) O T hz ⟨λe=>A6 (q false (by unfold BI;refine Aa e ?_;simp)),λZ=>?_⟩).call⟩;refine⟨rfl,6,rfl,by decide,λi W s=>W= [some (AG c m ps gr rws Ae Ab),some (.int z),none,none]/\s=V/\ ∀j,j<i->(rws.getD z []).getD j 0=0,⟨rfl,rfl,λj h=>absurd h (Gi _)⟩,λi x FE si hx hI=>?_,λHV se hI=>?_⟩
 ·refine Bq hI ?_;clear hI;rintro rfl rfl h0;refine Ad (Dx (f:=λi:Nat=>AV.int i) hx) ?_;rintro j hj rfl;have Ep:=(A5.mp hj).1;replace Ep:=FS▸Ep;replace hj:=(KE Ep)▸hj;replace hj:=Ay hj;subst hj;refine⟨rfl,(Xf (n:=n) O T hz Ep ⟨λe=>?_,λe=>?_⟩).call⟩
  ·refine A6 (q false ?_);exact(if_neg (c:=∀i∈BN 6,(rws.getD z []).getD i 0=0) λh=>e (h i (JE.mpr Ep))).symm
  ·refine⟨rfl,rfl,λj hj=>?_⟩;rcases Abk.mp hj with h|rfl
   ·exact h0 j h
   ·exact e
 ·refine Bq hI ?_;clear hI;rintro rfl rfl h0;refine A6 (q true ?_);exact(if_pos (c:=∀i∈BN 6,(rws.getD z []).getD i 0=0) λj hj=>h0 j (by simpa using JE.mp hj)).symm
theorem AjO(O:AE c)(T:CU S rws Ae Ab){z:Nat}(hz:z<S)(q:∀l:List Nat,(∀x∈l,x<6)->l.length<=6->Q (.lst (l.map AB)) V):A0 c (n+3) (.ref 193) [AG c m ps gr rws Ae Ab,.int z] V Q:=by
 refine Af6.run O ?_;refine(λl hl=>?_);refine⟨rfl,6,rfl,by decide,λi W s=>W= [some (AG c m ps gr rws Ae Ab),some (.int z),some (.ref l),none,none,none,none,none,none]/\ ∃xs:List Nat,s l=some (.list (xs.map AB))/\(∀x∈xs,x<6)/\xs.length<=i/\V.le s,⟨rfl,[],St.AC,(λx h=>by cases h),BJ _,St.Pw hl⟩,λi x FE si hx hI=>?_,λHV se hI=>?_⟩
 ·obtain⟨rfl,xs,e1,e2,e3,e4⟩:=hI;refine Ad (Dx (f:=λi:Nat=>AV.int i) hx) ?_;rintro j hj rfl;have Ep:=(A5.mp hj).1;replace Ep:=FS▸Ep;replace hj:=(KE Ep)▸hj;replace hj:=Ay hj;subst hj;have no:(λW s=>W= [some (AG c m ps gr rws Ae Ab),some (.int z),some (.ref l),none,none,none,none,none,none]/\ ∃xs:List Nat,s l=some (.list (xs.map AB))/\(∀x∈xs,x<6)/\xs.length<=i+1/\V.le s) [some (AG c m ps gr rws Ae Ab),some (.int z),some (.ref l),none,none,none,none,none,none] si:=⟨rfl,xs,e1,e2,Yo e3,e4⟩;refine⟨λZ=>⟨λZ=>?_,λZ=>no⟩,λZ=>no⟩;refine⟨rfl,(Xf (n:=n) O T hz Ep ⟨λZ=>⟨λZ=>?_,λZ=>no⟩,λZ=>no⟩).call⟩;refine⟨Du (.ref e1),An.append e1 (BX (by exact Aa (Ai _)<|N3 (DT e3 Ep) rfl)) ?_⟩;refine⟨rfl,xs++ [i],Aa St.AC<|Aa Bs rfl,λx hx=>?_,by simp;assumption,Ca e4 hl⟩;rcases C9.mp hx with h|h
  ·exact e2 x h
  ·have hZ:=B3.mp h;clear h;subst hZ;exact Ep
 ·obtain⟨rfl,xs,e1,e2,e3,e4⟩:=hI;exact⟨V,_,e4,.lst e1 hl (.same _),q xs e2 (by simpa using e3)⟩
end
structure Own(V:St)(As:List Addr)(Os:List BD)(s:St):Prop where
 ln:As.length=Os.length
 nd:∀(i j:Nat) a,As[i]?=some a->As[j]?=some a->i=j
 at_:∀(i:Nat) a,As[i]?=some a->s a=Os[i]?
 nn:∀a∈As,V a=none
 fr:V.le s
theorem Own.get{s:St}(h:Own V As Os s)(i:Nat){a:Addr}{o:BD}(ha:As[i]?=some a:=by rfl)(ho:Os[i]?=some o:=by rfl):s a=some o:=(h.at_ i a ha).trans ho
theorem Own.mem{s:St}(h:Own V As Os s){a:Addr}(ha:a∈As):s a≠none:=by refine Ar (DM ha) ?_;clear ha;intro i hi;rw[h.at_ i a hi,BG (by refine AS h.ln ?_;exact(A5.mp hi).1)];exact λe=>nomatch e
theorem Own.set{s:St}(h:Own V As Os s)(i:Nat){a:Addr}{x:BD}(ha:As[i]?=some a:=by rfl):Own V As (Os.set i x) (s.set a x):=by
 have hi:=(A5.mp ha).1;refine⟨Aa Uw<|h.ln,h.nd,λj b hb=>?_,h.nn,Ca h.fr (h.nn a (A8 ha))⟩;by_cases e:i=j
 ·subst e;replace hb:=ha▸hb;replace hb:=Ay hb;subst hb;rw[St.AC,Q1 (by refine AS h.ln ?_;exact hi)]
 ·refine Aa (FP e) ?_;rewrite[St.Am];exact Aa (h.at_ j b hb) rfl;rintro rfl;exact e (h.nd _ _ _ ha hb)
theorem Own.put{s:St}(h:Own V As Os s){b:Addr}{x:BD}(hb:s b=none):Own V As Os (s.set b x):=by
 have nb:b∉As:=λm=>h.mem m hb;refine⟨h.ln,h.nd,λj a ha=>?_,h.nn,λa ob e=>?_⟩
 ·rw[St.Am (by rintro rfl;exact nb (A8 ha))];exact h.at_ j a ha
 ·have:=h.fr a ob e;rw[St.Am (by rintro rfl;replace this:=hb▸this;exact AA this)];exact this
theorem Own.tZ{s:St}(h:Own V As Os s){b:Addr}(hb:s b=none):V b=none:=by
 cases e:V b with
 | none=>rfl
 | some ob=>replace hb:=(h.fr _ _ e)▸hb;exact BR hb
theorem Own.new{s:St}(h:Own V As Os s)(i:Nat){b:Addr}{x:BD}(hb:s b=none)(hi:i<As.length:=by exact Ds rfl):Own V (As.set i b) (Os.set i x) (s.set b x):=by
 have nb:b∉As:=λm=>h.mem m hb;have p:=h.put (x:=x) hb;refine⟨Aa Uw<|Aa Uw<|h.ln,?_,λj a ha=>?_,λa ha=>?_,p.fr⟩
 ·intro j k a hj hk;by_cases e1:i=j
  ·subst e1;replace hj:=(Q1 hi)▸hj;replace hj:=Ay hj;subst hj;by_cases e2:i=k
   ·exact e2
   ·replace hk:=(FP e2)▸hk;exact absurd (A8 hk) nb
  ·replace hj:=(FP e1)▸hj;by_cases e2:i=k
   ·subst e2;replace hk:=(Q1 hi)▸hk;replace hk:=Ay hk;subst hk;exact absurd (A8 hj) nb
   ·replace hk:=(FP e2)▸hk;exact h.nd _ _ _ hj hk
 ·by_cases e:i=j
  ·subst e;replace ha:=(Q1 hi)▸ha;replace ha:=Ay ha;subst ha;rw[St.AC,Q1 (by refine AS h.ln ?_;exact hi)]
  ·rw[FP e] at ha⊢;exact p.at_ j a ha
 ·rcases List.mem_or_eq_of_mem_set ha with h1|rfl
  ·exact h.nn a h1
  ·exact h.tZ hb
theorem Own.add{s:St}(h:Own V As Os s){b:Addr}{x:BD}(hb:s b=NE):Own V (As++ [b]) (Os++ [x]) (s.set b x):=by
 have nb:b∉As:=λm=>h.mem m hb;have p:=h.put (x:=x) hb;refine⟨by simp[h.ln],λj k a hj hk=>?_,λj a ha=>?_,λa ha=>?_,p.fr⟩
 ·have key:∀t:Nat,(As++ [b])[t]?=some a->(t<As.length/\As[t]?=some a)\/(t=As.length/\a=b):=λt ht=>by
   rcases KS t As.length with hl|hl
   ·replace ht:=(Fv hl)▸ht;exact .inl ⟨hl,ht⟩
   ·have:=(A5.mp ht).1;simp at this;have e:t=As.length:=EM (EL this) hl;subst e;replace ht:=(KR hl)▸ht;simp at ht;exact .inr ⟨rfl,ht.symm⟩
  rcases key j hj with⟨a1,a2⟩|⟨a1,rfl⟩
  ·rcases key k hk with⟨b1,b2⟩|⟨b1,rfl⟩
   ·exact h.nd _ _ _ a2 b2
   ·exact absurd (A8 a2) nb
  ·rcases key k hk with⟨b1,b2⟩|⟨b1,_⟩
   ·exact absurd (A8 b2) nb
   ·exact HG a1 (Eq.symm b1)
 ·rcases KS j As.length with hj|hj
  ·replace ha:=(Fv hj)▸ha;rw[Fv (by refine AS h.ln ?_;exact hj)];exact p.at_ j a ha
  ·replace ha:=(KR hj)▸ha;rw[KR (by refine AS h.ln ?_;exact hj),<-h.ln];have:=(A5.mp ha).1;simp at this;have e:j-As.length=0:=by assumption
   rw[e] at ha⊢;replace ha:=Ay ha;subst ha;exact Aa St.AC rfl
 ·rcases C9.mp ha with h1|h1
  ·exact h.nn a h1
  ·have hZ:=B3.mp h1;clear h1;subst hZ;exact h.tZ hb
theorem Own.base{b:Addr}{x:BD}(hb:V b=NE):Own V [b] [x] (V.set b x):=by
 have z:∀(i:Nat) a,[b][i]?=some a->i=0/\a=b:=λi a h=>by
  cases i with
  | zero=>replace h:=Ay h;subst h;exact⟨rfl,rfl⟩
  | succ i=>exact AA h
 refine⟨rfl,λi j a hi hj=>(z i a hi).1.trans (z j a hj).1.symm,λj a ha=>?_,λa ha=>by have hZ:=B3.mp ha;clear ha;subst hZ;exact hb,St.Pw hb⟩;refine Ah (z j a ha) ?_;rintro rfl rfl;exact St.AC
set_option genInjectivity false in
structure AD where
 da:Addr
 lo:Addr
 st:Addr
 va:Addr
 fa:Addr
 mo:Addr
 tr:Addr
set_option genInjectivity false in
structure CC where
 m:List (Nat×Int)
 pl:List Nat
 vs:List Nd
 lk:Option Sy
 ct:Nat
 an:Str
 v:Option Nd
 fl:List AV
 ms:List Mv
 p:Nat
noncomputable def txt:Sy->Str
 | .en=>""
 | X=>X.str
noncomputable abbrev Ce(X:Sy):AV:=Hn X.str (txt X)
noncomputable def FK:Option Sy->AV
 | none=>.none
 | some X=>Ce X
noncomputable def vA:Option Nd->AV
 | none=>.none
 | some x=>Bf x
theorem SY(o:Option Sy):R5 (FK o)=true:=by cases o<;>rfl
theorem SZ(o:Option Nd):R5 (vA o)=true:=by
 cases o with
 | none=>rfl
 | some x=>cases x<;>rfl
noncomputable abbrev H9(T HA:AV)(lo st va:Addr)(lk:AV)(ct:AV)(an:AV)(v:AV)(fa mo:Addr):BD:=Bw 537 [T,HA,.int 5000,.ref lo,.ref st,.ref va,lk,ct,an,v,.ref fa,.ref mo]
abbrev HC(c:Cx)(V:St)(T HA tk:AV)(A:AD)(C:CC)(s:St):Prop:=Own V [A.da,A.lo,A.st,A.va,A.fa,A.mo,A.tr]
 [H9 T HA A.lo A.st A.va (FK C.lk) (.int C.ct) (.str C.an) (vA C.v) A.fa A.mo,B2 (AU.int c) (λk:Nat=>(k:Int)) AV.int C.m,.list (C.pl.map AB),.list (C.vs.map Bf),.list C.fl,.list (C.ms.map C0),Bw 370 [tk,.int C.p]] s
section
variable{c:Cx}{n:Nat}{V s:St}{Q:AV->St->Prop}
section
variable{da C k j:Nat}{As:List Addr}{vs:List AV}{Or:List BD}{Cs:List Nat}{e:PE}{nm:String}{r:PS}{W:Al}{R:Fl->Al->St->Prop}
theorem PY(G:Own V (da::As) (Bw C vs::Or) s)(B1:List AV){x:AV}(h1:∀K s,K x s->vc c n e W s K)(h2:EG W j=some (.obj C da))(h3:(GH C Cs&& !Cf vs.length k)=true)(h4:Bw C (J8 vs k x)=Bw C B1)
  (q:∀s',Own V (da::As) (Bw C B1::Or) s'->Internal.vs c n r W s' R):Internal.vs c n (.AQ e (.v j) nm k Cs r) W s R:=h1 _ _ (by
 show Ka (EG W j) _;refine Aa h2 ?_;refine Bz.mk (Bu h3).1 ⟨vs,G.get 0,?_⟩;exact Aa (show Cf vs.length k=false by simpa using(Bu h3).2)<|q _ (h4▸G.set 0))
theorem D6(G:Own V (da::As) (Bw C vs::Or) s)(B1:List AV){x:AV}(h1:∀K s,K x s->vc c n e W s K)(h2:EG W j=some (.obj C da))(h3:(GH C Cs&&(Cf vs.length k&&Da k vs.length))=true)(h4:Bw C (vs++ [x])=Bw C B1)
  (q:∀s',Own V (da::As) (Bw C B1::Or) s'->Internal.vs c n r W s' R):Internal.vs c n (.AQ e (.v j) nm k Cs r) W s R:=h1 _ _ (by
 show Ka (EG W j) _;refine Aa h2 ?_;refine Bz.mk (Bu h3).1 ⟨vs,G.get 0,?_⟩;exact Aa ((Bu (Bu h3).2).1)<|Bz.mk (Bu (Bu h3).2).2 (q _ (h4▸G.set 0)))
theorem S2(G:Own V (da::As) (Bw C vs::Or) s)(B1:Addr->List AV){xs:List AV}(h1:∀K s,K (.tup xs) s->vc c n e W s K)(hz:Cf xs.length Bc=true)(h2:EG W j=some (.obj C da))(h3:(GH C Cs&&(Cf vs.length k&&Da k vs.length))=true)(h4:∀a,Bw C (vs++ [.ref a])=Bw C (B1 a))
  (q:∀a s',Own V (da::(As++ [a])) (Bw C (B1 a)::(Or++ [.list xs])) s'->Internal.vs c n r W s' R):Internal.vs c n (.AQ (.lst true e) (.v j) nm k Cs r) W s R:=h1 _ _ (Bz.mk hz λa hN=>by
 show Ka (EG W j) _;refine Aa h2 ?_;have G:=G.add (x:= .list xs) hN;refine Bz.mk (Bu h3).1 ⟨vs,G.get 0,?_⟩;exact Aa ((Bu (Bu h3).2).1)<|Bz.mk (Bu (Bu h3).2).2 (q a _ (h4 a▸G.set 0)))
theorem S4(G:Own V (da::As) (Bw C vs::Or) s)(i:Nat)(B1:Addr->List AV){xs:List AV}(h1:∀K s,K (.tup xs) s->vc c n e W s K)(hz:Cf xs.length Bc=true)(h2:EG W j=some (.obj C da))(h3:(GH C Cs&&(!Cf vs.length k&&Cf (i+1) As.length))=true)(h4:∀a,Bw C (J8 vs k (.ref a))=Bw C (B1 a))
  (q:∀a s',Own V (da::As.set i a) (Bw C (B1 a)::Or.set i (.list xs)) s'->Internal.vs c n r W s' R):Internal.vs c n (.AQ (.lst true e) (.v j) nm k Cs r) W s R:=h1 _ _ (Bz.mk hz λa hN=>by
 show Ka (EG W j) _;refine Aa h2 ?_;have G:=G.new (i+1) (x:= .list xs) hN (Tu (Ds (Bu (Bu h3).2).2));refine Bz.mk (Bu h3).1 ⟨vs,G.get 0,?_⟩;exact Aa (show Cf vs.length k=false by simpa using(Bu (Bu h3).2).1)<|q a _ (h4 a▸G.set 0))
theorem uA(G:Own V (da::As) (Bw C vs::Or) s)(B1:Addr->List AV)(h2:EG W j=some (.obj C da))(h3:(GH C Cs&&(Cf vs.length k&&Da k vs.length))=true)(h4:∀a,Bw C (vs++ [.ref a])=Bw C (B1 a))
  (q:∀a s',Own V (da::(As++ [a])) (Bw C (B1 a)::(Or++ [.dict [] []])) s'->Internal.vs c n r W s' R):Internal.vs c n (.AQ (.dict true) (.v j) nm k Cs r) W s R:=λa hN=>by
 show Ka (EG W j) _;refine Aa h2 ?_;have G:=G.add (x:= .dict [] []) hN;refine Bz.mk (Bu h3).1 ⟨vs,G.get 0,?_⟩;exact Aa ((Bu (Bu h3).2).1)<|Bz.mk (Bu (Bu h3).2).2 (q a _ (h4 a▸G.set 0))
end
theorem AjP(O:AE c){T HA:AV}{da lo:Addr}{d:BD}(G:Own V [da,lo] [Bw 537 [T,HA,.int 5000,.ref lo],d] s)
  (q:∀st va fa mo s',Own V [da,lo,st,va,fa,mo] [H9 T HA lo st va .none (.int 0) (.str "more") .none fa mo,d,.list [.int 0],.list [],.list [],.list []] s'->Q .none s'):A0 c (n+2) (.ref 396) [.obj 537 da] s Q:=by
 refine mF.run O ?_;refine S2 G (λst=>[T,HA,.int 5000,.ref lo,.ref st]) (λZ Z k=>k) rfl rfl rfl (λZ=>rfl) λst s G=>?_;refine S2 G (λva=>[T,HA,.int 5000,.ref lo,.ref st,.ref va]) (λZ Z k=>k) rfl rfl rfl (λZ=>rfl) λva s G=>?_;refine D6 G [T,HA,.int 5000,.ref lo,.ref st,.ref va,.none] (λZ Z k=>k) rfl rfl rfl λs G=>?_;refine D6 G [T,HA,.int 5000,.ref lo,.ref st,.ref va,.none,.int 0] (λZ Z k=>k) rfl rfl rfl λs G=>?_;refine D6 G [T,HA,.int 5000,.ref lo,.ref st,.ref va,.none,.int 0,.str "more"] (λZ Z k=>k) rfl rfl rfl λs G=>?_;refine D6 G [T,HA,.int 5000,.ref lo,.ref st,.ref va,.none,.int 0,.str "more",.none] (λZ Z k=>k) rfl rfl rfl λs G=>?_;refine S2 G (λfa=>[T,HA,.int 5000,.ref lo,.ref st,.ref va,.none,.int 0,.str "more",.none,.ref fa]) (λZ Z k=>k) rfl rfl rfl (λZ=>rfl) λfa s G=>?_;exact S2 G (λmo=>[T,HA,.int 5000,.ref lo,.ref st,.ref va,.none,.int 0,.str "more",.none,.ref fa,.ref mo]) (λZ Z k=>k) rfl rfl rfl (λZ=>rfl) λmo s G=>A6 (q st va fa mo _ G)
theorem AjQ(O:AE c){T hn:AV}(q:∀da lo st va fa mo s',Own V [da,lo,st,va,fa,mo] [H9 T (Cc 794 [hn]) lo st va .none (.int 0) (.str "more") .none fa mo,.dict [] [],.list [.int 0],.list [],.list [],.list []] s'->Q (.obj 537 da) s'):An c (n+4) (.ref 537) [T,Cc 794 [hn]] V Q:=by refine Hi O (fI:=389) (by decide+kernel) λda hd=>Ags.code O (das:= [.int 5000]) (λF=>.cons (.int _ _) .nil) rfl rfl ?_;have G:Own V [da] [Bw 537 []] _:=Own.base hd;refine D6 G [T] (λZ Z k=>k) rfl rfl rfl λs G=>?_;refine D6 G [T,Cc 794 [hn]] (λZ Z k=>k) rfl rfl rfl λs G=>?_;refine D6 G [T,Cc 794 [hn],.int 5000] (λZ Z k=>k) rfl rfl rfl λs G=>?_;refine uA G (λlo=>[T,Cc 794 [hn],.int 5000,.ref lo]) rfl rfl (λZ=>rfl) λlo s G=>?_;refine⟨⟨_,G.get 0⟩,(AjP (n:=n) O G λst va fa mo s' G=>?_).call⟩;exact A6 ⟨rfl,A6 (q da lo st va fa mo _ G)⟩
theorem AjR(O:AE c){T HA tk:AV}{A:AD}{C:CC}(G:HC c V T HA tk A C s)
  (q:∀st va fa mo s',HC c V T HA tk ⟨A.da,A.lo,st,va,fa,mo,A.tr⟩ ⟨C.m,[0],[],none,0,"more",none,[],[],C.p⟩ s'->Q .none s'):A0 c (n+2) (.ref 396) [.obj 537 A.da] s Q:=by
 obtain⟨da,lo,PF,va0,Np,LJ,tr⟩:=A;refine mF.run O ?_;refine S4 G 1 (λst=>[T,HA,.int 5000,.ref lo,.ref st,.ref va0,FK C.lk,.int C.ct,.str C.an,vA C.v,.ref Np,.ref LJ]) (λZ Z k=>k) rfl rfl rfl (λZ=>rfl) λst s G=>?_;refine S4 G 2 (λva=>[T,HA,.int 5000,.ref lo,.ref st,.ref va,FK C.lk,.int C.ct,.str C.an,vA C.v,.ref Np,.ref LJ]) (λZ Z k=>k) rfl rfl rfl (λZ=>rfl) λva s G=>?_;refine PY G [T,HA,.int 5000,.ref lo,.ref st,.ref va,.none,.int C.ct,.str C.an,vA C.v,.ref Np,.ref LJ] (λZ Z k=>k) rfl rfl rfl λs G=>?_;refine PY G [T,HA,.int 5000,.ref lo,.ref st,.ref va,.none,.int 0,.str C.an,vA C.v,.ref Np,.ref LJ] (λZ Z k=>k) rfl rfl rfl λs G=>?_;refine PY G [T,HA,.int 5000,.ref lo,.ref st,.ref va,.none,.int 0,.str "more",vA C.v,.ref Np,.ref LJ] (λZ Z k=>k) rfl rfl rfl λs G=>?_;refine PY G [T,HA,.int 5000,.ref lo,.ref st,.ref va,.none,.int 0,.str "more",.none,.ref Np,.ref LJ] (λZ Z k=>k) rfl rfl rfl λs G=>?_;refine S4 G 3 (λfa=>[T,HA,.int 5000,.ref lo,.ref st,.ref va,.none,.int 0,.str "more",.none,.ref fa,.ref LJ]) (λZ Z k=>k) rfl rfl rfl (λZ=>rfl) λfa s G=>?_;exact S4 G 4 (λmo=>[T,HA,.int 5000,.ref lo,.ref st,.ref va,.none,.int 0,.str "more",.none,.ref fa,.ref mo]) (λZ Z k=>k) rfl rfl rfl (λZ=>rfl) λmo s G=>A6 (q st va fa mo _ G)
end
def CV(S:Nat)(rws:List (List Int))(Ab:List Int)(m:List (Nat×Int)):Prop:=(m.map (·.1)).Nodup/\ ∀p∈m,p.1<S/\p.2=BI rws Ab p.1
theorem CV.len{S:Nat}{m:List (Nat×Int)}(h:CV S rws Ab m):m.length<=S:=by
 have:=h.1.length_le_of_subset (l₂:=BN S) λx hx=>by
  refine Ad (Bj.mp hx) ?_;clear hx;rintro p hp rfl;exact JE.mpr (h.2 p hp).1
 rwa[Ai,FS] at this
noncomputable abbrev ck(w:List Sy)(k:Nat):Sy:=w.getD k .en
theorem HC.ob{s:St}{T HA tk:AV}{A:AD}{C:CC}(G:HC c V T HA tk A C s):s A.da=some (H9 T HA A.lo A.st A.va (FK C.lk) (.int C.ct) (.str C.an) (vA C.v) A.fa A.mo):=Own.get G 0
theorem HC.rw{s:St}{T HA tk:AV}{A:AD}{C:CC}(G:HC c V T HA tk A C s):s A.tr=some (Bw 370 [tk,.int C.p]):=Own.get G 6
theorem AjS(h:X= .en\/X∈A4):num X=1->False:=h.elim (λe=>by refine Aa e ?_;decide) ((by decide:∀X∈A4,num X=1->False) X)
section
variable{c:Cx}{n:Nat}{V s:St}{Q:AV->St->Prop}{m:Nat}{ps:List Pr}{gr HA tk:AV}{S:Nat}{rws:List (List Int)}{Ae:List (List (Nat×Nat))}{Ab:List Int}{A:AD}{C:CC}
open Classical in
theorem Xi(O:AE c)(T:CU S rws Ae Ab){z:Nat}(hz:z<S)(G:HC c V (AG c m ps gr rws Ae Ab) HA tk A C s)(hL:CV S rws Ab C.m)
  (q:∀m' s',CV S rws Ab m'->HC c V (AG c m ps gr rws Ae Ab) HA tk A {C with m:=m'} s'->Q (.int (BI rws Ab z)) s'):A0 c (n+4) (.ref 445) [.obj 537 A.da,.int z] s Q:=by
 refine AgH.run O ?_;refine Sq (λW s'=>W= [some (.obj 537 A.da),some (.int z)]/\ ∃m',HC c V (AG c m ps gr rws Ae Ab) HA tk A {C with m:=m'} s'/\CV S rws Ab m'/\m'.lookup z=some (BI rws Ab z)) (λN hn Z=>?_) ?_
 ·refine⟨_,HC.ob G,?_⟩;refine AR.Aco (AU.int c) (κs:=C.m.map λp=>(p.1:Int)) (k:=(z:Int)) (.ref (G.get 1)) (Kg (λh=>?_) λh=>?_)
  ·have hzm:z∉C.m.map (·.1):=λh2=>h (by refine Ad (Bj.mp h2) ?_;clear h2;rintro p hp rfl;exact Dz (f:=λp:Nat×Int=>(p.1:Int)) hp);refine⟨_,HC.ob G,rfl,(AjN (n:=n) O T hz λb hb=>?_).call⟩;have st:∀v:Int,v=BI rws Ab z->Dd c (n+3) (.ref A.lo) (.int z) (.int v) s λs'=>N .next [some (.obj 537 A.da),some (.int z)] s':=λv e=>by
    subst e;have hl:=hL.len;have hS:=T.le;refine PD (AU.int c) (g:=λk:Nat=>(k:Int)) (λZ Z=>Iw) hL.1 (G.get 1) (AP hl (AP hS (by decide))) ?_;refine hn _ _ ⟨rfl,upd C.m z (BI rws Ab z),G.set 1,⟨PA hL.1,λp hp=>?_⟩,H4 (PA hL.1) ?_⟩
    ·rcases qX hp with rfl|⟨h1,_⟩
     ·exact⟨hz,rfl⟩
     ·exact hL.2 p h1
    ·unfold upd;exact Aa (if_neg hzm)<|KP _ (.head _)
   refine⟨λe=>?_,λe=>?_⟩
   ·subst e;refine⟨_,HC.ob G,rfl,(Xg (n:=n+1) O T hz ?_).call⟩;exact⟨_,HC.ob G,st (Ab.getD z 0) (by simpa using hb)⟩
   ·subst e;exact⟨_,HC.ob G,st 0 (by simpa using hb)⟩
  ·refine Ad (Bj.mp h) ?_;clear h;intro p hp e;have e:p.1=z:=Iw e;subst e;exact hn _ _ ⟨rfl,C.m,G,hL,H4 hL.1 (by refine AS ((hL.2 p hp).2) ?_;exact hp)⟩
 ·intro _ s';intro hZ;obtain⟨rfl,m',G',Cw,hk⟩:=hZ;refine⟨_,HC.ob G',?_⟩;exact PB (AU.int c) (g:=λk:Nat=>(k:Int)) (.ref (G'.get 1)) hk (A6 (q m' s' Cw G'))
theorem Nq(G:HC c V (AG c m ps gr rws Ae Ab) HA tk A C s){p0:List Nat}{z:Nat}(hp:C.pl=p0++ [z])(hl:p0.length<=10000)(q:Q (.int z) s):AL c n (.ref A.st) (.int (-1)) s Q:=by have h:=G.get 2;replace h:=hp▸h;exact SP (.ref h) (N1 hl rfl) q
theorem uB(O:AE c)(T:CU S rws Ae Ab){p0:List Nat}{z:Nat}(hp:C.pl=p0++ [z])(hl:p0.length<=10000)(hz:z<S)(G:HC c V (AG c m ps gr rws Ae Ab) HA tk A C s)(hL:CV S rws Ab C.m)
  (q1:C.lk=none->∀m' s',CV S rws Ab m'->HC c V (AG c m ps gr rws Ae Ab) HA tk A {C with m:=m'} s'->Q (.bool (decide (BI rws Ab z=0))) s') (q2:∀X,C.lk=some X->Q (.bool false) s):A0 c (n+5) (.ref 431) [.obj 537 A.da] s Q:=by
 refine AgC.run O ?_;refine⟨_,HC.ob G,Bz.mk (SY _) ?_⟩;cases e:C.lk with
 | none=>
  refine⟨λZ=>?_,λe=>nomatch e⟩;refine⟨⟨_,HC.ob G⟩,_,HC.ob G,Nq G hp hl ?_⟩;refine(Xi (n:=n) O T hz G hL λm' s' Cw G'=>?_).call;refine⟨λh=>?_,λh=>?_⟩
  ·have:=q1 e m' s' Cw G';replace this:=(decide_eq_true h)▸this;exact A6 this
  ·have:=q1 e m' s' Cw G';replace this:=(decide_eq_false h)▸this;exact A6 this
 | some X=>exact⟨(λe=>nomatch e),λZ=>A6 (q2 X e)⟩
theorem AjT(O:AE c)(G:HC c V (AG c m ps gr rws Ae Ab) HA tk A C s)(q:∀s',HC c V (AG c m ps gr rws Ae Ab) HA tk A {C with lk:=some X,ct:=C.ct+1} s'->Q .none s'):A0 c (n+2) (.ref 438) [.obj 537 A.da,Ce X] s Q:=by refine AgE.run O ?_;refine⟨_,HC.ob G,?_⟩;have G:HC c V (AG c m ps gr rws Ae Ab) HA tk A {C with lk:=some X} _:=G.set 0;refine⟨_,HC.ob G,_,HC.ob G,?_⟩;have G:HC c V (AG c m ps gr rws Ae Ab) HA tk A {C with lk:=some X,ct:=C.ct+1} _:=G.set 0;exact A6 (q _ G)
theorem AjU(O:AE c){w:List Sy}(hw:∀X∈w,X∈A4)(hl:w.length<=1000)(hp:C.p<=w.length)(G:HC c V (AG c m ps gr rws Ae Ab) HA (.lst (w.map Ce)) A C s)
  (q:∀s',HC c V (AG c m ps gr rws Ae Ab) HA (.lst (w.map Ce)) A {C with p:=min (C.p+1) w.length} s'->Q (Ce (ck w C.p)) s'):A0 c (n+4) (.ref 367) [.obj 370 A.tr] s Q:=by
 refine Agq.run O ?_;refine⟨_,HC.rw G,_,HC.rw G,An.len .lst (by exact Aa (Ai _)<|N2 hl rfl) ?_⟩;refine Aa (Ai _) ?_;refine⟨λh=>?_,λh=>?_⟩
 ·have e:C.p=w.length:=by have h:(w.length:Int)<=(C.p:Int):=h;exact EM hp (UG ‹_›)
  have:=q s (by exact Aa (show min (C.p+1) w.length=C.p by rw[e];exact YT (L4 _))<|G);rewrite[show ck w C.p= .en by rw[e];simp] at this;exact rF O (A6 this)
 ·have AH:C.p<w.length:=by have h:(C.p:Int)<(w.length:Int):=h;exact NW ‹_›
  have e0:w[C.p]?=some (ck w C.p):=by refine Aa (BG AH) ?_;simp[AH]
  have hm:=hw _ (A8 e0);refine⟨_,HC.rw G,_,HC.rw G,?_⟩;refine PX (f:=Ce) .en .lst AH (N1 hl rfl) ?_;refine⟨rfl,(λZ=>?_),λe=>?_⟩
  ·refine⟨_,HC.rw G,_,HC.rw G,?_⟩;have G:HC c V (AG c m ps gr rws Ae Ab) HA (.lst (w.map Ce)) A {C with p:=C.p+1} _:=G.set 6;have:=q _ (by exact Aa (show min (C.p+1) w.length=C.p+1 by exact M47 AH)<|G);exact A6 this
  ·have e:(ck w C.p).str=Sy.en.str:=e;replace hm:=(Sy.inj e)▸hm;exact absurd hm (by decide)
theorem AjV(O:AE c)(h1:1<=m)(h3:m<=3)(hX:X= .en\/X∈A4)(G:HC c V (AG c m ps gr rws Ae Ab) HA tk A C s)(q:Q (AB (num X)) s):A0 c (n+3) (.ref 452) [.obj 537 A.da,Ce X] s Q:=by refine AgJ.run O ?_;refine⟨_,HC.ob G,rfl,rfl,(AjL (n:=n) O h1 h3 hX ?_).call⟩;refine⟨λe=>?_,λZ=>A6 q⟩;have e:num X=1:=Iw e;exact(AjS hX e).elim
theorem Xj(O:AE c){mv:Mv}(G:HC c V (AG c m ps gr rws Ae Ab) HA tk A C s)(hm:C.ms.length<5000)(q:∀s',HC c V (AG c m ps gr rws Ae Ab) HA tk A {C with ms:=C.ms++ [mv]} s'->Q .none s'):A0 c (n+2) (.ref 459) [.obj 537 A.da,C0 mv] s Q:=by
 refine AgM.run O ?_;refine⟨_,HC.ob G,An.len (.ref (G.get 5)) (by exact Aa (Ai _)<|N4 hm rfl) ⟨_,HC.ob G,?_⟩⟩;refine⟨λh=>?_,λZ=>?_⟩
 ·rewrite[Ai] at h;lia
 refine⟨_,HC.ob G,Du (.ref (G.get 5)),An.append (G.get 5) (BX (by exact Aa (Ai _)<|N3 hm rfl)) ?_⟩;have e:C.ms.map C0++ [C0 mv]=(C.ms++ [mv]).map C0:=Aa Bs rfl;exact Aa e<|A6 (q _ (G.set 5))
theorem uC(O:AE c){an:Str}{v:Option Nd}(G:HC c V (AG c m ps gr rws Ae Ab) HA tk A C s)(q:∀s',HC c V (AG c m ps gr rws Ae Ab) HA tk A {C with an:=an,v:=v} s'->Q .none s'):A0 c (n+2) (.ref 473) [.obj 537 A.da,.str an,vA v] s Q:=by refine AgO.run O ?_;refine⟨_,HC.ob G,?_⟩;have G:HC c V (AG c m ps gr rws Ae Ab) HA tk A {C with an:=an} _:=G.set 0;refine⟨_,HC.ob G,?_⟩;have G:HC c V (AG c m ps gr rws Ae Ab) HA tk A {C with an:=an,v:=v} _:=G.set 0;exact A6 (q _ G)
end
noncomputable abbrev BY(ps:List Pr):AV:=Cc 794 [.lst (ps.map λp=>Az p.1)]
theorem AjW(X:Sy):Aad X.str (.ofString "$@")=false:=by cases X<;>decide+kernel
theorem uD(h:X∈A4):Ce X=Hn X.str X.str:=by cases X<;>first | rfl | (exact absurd h (by decide))
theorem AjX(A:Sy)(r:Nat)(l:List Nd):Bf (.nd A r (D5 l))=Cc 707 [Az A,.int r,.lst (l.map Bf)]:=by show Cc 707 [Az A,.int r,.lst (Nn (D5 l))]=_;exact Aa (SV _)<|Aa (No _) rfl
section
variable{c:Cx}{n:Nat}{V s:St}{Q:AV->St->Prop}{m:Nat}{ps:List Pr}{gr HA tk:AV}{S:Nat}{rws:List (List Int)}{Ae:List (List (Nat×Nat))}{Ab:List Int}{A:AD}{C:CC}
theorem AjY(O:AE c)(hX:X∈A4)(q:Q (Bf (.lf X)) s):A0 c (n+4) (.ref 777) [BY ps,Ce X] s Q:=by refine Aa (uD hX) ?_;refine AhE.run O ?_;exact Ai4 O (A6 q)
theorem AjZ(O:AE c){r:Nat}{p:Pr}{l:List Nd}(hp:ps[r]?=some p)(hl:ps.length<=1000)(hz:l.length<=100000)(q:Q (Bf (.nd p.1 r (D5 l))) s):A0 c (n+4) (.ref 784) [BY ps,.int r,.lst (l.map Bf),.none] s Q:=by rewrite[AjX] at q;refine AhH.run O ?_;refine⟨rfl,?_⟩;refine AL.B4 (x:=Az p.1) .lst (B8 _) (by exact Aa (Ai _)<|N2 hl rfl) (by show(ps.map λp=>Az p.1)[r]?=_;exact Aa Bp<|Aa hp rfl) ?_;refine⟨AbT,An.startsWith ?_⟩;refine Aa (AjW _) ?_;refine⟨(λe=>nomatch e),λZ=>?_⟩;exact Ai3 O (by exact Aa (Ai _)<|BX hz) (A6 q)
theorem Aj0(O:AE c){r:Nat}{p:Pr}{l:List Nd}(hp:ps[r]?=some p)(hl:ps.length<=1000)(hz:l.length<=100000)(G:HC c V (AG c m ps gr rws Ae Ab) (BY ps) tk A C s)(q:Q (Bf (.nd p.1 r (D5 l))) s):A0 c (n+5) (.ref 508) [.obj 537 A.da,.int r,.lst (l.map Bf)] s Q:=by refine AgY.run O ?_;exact⟨_,HC.ob G,rfl,(AjZ (n:=n) O hp hl hz (A6 q)).call⟩
theorem Aj1(O:AE c)(T:CU S rws Ae Ab){r z g:Nat}{p:Pr}{p0:List Nat}{v:Nd}(hp:ps[r]?=some p)(hl:ps.length<=1000)(A3:C.pl=p0++ [z])(Fq:p0.length<=10000)(hv:C.vs.length<=10000)(hz:z<S)(hg:(Ae.getD z []).lookup (num p.1)=some g)(G:HC c V (AG c m ps gr rws Ae Ab) HA tk A C s)
  (q:∀s',HC c V (AG c m ps gr rws Ae Ab) HA tk A {C with pl:=C.pl++ [g],vs:=C.vs++ [v]} s'->Q .none s'):A0 c (n+3) (.ref 515) [.obj 537 A.da,.int r,Bf v] s Q:=by
 refine Ag1.run O ?_;refine⟨_,HC.ob G,rfl,_,HC.ob G,Nq G A3 Fq ?_⟩;refine⟨_,HC.ob G,rfl,(AjH (n:=n) O hp hl ?_).call⟩;refine(AjK (n:=n) O T hz hg ?_).call;refine⟨λh=>absurd h (Hs.mpr (B8 _)),λZ=>?_⟩;refine⟨_,HC.ob G,Du (.ref (G.get 2)),An.append (G.get 2) (BX (by refine Aa A3 ?_;simp;exact N1 Fq rfl)) ?_⟩;have e1:C.pl.map AB++ [.int g]=(C.pl++ [g]).map AB:=Aa Bs rfl;refine Aa e1 ?_;have G:HC c V (AG c m ps gr rws Ae Ab) HA tk A {C with pl:=C.pl++ [g]} _:=G.set 2;refine⟨_,HC.ob G,Du (.ref (G.get 3)),An.append (G.get 3) (BX (by refine Aa (Ai _) ?_;show C.vs.length<=_;exact N1 hv rfl)) ?_⟩;have e2:C.vs.map Bf++ [Bf v]=(C.vs++ [v]).map Bf:=Aa Bs rfl;exact Aa e2<|A6 (q _ (G.set 3))
theorem uE(O:AE c)(T:CU S rws Ae Ab){r z g:Nat}{p:Pr}{p0:List Nat}{s1 s2:List Nd}(hp:ps[r]?=some p)(hl:ps.length<=1000)(Jo:C.vs=s1++s2)(h2:s2.length=p.2.length)(A3:C.pl.take (s1.length+1)=p0++ [z])(hz:z<S)(hg:(Ae.getD z []).lookup (num p.1)=some g)
  (hv:C.vs.length<=10000) (hc:C.pl.length<=10000) (hm:C.ms.length<5000) (G:HC c V (AG c m ps gr rws Ae Ab) (BY ps) tk A C s)
  (q:∀st va s',HC c V (AG c m ps gr rws Ae Ab) (BY ps) tk ⟨A.da,A.lo,st,va,A.fa,A.mo,A.tr⟩ {C with pl:=p0++ [z]++ [g],vs:=s1++ [.nd p.1 r (D5 s2)],ms:=C.ms++ [.rd r]} s'->Q .none s'):A0 c (n+6) (.ref 501) [.obj 537 A.da,.int r] s Q:=by
 have Jp:=hv;replace Jp:=Jo▸Jp;replace Jp:=AY▸Jp;have IT:p0.length<=10000:=by have:=congrArg EQ A3;replace this:=JI▸this;simp at this;exact AP (UE this) (Mj hc)
 refine AgW.run O ?_;refine⟨⟨_,HC.ob G⟩,(Xj (n:=n+3) (mv:= .rd r) O G hm λs G=>?_).call⟩;refine⟨_,HC.ob G,rfl,(AjI (n:=n+3) O hp hl ?_).call⟩;have hV:s A.va=some (.list ((s1++s2).map Bf)):=by have:=G.get 3;replace this:=(show C.vs=s1++s2 from Jo)▸this;exact this
 have zV:((s1++s2).map Bf).length<2^62:=Aa (Ai _)<|Aa AY<|DT Jp (by decide);refine Kh (λa s'=>a= .int (s1.length:Nat)/\s=s') (λK hK=>?_) ?_
 ·refine⟨_,HC.ob G,An.len (.ref hV) zV ?_⟩;refine⟨_,HC.ob G,rfl,(AjJ (n:=n+3) O hp hl ?_).call⟩;refine hK _ _ ⟨?_,rfl⟩;refine Aa (Ai _)<|Aa AY<|Aa h2 ?_;exact congrArg AV.int (M52)
 intro _ _;intro hZ;refine Ah hZ ?_;clear hZ;rintro rfl rfl;refine⟨⟨_,HC.ob G⟩,_,HC.ob G,_,.ref hV,Aa (Ai _)<|Aa AY<|BX (N1 Jp rfl),?_⟩;refine BW (ys:=s2.map Bf) ((KO _ s1.length).trans (by simp)) ?_;refine(Aj0 (n:=n) O hp hl (N1 (UA Jp) rfl) G ?_).call;refine Kh (λa s'=>a= .int (s1.length:Nat)/\s=s') (λK hK=>?_) ?_
 ·refine⟨_,HC.ob G,An.len (.ref hV) zV ?_⟩;refine hK _ _ ⟨?_,rfl⟩;refine Aa (Ai _)<|Aa AY<|Aa h2 ?_;exact congrArg AV.int (by lia)
 intro _ _;intro hZ;refine Ah hZ ?_;clear hZ;rintro rfl rfl;refine⟨_,HC.ob G,_,.ref hV,Aa (Ai _)<|Aa AY<|BX (N1 Jp rfl),?_⟩;refine MZ (ys:=s1.map Bf) ((I7 _ s1.length).trans (by simp)) λva hva=>?_;have G:=G.new 3 (x:= .list (s1.map Bf)) hva;refine⟨_,Own.get G 0 (o:=H9 (AG c m ps gr rws Ae Ab) (BY ps) A.lo A.st A.va (FK C.lk) (.int C.ct) (.str C.an) (vA C.v) A.fa A.mo),?_⟩;have G:HC c V (AG c m ps gr rws Ae Ab) (BY ps) tk ⟨A.da,A.lo,A.st,va,A.fa,A.mo,A.tr⟩ {C with vs:=s1,ms:=C.ms++ [.rd r]} _:=G.set 0 (x:=H9 (AG c m ps gr rws Ae Ab) (BY ps) A.lo A.st va (FK C.lk) (.int C.ct) (.str C.an) (vA C.v) A.fa A.mo);refine⟨_,(HC.ob G:),_,.ref (G.get 2),Aa (Ai _)<|BX (by show C.pl.length<=_;exact N1 hc rfl),?_⟩;refine MZ (ys:=(p0++ [z]).map AB) ((I7 _ (s1.length+1)).trans (by refine AS Me ?_;exact congrArg (List.map AB) A3)) λst CQ=>?_;have G:=G.new 2 (x:= .list ((p0++ [z]).map AB)) CQ;refine⟨_,Own.get G 0 (o:=H9 (AG c m ps gr rws Ae Ab) (BY ps) A.lo A.st va (FK C.lk) (.int C.ct) (.str C.an) (vA C.v) A.fa A.mo),?_⟩;have G:HC c V (AG c m ps gr rws Ae Ab) (BY ps) tk ⟨A.da,A.lo,st,va,A.fa,A.mo,A.tr⟩ {C with pl:=p0++ [z],vs:=s1,ms:=C.ms++ [.rd r]} _:=G.set 0 (x:=H9 (AG c m ps gr rws Ae Ab) (BY ps) A.lo st va (FK C.lk) (.int C.ct) (.str C.an) (vA C.v) A.fa A.mo);refine⟨⟨_,(HC.ob G:)⟩,(Aj1 (n:=n+2) O T hp hl rfl IT (by show s1.length<=_;exact CN Jp) hz hg G λs' G=>?_).call⟩;exact A6 (q st va s' G)
theorem Aj2(O:AE c){X:Sy}{g:Nat}(hX:X∈A4)(hk:C.lk=some X)(hv:C.vs.length<=10000)(hc:C.pl.length<=10000)(hm:C.ms.length<5000)(G:HC c V (AG c m ps gr rws Ae Ab) (BY ps) tk A C s)
  (q:∀s',HC c V (AG c m ps gr rws Ae Ab) (BY ps) tk A {C with pl:=C.pl++ [g],vs:=C.vs++ [.lf X],lk:=none,ms:=C.ms++ [.sh g]} s'->Q .none s'):A0 c (n+5) (.ref 494) [.obj 537 A.da,.int g] s Q:=by
 refine AgU.run O ?_;refine⟨⟨_,HC.ob G⟩,(Xj (n:=n+2) (mv:= .sh g) O G hm λs G=>?_).call⟩;refine⟨_,HC.ob G,Du (.ref (G.get 2)),An.append (G.get 2) (BX (by refine Aa (Ai _) ?_;show C.pl.length<=_;exact N1 hc rfl)) ?_⟩;have e1:C.pl.map AB++ [.int g]=(C.pl++ [g]).map AB:=Aa Bs rfl;refine Aa e1 ?_;have G:HC c V (AG c m ps gr rws Ae Ab) (BY ps) tk A {C with pl:=C.pl++ [g],ms:=C.ms++ [.sh g]} _:=G.set 2;refine⟨_,HC.ob G,Du (.ref (G.get 3)),_,HC.ob G,rfl,_,HC.ob G,Bz.mk (SY _) ?_⟩;have ek:FK C.lk=Ce X:=Aa hk rfl;show An c (n+4) (.ref 777) [BY ps,FK C.lk] _ _;refine Aa ek ?_;refine(AjY (n:=n) O hX ?_).call;refine An.append (G.get 3) (BX (by refine Aa (Ai _) ?_;show C.vs.length<=_;exact N1 hv rfl)) ?_;have e2:C.vs.map Bf++ [Bf (.lf X)]=(C.vs++ [Nd.lf X]).map Bf:=Aa Bs rfl;refine Aa e2 ?_;have G:HC c V (AG c m ps gr rws Ae Ab) (BY ps) tk A {C with pl:=C.pl++ [g],vs:=C.vs++ [.lf X],ms:=C.ms++ [.sh g]} _:=G.set 3;refine⟨_,HC.ob G,?_⟩;have G:HC c V (AG c m ps gr rws Ae Ab) (BY ps) tk A {C with pl:=C.pl++ [g],vs:=C.vs++ [.lf X],lk:=none,ms:=C.ms++ [.sh g]} _:=G.set 0;exact A6 (q _ G)
theorem Aj3(O:AE c)(T:CU S rws Ae Ab){p0:List Nat}{z:Nat}(hp:C.pl=p0++ [z])(hl:p0.length<=10000)(hz:z<S)(G:HC c V (AG c m ps gr rws Ae Ab) HA tk A C s)(q:∀l:List Nat,(∀x∈l,x<6)->l.length<=6->Q (.lst (l.map AB)) s):A0 c (n+4) (.ref 522) [.obj 537 A.da] s Q:=by refine Ag3.run O ?_;refine⟨_,HC.ob G,rfl,_,HC.ob G,Nq G hp hl ?_⟩;exact(AjO (n:=n) O T hz λl h1 h2=>A6 (q l h1 h2)).call
theorem Aj4(O:AE c)(T:CU S rws Ae Ab)(h1:1<=m)(h3:m<=3){p0:List Nat}{z:Nat}{X:Sy}(hk:C.lk=some X)(hp:C.pl=p0++ [z])(hl:p0.length<=10000)(hz:z<S)(hf:C.fl.length<=1000)(G:HC c V (AG c m ps gr rws Ae Ab) HA tk A C s)
  (q:∀ns s',HC c V (AG c m ps gr rws Ae Ab) HA tk A {C with fl:=C.fl++ [Cc 314 [Ce X,.int z,.lst ns,.int ((C.ct:Int)-1)]]} s'->Q .none s'):A0 c (n+5) (.ref 527) [.obj 537 A.da] s Q:=by
 have nl:(BM m).length=7+m:=Sz h3;refine Ag5.run O ?_;refine⟨⟨_,HC.ob G⟩,(Aj3 (n:=n) O T hp hl hz G λl Nl FW=>?_).call⟩;refine comp_map (enc:=AB) (λx=>AV.str ((BM m).getD x "")) rfl (BX (N1 FW rfl)) (λx hx K hK=>⟨_,HC.ob G,rfl,PX (f:=AV.str) "" .lst (by have:=Nl x hx;exact B7 (Nat.lt_succ_of_lt this) (UE nl)) (N7 nl (Mi h3 rfl)) hK⟩) ?_;refine BW rfl ?_;refine⟨_,HC.ob G,Du (.ref (G.get 4)),_,HC.ob G,Bz.mk (SY _) ⟨_,HC.ob G,Nq G hp hl ?_⟩⟩;refine⟨_,HC.ob G,?_⟩;refine Aa hk ?_;refine Ai0 O (An.append (G.get 4) (BX (N1 hf rfl)) ?_);exact A6 (q _ _ (G.set 4))
theorem Aj5(O:AE c)(T:CU S rws Ae Ab)(h1:1<=m)(h3:m<=3){p0:List Nat}{z:Nat}{X:Sy}{tn:AV}(hk:C.lk=some X)(hp:C.pl=p0++ [z])(hl:p0.length<=10000)(hz:z<S)(hf:C.fl.length<=1000)(G:HC c V (AG c m ps gr rws Ae Ab) HA tk A C s)
  (q:∀ns s',HC c V (AG c m ps gr rws Ae Ab) HA tk A {C with fl:=C.fl++ [Cc 314 [Ce X,.int z,.lst ns,.int ((C.ct:Int)-1)]],an:="aborted",v:=none} s'->Q .none s'):A0 c (n+6) (.ref 534) [.obj 537 A.da,tn] s Q:=by
 refine Ag7.run O ?_;refine⟨⟨_,HC.ob G⟩,(Aj4 (n:=n) O T h1 h3 hk hp hl hz hf G λns s' G=>?_).call⟩;refine⟨⟨_,HC.ob G⟩,(uC (n:=n+3) (an:="aborted") (v:=none) O G λs' G=>?_).call⟩;exact A6 (q ns s' G)
end
noncomputable def Aj6:PS:= .iff (.AW .Eq (.v 4) (.gi 1048576 5 0)) (.ex (.Bg (.v 0) "note" [(537,459)] (.cons (.tup (.cons (.str "accept") .nil)) .nil)) (.ex (.Bg (.v 0) "finish" [(537,473)] (.cons (.str "accepted") (.cons (.sub (.attr (.v 0) "values" 5 [537]) (.neg (.int 1))) .nil))) .nil)) (.iff (.AW .Gt (.v 4) (.int 0)) (.ex (.Bg (.v 0) "shift" [(537,494),(794,777)] (.cons (.v 4) .nil)) .nil) (.iff (.FX (.AW .Lt (.v 4) (.int 0)) (.E0 (.Bg (.v 0) "is_established" [(537,487)] (.cons (.v 3) .nil)))) (.ex (.Bg (.v 0) "reduce" [(537,501),(794,784)] (.cons (.bin .Sub (.int 0) (.v 4)) .nil)) .nil) (.ex (.Bg (.v 0) "fail" [(537,534)] (.cons (.v 3) .nil)) .nil) .nil) .nil) .nil
section
variable{c:Cx}{n:Nat}{V s:St}{Q:AV->St->Prop}{m:Nat}{ps:List Pr}{gr HA tk:AV}{S:Nat}{rws:List (List Int)}{Ae:List (List (Nat×Nat))}{Ab:List Int}{A:AD}{C:CC}
noncomputable abbrev R480(a0 a1 a2 a3 a4:Option AV):Al:= [a0,a1,a2,a3,a4,none]
theorem Aj7(h:X= .en\/X∈A4):num X<6:=h.elim (λe=>by refine Aa e ?_;decide) ((by decide:∀X∈A4,num X<6) X)
theorem S8(O:AE c)(T:CU S rws Ae Ab)(h1:1<=m)(h3:m<=3){p0:List Nat}{z:Nat}{X:Sy}(A3:C.pl=p0++ [z])(Fq:p0.length<=10000)(hz:z<S)(hk:C.lk=some X)(hX:X= .en\/X∈A4)(CA:BI rws Ab z=0)(G:HC c V (AG c m ps gr rws Ae Ab) HA tk A C s)(hL:CV S rws Ab C.m)
  (k:∀m' s',CV S rws Ab m'->HC c V (AG c m ps gr rws Ae Ab) HA tk A {C with m:=m'} s'->vs c (n+5) Aj6 (R480 (some (.obj 537 A.da)) (some (.int z)) (some (.int 0)) (some (AB (num X))) (some (.int (act rws Ab z (num X))))) s' (λfl Z Aq=>CX Q fl.val Aq)):
  A0 c (n+6) (.ref 480) [.obj 537 A.da] s Q:=by
 refine mH.run O ?_;refine⟨_,HC.ob G,Nq G A3 Fq ⟨⟨_,HC.ob G⟩,?_⟩⟩;refine(Xi (n:=n+1) O T hz G hL λm' s' Cw G=>?_).call;refine Aa CA ?_;refine⟨λh=>absurd h (by decide),λZ=>⟨⟨_,HC.ob G⟩,_,HC.ob G,Bz.mk (SY _) ?_⟩⟩;have ek:FK C.lk=Ce X:=Aa hk rfl;show An c (n+5) (.ref 452) [.obj 537 A.da,FK C.lk] _ _;refine Aa ek ?_;refine(AjV (n:=n+2) O h1 h3 hX G ?_).call;refine⟨_,HC.ob G,rfl,(AjM (n:=n+2) O T hz (Aj7 hX) ?_).call⟩;exact k m' s' Cw G
theorem Aj8(O:AE c)(T:CU S rws Ae Ab){r z z' g:Nat}{p:Pr}{p0 p1:List Nat}{s1 s2:List Nd}(LK:C.pl=p1++ [z'])(DY:z'<S)(hr:0<r)(CA:BI rws Ab z'=r)(hL:CV S rws Ab C.m)
  (hp:ps[r]?=some p) (hl:ps.length<=1000) (Jo:C.vs=s1++s2) (h2:s2.length=p.2.length) (A3:C.pl.take (s1.length+1)=p0++ [z]) (hz:z<S) (hg:(Ae.getD z []).lookup (num p.1)=some g)
  (hv:C.vs.length<=10000) (hc:C.pl.length<=10000) (hm:C.ms.length<5000) (G:HC c V (AG c m ps gr rws Ae Ab) (BY ps) tk A C s)
  (q:∀st va m' s',CV S rws Ab m'->HC c V (AG c m ps gr rws Ae Ab) (BY ps) tk ⟨A.da,A.lo,st,va,A.fa,A.mo,A.tr⟩ {C with m:=m',pl:=p0++ [z]++ [g],vs:=s1++ [.nd p.1 r (D5 s2)],ms:=C.ms++ [.rd r]} s'->Q .none s'):A0 c (n+7) (.ref 480) [.obj 537 A.da] s Q:=by
 have Fq:p1.length<=10000:=by have:=congrArg EQ LK;simp at this;exact CN (N8 this hc)
 refine mH.run O ?_;refine⟨_,HC.ob G,Nq G LK Fq ⟨⟨_,HC.ob G⟩,?_⟩⟩;refine(Xi (n:=n+2) O T DY G hL λm' s' Cw G=>?_).call;refine Aa CA ?_;refine⟨λZ=>⟨⟨_,HC.ob G⟩,?_⟩,λh=>absurd hr (by have h:(r:Int)<=0:=h;exact λuF=>Zc (JN hr) ‹_›)⟩;refine(uE (n:=n) (C:={C with m:=m'}) O T hp hl Jo h2 A3 hz hg hv hc hm G λst va s' G=>?_).call;exact A6 (q st va m' s' Cw G)
theorem Aj9(O:AE c)(T:CU S rws Ae Ab)(h1:1<=m)(h3:m<=3){X:Sy}(hk:C.lk=some X)(hX:X= .en\/X∈A4){r z z' g:Nat}{p:Pr}{p0 p1:List Nat}{s1 s2:List Nd}(LK:C.pl=p1++ [z'])(DY:z'<S)(hr:0<r)(CA:BI rws Ab z'=0)(ha:act rws Ab z' (num X)= -(r:Int))(hL:CV S rws Ab C.m)
  (hp:ps[r]?=some p) (hl:ps.length<=1000) (Jo:C.vs=s1++s2) (h2:s2.length=p.2.length) (A3:C.pl.take (s1.length+1)=p0++ [z]) (hz:z<S) (hg:(Ae.getD z []).lookup (num p.1)=some g)
  (hv:C.vs.length<=10000) (hc:C.pl.length<=10000) (hm:C.ms.length<5000) (G:HC c V (AG c m ps gr rws Ae Ab) (BY ps) tk A C s)
  (q:∀st va m' s',CV S rws Ab m'->HC c V (AG c m ps gr rws Ae Ab) (BY ps) tk ⟨A.da,A.lo,st,va,A.fa,A.mo,A.tr⟩ {C with m:=m',pl:=p0++ [z]++ [g],vs:=s1++ [.nd p.1 r (D5 s2)],ms:=C.ms++ [.rd r]} s'->Q .none s'):A0 c (n+7) (.ref 480) [.obj 537 A.da] s Q:=by
 have Fq:p1.length<=10000:=by have:=congrArg EQ LK;simp at this;exact CN (N8 this hc)
 refine S8 (n:=n+1) O T h1 h3 LK Fq DY hk hX CA G hL λm' s' Cw G=>?_;refine Aa ha ?_;refine⟨λe=>by lia,λZ=>⟨λh=>by lia,λZ=>⟨λZ=>?_,λh=>by lia⟩⟩⟩;refine⟨⟨_,HC.ob G⟩,(AgS.run (n:=n+4) O (A6 ?_)).call⟩;refine⟨λZ=>⟨⟨_,HC.ob G⟩,?_⟩,λe=>nomatch e⟩;have er:(0:Int)- -(r:Int)=r:=by lia
 show An c (n+6) (.ref 501) [.obj 537 A.da,.int (0- -(r:Int))] _ _;refine Aa er ?_;refine(uE (n:=n) (C:={C with m:=m'}) O T hp hl Jo h2 A3 hz hg hv hc hm G λst va s' G=>?_).call;exact A6 (q st va m' s' Cw G)
theorem Aka(O:AE c)(T:CU S rws Ae Ab)(h1:1<=m)(h3:m<=3){X:Sy}{g z:Nat}{p0:List Nat}(hk:C.lk=some X)(hX:X∈A4)(A3:C.pl=p0++ [z])(hz:z<S)(hg:0<g/\g<1048576)(CA:BI rws Ab z=0)(ha:act rws Ab z (num X)=(g:Int))(hL:CV S rws Ab C.m)
  (hv:C.vs.length<=10000) (hc:C.pl.length<=10000) (hm:C.ms.length<5000) (G:HC c V (AG c m ps gr rws Ae Ab) (BY ps) tk A C s)
  (q:∀m' s',CV S rws Ab m'->HC c V (AG c m ps gr rws Ae Ab) (BY ps) tk A {C with m:=m',pl:=C.pl++ [g],vs:=C.vs++ [.lf X],lk:=none,ms:=C.ms++ [.sh g]} s'->Q .none s'):A0 c (n+7) (.ref 480) [.obj 537 A.da] s Q:=by
 have Fq:p0.length<=10000:=by have:=congrArg EQ A3;simp at this;exact CN (N8 this hc)
 refine S8 (n:=n+1) O T h1 h3 A3 Fq hz hk (.inr hX) CA G hL λm' s' Cw G=>?_;refine Aa ha ?_;refine⟨λe=>by have e:(g:Int)=1048576:=e;lia,λZ=>⟨λZ=>⟨⟨_,HC.ob G⟩,?_⟩,λh=>by have h:(g:Int)<=0:=h;lia⟩⟩;refine(Aj2 (n:=n+1) (C:={C with m:=m'}) O hX hk hv hc hm G λs' G=>?_).call;exact A6 (q m' s' Cw G)
theorem Akb(O:AE c)(T:CU S rws Ae Ab)(h1:1<=m)(h3:m<=3){X:Sy}{z:Nat}{p0:List Nat}{s1:List Nd}{v:Nd}(hk:C.lk=some X)(hX:X= .en\/X∈A4)(A3:C.pl=p0++ [z])(Fq:p0.length<=10000)(hz:z<S)(CA:BI rws Ab z=0)(ha:act rws Ab z (num X)=1048576)(hL:CV S rws Ab C.m)
  (Jo:C.vs=s1++ [v]) (hv:C.vs.length<=10000) (hm:C.ms.length<5000) (G:HC c V (AG c m ps gr rws Ae Ab) (BY ps) tk A C s)
  (q:∀m' s',CV S rws Ab m'->HC c V (AG c m ps gr rws Ae Ab) (BY ps) tk A {C with m:=m',an:="accepted",v:=some v,ms:=C.ms++ [.ac]} s'->Q .none s'):A0 c (n+7) (.ref 480) [.obj 537 A.da] s Q:=by
 refine S8 (n:=n+1) O T h1 h3 A3 Fq hz hk hX CA G hL λm' s' Cw G=>?_;refine Aa ha ?_;refine⟨λZ=>⟨⟨_,HC.ob G⟩,(Xj (n:=n+4) (mv:= .ac) O G hm λs G=>?_).call⟩,λh=>absurd rfl h⟩;refine⟨⟨_,HC.ob G⟩,_,HC.ob G,?_⟩;have hV:s A.va=some (.list ((s1++ [v]).map Bf)):=by have:=G.get 3;replace this:=(show C.vs=s1++ [v] from Jo)▸this;exact this
 replace hv:=Jo▸hv;replace hv:=AY▸hv;simp at hv;refine AL.neg (x:=Bf v) (.ref hV) (by decide) (by simp;exact Q7 rfl) (by simp;exact N2 (Kr hv _) rfl) (by
  have e:(-1+(((s1++ [v]).map Bf).length:Int)).toNat=s1.length:=by simp;exact Zn
  refine Aa e ?_;simp) ?_
 refine(uC (n:=n+4) (an:="accepted") (v:=some v) O G λs' G=>?_).call;exact A6 (q m' s' Cw G)
theorem Akc(O:AE c)(T:CU S rws Ae Ab)(h1:1<=m)(h3:m<=3){X:Sy}{z:Nat}{p0:List Nat}(hk:C.lk=some X)(hX:X= .en\/X∈A4)(A3:C.pl=p0++ [z])(Fq:p0.length<=10000)(hz:z<S)(CA:BI rws Ab z=0)(ha:act rws Ab z (num X)=0)(hL:CV S rws Ab C.m)
  (hf:C.fl.length<=1000) (G:HC c V (AG c m ps gr rws Ae Ab) (BY ps) tk A C s)
  (q:∀ns m' s',CV S rws Ab m'->HC c V (AG c m ps gr rws Ae Ab) (BY ps) tk A {C with m:=m',fl:=C.fl++ [Cc 314 [Ce X,.int z,.lst ns,.int ((C.ct:Int)-1)]],an:="aborted",v:=none} s'->Q .none s'):A0 c (n+7) (.ref 480) [.obj 537 A.da] s Q:=by
 refine S8 (n:=n+1) O T h1 h3 A3 Fq hz hk hX CA G hL λm' s' Cw G=>?_;refine Aa ha ?_;refine⟨λh=>absurd h (by decide),λZ=>⟨λh=>absurd h (by decide),λZ=>⟨λh=>absurd h (by decide),λZ=>⟨⟨_,HC.ob G⟩,?_⟩⟩⟩⟩;refine(Aj5 (n:=n) (C:={C with m:=m'}) O T h1 h3 hk A3 Fq hz hf G λns s' G=>?_).call;exact A6 (q ns m' s' Cw G)
end
structure CF where
 st:List Nd
 pl:List Nat
 k:Nat
 lk:Bool
inductive LL(S:Nat)(ps:List Pr)(w:List Sy)(rws:List (List Int))(Ae:List (List (Nat×Nat)))(Ab:List Int):CF->Mv->CF->Prop
 | sh {st:List Nd} {p0:List Nat} {z k g:Nat} {lk:Bool} {X:Sy}:z<S->BI rws Ab z=0->w[k]?=some X->act rws Ab z (num X)=(g:Int)->0<g->g<1048576->LL S ps w rws Ae Ab ⟨st,p0++ [z],k,lk⟩ (.sh g) ⟨st++ [.lf X],p0++ [z]++ [g],k+1,false⟩
 | rd {s1 s2:List Nd} {pl p0 p1:List Nat} {z z' k r g:Nat} {lk CH:Bool} {p:Pr}:pl=p1++ [z']->z'<S->z<S->((BI rws Ab z'=r/\CH=lk)\/(BI rws Ab z'=0/\act rws Ab z' (num (ck w k))= -(r:Int)/\CH=true))->0<r->ps[r]?=some p->s2.length=p.2.length->pl.take (s1.length+1)=p0++ [z]->(Ae.getD z []).lookup (num p.1)=some g->
  LL S ps w rws Ae Ab ⟨s1++s2,pl,k,lk⟩ (.rd r) ⟨s1++ [.nd p.1 r (D5 s2)],p0++ [z]++ [g],k,CH⟩
inductive Gg(S:Nat)(ps:List Pr)(w:List Sy)(rws:List (List Int))(Ae:List (List (Nat×Nat)))(Ab:List Int):CF->List Mv->CF->Prop
 | nil (f:CF):Gg S ps w rws Ae Ab f [] f
 | cons {a b d:CF} {m:Mv} {ms:List Mv}:LL S ps w rws Ae Ab a m b->Gg S ps w rws Ae Ab b ms d->Gg S ps w rws Ae Ab a (m::ms) d
inductive Nr(S:Nat)(w:List Sy)(rws:List (List Int))(Ab:List Int):CF->Option Nd->Prop
 | ac {s1:List Nd} {v:Nd} {p0:List Nat} {z k:Nat} {lk:Bool}:z<S->BI rws Ab z=0->act rws Ab z (num (ck w k))=1048576->Nr S w rws Ab ⟨s1++ [v],p0++ [z],k,lk⟩ (some v)
 | er {st:List Nd} {p0:List Nat} {z k:Nat} {lk:Bool}:z<S->BI rws Ab z=0->act rws Ab z (num (ck w k))=0->Nr S w rws Ab ⟨st,p0++ [z],k,lk⟩ none
noncomputable abbrev bn(b:Bool):Nat:=cond b 1 0
noncomputable abbrev LM(w:List Sy)(m:List (Nat×Int))(f:CF)(ms:List Mv):CC:=⟨m,f.pl,f.st,cond f.lk (some (ck w f.k)) none,f.k+bn f.lk,"more",none,[],ms,min (f.k+bn f.lk) w.length⟩
theorem PZ{w:List Sy}(hw:∀X∈w,X∈A4)(k:Nat):ck w k= .en\/ck w k∈A4:=by
 rcases KS k w.length with h|h
 ·exact .inr (hw _ (getD_mem h))
 ·exact .inl (by simp[h])
noncomputable abbrev P7(X:Sy)(z:Nat)(ns:List AV)(i:Int):AV:=Cc 314 [Ce X,.int z,.lst ns,.int i]
noncomputable abbrev LN(a:Bool)(v:Option Nd)(fl:List AV)(ms:List Mv):AV:=Cc 342 [.bool a,vA v,.lst fl,.lst (ms.map C0)]
section
variable{c:Cx}{n:Nat}{V s:St}{Q:AV->St->Prop}{m:Nat}{ps:List Pr}{gr HA tk:AV}{S:Nat}{rws:List (List Int)}{Ae:List (List (Nat×Nat))}{Ab:List Int}{A:AD}{C:CC}{w:List Sy}
noncomputable abbrev Ko(A:AD):Al:= [some (.obj 537 A.da),some (.obj 370 A.tr)]
theorem S9(O:AE c)(T:CU S rws Ae Ab)(hw:∀X∈w,X∈A4)(BZ:w.length<=1000){st:List Nd}{p0:List Nat}{z k:Nat}{lk:Bool}{ms:List Mv}{mm:List (Nat×Int)}{K:Fl->Al->St->Prop}(hz:z<S)(hl:p0.length<=10000)(hk:k<=w.length)(hL:CV S rws Ab mm)
  (G:HC c V (AG c m ps gr rws Ae Ab) HA (.lst (w.map Ce)) A (LM w mm ⟨st,p0++ [z],k,lk⟩ ms) s)
  (q:∀m' CH s',CV S rws Ab m'->(BI rws Ab z=0->CH=true)->(¬BI rws Ab z=0->CH=lk)->HC c V (AG c m ps gr rws Ae Ab) HA (.lst (w.map Ce)) A (LM w m' ⟨st,p0++ [z],k,CH⟩ ms) s'->vs c (n+7) mG (Ko A) s' K):
  vs c (n+7) So (Ko A) s K:=by
 refine Sq (λW s'=>W=Ko A/\ ∃m' CH,CV S rws Ab m'/\(BI rws Ab z=0->CH=true)/\(¬BI rws Ab z=0->CH=lk)/\HC c V (AG c m ps gr rws Ae Ab) HA (.lst (w.map Ce)) A (LM w m' ⟨st,p0++ [z],k,CH⟩ ms) s') (λN hn Z=>?_) ?_
 ·refine⟨⟨_,HC.ob G⟩,?_⟩;cases lk with
  | true=>
   refine(uB (n:=n+2) (p0:=p0) O T rfl hl hz G hL (λe=>nomatch e) λX Z=>?_).call;exact⟨(λe=>nomatch e),λZ=>hn _ _ ⟨rfl,mm,true,hL,λZ=>rfl,λZ=>rfl,G⟩⟩
  | false=>
   refine(uB (n:=n+2) (p0:=p0) O T rfl hl hz G hL (λZ m' s' Cw G'=>?_) λX e=>nomatch e).call;refine⟨λe=>?_,λe=>hn _ _ ⟨rfl,m',false,Cw,(λh=>absurd h (of_decide_eq_false e)),λZ=>rfl,G'⟩⟩;have CA:=of_decide_eq_true e;refine⟨⟨_,HC.ob G'⟩,⟨_,HC.rw G'⟩,(AjU (n:=n+3) O hw BZ (Ks _ _) G' λs2 G2=>?_).call⟩;have ek:ck w (min k w.length)=ck w k:=Aa (Jt hk) rfl;refine Aa ek ?_;refine(AjT (n:=n+5) O G2 λs3 G3=>?_).call;refine hn _ _ ⟨rfl,m',true,Cw,λZ=>rfl,(λh=>absurd CA h),?_⟩;have em:min (min k w.length+1) w.length=min (k+1) w.length:=by lia
   have G3:HC c V (AG c m ps gr rws Ae Ab) HA (.lst (w.map Ce)) A ⟨m',p0++ [z],st,some (ck w k),k+1,"more",none,[],ms,min (min k w.length+1) w.length⟩ s3:=G3;replace G3:=em▸G3;exact G3
 ·intro _ s';intro hZ;obtain⟨rfl,m',CH,a1,a2,a3,a4⟩:=hZ;exact q m' CH s' a1 a2 a3 a4
theorem Akd(O:AE c)(T:CU S rws Ae Ab)(h1:1<=m)(h3:m<=3)(hl:ps.length<=1000)(hw:∀X∈w,X∈A4)(BZ:w.length<=1000){f f':CF}{mv:Mv}(P:LL S ps w rws Ae Ab f mv f'){ms:List Mv}{mm:List (Nat×Int)}{K:Fl->Al->St->Prop}(hk:f.k<=w.length)(hL:CV S rws Ab mm)
  (b1:f.st.length<=9000) (b2:f.pl.length<=9000) (b3:ms.length<5000)
  (G:HC c V (AG c m ps gr rws Ae Ab) (BY ps) (.lst (w.map Ce)) A (LM w mm f ms) s)
  (q:∀st va m' s',CV S rws Ab m'->HC c V (AG c m ps gr rws Ae Ab) (BY ps) (.lst (w.map Ce)) ⟨A.da,A.lo,st,va,A.fa,A.mo,A.tr⟩ (LM w m' f' (ms++ [mv])) s'->K .next (Ko A) s'):
  vs c (n+7) So (Ko A) s K:=by
 cases P with
 | @sh st p0 z k g lk X hz CA hX ha hg0 hg1=>
  have tO:=(A5.mp hX).1;have eX:ck w k=X:=by rewrite[ck];exact Aa Dk<|Aa hX rfl
  refine S9 (n:=n) O T hw BZ hz (by simp at b2;exact N1 b2 rfl) hk hL G λm' CH s' Cw e1 Z G'=>?_;cases (e1 CA);refine⟨⟨_,HC.ob G'⟩,(Aka (n:=n) (g:=g) (X:=X) O T h1 h3 (congrArg some eX) (hw X (A8 hX)) rfl hz ⟨hg0,hg1⟩ CA ha Cw (by show st.length<=_;simp at b1;exact N1 b1 rfl) (by show(p0++ [z]).length<=_;simp at b2⊢;exact N1 b2 rfl) b3 G' λm2 s2 GE G2=>?_).call⟩;have G2:HC c V (AG c m ps gr rws Ae Ab) (BY ps) (.lst (w.map Ce)) A ⟨m2,p0++ [z]++ [g],st++ [Nd.lf X],none,k+1,"more",none,[],ms++ [Mv.sh g],min (k+1) w.length⟩ s2:=G2;exact q A.st A.va m2 s2 GE G2
 | @rd s1 s2 pl p0 p1 z z' k r g lk CH p LK DY hz hc hr hp h2 A3 hg=>
  subst LK;have FC:p1.length<=10000:=by simp at b2;exact N1 b2 rfl
  refine S9 (n:=n) O T hw BZ DY FC hk hL G λm' uG s' Cw e1 e2 G'=>?_;rcases hc with⟨CA,rfl⟩|⟨CA,ha,rfl⟩
  ·have e2:=e2 (by exact Aa CA<|λCJ=>Mk (JN hr) CJ);subst e2;refine⟨⟨_,HC.ob G'⟩,(Aj8 (n:=n) (s1:=s1) (s2:=s2) O T rfl DY hr CA Cw hp hl rfl h2 A3 hz hg (by show(s1++s2).length<=_;simp at b1⊢;exact N1 b1 rfl) (by show(p1++ [z']).length<=_;simp at b2⊢;exact N1 b2 rfl) b3 G' λst va m2 s2 GE G2=>?_).call⟩;exact q st va m2 s2 GE G2
  ·cases (e1 CA);refine⟨⟨_,HC.ob G'⟩,(Aj9 (n:=n) (s1:=s1) (s2:=s2) O T h1 h3 (X:=ck w k) rfl (PZ hw k) rfl DY hr CA ha Cw hp hl rfl h2 A3 hz hg (by show(s1++s2).length<=_;simp at b1⊢;exact N1 b1 rfl) (by show(p1++ [z']).length<=_;simp at b2⊢;exact N1 b2 rfl) b3 G' λst va m2 s2 GE G2=>?_).call⟩;exact q st va m2 s2 GE G2
inductive Ta(c:Cx)(V:St)(m:Nat)(ps:List Pr)(gr:AV)(rws:List (List Int))(Ae:List (List (Nat×Nat)))(Ab:List Int)(w:List Sy)(da lo fa mo tr:Addr)(ms:List Mv)(k:Nat)(s:St):Option Nd->Prop
 | acc (v:Nd) (st va:Addr) (m':List (Nat×Int)) (pl:List Nat) (vs:List Nd) (lk:Option Sy) (ct p:Nat):HC c V (AG c m ps gr rws Ae Ab) (BY ps) (.lst (w.map Ce)) ⟨da,lo,st,va,fa,mo,tr⟩ ⟨m',pl,vs,lk,ct,"accepted",some v,[],ms++ [.ac],p⟩ s->Ta c V m ps gr rws Ae Ab w da lo fa mo tr ms k s (some v)
 | uH (st va:Addr) (m':List (Nat×Int)) (pl:List Nat) (vs:List Nd) (lk:Option Sy) (ct p z:Nat) (ns:List AV):HC c V (AG c m ps gr rws Ae Ab) (BY ps) (.lst (w.map Ce)) ⟨da,lo,st,va,fa,mo,tr⟩ ⟨m',pl,vs,lk,ct,"aborted",none,[P7 (ck w k) z ns k],ms,p⟩ s->Ta c V m ps gr rws Ae Ab w da lo fa mo tr ms k s none
theorem Ake(O:AE c)(T:CU S rws Ae Ab)(h1:1<=m)(h3:m<=3)(hl:ps.length<=1000)(hw:∀X∈w,X∈A4)(BZ:w.length<=1000){f:CF}{e:Option Nd}(P:Nr S w rws Ab f e){ms:List Mv}{mm:List (Nat×Int)}{K:Fl->Al->St->Prop}(hk:f.k<=w.length)(hL:CV S rws Ab mm)
  (b1:f.st.length<=9000) (b2:f.pl.length<=9000) (b3:ms.length<5000)
  (G:HC c V (AG c m ps gr rws Ae Ab) (BY ps) (.lst (w.map Ce)) A (LM w mm f ms) s)
  (q:∀s',Ta c V m ps gr rws Ae Ab w A.da A.lo A.fa A.mo A.tr ms f.k s' e->K .next (Ko A) s'):
  vs c (n+7) So (Ko A) s K:=by
 cases P with
 | @ac s1 v p0 z k lk hz CA ha=>
  refine S9 (n:=n) O T hw BZ hz (by simp at b2;exact N1 b2 rfl) hk hL G λm' CH s' Cw e1 Z G'=>?_;cases (e1 CA);refine⟨⟨_,HC.ob G'⟩,(Akb (n:=n) (p0:=p0) (s1:=s1) (v:=v) (X:=ck w k) O T h1 h3 rfl (PZ hw k) rfl (by simp at b2;exact N1 b2 rfl) hz CA ha Cw rfl (by show(s1++ [v]).length<=_;simp at b1⊢;exact N1 b1 rfl) b3 G' λm2 s2 GE G2=>?_).call⟩;exact q s2 (.acc v A.st A.va m2 (p0++ [z]) (s1++ [v]) (some (ck w k)) (k+1) (min (k+1) w.length) G2)
 | @er st p0 z k lk hz CA ha=>
  refine S9 (n:=n) O T hw BZ hz (by simp at b2;exact N1 b2 rfl) hk hL G λm' CH s' Cw e1 Z G'=>?_;cases (e1 CA);refine⟨⟨_,HC.ob G'⟩,(Akc (n:=n) (p0:=p0) (X:=ck w k) O T h1 h3 rfl (PZ hw k) rfl (by simp at b2;exact N1 b2 rfl) hz CA ha Cw (Cq _) G' λns m2 s2 GE G2=>?_).call⟩;have G2:HC c V (AG c m ps gr rws Ae Ab) (BY ps) (.lst (w.map Ce)) A ⟨m2,p0++ [z],st,some (ck w k),k+1,"aborted",none,[P7 (ck w k) z ns (((k+1:Nat):Int)-1)],ms,min (k+1) w.length⟩ s2:=G2;replace G2:=(show(((k+1:Nat):Int)-1)=k by omega)▸G2;exact q s2 (.uH A.st A.va m2 (p0++ [z]) st (some (ck w k)) (k+1) (min (k+1) w.length) z ns G2)
theorem uI(O:AE c){a:Bool}(ha:C.an=cond a "accepted" "aborted")(h1:C.fl.length<=1000)(h2:C.ms.length<=9000)(G:HC c V (AG c m ps gr rws Ae Ab) HA tk A C s)(q:Q (LN a C.v C.fl C.ms) V):A0 c (n+5) (.ref 403) [.obj 537 A.da] s Q:=by
 refine Agv.run O ?_;refine⟨_,HC.ob G,?_⟩;refine Aa ha ?_;have main:∀b:Bool,b=a->(λa0 Af=>vc c (n+4) (.cons (.attr (.v 0) "value" 9 [537]) (.cons (.call (.type "list") 2 34 (.cons (.attr (.v 0) "faults" 10 [537]) .nil)) (.cons (.call (.type "list") 2 34 (.cons (.attr (.v 0) "moves" 11 [537]) .nil)) .nil))) (put (Cy 4 none) [0] [.obj 537 A.da]) Af λv Av=>E2 v λxs=>E2 (.tup (a0::xs)) λxs=>An c (n+4) (.ref 342) xs Av (CX Q)) (.bool b) s:=λb e=>by
  subst e;refine⟨_,HC.ob G,Bz.mk (SZ _) ⟨_,HC.ob G,An.listS (.ref (G.get 4)) (Bh h1) λx hx=>?_⟩⟩;have G:=G.add (x:= .list C.fl) hx;have o2:=Own.get (o:=H9 (AG c m ps gr rws Ae Ab) HA A.lo A.st A.va (FK C.lk) (.int C.ct) (.str C.an) (vA C.v) A.fa A.mo) G 0;refine⟨_,o2,An.listS (.ref (Own.get (o:= .list (C.ms.map C0)) G 5)) (BX (by exact Aa (Ai _)<|N1 h2 rfl)) λy hy=>?_⟩;have G:=G.add (x:= .list (C.ms.map C0)) hy;refine Ai1 O λda hd=>?_;have G:=G.add (x:=Bw 342 [.bool b,vA C.v,.ref x,.ref y]) hd;exact⟨V,_,G.fr,.inst (Own.get G 9) (G.nn da (by simp)) (.cons (.same _) (.cons (.same _) (.cons (.lst (Own.get G 7) (G.nn x (by simp)) (.same _)) (.cons (.lst (Own.get G 8) (G.nn y (by simp)) (.same _)) .nil)))),CX.plain q⟩
 cases a with
 | true=>exact⟨λZ=>main true rfl,λh=>absurd rfl h⟩
 | false=>exact⟨λh=>absurd h (by decide+kernel),λZ=>main false rfl⟩
end
section
variable{c:Cx}{n:Nat}{V s:St}{Q:AV->St->Prop}{m:Nat}{ps:List Pr}{gr HA tk:AV}{S:Nat}{rws:List (List Int)}{Ae:List (List (Nat×Nat))}{Ab:List Int}{A:AD}{C:CC}{w:List Sy}
theorem LL.bd{f f':CF}{mv:Mv}(P:LL S ps w rws Ae Ab f mv f')(hk:f.k<=w.length):f'.k<=w.length/\f'.st.length<=f.st.length+1/\f'.pl.length<=f.pl.length+1:=by
 cases P with
 | sh _ _ hX _ _ _=>
  have:=(A5.mp hX).1;exact⟨this,by simp,by simp⟩
 | rd _ _ _ _ _ _ h2 A3 _=>
  have:=congrArg EQ A3;replace this:=JI▸this;simp at this;exact⟨hk,by simp,by simp;exact N7 (Eq.symm this) (Ks _ _)⟩
theorem ne1:¬HD "accepted"=HD "more":=by decide+kernel
theorem ne2:¬HD "aborted"=HD "more":=by decide+kernel
inductive Xk(c:Cx)(V:St)(m:Nat)(ps:List Pr)(gr:AV)(S:Nat)(rws:List (List Int))(Ae:List (List (Nat×Nat)))(Ab:List Int)(w:List Sy)(A:AD)(fa mo:Addr)(ms:List Mv)(fe:CF)(e:Option Nd)(s:St):Nat->Prop
 | go (f:CF) (st va:Addr) (m':List (Nat×Int)) (GQ rem:List Mv):CV S rws Ab m'->HC c V (AG c m ps gr rws Ae Ab) (BY ps) (.lst (w.map Ce)) ⟨A.da,A.lo,st,va,fa,mo,A.tr⟩ (LM w m' f GQ) s->Gg S ps w rws Ae Ab f rem fe->ms=GQ++rem->f.k<=w.length->f.st.length<=GQ.length->f.pl.length<=GQ.length+1->Xk c V m ps gr S rws Ae Ab w A fa mo ms fe e s (rem.length+1)
 | fin:Ta c V m ps gr rws Ae Ab w A.da A.lo fa mo A.tr ms fe.k s e->Xk c V m ps gr S rws Ae Ab w A fa mo ms fe e s 0
theorem Akf(O:AE c)(T:CU S rws Ae Ab)(h1:1<=m)(h3:m<=3)(hl:ps.length<=1000)(hw:∀X∈w,X∈A4)(BZ:w.length<=1000){ms:List Mv}{fe:CF}{e:Option Nd}(R:Gg S ps w rws Ae Ab ⟨[],[0],0,false⟩ ms fe)(E:Nr S w rws Ab fe e)(hm:ms.length<=4900)
  (G:HC c V (AG c m ps gr rws Ae Ab) (BY ps) (.lst (w.map Ce)) A C s) (hL:CV S rws Ab C.m) (hp:C.p=0) (q1:∀v,e=some v->Q (LN true (some v) [] (ms++ [.ac])) V) (q2:e=none->∀z ns,Q (LN false none [P7 (ck w fe.k) z ns fe.k] ms) V):A0 c (n+8) (.ref 417) [.obj 537 A.da,.obj 370 A.tr] s Q:=by
 refine AgA.run O ?_;refine⟨⟨_,HC.ob G⟩,(AjR (n:=n+5) O G λst va fa mo s' G=>?_).call⟩;refine⟨λmm W s=>W=Ko A/\Xk c V m ps gr S rws Ae Ab w A fa mo ms fe e s mm,ms.length+1,⟨rfl,.go ⟨[],[0],0,false⟩ st va C.m [] ms hL ?_ R rfl (Cq _) (BJ _) (BJ _)⟩,?_⟩
 ·have G:HC c V (AG c m ps gr rws Ae Ab) (BY ps) (.lst (w.map Ce)) ⟨A.da,A.lo,st,va,fa,mo,A.tr⟩ ⟨C.m,[0],[],none,0,"more",none,[],[],C.p⟩ s':=G;replace G:=hp▸G;have e0:min 0 w.length=0:=Nat.zero_min _;exact Aa e0<|G
 intro mm _ s;intro hZ;refine Ah hZ ?_;clear hZ;rintro rfl I;cases I with
 | go f st va m' GQ rem Cw G R' e1 b1 b2 b3=>
  subst e1;replace hm:=AY▸hm;refine⟨_,(HC.ob G:),⟨λZ=>?_,λh=>absurd rfl h⟩⟩;cases R' with
  | nil=>
   refine Ake (n:=n) (A:=⟨A.da,A.lo,st,va,fa,mo,A.tr⟩) O T h1 h3 hl hw BZ E b1 Cw (N1 (AP b2 (CN hm)) rfl) (M20 hm b3) (N2 (CN hm) rfl) G λs' F=>?_;exact Aa (C8 _)<|⟨0,Nat.zero_lt_succ _,rfl,.fin F⟩
  | @cons _ f' _ mv uJ P R2=>
   refine Bq (P.bd b1) ?_;intro k1 k2 k3;replace hm:=Fc▸hm;refine Akd (n:=n) (A:=⟨A.da,A.lo,st,va,fa,mo,A.tr⟩) O T h1 h3 hl hw BZ P b1 Cw (N1 (AP b2 (CN hm)) rfl) (M29 b3 hm) (N2 (CN hm) rfl) G λEd va' m2 s' GE G2=>?_;exact⟨uJ.length+1,Yd _,rfl,.go f' Ed va' m2 (GQ++ [mv]) uJ GE G2 R2 (List.append_cons _ _ _) k1 (by exact Aa AY<|(by exact AP k2 (Kr b2 _):f'.st.length<=GQ.length+1)) (by exact Aa AY<|(by exact AP k3 (Kr b3 _):f'.pl.length<=GQ.length+1+1))⟩
 | fin F=>
  cases F with
  | acc v st va m' pl vs lk ct p F=>
   refine⟨_,(HC.ob F:),⟨λh=>absurd h ne1,λZ=>?_⟩⟩;refine⟨⟨_,(HC.ob F:)⟩,(uI (n:=n+2) (a:=true) O rfl (Cq _) (by show(ms++ [Mv.ac]).length<=_;exact Aa AY<|(by exact KU hm rfl:ms.length+1<=9000)) F ?_).call⟩;exact⟨V,_,λZ Z h=>h,.same _,q1 v rfl⟩
  | uH st va m' pl vs lk ct p z ns F=>
   refine⟨_,(HC.ob F:),⟨λh=>absurd h ne2,λZ=>?_⟩⟩;refine⟨⟨_,(HC.ob F:)⟩,(uI (n:=n+2) (a:=false) O rfl (Ds rfl) (by show ms.length<=_;exact N1 hm rfl) F ?_).call⟩;exact⟨V,_,λZ Z h=>h,.same _,q2 rfl z ns⟩
theorem Akg(O:AE c)(h1:1<=m)(h3:m<=3)(hl:ps.length<=1000)(hu:∀p∈ps,p.1∈used m)(q:Q (.lst (ps.map λp=>Az p.1)) V):A0 c (n+2) (.ref 803) [AG c m ps gr rws Ae Ab] V Q:=by refine AhJ.run O ?_;refine⟨rfl,?_⟩;have nl:(BM m).length=7+m:=Sz h3;refine comp_map (enc:=λp:Pr=>AB (num p.1)) (λp=>Az p.1) rfl (Bh hl) (λp hp K hK=>⟨rfl,?_⟩) (BW rfl (A6 q));exact AL.B4 (x:=Az p.1) .lst (B8 _) (by exact Aa (Ai _)<|N2 (N7 nl (Kq h3 _)) rfl) (by show((BM m).map AV.str)[num p.1]?=_;exact Aa Bp<|Aa (SO h1 h3 (hu p hp)) rfl) hK
theorem Akh(O:AE c)(T:CU S rws Ae Ab)(h1:1<=m)(h3:m<=3)(hl:ps.length<=1000)(hw:∀X∈w,X∈A4)(BZ:w.length<=1000){ms:List Mv}{fe:CF}{e:Option Nd}(R:Gg S ps w rws Ae Ab ⟨[],[0],0,false⟩ ms fe)(E:Nr S w rws Ab fe e)(hm:ms.length<=4900){da lo st va fa mo:Addr}
  (G:Own V [da,lo,st,va,fa,mo] [H9 (AG c m ps gr rws Ae Ab) (BY ps) lo st va .none (.int 0) (.str "more") .none fa mo,.dict [] [],.list [.int 0],.list [],.list [],.list []] s) (q1:∀v,e=some v->Q (LN true (some v) [] (ms++ [.ac])) V) (q2:e=none->∀z ns,Q (LN false none [P7 (ck w fe.k) z ns fe.k] ms) V):A0 c (n+9) (.ref 410) [.obj 537 da,.lst (w.map Ce)] s Q:=by
 refine Agx.run O ?_;refine⟨⟨_,Own.get G 0⟩,Ai2 O λtr htr=>?_⟩;have G:HC c V (AG c m ps gr rws Ae Ab) (BY ps) (.lst (w.map Ce)) ⟨da,lo,st,va,fa,mo,tr⟩ ⟨[],[0],[],none,0,"more",none,[],[],0⟩ _:=G.add (x:=Bw 370 [.lst (w.map Ce),.int 0]) htr;refine(Akf (n:=n) O T h1 h3 hl hw BZ R E hm G ⟨Il,λp h=>by cases h⟩ rfl (λv hv=>?_) λhe z ns=>?_).call
 ·exact A6 (q1 v hv)
 ·exact A6 (q2 he z ns)
end
noncomputable def P8:Mv->Option Nat
 | .rd r=>some r
 | _=>none
def Good(S:Nat)(ps:List Pr)(w:List Sy)(rws:List (List Int))(Ae:List (List (Nat×Nat)))(Ab:List Int)(sure:Bool):Prop:=
 ∃ms fe e ld os,Gg S ps w rws Ae Ab ⟨[],[0],0,false⟩ ms fe/\Nr S w rws Ab fe e/\ms.length<=4000/\os.length<=4000/\Ge ps w rws Ae ⟨[],[0],0⟩ (ms++(e.map λZ=>Mv.ac).toList) ld os/\(match e with
  | some v=>(FJ v).length<=10000/\(FJ v).filterMap PV=ms.filterMap P8/\(FJ v).filterMap PU=w/\Gf [v] (w::os).reverse/\ ∀r∈w::os,r.length<=10000
  | none=>sure=false/\ld.k=fe.k)
theorem uK(x:Mv):AV.flat 8 (.lst [C0 x])=true:=by
 cases x with
 | sh g=>kernel_rfl
 | rd g=>kernel_rfl
 | ac=>kernel_rfl
theorem Aki{x:Mv}(h:C0 x= .tup [.str "accept"]):x= .ac:=by
 cases x with
 | ac=>rfl
 | sh g=>cases h
 | rd g=>cases h
theorem uL(l:List Nat):AV.flat 8 (.lst (l.map AB))=true:=by
 have:AV.CO 7 (l.map AB)=true:=KY λx hx=>by refine Ad (Bj.mp hx) ?_;clear hx;rintro y _ rfl;rfl
 exact this
theorem uM(y:Sy)(k:Nat):AV.flat k (Az y)=true:=by exact y.ok
theorem uN(l:List Sy):AV.flat 8 (.lst (l.map λX=>.tup [Az X,Az X]))=true:=by
 have:AV.CO 7 (l.map λX=>AV.tup [Az X,Az X])=true:=KY λx hx=>by
  refine Ad (Bj.mp hx) ?_;clear hx;rintro y _ rfl;have h:=uM y 6;exact(D7 _ _).mpr ⟨h,(D7 _ _).mpr ⟨h,rfl⟩⟩
 exact this
theorem uO(l:List (List Sy)):AV.flat 8 (.lst (l.map E7))=true:=by
 have:AV.CO 7 (l.map E7)=true:=KY λx hx=>by
  refine Ad (Bj.mp hx) ?_;clear hx;rintro y _ rfl;have:AV.CO 6 (y.map Az)=true:=KY λx hx=>by refine Ad (Bj.mp hx) ?_;clear hx;rintro z _ rfl;exact uM z 6
  exact this
 exact this
theorem Gg.noac{S:Nat}{w:List Sy}{a d:CF}(h:Gg S ps w rws Ae Ab a ms d):Mv.ac∉ms:=by
 induction h with
 | nil=>exact λh=>nomatch h
 | cons P _ ih=>
  intro h;rcases Bo.mp h with e|h
  ·subst e;cases P
  ·exact ih h
section
variable{c:Cx}{n:Nat}{V s:St}{Q:AV->St->Prop}{m:Nat}{ps:List Pr}{gr:AV}{S:Nat}{rws:List (List Int)}{Ae:List (List (Nat×Nat))}{Ab:List Int}{w:List Sy}
theorem AR.uP{a b:Bool}(q:Q (.bool (!decide (a=b))) V):AR c n .NotEq (.bool a) (.bool b) V Q:=by
 intro F P v u r1 r2 A s ok I;subst r1;subst r2;have e:Jy (.bool a) (.bool b)=decide (a=b):=by cases a<;>cases b<;>decide
 exact ne_dataH (.bool a) (.bool b) (by cases a<;>decide) (by cases b<;>decide) (by have:=ok.un;unfold DC;exact N2 (AI (CN this) (BJ _)) rfl) ⟨F,V,.bool _,.refl,I,.bool _,Aa e<|q⟩
theorem uQ{x:Nd}{K:Nat->Prop}(q:K a):R7 (Bf x) [(707,a),(742,a)] V K:=by
 cases x with
 | lf s=>exact⟨rfl,q⟩
 | nd A i k=>exact⟨rfl,q⟩
theorem Akj(l:List Mv)(h:(l.drop (l.length-1)).map C0= [AV.tup [.str "accept"]]):Mv.ac∈l:=by
 cases hd:l.drop (l.length-1) with
 | nil=>replace h:=hd▸h;exact Iz h
 | cons x t=>
  replace h:=hd▸h;have h:=Aki (Qy h).1;subst h;exact Abr (by exact Aa hd<|.head _)
open Classical in
theorem uR{K:AV->St->Prop}(l:List Mv)(q:K (.bool (decide ((l.drop (l.length-1)).map C0= [AV.tup [.str "accept"]]))) s):AR c n .Eq (.lst ((l.drop (l.length-1)).map C0)) (.lst [.tup [.str "accept"]]) s K:=by
 refine AR.ZX ?_ (uK .ac) ?_
 ·have h:(l.drop (l.length-1)).length<=1:=Aa Y1<|Nat.sub_le_of_le_add (JL 1 _▸Nat.le_add_of_sub_le (BJ _));cases hd:l.drop (l.length-1) with
  | nil=>rfl
  | cons x t=>cases t with
   | nil=>exact uK x
   | cons _ _=>replace h:=hd▸h;exact absurd (Nat.le_of_succ_le_succ h) (Nat.not_succ_le_zero _)
 ·have e:(AV.lst ((l.drop (l.length-1)).map C0)= .lst [.tup [.str "accept"]])=((l.drop (l.length-1)).map C0= [AV.tup [.str "accept"]]):=propext ⟨AV.lst.inj,congrArg _⟩;simp only[e];exact q
theorem uS(l:List Mv):pick (l.map C0) (some (-1)) none none=(l.drop (l.length-1)).map C0:=(AiC _).trans (by exact Aa (Ai _)<|Aa Y0 rfl)
open Classical in
theorem Akk(O:AE c)(T:CU S rws Ae Ab)(h1:1<=m)(h3:m<=3)(hs:Small ps)(hu:∀p∈ps,p.1∈used m)(hw:∀X∈w,X∈A4)(BZ:w.length<=1000){x1 x2 x3 x4:AV}{sure:Bool}(g:Good S ps w rws Ae Ab sure)(q:Q (.bool true) V):
  A0 c (n+10) (.ref 864) [.lst (ps.map AZ),AG c m ps (EI m ps x1 x2 x3 x4) rws Ae Ab,Bm w,.bool sure] V Q:=by
 refine Zs g ?_;clear g;intro ms fe e ld os R E hm ho L g;have hl:ps.length<=1000:=AP hs.ln (by decide);have hz:rws.length<=1048576/\Ae.length<=1048576:=Aa T.l1<|Aa T.l2<|⟨T.le,T.le⟩;have Hb:(e.map λZ=>Mv.ac).toList.length<=1:=by cases e<;>simp
 have hac:=R.noac;refine Aiw.run O ?_;refine Kh (λa s'=>s'=V/\((∃v,e=some v/\a=LN true (some v) [] (ms++ [.ac]))\/(e=none/\ ∃z ns,a=LN false none [P7 (ck w fe.k) z ns fe.k] ms))) (λK hK=>?_) ?_
 ·refine(Akg (n:=n+7) O h1 h3 hl hu ?_).call;refine Ai5 (n:=n+6) O (AjQ (n:=n+5) O λda lo st va fa mo s' G=>?_);refine⟨⟨_,Own.get G 0⟩,?_⟩;refine comp_map (enc:=Az) Ce rfl (Bh BZ) (λX hX K hK=>?_) ?_
  ·refine rF (n:=n+6) O ?_;refine AS (uD (hw X hX)) ?_;exact hK
  refine BW rfl ?_;exact(Akh (n:=n) O T h1 h3 hl hw BZ R E (N1 hm rfl) G (λv hv=>hK _ _ ⟨rfl,.inl ⟨v,hv,rfl⟩⟩) λhe z ns=>hK _ _ ⟨rfl,.inr ⟨he,z,ns,rfl⟩⟩).call
 intro a s';intro hZ;refine Ah hZ ?_;clear hZ;rintro rfl hE;have led:∀{K:AV->St->Prop},K (.tup [.lst ((w::os).map E7),.int ld.k]) s'->An c (n+9) (.ref 859) [.lst (ps.map AZ),AG c m ps (EI m ps x1 x2 x3 x4) rws Ae Ab,.lst ((ms++(e.map λZ=>Mv.ac).toList).map C0),Bm w] s' K:=λq=>(AjC (n:=n+6) O h1 h3 hs hu hw BZ hz L (by exact Aa AY<|NV hm Hb rfl) q).call;rcases hE with⟨v,rfl,rfl⟩|⟨rfl,z,ns,rfl⟩
 ·refine Mo g ?_;clear g;intro g1 g2 g3 g4 g5;refine⟨rfl,led ?_⟩;refine⟨rfl,rfl,Aa (Ai _)<|Aa AY<|BX (by simp;exact N1 hm rfl),?_⟩;refine BW (uS _) (uR _ ?_);rw[decide_eq_true (by simp;rfl)];refine bT (AR.uP (bF ?_));refine⟨rfl,⟨λZ=>?_,λe=>nomatch e⟩⟩;refine⟨rfl,?_⟩;refine Hj (enc:=C0) (λx=>(P8 x).map AB) rfl (BX (by simp;exact N1 hm rfl)) (λx Z K N hK hN=>?_) ?_
  ·cases x with
   | sh g=>exact AL.at 2 .tup rfl rfl ⟨λh=>absurd h (by decide+kernel),λZ=>hN rfl⟩
   | rd r=>exact AL.at 2 .tup rfl rfl ⟨λZ=>AL.at 2 .tup rfl rfl (hK _ rfl),λh=>absurd rfl h⟩
   | ac=>exact AL.at 1 .tup rfl rfl ⟨λh=>absurd h (by decide+kernel),λZ=>hN rfl⟩
  refine BW (ys:=(ms.filterMap P8).map AB) (by exact Aa Iu<|Aa QW<|C8 _) ?_;refine⟨rfl,AR.OU .lst (bF ?_)⟩;refine⟨rfl,Bz.mk rfl (Bz.mk (SZ (some v)) (uQ ((AjF (n:=n+6) O (N1 g1 rfl) ?_).call)))⟩;refine Aa g2 ?_;refine AR.Oi (uL _) (uL _) (Kg (λh=>absurd rfl h) λZ=>?_);refine⟨rfl,Bz.mk rfl (Bz.mk (SZ (some v)) (uQ ((AjE (n:=n+6) O (N1 g1 rfl) ?_).call)))⟩;refine Aa g3 ?_;refine comp_map (enc:=λs:Sy=>Hn s.str s.str) (λs=>.tup [Az s,Az s]) rfl (Bh BZ) (λs Z K hK=>?_) ?_
  ·refine⟨rfl,(f_95.run (n:=n+7) O ?_).call⟩;exact⟨rfl,rfl,A6 hK⟩
  refine BW rfl ?_;refine comp_map (enc:=Az) (λs=>.tup [Az s,Az s]) rfl (Bh BZ) (λs Z K hK=>hK) ?_;refine BW rfl ?_;refine AR.Oi (uN _) (uN _) (Kg (λh=>absurd rfl h) λZ=>?_);refine AL.at 2 .tup rfl rfl ⟨Aa (Ai _)<|BX (by simp;exact N1 ho rfl),?_⟩;refine BW (ys:=(w::os).reverse.map E7) ((mZ _).trans Abu.symm) ?_;refine⟨rfl,Bz.mk rfl (Bz.mk (SZ (some v)) ((AjG (n:=n+6) O g4 (by simp;exact N1 ho rfl) (λf hf=>g5 f (Abv.mp hf)) ?_).call))⟩;exact AR.ZX (uO _) (uO _) (WF (λZ=>A6 q) λh=>absurd rfl h)
 ·refine Ah g ?_;clear g;rintro rfl hk;have led':∀{K:AV->St->Prop},K (.tup [.lst ((w::os).map E7),.int ld.k]) s'->An c (n+9) (.ref 859) [.lst (ps.map AZ),AG c m ps (EI m ps x1 x2 x3 x4) rws Ae Ab,.lst (ms.map C0),Bm w] s' K:=by intro K;have:= @led K;replace this:=(show ms++(Qs (λZ=>Mv.ac) (none:Option Nd)).toList=ms from C8 _)▸this;exact this
  refine⟨rfl,led' ?_⟩;refine⟨rfl,rfl,Aa (Ai _)<|BX (N1 hm rfl),?_⟩;refine BW (uS _) (uR _ ?_);refine Aa (decide_eq_false λh=>hac (Akj _ h)) ?_;refine bF (AR.uP (bF ?_));refine⟨rfl,⟨(λe=>nomatch e),λZ=>?_⟩⟩;refine⟨(λe=>nomatch e),λZ=>⟨λZ=>?_,λe=>nomatch e⟩⟩;refine⟨rfl,An.len .lst (by show 1<2^62;decide) ⟨λZ=>⟨λZ=>?_,λe=>nomatch e⟩,λh=>absurd rfl h⟩⟩;refine⟨rfl,AL.at 1 .lst rfl rfl ⟨rfl,AL.at 2 .tup rfl rfl ⟨λZ=>A6 q,λh=>absurd (by exact Aa hk rfl) h⟩⟩⟩
end
end Mine.Internal
namespace Mine.Internal.Hd
theorem Akl{l:OpenLaw}{n:Nat}(hm:l.most=some n){ds:List WData}(h:l.pre.holds [] {args:= [.list ds]}=true):ds.length<=n:=by
 unfold OpenLaw.pre WTm.holds at h;replace h:=hm▸h;by_cases hn:n<ds.length
 ·exfalso;have e:Num.less? (Abw n) (Abw ds.length)=some true:=by show some (decide ((n:Int)<ds.length))=_;exact Aa (decide_eq_true (UF hn)) rfl
  simp[WTm.value,less?,e] at h
 ·exact GU hn
theorem Akm{d:WData}(h:Y4 [] d .int=true):∃i,d= .int i:=by
 cases d with
 | int i=>exact⟨i,rfl⟩
 | _=>exact AJ h
theorem Akn{d:WData}(h:Y4 [] d (.list .int)=true):∃ds,d= .list ds/\WShape.hasItems [] ds .int=true:=by
 cases d with
 | list i=>exact⟨i,rfl,(QD _).symm.trans h⟩
 | _=>exact AJ h
theorem Ako{h:Heap}{cl:Str->Option Addr}{ds:List WData}:∀{vs:List Ac}{as:List Addr},ReadsAllW [] cl h vs ds as->(ds.all λd=>Y4 [] d .int)=true->∃ns:List Int,ns.length=ds.length/\ ∀(w:A7)(F:Fz),Ao w F vs (ns.map AV.int):=by
 induction ds with
 | nil=>intro vs as r hs;exact Aa ((Abx r).1)<|⟨[],rfl,λw F=>.nil⟩
 | cons d ds ih=>
  intro vs as r hs;refine Ar (Akm (Bu hs).1) ?_;rintro i rfl;refine Q8 (Aby r) ?_;clear r;intro v us a b e _ r1 r2;refine Ad (readsW_int_inv r1) ?_;clear r1;intro t e1 _;refine Ad (ih r2 (Bu hs).2) ?_;intro ns hl hr;refine Aa e<|Aa e1 ?_;exact⟨i::ns,congrArg Qh hl,λw F=>.cons (.int _ _) (hr w F)⟩
def Xl:Prop:=∀(c:Cx)(l:Addr)(vs:List Ac)(ns:List Int),c.prog=pE->c.K=K c.w.params->c.view=q->c.loose=NR q loose->c.h₀.IsList l vs.toArray->(∀F,Ao c.w F vs (ns.map .int))->ns.length<=63->
  An c 60 (.ref 871) [.raw (.ref l)] St.emp (λa Z=>a= .bool true)
theorem walks(Xm:Xl){d:DefRec}{kwd:List (Str×Expr)}(hd:d.name="law"):
  WalkO q loose (λZ Z=>True) H.says row.toRowW d kwd λf vs=>Ik f vs:=by
 intro w s₀ Df mg mb G Y a o pm cd doc dV kV ho hdat bE hD Qa hg args vals as uT hlay uU BZ CA;have X:(K w.params).In Df.heap:=kIn_of Y;refine Ah (pre_splitW uT) ?_;clear uT;intro p1 p2;refine BS (hasAllW_cons p1) ?_;clear p1;intro dl r e1 hs U6;have e2:=hasAllW_nil U6;subst e2;subst e1;refine Ad (Akn hs) ?_;clear hs;rintro ds rfl hint;rewrite[hasItems_all] at hint;have hlen:=Akl (l:=Mf) (n:=63) rfl p2;refine Q8 (Aby uU) ?_;clear uU;rintro v us a1 a2 rfl _ r1 r2;refine Ah (Abx r2) ?_;clear r2;rintro rfl _;refine Zs (readsW_list_open r1) ?_;clear r1;rintro ad ob vs n ys rfl ho hc hdt ri _;refine Ad (Ako ri hint) ?_;intro ns Lz FI;let c:Cx:=⟨pE,w,K w.params,Df.heap,Df.os,mg,mb,q,NR q loose,topRead_of G.T,X,⟨boot_o_1 w.params,X 1 _ (by kernel_rfl)⟩⟩;have hc:=Xm c ad vs.toList ns rfl rfl rfl rfl ⟨ob,ho,hc,n,Aa hdt rfl⟩ (λF=>FI w F) (N7 Lz hlen);have ha:(CB 871)= .ref a:=by have h1:mg "law"=some (.ref 871):=mg_of X G.T.g (by kernel_rfl);replace Qa:=hd▸Qa;replace Qa:=h1▸Qa;exact Ay Qa
 have h0:Inv c c.h₀.get? (λZ=>none) St.emp Df:=⟨λZ Z e=>e,λZ Z e=>(by exact AA e),λZ Z e=>(by exact AA e),λZ Z Z=>rfl,λZ Z e=>(by exact AA e),λZ Z e=>e,hg,rfl⟩;have run:=hc c.h₀.get? (λZ=>none) [.ref ad] (.cons (.raw _) .nil) callerA Df ⟨rfl,by decide,by decide⟩ h0;refine AS ha ?_;refine AN run (λv s' hQ=>?_) λZ Z x=>x.elim;obtain⟨F',Aq,b,le,I,rp,hb⟩:=hQ;subst hb;subst rp;refine GoodW.toG ⟨.inl ⟨.bool true,.bool true,[],rfl,λZ=>rfl,.bool _,(by kernel_rfl),λZ=>⟨.nil,λa h=>by cases h⟩⟩,λb o e=>I.hf _ _ (le _ _ e),I.os,I.gens⟩
theorem wit:row.toRowW.promised:=⟨[.list []],by decide+kernel,by decide+kernel⟩
theorem holds_of(Xm:Xl):Mf.Holds:=
 ⟨jX,holds_open (r:=row) (q:=q) (loose:=loose) (Xt:=λZ=>true) (XP:=λZ Z=>True) (Yf:=H.obs) (Ya:=H.val) (YP:=H.says) (N:=13000) left H.of H.keeps (λZ Z=>trivial) (λZ Z Z Z Z=>trivial)
  (by rfl) (by rfl) (by rfl) (λs Z=>recFacts_of rfl) (by rfl) (row_said jX) (by decide+kernel) ⟨rfl,rfl,rfl,rfl,rfl,by decide+kernel⟩ wit (walks Xm rfl)⟩
end Mine.Internal.Hd
namespace Mine.Internal
variable{c:Cx}{P:Fz}{X:Sy}{V:St}{hd:AV}{a m b d j n i tk ep NB:Nat}{x:Str}{o:Obj}{W Ap ρ0:Al}{e:Expr}{C da S:Addr}{h' h:Heap}{f v:Ac}{w:A7}{sc scope:BF}{op:FL}{A:BB}{s':Aj}{nm:String}{l I Un J:List It}{xs ks ys:List AV}{ps:List Pr}{ms:List Mv}{t:EK}{tg Cs:List Nat}{Ab:List Int}{Os:List BD}{p:Array Nat}{ts:List Expr}{body:List Stmt}{wr As:List Addr}{a2:Option AV}{Db us ord:List Ac}{κs:List (List AV)}{mm:List (Nat×Int)}{g:Str->Option Addr}{rws:List (List Int)}{binds:List (Str×Ac)}{mo:List (Str×GR)}{Cg:List (Option Nat)}{bh:List (Sy×List It)}{hl:List (Sy×List Sy)}{ns names:List (Str×Bi)}{Aw:List (List (Sy×Nat))}{Ae:List (List (Nat×Nat))}
def Plain:Prop:=∀m ps,BV m ps->(∀H,GN ps H->∃Un NB,Jd ps H Un NB)/\
 ∀H Ag Aw rws Ae Ab (pl:Bool),GN ps H->Sv ps H Ag Aw->PM ps Ag Aw Ag.length rws Ae Ab->(pl=true->∀(j:Nat) I mv,Ag[j]?=some I->Aw[j]?=some mv->Kl ps mv I=true)->CU Ag.length rws Ae Ab/\
  ∀w (sure:Bool),(∀X∈w,X∈A4)->w.length<=101->(sure=true->H7 ps [.S] w/\pl=true)->Good Ag.length ps w rws Ae Ab sure
section
variable{c:Cx}{n:Nat}{V s:St}{Q:AV->St->Prop}
theorem Akp(O:AE c)(Jl:Ni c)(PL:Plain){l:Addr}{vs:List Ac}{ns:List Int}(h:c.h₀.IsList l vs.toArray)(r:∀F,Ao c.w F vs (ns.map .int))(hn:ns.length<=63):A0 c (n+11) (.ref 871) [.raw (.ref l)] V (λa Z=>a= .bool true):=by
 refine Aiz.run O ?_;refine(AiD (n:=n+8) O h r hn λp q s hp=>?_).call;refine(AiF (n:=n+6) O hp λm ps s hG hp=>?_).call;refine Ah (PL m ps hG) ?_;intro hB hP;refine(Pt (n:=n+8) (m:=3) O hp (by decide) (by decide) λr s r0 r1 hp Z=>?_).call;have main:∀b:Bool,An c (n+10) (.ref 847) [.lst (ps.map AZ),.bool b] s λv Af=>E2 v λas=>Bz (Da as.length 2) (Internal.vs c (n+10) (.for false [5] (.FY 12 28 (.int 2)) mW mX) (Pb false [some (.raw (.ref l)),some (.ref p),some (.lst (ps.map AZ)),none,none,none,none,none,none,none,none,none,none,none,none] [3,4] as) Af λfl Z Aq=>CX (λa Z=>a= .bool true) fl.val Aq):=λb=>by
  refine(Ajm (n:=n+5) O Jl hG hB λH Ag Aw rws Ae Ab pl x1 x2 x3 x4 hH hA hT A3=>?_).call;refine Ah (hP H Ag Aw rws Ae Ab pl hH hA hT A3) ?_;intro T g;refine⟨2,rfl,by decide,IZ (λZ=>[some (.raw (.ref l)),some (.ref p),some (.lst (ps.map AZ)),some (AG c m ps (EI m ps x1 x2 x3 x4) rws Ae Ab),some (.bool pl),none,none,none,none,none,none,none,none,none,none]) (λZ s=>B5 s p q) hp (λi x si J hx hp hJ=>?_) λse hp=>?_⟩
  ·refine(Ajs (n:=n+6) O hG hp λw mk s hw BZ hD hp=>?_).call;have right:∀sure:Bool,(sure=true->H7 ps [.S] w/\pl=true)->∀{K:AV->St->Prop},K (.bool true) s->An c (n+10) (.ref 864) [.lst (ps.map AZ),AG c m ps (EI m ps x1 x2 x3 x4) rws Ae Ab,Bm w,.bool sure] s K:=λsure hs {K} hK=>
    (Akk (n:=n) O T hG.n1 hG.n3 hG.small (λp hp=>(hG.used p hp).1) hw (N1 BZ rfl) (g w sure hw BZ hs) hK).call
   refine⟨λe=>?_,λe=>?_⟩
   ·refine right pl (λe2=>⟨hD e,e2⟩) ⟨λZ=>?_,λe=>nomatch e⟩;exact hJ _ hp
   ·refine right mk (λe2=>by replace e2:=e▸e2;exact AJ e2) ⟨λZ=>?_,λe=>nomatch e⟩;exact hJ _ hp
  ·exact A6 rfl
 exact⟨λZ=>main true,λZ=>main false⟩
theorem Akq(Jl:∀c,AE c->c.prog=Hd.pE->Ni c)(PL:Plain):Hd.Xl:=λc l vs ns hp hK Z Z h r hn=>
 (Akp (n:=49) ⟨hK⟩ (Jl c ⟨hK⟩ hp) PL h r hn).call
theorem Akr(Jl:∀c,AE c->c.prog=Hd.pE->Ni c)(PL:Plain):Mf.Holds:=Hd.holds_of (Akq Jl PL)
end
structure Tb(m r:Nat)(p:Pr):Prop where
 lo:1<=r
 hi:r<=4
 nm:p.1∈sig m
 l1:1<=p.2.length
 l3:p.2.length<=3
 sy:∀s∈p.2,s∈A4\/s∈sig m
 un:p.2.length=1->∀s∈p.2,s∈A4
 l2:r<=m->p.2.length<=2/\(sig m)[r-1]?=some p.1
section
variable{m:Nat}{ps:List Pr}{H:Sy->List Sy}
theorem BV.at(G:BV m ps){r:Nat}{p:Pr}(h:ps[r]?=some p):(r=0/\p=(.ac,[.S,.en]))\/Tb m r p:=by
 obtain⟨n1,n3,rs,es,rfl,h1,h2,h3,h4⟩:=G;have hl:=congrArg EQ h1;have sl:(sig m).length=m:=by simp[sig];exact Jt n3
 rewrite[Ai] at hl;replace hl:=sl▸hl;cases r with
 | zero=>replace h:=Ay h;subst h;exact .inl ⟨rfl,rfl⟩
 | succ r=>
  replace h:=List.getElem?_cons_succ▸h;refine .inr ?_;rcases KS r rs.length with hr|hr
  ·replace h:=(Fv hr)▸h;refine Ah (h2 p (A8 h)) ?_;intro a b;have e:(sig m)[r]?=some p.1:=by refine AS h1 ?_;exact Aa Bp<|Aa h rfl
   exact⟨Hr _ _,M26 n3 hl hr,A8 e,Q3 a rfl rfl,Ix a rfl rfl,λs hs=>.inl (b s hs),λZ=>b,λZ=>⟨Ix a rfl rfl,e⟩⟩
  ·replace h:=(KR hr)▸h;refine Bq (h4 p (A8 h)) ?_;intro a b d;have:=(A5.mp h).1;refine⟨Hr _ _,M73 this h3 hl,a,Q3 b rfl rfl,Ix b rfl rfl,λs hs=>?_,λe=>by lia,λe=>by lia⟩;have:=d s hs;simp only[C9,Bo,GS,or_false] at this;rcases this with((rfl|rfl)|h)|h
   ·exact .inl (by decide)
   ·exact .inl (by decide)
   ·exact .inr h
   ·exact .inr h
theorem BV.len(G:BV m ps):ps.length=5:=by refine Ch G.cons ?_;rintro t rfl h _;simp[h]
noncomputable def C6:List Sy:= [.en,.a,.b,.c]
theorem Aks(G:BV m ps){Y:Sy}(h:Y∈A4\/Y∈sig m\/Y= .en):Y∈C6\/Y∈ps.map (·.1):=by
 rcases h with h|h|rfl
 ·exact .inl (by revert h;cases Y<;>decide)
 ·refine Fd G.cons ?_;rintro t rfl _ h2 _;exact .inr (.tail _ ((h2 Y).mpr h))
 ·exact .inl (.head _)
theorem BV.sy(G:BV m ps){p:Pr}(hp:p∈ps){s:Sy}(hs:s∈p.2):s∈A4\/s∈sig m\/s= .en:=by
 refine Ar (DM hp) ?_;clear hp;intro r hr;rcases G.at hr with⟨rfl,rfl⟩|R
 ·rcases Bo.mp hs with rfl|hs
  ·exact .inr (.inl (W2 G.n1))
  ·exact .inr (.inr (B3.mp hs))
 ·rcases R.sy s hs with h|h
  ·exact .inl h
  ·exact .inr (.inl h)
theorem Akt(G:BV m ps){Y t:Sy}(hY:Y∈A4\/Y∈sig m\/Y= .en)(h:E4 ps Y t):t∈A4\/t∈sig m\/t= .en:=by
 induction h with
 | refl=>exact hY
 | step _ h2 _=>exact G.sy h2 (.head _)
theorem Ia{x:It}(h:Bn ps x=some X):∃p,ps[x.1]?=some p/\p.2[x.2.1]?=some X:=by
 unfold Bn at h;cases e:ps[x.1]? with
 | none=>replace h:=e▸h;exact AA h
 | some p=>replace h:=e▸h;exact⟨p,rfl,h⟩
theorem Xn(G:BV m ps){x:It}(h:Bn ps x=some X):X∈A4\/X∈sig m\/X= .en:=by refine Ad (Ia h) ?_;clear h;intro p h1 h2;exact G.sy (A8 h1) (A8 h2)
theorem Tc{s:Sy}(h:s∈A4\/s∈sig m\/s= .en):s∈syms:=by
 rcases h with h|h|rfl
 ·revert h;cases s<;>decide
 ·have:=Gq h;revert this;cases s<;>decide
 ·decide
theorem Aku(G:BV m ps)(hH:GN ps H){Y t:Sy}(hY:Y∈A4\/Y∈sig m\/Y= .en)(h:t∈H Y):t∈C6:=by refine Ah (((hH Y (Tc hY)).2 t).mp h) ?_;intro h1 h2;exact(Aks G (Akt G hY h1)).resolve_right h2
noncomputable def Xo(ps:List Pr)(x:It):Bool:=match ps[x.1]? with
 | some p=>decide (x.2.1<=p.2.length)
 | none=>false
noncomputable def Td(x:It):Bool:=if x.1=0 then decide (x.2.2= .nu/\x.2.1<=2) else decide (x.2.1<=(if x.1=1 then 2 else 3)/\x.2.2∈C6)
noncomputable def uV:List It:=((BN 5).flatMap λr=>(BN 4).flatMap λd=>Pv.map λs=>(r,d,s)).filter Td
noncomputable def univ(ps:List Pr):List It:=uV.filter (Xo ps)
theorem Akv:(univ ps).length<64:=DT (QX _ _) (by decide+kernel)
set_option tactic.hygienic true in
theorem LO(G:BV m ps){r:Nat}{s:Sy}:(r,d,s)∈univ ps↔ ∃p,ps[r]?=some p/\d<=p.2.length/\(if r=0 then s= .nu else s∈C6):=by
 unfold univ uV;rewrite[JJ];rewrite[JJ];constructor
 ·intro hZ;refine Ah hZ ?_;clear hZ;intro hZ;refine Ah hZ ?_;clear hZ;intro _ h1;intro h2;unfold Xo at h2;unfold Td at h1;split at h2
  ·rename_i p hp;refine⟨p,hp,of_decide_eq_true h2,?_⟩;split at h1
   ·rename_i e;have:=(of_decide_eq_true h1).1;exact Aa (if_pos e)<|this
   ·rename_i e;have:=(of_decide_eq_true h1).2;exact Aa (if_neg e)<|this
  ·exact AJ h2
 ·intro hZ;refine Ch hZ ?_;clear hZ;intro p hp hd hs;have hr:=(A5.mp hp).1;replace hr:=G.len▸hr;have key:d<=3/\Td (r,d,s)=true:=by
   unfold Td;rcases G.at hp with⟨rfl,rfl⟩|R
   ·have hd:d<=2:=hd;exact⟨N1 hd rfl,Aa (if_pos rfl)<|decide_eq_true ⟨hs,hd⟩⟩
   ·have h3:=R.l3;refine⟨AP hd h3,?_⟩;have h0:¬r=0:=by have:=R.lo;exact λCJ=>GW (HF _) (KT CJ this)
    replace hs:=(if_neg h0)▸hs;refine Aa (if_neg h0) ?_;refine decide_eq_true ⟨?_,hs⟩;split
    ·rename_i e;have:=(R.l2 (by have:=G.n1;exact N7 e this)).1;exact AP hd this
    ·exact AP hd h3
  refine⟨⟨?_,key.2⟩,?_⟩
  ·refine Mg.mpr ⟨r,JE.mpr hr,Mg.mpr ⟨d,JE.mpr (N2 key.1 rfl),Bj.mpr ⟨s,Sr s,rfl⟩⟩⟩
  ·unfold Xo;exact Aa (show ps[(r,d,s).1]?=some p from hp)<|decide_eq_true hd
theorem Akw(G:BV m ps)(hH:GN ps H):Py ps H (univ ps):=by
 refine⟨Akv,λ⟨r,d,s⟩ hx=>?_,λ⟨r,d,s0⟩ hx B o q s h1 h2 h3=>?_⟩
 ·refine Ch ((LO G).mp hx) ?_;intro p h1 h2 _;exact⟨p,h1,h2⟩
 ·refine Ch ((LO G).mp hx) ?_;intro p hp hd hs;refine Ad (Ia h1) ?_;clear h1;intro p' e1 e2;have hZ:=hp.symm.trans e1;clear e1;have hZ:=Ay hZ;subst hZ;have hB:=G.sy (A8 hp) (A8 e2);have R:Tb m o (B,q):=(G.at h2).resolve_left λ⟨_,e⟩=>by
   cases e;rcases hB with h|h|h
   ·revert h;decide
   ·exact absurd (Gq h) (by decide)
   ·exfalso;injection h
  refine(LO G).mpr ⟨_,h2,Cq _,?_⟩;rw[if_neg (by have:=R.lo;exact λCJ=>GW (HF _) (KT CJ this))];unfold Fm at h3;replace h3:=(show ps[(r,d,s0).1]?=some p from hp)▸h3;have AH:=(A5.mp e2).1;by_cases he:d+1=p.2.length
  ·have h3:s∈if d+1=p.2.length then[s0] else H (p.2.getD (d+1) .nu):=h3
   replace h3:=(if_pos he)▸h3;have hZ:=B3.mp h3;clear h3;subst hZ;by_cases h0:r=0
   ·exfalso;subst h0;rcases G.at hp with⟨_,rfl⟩|R0
    ·have:d=1:=by simpa using he
     subst this;replace e2:=Ay e2;subst e2;have h:Sy.en∈[Sy.S,.T,.U]:=Gq R.nm;exact absurd h (by decide)
    ·exact absurd R0.lo (by decide)
   ·rwa[if_neg h0] at hs
  ·have h3:s∈if d+1=p.2.length then[s0] else H (p.2.getD (d+1) .nu):=h3
   replace h3:=(if_neg he)▸h3;have hl:d+1<p.2.length:=JF AH he;refine Aku G hH (G.sy (A8 hp) ?_) h3;refine Aa Dk<|Aa (BG hl) ?_;exact NN hl
theorem uW(G:BV m ps):∀x∈univ ps,∀X,Bn ps x=some X->Hk x∈univ ps:=λ⟨r,d,s⟩ hx X h=>by
 refine Ch ((LO G).mp hx) ?_;intro p hp _ hs;refine Ad (Ia h) ?_;clear h;intro p' e1 e2;have hZ:=hp.symm.trans e1;clear e1;have hZ:=Ay hZ;subst hZ;exact(LO G).mpr ⟨p,hp,(A5.mp e2).1,hs⟩
theorem uX(G:BV m ps):(0,0,Sy.nu)∈univ ps:=by refine Ad G.cons ?_;rintro t rfl _;exact(LO G).mpr ⟨_,rfl,Cq _,rfl⟩
theorem uY(G:BV m ps):∀x∈univ ps,0<x.1->x.2.2∈C6:=λ⟨r,d,s⟩ hx h=>by
 refine Ch ((LO G).mp hx) ?_;intro p _ _ hs;rwa[if_neg (by have:0<r:=h;lia)] at hs
end
theorem Akx{a b:Str}(h:Dg a b=true):Dg b a=false:=by
 by_cases e:a=b
 ·subst e;unfold Dg at h;exact absurd (of_decide_eq_true h) (QN _)
 ·have:=VQ a b e;replace this:=h▸this;simpa using this.symm
theorem Aky{x y:It}(h:LA x y=true)(h2:LA y x=true):x=y:=by
 exfalso;unfold LA H1 at h h2;split at h
 ·rename_i e1;replace h2:=(if_pos e1.symm)▸h2;split at h
  ·rename_i e2;replace h2:=(if_pos e2.symm)▸h2;replace h2:=(Akx h)▸h2;exact AJ h2
  ·rename_i e2;rewrite[if_neg (λe=>e2 e.symm)] at h2;exact(UH (of_decide_eq_true h) (of_decide_eq_true h2)).elim
 ·rename_i e1;rewrite[if_neg (λe=>e1 e.symm)] at h2;exact(UH (of_decide_eq_true h) (of_decide_eq_true h2)).elim
section
variable{m:Nat}{ps:List Pr}{H:Sy->List Sy}
theorem CS.ext{K K':List It}(h:CS ps H K I)(h':CS ps H K' J)(e:∀x,Dq ps H K x↔Dq ps H K' x):I=J:=
 List.Perm.eq_of_pairwise (λZ Z Z Z a b=>Aky a b) h.lt h'.lt ((List.perm_ext_iff_of_nodup h.nd h'.nd).mpr λx=>(h.mem x).trans ((e x).trans (h'.mem x).symm))
theorem Dq.mono{K K':List It}(e:∀x∈K,x∈K'){x:It}(h:Dq ps H K x):Dq ps H K' x:=by
 induction h with
 | base h=>exact .base (e _ h)
 | step _ h1 h2 h3 ih=>exact .step ih h1 h2 h3
theorem CS.LP{K K':List It}(h:CS ps H K I)(h':CS ps H K' J)(e:∀x,x∈K↔x∈K'):I=J:=
 h.ext h' λx=>⟨Dq.mono λx=>(e x).mp,Dq.mono λx=>(e x).mpr⟩
theorem Dq.live{K K':List It}(e:∀x∈K,∀X,Bn ps x=some X->x∈K'){x:It}(h:Dq ps H K x):∀X,Bn ps x=some X->Dq ps H K' x:=by
 induction h with
 | base h=>exact λX hX=>.base (e _ h X hX)
 | step _ h1 h2 h3 ih=>exact λZ Z=>.step (ih _ h1) h1 h2 h3
theorem LQ{x:It}:x∈gk ps I X↔ ∃y∈I,Bn ps y=some X/\x=Hk y:=by
 unfold gk;rewrite[Bj];constructor
 ·intro hZ;refine Ad hZ ?_;clear hZ;rintro y h rfl;refine Ah (JJ.mp h) ?_;clear h;intro h1 h2;exact⟨y,h1,of_decide_eq_true h2,rfl⟩
 ·intro hZ;refine Ch hZ ?_;clear hZ;rintro y h1 h2 rfl;exact⟨y,JJ.mpr ⟨h1,decide_eq_true h2⟩,rfl⟩
theorem CS.ext2{K K' I' J':List It}(h:CS ps H K I)(h':CS ps H K' I')(e:∀x X,Bn ps x=some X->(x∈K↔x∈K'))(hJ:CS ps H (gk ps I X) J)(Nc:CS ps H (gk ps I' X) J'):J=J':=
 hJ.LP Nc λx=>by
  rewrite[LQ];rewrite[LQ];constructor
  ·intro hZ;refine Ch hZ ?_;clear hZ;intro y h1 h2 r;exact⟨y,(h'.mem y).mpr (((h.mem y).mp h1).live (λx hx X hX=>(e x X hX).mp hx) X h2),h2,r⟩
  ·intro hZ;refine Ch hZ ?_;clear hZ;intro y h1 h2 r;exact⟨y,(h.mem y).mpr (((h'.mem y).mp h1).live (λx hx X hX=>(e x X hX).mpr hx) X h2),h2,r⟩
theorem Qb{K:List It}{x:It}(h:Dq ps H K x):x∈K\/(x.2.1=0/\ ∃y B q,Dq ps H K y/\Bn ps y=some B/\ps[x.1]?=some (B,q)/\x.2.2∈Fm ps H y):=by
 cases h with
 | base h=>exact .inl h
 | step h1 h2 h3 h4=>exact .inr ⟨rfl,_,_,_,h1,h2,h3,h4⟩
theorem Xp{r:Nat}{s:Sy}:(r,0,s)∉gk ps I X:=λh=>by
 refine Ch (LQ.mp h) ?_;clear h;intro y _ _ e;have:=congrArg (λz:It=>z.2.1) e;exact absurd this (Aas _).symm
theorem Xq(G:BV m ps){s:Sy}(h:CS ps H (gk ps I X) J):(0,0,s)∉J:=λhx=>by
 rcases Qb ((h.mem _).mp hx) with h|⟨_,y,B,q,_,h2,h3,_⟩
 ·exact Xp h
 ·rcases G.at h3 with⟨_,e⟩|R
  ·cases e;rcases Xn G h2 with h|h|h
   ·revert h;decide
   ·exact absurd (Gq h) (by decide)
   ·exfalso;injection h
  ·have:1<=0:=R.lo;exact GW (HF _) this
theorem uZ{A s:Sy}{r r':Nat}{q q':List Sy}(h:CS ps H (gk ps I X) J)(e:ps[r]?=some (A,q))(e':ps[r']?=some (A,q'))(hx:(r,0,s)∈J):(r',0,s)∈J:=by
 rcases Qb ((h.mem _).mp hx) with h'|⟨_,y,B,q0,h1,h2,h3,h4⟩
 ·exact absurd h' Xp
 ·have hZ:=e.symm.trans h3;clear h3;cases hZ;exact(h.mem _).mpr (.step h1 h2 e' h4)
inductive Cd where
 | s
 | o (X:Sy)
 | t (X Y:Sy)
 | f (b:List Bool) (X:Sy)
 | p (b:List Bool) (Y X:Sy)
noncomputable def bl:Nat->List (List Bool)
 | 0=>[[]]
 | k+1=>(bl k).flatMap λl=>[false::l,true::l]
theorem Nt{α β:Type}{f:α->List β}:∀{l:List α},(∀x∈l,(f x).length=n)->(l.flatMap f).length=l.length*n
 | [],_=>by simp
 | x::l,h=>by exact Aa Y2<|Aa AY<|Aa (Nt λy hy=>h y (.tail _ hy))<|Aa (h x (.head _))<|Aa Fc<|Aa (Nat.succ_mul _ _)<|Aa (JL _ _) rfl
theorem Xr:∀k,(bl k).length=2^k
 | 0=>rfl
 | k+1=>(Nt (n:=2) λZ Z=>rfl).trans (by exact Aa (Xr k) rfl)
theorem Xs:∀l:List Bool,l∈bl l.length
 | []=>.head _
 | b::l=>Mg.mpr ⟨l,Xs l,by cases b<;>simp⟩
noncomputable def Jq:List Cd:= [.s]++syms.map .o++(syms.flatMap λX=>syms.map λY=>.t X Y)++((bl 16).flatMap λb=>syms.map (.f b))++((bl 12).flatMap λb=>syms.flatMap λX=>syms.map λY=>.p b X Y)
theorem Akz:Jq.length=659513:=by unfold Jq;rw[AY,AY,AY,AY,Nt (n:=7) (l:=bl 16) λZ Z=>by exact Aa (Ai _) rfl,Nt (n:=49) (l:=bl 12) λZ Z=>(Nt (n:=7) λZ Z=>by exact Aa (Ai _) rfl).trans rfl,Xr,Xr,Nt (n:=7) λZ Z=>by exact Aa (Ai _) rfl];rfl
noncomputable def si:Sy->Nat
 | .a=>1 | .b=>2 | .c=>3 | _=>0
noncomputable def ix:Sy->Nat
 | .T=>2 | .U=>3 | _=>1
noncomputable abbrev bit(b:List Bool)(r:Nat)(s:Sy):Bool:=b.getD ((r-1)*4+si s) false
noncomputable def Te(i:Nat):Sy:=C6.getD i .en
theorem bits(k:Nat)(g:Nat->Sy->Prop):∃b:List Bool,b.length=4*k/\ ∀r s,1<=r->s∈C6->(bit b r s=true↔r<=k/\g r s):=by
 classical
 refine⟨(BN (4*k)).map λi=>decide (g (i / 4+1) (Te (i % 4))),Aa (Ai _)<|Aa FS rfl,λr s hr hs=>?_⟩;have h4:si s<4/\Te (si s)=s:=(by decide:∀s∈C6,si s<4/\Te (si s)=s) s hs;unfold bit;refine Aa Dk<|Aa Bp ?_;by_cases h:r<=k
 ·refine Aa (KE (M70 hr h4.1 h)) ?_;have e1:((r-1)*4+si s) / 4+1=r:=M69 hr h4.1;have e2:((r-1)*4+si s) % 4=si s:=M45 h4.1 e1;show decide (g (((r-1)*4+si s) / 4+1) (Te (((r-1)*4+si s) % 4)))=true↔_;refine Aa e1<|Aa e2<|Aa (h4.2) ?_;exact⟨λx=>⟨h,of_decide_eq_true x⟩,λx=>decide_eq_true x.2⟩
 ·rw[Ip (by exact Aa FS<|M71 hr h)];exact⟨(λe=>nomatch e),λx=>absurd x.1 h⟩
def Lv(m:Nat)(ps:List Pr)(b:List Bool)(Y:Sy)(x:It):Prop:=
 (x.2.1=1/\x.2.2∈C6/\1<=x.1/\ ∃p,ps[x.1]?=some p/\p.2[0]?=some Y/\bit b (ix p.1) x.2.2=true)\/(x.2.1=2/\m<x.1/\x.2.2∈C6/\bit b x.1 x.2.2=true)
def Ex(m:Nat)(ps:List Pr)(b:List Bool)(Y:Sy):Prop:=(∃r s p,m<r/\s∈C6/\bit b r s=true/\ps[r]?=some p)/\ ∀r s p,m<r->s∈C6->bit b r s=true->ps[r]?=some p->p.2[1]?=some Y
noncomputable def Ms(m:Nat)(ps:List Pr)(H:Sy->List Sy):Cd->List It->Prop
 | .s,J=>CS ps H [(0,0,.nu)] J
 | .o X,J=>∃I,CS ps H [(0,0,.nu)] I/\CS ps H (gk ps I X) J
 | .t X Y,J=>∃I I',CS ps H [(0,0,.nu)] I/\CS ps H (gk ps I X) I'/\CS ps H (gk ps I' Y) J
 | .f b X,J=>∃Y K I,Ex m ps b Y/\(∀x X,Bn ps x=some X->(x∈K↔Lv m ps b Y x))/\CS ps H K I/\CS ps H (gk ps I X) J
 | .p b Y X,J=>∃K I,(∀x X,Bn ps x=some X->(x∈K↔Lv m ps b Y x))/\CS ps H K I/\CS ps H (gk ps I X) J
theorem Ms.uniq{c:Cd}{J':List It}(h:Ms m ps H c J)(h':Ms m ps H c J'):J=J':=by
 cases c with
 | s=>exact CS.LP h h' λZ=>.rfl
 | o X=>
  refine Ad h ?_;clear h;intro I a b;refine Ad h' ?_;clear h';intro I' a' b';cases a.LP a' λZ=>.rfl;exact b.LP b' λZ=>.rfl
 | t X Y=>
  refine BS h ?_;clear h;intro I I1 a b d;refine BS h' ?_;clear h';intro I' I1' a' b' d';cases a.LP a' λZ=>.rfl;cases b.LP b' λZ=>.rfl;exact d.LP d' λZ=>.rfl
 | f b X=>
  refine GY h ?_;clear h;intro Y K I e l a d;refine GY h' ?_;clear h';intro Y' K' I' e' l' a' d';refine GY (e.1) ?_;intro r s p h1 h2 h3 h4;have:Y=Y':=Ay ((e.2 r s p h1 h2 h3 h4).symm.trans (e'.2 r s p h1 h2 h3 h4));subst this;exact a.ext2 a' (λx X hX=>(l x X hX).trans (l' x X hX).symm) d d'
 | p b Y X=>
  refine BS h ?_;clear h;intro K I l a d;refine BS h' ?_;clear h';intro K' I' l' a' d';exact a.ext2 a' (λx X hX=>(l x X hX).trans (l' x X hX).symm) d d'
theorem vB(G:BV m ps)(h:∃x∈I,Bn ps x=some X):X∈syms:=by refine Ad h ?_;clear h;intro x _ h;exact Tc (Xn G h)
theorem AkA:∀m∈BN 4,∀A∈sig m,1<=ix A/\ix A<=m/\(sig m)[ix A-1]?=some A:=by decide+kernel
theorem vC(G:BV m ps){A:Sy}(h:A∈sig m):1<=ix A/\ix A<=m/\ ∃q,ps[ix A]?=some (A,q):=by
 have n1:=G.n1;have n3:=G.n3;have h1:1<=ix A/\ix A<=m/\(sig m)[ix A-1]?=some A:=AkA m (JE.mpr (To n3)) A h;refine⟨h1.1,h1.2.1,?_⟩;have hl:ix A<ps.length:=Aa G.len<|N2 (AP h1.2.1 n3) rfl;have hp:=BG hl;generalize ps[ix A]=p at hp;rcases G.at hp with⟨e,_⟩|R
 ·lia
 ·have:=(R.l2 h1.2.1).2;replace this:=(h1.2.2)▸this;replace this:=Ay this;subst this;exact⟨p.2,hp⟩
theorem cd_s:Cd.s∈Jq:=CW _ (CW _ (CW _ (CW _ (.head _))))
theorem cd_o(h:X∈syms):Cd.o X∈Jq:=CW _ (CW _ (CW _ (KP _ (Bj.mpr ⟨X,h,rfl⟩))))
theorem cd_t{Y:Sy}(h:X∈syms)(h2:Y∈syms):Cd.t X Y∈Jq:=CW _ (CW _ (KP _ (Mg.mpr ⟨X,h,Bj.mpr ⟨Y,h2,rfl⟩⟩)))
theorem cd_f{b:List Bool}(h:b∈bl 16)(h2:X∈syms):Cd.f b X∈Jq:=CW _ (KP _ (Mg.mpr ⟨b,h,Bj.mpr ⟨X,h2,rfl⟩⟩))
theorem cd_p{b:List Bool}{Y:Sy}(h:b∈bl 12)(h2:X∈syms)(h3:Y∈syms):Cd.p b X Y∈Jq:=KP _ (Mg.mpr ⟨b,h,Mg.mpr ⟨X,h2,Bj.mpr ⟨Y,h3,rfl⟩⟩⟩)
theorem AkB(G:BV m ps){I3 I2:List It}{Z Y:Sy}(h2:CS ps H (gk ps I3 Z) I2)(lk:∀{r d s},(r,d,s)∈I2->0<r->s∈C6):∀(b:List Bool)(k:Nat),m<=k->(∀r s,1<=r->s∈C6->(bit b r s=true↔r<=k/\if r<=m then(r,0,s)∈I2 else(r,1,s)∈I2/\Bn ps (r,1,s)=some Y))->(∀r s,k<r->r<=4->s∈C6->¬((r,1,s)∈I2/\Bn ps (r,1,s)=some Y))->∀x X,Bn ps x=some X->(x∈gk ps I2 Y↔Lv m ps b Y x):=by
 intro b k hk hb hn ⟨r,d,s⟩ X hX;refine Ad (Ia hX) ?_;clear hX;intro p hp hd;have hd:=(A5.mp hd).1;have hp:ps[r]?=some p:=hp;have hd:d<p.2.length:=hd;rewrite[LQ];constructor
 ·intro hZ;refine Ch hZ ?_;clear hZ;intro hZ;obtain⟨r',d',s'⟩:=hZ;intro hy Xu e;obtain⟨rfl,rfl,rfl⟩:r=r'/\d=d'+1/\s=s':=by cases e;exact⟨rfl,rfl,rfl⟩
  rcases G.at hp with⟨rfl,rfl⟩|R
  ·have hd:d'+1<2:=hd;have:d'=0:=Nat.lt_one_iff.mp (XC hd);subst this;exact absurd hy (Xq G h2)
  ·have sl:=lk hy R.lo;have h3:=R.l3;refine Ad (Ia Xu) ?_;intro p' e1 e2;have hZ:=hp.symm.trans e1;clear e1;have hZ:=Ay hZ;subst hZ;have U4:d'=0\/d'=1:=M78 hd h3;rcases U4 with rfl|rfl
   ·obtain⟨i1,i2,q,i3⟩:=vC G R.nm;refine .inl ⟨rfl,sl,R.lo,p,hp,e2,(hb _ _ i1 sl).mpr ⟨AP i2 hk,?_⟩⟩;exact Aa (if_pos i2)<|uZ h2 (q:=p.2) hp i3 hy
   ·have hm:m<r:=by
     rcases KS m r with h|h
     ·exact h
     ·have:=(R.l2 h).1;lia
    refine .inr ⟨rfl,hm,sl,(hb _ _ R.lo sl).mpr ⟨?_,?_⟩⟩
    ·rcases KS k r with h|h
     ·exact absurd ⟨hy,Xu⟩ (hn r s h R.hi sl)
     ·exact h
    ·rw[if_neg (by lia)];exact⟨hy,Xu⟩
 ·rintro(⟨e,sl,r1,p',e1,e2,Xv⟩|⟨e,hm,sl,Xv⟩)
  ·have e:d=1:=e;subst e;have hZ:=hp.symm.trans e1;clear e1;have hZ:=Ay hZ;subst hZ;have R:=(G.at hp).resolve_left λ⟨h,_⟩=>by have:1<=r:=r1;lia
   obtain⟨i1,i2,q,i3⟩:=vC G R.nm;have:=((hb _ _ i1 sl).mp Xv).2;replace this:=(if_pos i2)▸this;refine⟨(r,0,s),uZ h2 (q':=p.2) i3 hp this,?_,rfl⟩;unfold Bn;exact Aa (show ps[(r,0,s).1]?=some p from hp)<|e2
  ·have e:d=2:=e;subst e;have hm:m<r:=hm;have:=((hb r s (by lia) sl).mp Xv).2;rw[if_neg (by lia)] at this;exact⟨(r,1,s),this.1,this.2,rfl⟩
theorem Ms.ex(G:BV m ps)(hH:GN ps H)(hu:∀I,Hl ps H I->∀x∈I,x∈univ ps)(h:Hl ps H J):∃c∈Jq,Ms m ps H c J:=by
 cases h with
 | start h=>exact⟨.s,cd_s,h⟩
 | @go I1 _ X h1 hX h=>
  have sX:=vB G hX;cases h1 with
  | start h1=>exact⟨.o X,cd_o sX,I1,h1,h⟩
  | @go I2 _ Y h2 hY h1=>
   have sY:=vB G hY;cases h2 with
   | start h2=>exact⟨.t Y X,cd_t sY sX,I2,I1,h2,h1,h⟩
   | @go I3 _ Z h3 hZ h2=>
    have un:=hu I2 (.go h3 hZ h2);have lk:∀{r d s},(r,d,s)∈I2->0<r->s∈C6:=λhx h=>uY G _ (un _ hx) h;have one:=AkB (Y:=Y) G h2 lk;by_cases hE:∃r s,m<r/\s∈C6/\(r,1,s)∈I2/\Bn ps (r,1,s)=some Y
    ·refine Ad (bits 4 λr s=>if r<=m then(r,0,s)∈I2 else(r,1,s)∈I2/\Bn ps (r,1,s)=some Y) ?_;intro b hl hb;have h4:∀{r s},Bn ps (r,1,s)=some Y->r<=4:=λe=>by
      refine Ad (Ia e) ?_;clear e;intro p hp _;have:=(A5.mp hp).1;replace this:=G.len▸this;exact EL this
     refine GX hE ?_;clear hE;intro r s e1 e2 e3 e4;refine⟨.f b X,?_,Y,gk ps I2 Y,I1,⟨?_,λr s p a1 a2 a3 a4=>?_⟩,one b 4 (AP G.n3 (by decide)) hb λr s a b=>absurd (B7 a b) (Hu _),h1,h⟩
     ·have:=Xs b;replace this:=hl▸this;exact cd_f this sX
     ·refine Ad (Ia e4) ?_;intro p hp _;exact⟨r,s,p,e1,e2,(hb r s (UD e1) e2).mpr ⟨h4 e4,Aa (if_neg (λCJ=>GW e1 CJ))<|⟨e3,e4⟩⟩,hp⟩
     ·have:=((hb r s (UD a1) a2).mp a3).2;replace this:=(if_neg (λCJ=>GW a1 CJ))▸this;refine Ad (Ia this.2) ?_;intro p' hp e;have hZ:=a4.symm.trans hp;clear hp;have hZ:=Ay hZ;subst hZ;exact e
    ·refine Ad (bits 3 λr s=>if r<=m then(r,0,s)∈I2 else(r,1,s)∈I2/\Bn ps (r,1,s)=some Y) ?_;intro b hl hb;refine⟨.p b Y X,?_,gk ps I2 Y,I1,one b 3 G.n3 hb λr s a1 _ a2 a3=>hE ⟨r,s,DT G.n3 a1,a2,a3.1,a3.2⟩,h1,h⟩;have:=Xs b;replace this:=hl▸this;exact cd_p this sY sX
theorem count{α β:Type}{R:β->α->Prop}{C:List β}{l:List α}(nd:l.Nodup)(h:∀x∈l,∃c∈C,R c x)(u:∀c x y,R c x->R c y->x=y):l.length<=C.length:=by
 classical
 cases l with
 | nil=>exact Cq _
 | cons x0 l0=>
  have b0:β:=(h x0 (.head _)).choose;let f:α->β:=λx=>if hx:∃c∈C,R c x then hx.choose else b0
  have hf:∀x∈x0::l0,f x∈C/\R (f x) x:=λx hx=>by
   show(if hx:∃c∈C,R c x then hx.choose else b0)∈C/\R (if hx:∃c∈C,R c x then hx.choose else b0) x;exact Aa (dif_pos (h x hx))<|(h x hx).choose_spec
  have:=List.Nodup.length_le_of_subset (l₁:=(x0::l0).map f) (l₂:=C) (KN.mpr (AlT (λ{a b} ha hb Bb e=>Bb (u _ a b (hf a ha).2 (e▸(hf b hb).2))) nd)) λy hy=>by
   refine Ad (Bj.mp hy) ?_;clear hy;rintro x hx rfl;exact(hf x hx).1
  rwa[Ai] at this
theorem BV.vD(G:BV m ps)(hH:GN ps H):Jd ps H (univ ps) 659513:=by
 have U:=Akw G hH;have un:∀I,Hl ps H I->∀x∈I,x∈univ ps:=by
  intro I h;induction h with
  | start h=>exact λx hx=>((h.mem x).mp hx).univ U λy hy=>by have hZ:=B3.mp hy;clear hy;subst hZ;exact uX G
  | go _ _ h ih=>
   refine λx hx=>((h.mem x).mp hx).univ U λy hy=>?_;refine Ch (LQ.mp hy) ?_;clear hy;rintro z hz e rfl;exact uW G z (ih z hz) _ e
 refine⟨U,uX G,uW G,λp hp s hs=>Tc (G.sy hp hs),λAg nd hr=>?_,by decide,λx hx h=>?_⟩
 ·have:=count (R:=Ms m ps H) (C:=Jq) nd (λJ hJ=>Ms.ex G hH un (hr J hJ)) λc x y=>Ms.uniq;rwa[Akz] at this
 ·have:=uY G x hx h;simpa[C6] using this
end
noncomputable abbrev Ba(row:List Int)(i:Nat):Int:=row.getD i 0
theorem vE{row:List Int}{v:Int}(h:i<row.length):Ba (row.set i v) j=if i=j then v else Ba row j:=by unfold Ba;refine Aa Dk<|Aa Dk<|Aa List.getElem?_set<|Aa (if_pos h) ?_;split<;>rfl
noncomputable def Ib(X:Sy)(j:Nat):Int:=if X= .en then 1048576 else j
theorem AkC(m:List (Sy×Nat))(row:List Int)(i:Nat)(hl:row.length=6)(nd:(m.map (·.1)).Nodup):(∃X j,(X,j)∈m/\num X=i/\i<6/\Ba (m.foldl Eo row) i=Ib X j)\/((∀X j,(X,j)∈m->num X=i->6<=i)/\Ba (m.foldl Eo row) i=Ba row i):=by
 induction m generalizing row with
 | nil=>exact .inr ⟨(λX j h=>nomatch h),rfl⟩
 | cons p m ih=>
  obtain⟨X,j⟩:=p;refine Ah (Ig.mp nd) ?_;clear nd;intro nx nd;rcases ih (Eo row (X,j)) (rO.trans hl) nd with⟨Y,k,h1,h2⟩|⟨h1,h2⟩
  ·exact .inl ⟨Y,k,.tail _ h1,h2⟩
  ·have e:Ba (Eo row (X,j)) i=if num X=i/\i<6 then Ib X j else Ba row i:=by
    unfold Eo;by_cases h6:6<=num X
    ·exact Aa (if_pos h6)<|Aa (if_neg (M36 h6)) rfl
    ·refine Aa (if_neg h6) ?_;refine(vE (by exact Aa hl<|Ku h6)).trans ?_;show(if num X=i then Ib X j else Ba row i)=_;by_cases hi:num X=i
     ·exact Aa (if_pos hi)<|Aa (if_pos ⟨hi,Mh (Eq.symm hi) (Ku h6)⟩) rfl
     ·exact Aa (if_neg hi)<|Aa (if_neg λh=>hi h.1) rfl
   by_cases hc:num X=i/\i<6
   ·replace e:=(if_pos hc)▸e;exact .inl ⟨X,j,.head _,hc.1,hc.2,h2.trans e⟩
   ·replace e:=(if_neg hc)▸e;refine .inr ⟨λY k hm hY=>?_,h2.trans e⟩;rcases Bo.mp hm with h|h
    ·cases h;exact GU λh=>hc ⟨hY,h⟩
    ·exact h1 Y k h hY
section
variable{ps:List Pr}
structure RdR(ps:List Pr)(I:List It)(row:List Int)(i:Nat)(R:List Int)(b:Bool):Prop where
 a1:Ba row i≠0->Ba R i=Ba row i
 a2:Ba R i≠0->Ba R i=Ba row i\/ ∃x∈I,done ps x=true/\Ba R i= -(x.1:Int)
 a3:b=true->∀x∈I,done ps x=true->num x.2.2=i->Ba R i= -(x.1:Int)
theorem AkD(I:List It)(row:List Int)(i:Nat)(hl:row.length=6)(hi:i<6):RdR ps I row i (I.foldl (B6 ps) (row,true)).1 (I.foldl (B6 ps) (row,true)).2:=by
 induction I generalizing row with
 | nil=>exact⟨λZ=>rfl,λZ=>.inl rfl,λZ x h=>by cases h⟩
 | cons x I ih=>
  refine Aa QB ?_;by_cases hd:done ps x=true
  ·have e:B6 ps (row,true) x=(if Ba row (num x.2.2)=0 then row.set (num x.2.2) (-(x.1:Int)) else row,Ba row (num x.2.2)==0 || Ba row (num x.2.2)== -(x.1:Int)):=by unfold B6;refine Aa (if_pos hd) ?_;simp
   refine Aa e ?_;generalize hR:(if Ba row (num x.2.2)=0 then row.set (num x.2.2) (-(x.1:Int)) else row)=R;have hRl:R.length=6:=by refine AS hR ?_;split<;>simp[hl]
   refine Ah (rS (ps:=ps) I R (Ba row (num x.2.2)==0 || Ba row (num x.2.2)== -(x.1:Int))) ?_;intro b1 b2;obtain⟨a1,a2,a3⟩:=ih R hRl;refine Aa b1<|Aa b2 ?_;have H6:Ba R i=if num x.2.2=i/\Ba row i=0 then-(x.1:Int) else Ba row i:=by
    refine AS hR ?_;by_cases h0:Ba row (num x.2.2)=0
    ·refine Aa (if_pos h0) ?_;by_cases hn:num x.2.2=i
     ·exact Aa (vE (Mh hn (Gr hl hi)))<|Aa (if_pos hn)<|Aa (if_pos ⟨hn,hn▸h0⟩) rfl
     ·refine Aa (if_neg λh:num x.2.2=i/\Ba row i=0=>hn h.1) ?_;unfold Ba;refine Aa Dk<|Aa (FP hn) ?_;refine AS Dk ?_;rfl
    ·exact Aa (if_neg h0)<|Aa (if_neg λh:num x.2.2=i/\Ba row i=0=>h0 (h.1▸h.2)) rfl
   refine⟨λh=>?_,λh=>?_,λh=>?_⟩
   ·have e2:Ba R i=Ba row i:=Aa H6<|Aa (if_neg λh'=>h h'.2) rfl;rw[a1 (by exact Aa e2<|h),e2]
   ·rcases a2 h with h'|⟨y,hy,h'⟩
    ·by_cases hc:num x.2.2=i/\Ba row i=0
     ·replace H6:=(if_pos hc)▸H6;exact .inr ⟨x,.head _,hd,h'.trans H6⟩
     ·replace H6:=(if_neg hc)▸H6;exact .inl (h'.trans H6)
    ·exact .inr ⟨y,.tail _ hy,h'⟩
   ·rewrite[D7] at h;intro y hy LU Qc;rcases Bo.mp hy with rfl|hy
    ·have vF:Ba R i= -(y.1:Int):=by
      refine Aa H6 ?_;by_cases h0:Ba row i=0
      ·exact Aa (if_pos ⟨Qc,h0⟩) rfl
      ·refine Aa (if_neg λh=>h0 h.2) ?_;have:=h.1;replace this:=Qc▸this;rcases(Jz _ _).mp this with h|h
       ·exact absurd (eq_of_beq h) h0
       ·exact eq_of_beq h
     refine AS vF ?_;refine a1 ?_;refine Aa vF ?_;have:0<y.1:=by unfold done at LU;rewrite[D7] at LU;exact of_decide_eq_true LU.1
     exact Zm this
    ·exact a3 h.2 y hy LU Qc
  ·have e:B6 ps (row,true) x=(row,true):=by unfold B6;exact Aa (if_neg hd) rfl
   refine Aa e ?_;obtain⟨a1,a2,a3⟩:=ih row hl;refine⟨a1,λh=>(a2 h).imp_right λ⟨y,hy,h'⟩=>⟨y,.tail _ hy,h'⟩,λh y hy LU Qc=>?_⟩;rcases Bo.mp hy with rfl|hy
   ·exact absurd LU hd
   ·exact a3 h y hy LU Qc
set_option tactic.hygienic true in
theorem Tf{x:It}(h:done ps x=true):0<x.1/\ ∃p,ps[x.1]?=some p/\x.2.1=p.2.length:=by
 unfold done at h;rewrite[D7] at h;refine⟨of_decide_eq_true h.1,?_⟩;have:=h.2;split at this
 ·rename_i p e;exact⟨p,e,by simpa using this⟩
 ·exact AJ this
theorem AkE:Ba (Cy 6 0) i=0:=by unfold Ba;refine Aa Dk<|Aa XW ?_;split<;>rfl
theorem Nu{m:List (Sy×Nat)}(nd:(m.map (·.1)).Nodup)(hi:i<6):
  (∀X j,(X,j)∈m->num X=i->Ib X j≠0->Ba (rowOf ps m I) i=Ib X j)/\
  (Ba (rowOf ps m I) i≠0->(∃X j,(X,j)∈m/\num X=i/\Ba (rowOf ps m I) i=Ib X j)\/ ∃x∈I,done ps x=true/\Ba (rowOf ps m I) i= -(x.1:Int))/\
  (Kl ps m I=true->∀x∈I,done ps x=true->num x.2.2=i->Ba (rowOf ps m I) i= -(x.1:Int)):=by
 obtain⟨a1,a2,a3⟩:=AkD (ps:=ps) I (m.foldl Eo (Cy 6 0)) i (SE.trans Q2) hi;have h:=AkC m (Cy 6 0) i Q2 nd;refine⟨λX j hm hX h0=>?_,λhn=>?_,a3⟩
 ·rcases h with⟨Y,k,h1,h2,_,h3⟩|⟨h1,_⟩
  ·cases WR (h2.trans hX.symm);have:j=k:=by have e1:=H4 nd hm;replace e1:=(H4 nd h1)▸e1;exact(Ay e1).symm
   subst this;exact(a1 (by exact Aa h3<|h0)).trans h3
  ·exact absurd (h1 X j hm hX) (XA hi)
 ·rcases a2 hn with e|h'
  ·rcases h with⟨Y,k,h1,h2,_,h3⟩|⟨_,h3⟩
   ·exact .inl ⟨Y,k,h1,h2,e.trans h3⟩
   ·exact absurd (e.trans (h3.trans AkE)) hn
  ·exact .inr h'
theorem Qd{be:Int}{row:List Int}:Ba (fin be row) i=if 0<be/\Ba row i= -be then 0 else Ba row i:=by
 unfold Ba fin;refine Aa Dk<|Aa Dk<|Aa Bp ?_;cases row[i]? with
 | none=>show(0:Int)=if 0<be/\(0:Int)= -be then 0 else 0;split<;>rfl
 | some v=>rfl
theorem vG{row:List Int}{v:Int}(h:v∈row):∃i,i<row.length/\Ba row i=v:=by refine Ar (DM h) ?_;clear h;intro i hi;exact⟨i,(A5.mp hi).1,by unfold Ba;exact Aa Dk<|Aa hi rfl⟩
end
structure LR(m:Nat)(ps:List Pr)(H:Sy->List Sy)(Ag:List (List It))(Aw:List (List (Sy×Nat)))(rws:List (List Int))(Ae:List (List (Nat×Nat)))(Ab:List Int):Prop where
 G:BV m ps
 hH:GN ps H
 hA:Sv ps H Ag Aw
 hT:PM ps Ag Aw Ag.length rws Ae Ab
structure At(ps:List Pr)(Ag:List (List It))(Aw:List (List (Sy×Nat)))(rws:List (List Int))(Ae:List (List (Nat×Nat)))(Ab:List Int)(z:Nat)(I:List It)(mv:List (Sy×Nat))(be:Int):Prop where
 i_:Ag[z]?=some I
 m_:Aw[z]?=some mv
 b:Nh (rowOf ps mv I) be
 d:Ab.getD z 0=be
 r:∀i,(rws.getD z []).getD i 0=Ba (fin be (rowOf ps mv I)) i
 g:Ae.getD z []=SF mv
theorem getD_some{α:Type}{l:List α}{x d:α}(h:l[i]?=some x):l.getD i d=x:=Aa Dk<|Aa h rfl
section
variable{m:Nat}{ps:List Pr}{H:Sy->List Sy}{Ag:List (List It)}{Aw:List (List (Sy×Nat))}{rws:List (List Int)}{Ae:List (List (Nat×Nat))}{Ab:List Int}{z:Nat}{I:List It}{mv:List (Sy×Nat)}{be:Int}
theorem LR.le(L:LR m ps H Ag Aw rws Ae Ab):Ag.length<=659513:=(L.G.vD L.hH).nb Ag L.hA.nd L.hA.rs
theorem LR.at(L:LR m ps H Ag Aw rws Ae Ab)(h:Ag[z]?=some I):∃mv be,At ps Ag Aw rws Ae Ab z I mv be:=by have hz:=(A5.mp h).1;obtain⟨mv,hm⟩:∃mv,Aw[z]?=some mv:=⟨_,BG (by exact Aa L.hA.len<|hz)⟩;refine Fd (L.hT.at_ z I mv hz h hm) ?_;intro be b d r g;exact⟨mv,be,h,hm,b,getD_some d,λi=>by exact Aa (getD_some r) rfl,getD_some g⟩
theorem At.act(A:At ps Ag Aw rws Ae Ab z I mv be)(i:Nat):act rws Ab z i=if Ba (fin be (rowOf ps mv I)) i=0 then-be else Ba (fin be (rowOf ps mv I)) i:=by unfold Internal.act;exact Aa (A.r _)<|Aa A.d rfl
theorem At.vH(A:At ps Ag Aw rws Ae Ab z I mv be)(hi:i<6)(h:Ba (fin be (rowOf ps mv I)) i≠0):BI rws Ab z=0:=by unfold BI;exact if_neg λk=>h ((A.r i).symm.trans (k i (JE.mpr hi)))
theorem At.vI(A:At ps Ag Aw rws Ae Ab z I mv be):BI rws Ab z=be\/BI rws Ab z=0:=by
 unfold BI;split
 ·exact .inl A.d
 ·exact .inr rfl
theorem At.pos(A:At ps Ag Aw rws Ae Ab z I mv be)(hi:i<6)(h:0<Ba (rowOf ps mv I) i):BI rws Ab z=0/\Internal.act rws Ab z i=Ba (rowOf ps mv I) i:=by have e:Ba (fin be (rowOf ps mv I)) i=Ba (rowOf ps mv I) i:=Qd.trans (if_neg λk=>M30 h k);have n:Ba (fin be (rowOf ps mv I)) i≠0:=Aa e<|λCJ=>Mk h CJ;exact⟨A.vH hi n,Aa (A.act _)<|Aa (if_neg n)<|Aa e rfl⟩
theorem At.neg(A:At ps Ag Aw rws Ae Ab z I mv be){r:Nat}(hi:i<6)(hr:0<r)(h:Ba (rowOf ps mv I) i= -(r:Int)):BI rws Ab z=r\/(BI rws Ab z=0/\Internal.act rws Ab z i= -(r:Int)):=by
 by_cases e:be=r
 ·have f:Ba (fin be (rowOf ps mv I)) i=0:=Qd.trans (if_pos ⟨UB e (JN hr),Aa h<|Aa e rfl⟩);have a:=A.act i;replace a:=(if_pos f)▸a;replace a:=e▸a;exact A.vI.imp (λx=>x.trans e) λx=>⟨x,a⟩
 ·have f:Ba (fin be (rowOf ps mv I)) i= -(r:Int):=(Qd.trans (if_neg λk=>e (UI k.2 h))).trans h;have n:Ba (fin be (rowOf ps mv I)) i≠0:=Aa f<|Zm hr;exact .inr ⟨A.vH hi n,Aa (A.act _)<|Aa (if_neg n)<|Aa f rfl⟩
theorem Tg:(rowOf ps mv I).length=6:=WY.trans (SE.trans Q2)
theorem LR.nd(L:LR m ps H Ag Aw rws Ae Ab)(A:At ps Ag Aw rws Ae Ab z I mv be):(mv.map (·.1)).Nodup:=(L.hA.mv z I mv A.i_ A.m_).1
def Dn(ps:List Pr)(I:List It)(r:Nat):Prop:=∃x∈I,done ps x=true/\x.1=r
theorem vJ{X:Sy}{j:Nat}:0<=Ib X j:=by unfold Ib;split<;>lia
theorem LR.vK(L:LR m ps H Ag Aw rws Ae Ab)(A:At ps Ag Aw rws Ae Ab z I mv be):be=0\/ ∃r:Nat,0<r/\be=r/\Dn ps I r:=by
 refine A.b.imp id λhQ=>?_;refine Ah hQ ?_;clear hQ;intro h0 h;refine Ad (vG h) ?_;clear h;intro i hi e;replace hi:=Tg▸hi;rcases(Nu (ps:=ps) (I:=I) (L.nd A) hi).2.1 (by exact Aa e<|Int.ne_of_lt (XB h0)) with⟨X,j,_,_,h2⟩|⟨x,hx,hd,h2⟩
 ·exact M86 h0 e h2 vJ
 ·exact⟨x.1,NW (a:=0) (N34 (UI e h2) h0),UI e h2,x,hx,hd,rfl⟩
theorem LR.goal(L:LR m ps H Ag Aw rws Ae Ab)(A:At ps Ag Aw rws Ae Ab z I mv be)(h:(X,j)∈mv):0<j/\ ∃J,Ag[j]?=some J/\CS ps H (gk ps I X) J:=by refine Ad ((L.hA.mv z I mv A.i_ A.m_).2.2 X j h) ?_;intro J h1 h2;refine⟨Qx λe=>?_,J,h1,h2⟩;subst e;refine Ad L.hA.PF ?_;intro I0 e0 h0;have hZ:=e0.symm.trans h1;clear h1;have hZ:=Ay hZ;subst hZ;exact Xq L.G h2 ((h0.mem _).mpr (.base (.head _)))
theorem LR.key(L:LR m ps H Ag Aw rws Ae Ab)(A:At ps Ag Aw rws Ae Ab z I mv be):(∃j,(X,j)∈mv)↔ ∃x∈I,Bn ps x=some X:=by
 rewrite[<-(L.hA.mv z I mv A.i_ A.m_).2.1 X];rewrite[Bj];constructor
 ·intro hZ;refine Ar hZ ?_;clear hZ;intro j h;exact⟨_,h,rfl⟩
 ·intro hZ;refine Ad hZ ?_;clear hZ;intro hZ;obtain⟨Y,j⟩:=hZ;rintro h rfl;exact⟨j,h⟩
theorem Th{t:Sy}(h:t∈C6):num t<6:=(by decide:∀t∈C6,num t<6) t h
theorem AkF(mv:List (Sy×Nat))(g:List (Nat×Nat))(hg:(g.map (·.1)).Nodup)(nd:(mv.map (·.1)).Nodup)(A:Sy)(j:Nat)(h6:6<=num A)(h:(A,j)∈mv\/((∀k,(A,k)∉mv)/\g.lookup (num A)=some j)):(mv.foldl DR g).lookup (num A)=some j:=by
 induction mv generalizing g with
 | nil=>exact h.elim (λh=>nomatch h) (·.2)
 | cons p mv ih=>
  obtain⟨X,k⟩:=p;refine Ah (Ig.mp nd) ?_;clear nd;intro nx nd;have OT:((DR g (X,k)).map (·.1)).Nodup:=by
   unfold DR;split
   ·exact PA hg
   ·exact hg
  refine ih (DR g (X,k)) OT nd ?_;by_cases e:A=X
  ·subst e;have hn:∀i,(A,i)∉mv:=λi hi=>nx (Dz (f:=(·.1)) hi);have ej:j=k:=by
    rcases h with h|h
    ·rcases Bo.mp h with h|h
     ·cases h;rfl
     ·exact absurd h (hn j)
    ·exact absurd (.head _) (h.1 k)
   subst ej;refine .inr ⟨hn,?_⟩;refine H4 OT ?_;unfold DR;refine Aa (if_pos h6) ?_;show(num A,j)∈upd g (num A) j;unfold upd;split
   ·rename_i hm;refine Ad (Bj.mp hm) ?_;clear hm;intro p hp e;exact Bj.mpr ⟨p,hp,Aa (if_pos e)<|Aa e rfl⟩
   ·simp
  ·rcases h with h|h
   ·exact .inl ((Bo.mp h).resolve_left λh=>e (by cases h;rfl))
   ·refine .inr ⟨λi hi=>h.1 i (.tail _ hi),?_⟩;have Bb:num A≠num X:=λh=>e (WR h);have hm:=LC h.2;refine H4 OT ?_;unfold DR;split
    ·show(num A,j)∈upd g (num X) k;unfold upd;split
     ·exact Bj.mpr ⟨_,hm,Aa (if_neg Bb) rfl⟩
     ·exact CW _ hm
    ·exact hm
theorem LR.tok(L:LR m ps H Ag Aw rws Ae Ab):CU Ag.length rws Ae Ab:=by
 have le:=L.le;have key:∀z,z<Ag.length->∃I mv be,At ps Ag Aw rws Ae Ab z I mv be:=λz hz=>by
  refine DO (L.at (BG hz)) ?_;intro mv be A;exact⟨_,mv,be,A⟩
 have r5:∀{I r},Dn ps I r->r<5:=λ⟨x,_,hd,e⟩=>by
  obtain⟨_,p,hp,_⟩:=Tf hd;have:=(A5.mp hp).1;replace this:=L.G.len▸this;exact Y7 e this
 refine⟨L.hT.l1,L.hT.l2,L.hT.l3,N1 le rfl,λr hr=>?_,λd hd=>?_,λg hg=>?_⟩
 ·refine Ar (DM hr) ?_;clear hr;intro z hz;have hl:=(A5.mp hz).1;replace hl:=L.hT.l1▸hl;obtain⟨be,b,d,r',g⟩:=L.hT.at_ z _ _ hl (BG hl) (BG (by exact Aa L.hA.len<|hl));have hZ:=hz.symm.trans r';clear r';have hZ:=Ay hZ;subst hZ;refine N0 (key z hl) ?_;intro I mv LG A;refine⟨by unfold fin;exact Aa (Ai _)<|Tg,λx hx=>?_⟩;refine Ad (vG hx) ?_;clear hx;intro i hi e;have Xh:i<6:=by unfold fin at hi;rewrite[Ai] at hi;replace hi:=Tg▸hi;exact hi
  have e1:=A.r i;replace e1:=(getD_some hz)▸e1;have e2:x=Ba (fin LG (rowOf ps mv I)) i:=e.symm.trans e1;replace e2:=Qd▸e2;by_cases h0:x=0
  ·exact Zb h0 rfl
  ·split at e2
   ·exact Zb e2 rfl
   ·rcases(Nu (ps:=ps) (I:=I) (L.nd A) Xh).2.1 (Zj h0 e2) with⟨X,j,_,_,h2⟩|⟨y,hy,hd,h2⟩
    ·have:= @vJ X j;exact Y9 (HG e2 h2) (Ml this rfl)
    ·have:=r5 ⟨y,hy,hd,rfl⟩;exact M66 e2 h2 this
 ·refine Ar (DM hd) ?_;clear hd;intro z hz;have hl:=(A5.mp hz).1;replace hl:=L.hT.l3▸hl;refine N0 (key z hl) ?_;intro I mv be A;have e:d=be:=(getD_some hz).symm.trans A.d;rcases L.vK A with h|⟨r,_,h,hr⟩
  ·lia
  ·have:=r5 hr;exact And.intro (Ml (Y9 (HG e h) (B8 _)) rfl) (Tt (Q5 (HG e h) (Iy this rfl)))
 ·refine Ar (DM hg) ?_;clear hg;intro z hz;have hl:=(A5.mp hz).1;replace hl:=L.hT.l2▸hl;refine N0 (key z hl) ?_;intro I mv be A;have e:g=SF mv:=(getD_some hz).symm.trans A.g;exact Aa e<|(rP (m:=mv) (g:= []) Il).1
theorem LR.shift(L:LR m ps H Ag Aw rws Ae Ab)(A:At ps Ag Aw rws Ae Ab z I mv be)(hX:X∈A4)(h:∃x∈I,Bn ps x=some X):
  ∃(g:Nat)(J:List It),BI rws Ab z=0/\act rws Ab z (num X)=(g:Int)/\0<g/\g<1048576/\(X,g)∈mv/\Ag[g]?=some J/\CS ps H (gk ps I X) J:=by
 refine Ar ((L.key A).mpr h) ?_;intro j hj;obtain⟨h0,J,h1,h2⟩:=L.goal A hj;have hn:X∈C6/\X≠ .en:=by revert hX;cases X<;>decide
 have hi:=Th hn.1;have e:Ib X j=j:=if_neg hn.2;have r:=(Nu (ps:=ps) (I:=I) (L.nd A) hi).1 X j hj rfl (λuF=>Mk (N57 h0 e) uF);refine Ah (A.pos hi (UB (HG r e) (JN h0))) ?_;intro a b;have:=(A5.mp h1).1;have:=L.le;exact⟨j,J,a,Aa b<|Aa r<|Aa e rfl,h0,N4 (B7 ‹_› this) rfl,hj,h1,h2⟩
theorem LR.acc(L:LR m ps H Ag Aw rws Ae Ab)(A:At ps Ag Aw rws Ae Ab z I mv be)(h:∃x∈I,Bn ps x=some .en):BI rws Ab z=0/\act rws Ab z 0=1048576:=by refine Ar ((L.key A).mpr h) ?_;intro j hj;have e:Ib .en j=1048576:=if_pos rfl;have r:=(Nu (ps:=ps) (I:=I) (L.nd A) (i:=0) (by decide)).1 .en j hj rfl (by lia);obtain⟨a,b⟩:=A.pos (i:=0) (by decide) (M32 e r);exact⟨a,Aa b<|Aa r<|Aa e rfl⟩
theorem LR.goto(L:LR m ps H Ag Aw rws Ae Ab)(A:At ps Ag Aw rws Ae Ab z I mv be)(hX:X∈sig m)(h:∃x∈I,Bn ps x=some X):
  ∃g J,(Ae.getD z []).lookup (num X)=some g/\(X,g)∈mv/\Ag[g]?=some J/\CS ps H (gk ps I X) J:=by
 refine Ar ((L.key A).mpr h) ?_;intro j hj;obtain⟨_,J,h1,h2⟩:=L.goal A hj;have h6:6<=num X:=by have:=Gq hX;revert this;cases X<;>decide
 exact⟨j,J,Aa A.g<|AkF mv [] Il (L.nd A) X j h6 (.inl hj),hj,h1,h2⟩
theorem LR.red(L:LR m ps H Ag Aw rws Ae Ab)(A:At ps Ag Aw rws Ae Ab z I mv be)(hp:Kl ps mv I=true){x:It}(hx:x∈I)(hd:done ps x=true)(hs:x.2.2∈C6):
  BI rws Ab z=x.1\/(BI rws Ab z=0/\act rws Ab z (num x.2.2)= -(x.1:Int)):=
 A.neg (Th hs) (Tf hd).1 ((Nu (ps:=ps) (I:=I) (L.nd A) (Th hs)).2.2 hp x hx hd rfl)
theorem LR.any(L:LR m ps H Ag Aw rws Ae Ab)(A:At ps Ag Aw rws Ae Ab z I mv be){t:Sy}(ht:t= .en\/t∈A4):
  (∃r:Nat,0<r/\BI rws Ab z=r/\Dn ps I r)\/BI rws Ab z=0/\(act rws Ab z (num t)=0\/(∃r:Nat,0<r/\act rws Ab z (num t)= -(r:Int)/\Dn ps I r)\/
   (t= .en/\act rws Ab z (num t)=1048576/\ ∃x∈I,Bn ps x=some .en)\/(t∈A4/\ ∃x∈I,Bn ps x=some t)):=by
 have B:=L.vK A;have lo:(∃r:Nat,0<r/\BI rws Ab z=r/\Dn ps I r)\/BI rws Ab z=0:=by
  rcases A.vI with h|h
  ·rcases B with e|⟨r,h0,e,hr⟩
   ·exact .inr (h.trans e)
   ·exact .inl ⟨r,h0,h.trans e,hr⟩
  ·exact .inr h
 refine lo.imp_right λh=>⟨h,?_⟩;have hl:t∈C6:=by rcases ht with rfl|h;exact .head _;exact .tail _ h
 have hi:=Th hl;have a:=A.act (num t);by_cases f:Ba (fin be (rowOf ps mv I)) (num t)=0
 ·replace a:=(if_pos f)▸a;rcases B with e|⟨r,h0,e,hr⟩
  ·exact .inl (M31 a e)
  ·exact .inr (.inl ⟨r,h0,by lia,hr⟩)
 ·replace a:=(if_neg f)▸a;have e:=Qd (be:=be) (row:=rowOf ps mv I) (i:=num t);split at e
  ·exact absurd e f
  ·rcases(Nu (ps:=ps) (I:=I) (L.nd A) hi).2.1 (Zj f e) with⟨X,j,hX,hn,h2⟩|⟨x,hx,hd,h2⟩
   ·have hZ:=WR hn;clear hn;subst hZ;have hk:=(L.key A).mp ⟨j,hX⟩;rcases ht with rfl|ht
    ·exact .inr (.inr (.inl ⟨rfl,Aa a<|Aa e<|Aa h2 rfl,hk⟩))
    ·exact .inr (.inr (.inr ⟨ht,hk⟩))
   ·exact .inr (.inl ⟨x.1,(Tf hd).1,Aa a<|Aa e<|Aa h2 rfl,x,hx,hd,rfl⟩)
end
inductive Jr(Ag:List (List It))(Aw:List (List (Sy×Nat))):List Nd->List Nat->Prop
 | nil:Jr Ag Aw [] [0]
 | go {st:List Nd} {p0:List Nat} {z g:Nat} {I:List It} {mv:List (Sy×Nat)} {x:Nd}:Jr Ag Aw st (p0++ [z])->Ag[z]?=some I->Aw[z]?=some mv->(DJ x,g)∈mv->Jr Ag Aw (st++ [x]) (p0++ [z]++ [g])
theorem Jr.len{Ag:List (List It)}{st:List Nd}{pl:List Nat}(h:Jr Ag Aw st pl):pl.length=st.length+1:=by
 induction h with
 | nil=>rfl
 | go h _ _ _ ih=>exact Aa AY<|Aa ih<|Aa AY rfl
theorem AkG(h:X∈A4):X∉sig m:=λh2=>by
 have:=Gq h2;revert h this;cases X<;>decide
theorem Ti{α:Type}{a b:List α}{x y:α}(h:a++ [x]=b++ [y]):a=b/\x=y:=by refine Ah (Abz h rfl) ?_;intro h1 h2;exact⟨h1,by cases h2;rfl⟩
theorem Gg.snoc{S:Nat}{w:List Sy}{a b d:CF}{m:Mv}(h:Gg S ps w rws Ae Ab a ms b)(h2:LL S ps w rws Ae Ab b m d):Gg S ps w rws Ae Ab a (ms++ [m]) d:=by
 induction h with
 | nil=>exact .cons h2 (.nil _)
 | cons h1 _ ih=>exact .cons h1 (ih h2)
theorem Ge.snoc{w:List Sy}{a b d:LS}{m:Mv}{os o:List (List Sy)}(h:Ge ps w rws Ae a ms b os)(h2:Kn ps w rws Ae b m d o):Ge ps w rws Ae a (ms++ [m]) d (os++o):=by
 induction h with
 | nil=>have:=Ge.cons h2 (.nil _);rwa[C8] at this
 | cons h1 _ ih=>have:=Ge.cons h1 (ih h2);rwa[<-DE] at this
section
variable{m:Nat}{ps:List Pr}{H:Sy->List Sy}{Ag:List (List It)}{Aw:List (List (Sy×Nat))}{rws:List (List Int)}{Ae:List (List (Nat×Nat))}{Ab:List Int}
theorem LR.top(L:LR m ps H Ag Aw rws Ae Ab){st:List Nd}{pl:List Nat}(h:Jr Ag Aw st pl):∃p0 z I mv be,pl=p0++ [z]/\z<Ag.length/\At ps Ag Aw rws Ae Ab z I mv be:=by
 have key:∃p0 z I,pl=p0++ [z]/\Ag[z]?=some I:=by
  cases h with
  | nil=>refine Ad L.hA.PF ?_;intro I h _;exact⟨[],0,I,rfl,h⟩
  | @go _ p0 z g I mv x h h1 h2 h3=>
   refine Ad ((L.hA.mv z I mv h1 h2).2.2 _ _ h3) ?_;intro J e _;exact⟨_,g,J,rfl,e⟩
 refine B9 key ?_;clear key;intro p0 z I e h;refine DO (L.at h) ?_;intro mv be A;exact⟨p0,z,I,mv,be,e,(A5.mp h).1,A⟩
inductive vL(Ag:List (List It))(Aw:List (List (Sy×Nat)))(st:List Nd)(pl:List Nat)(r d:Nat)(s:Sy)(p:Pr):Prop
 | mk (s1 s2:List Nd) (p1:List Nat) (z1:Nat) (I1:List It):st=s1++s2->s2.length=d->s2.map DJ=p.2.take d->pl.take (s1.length+1)=p1++ [z1]->Jr Ag Aw s1 (p1++ [z1])->Ag[z1]?=some I1->(r,0,s)∈I1->vL Ag Aw st pl r d s p
theorem LR.back(L:LR m ps H Ag Aw rws Ae Ab)(d:Nat):∀{st:List Nd}{pl p0:List Nat}{z r:Nat}{I:List It}{s:Sy}{p:Pr},Jr Ag Aw st pl->pl=p0++ [z]->Ag[z]?=some I->(r,d,s)∈I->ps[r]?=some p->vL Ag Aw st pl r d s p:=by
 induction d with
 | zero=>
  intro st pl p0 z r I s p h e hI hx hp;exact⟨st,[],p0,z,I,(C8 _).symm,rfl,rfl,by refine AS h.len ?_;exact Aa QV<|Aa e rfl,e▸h,hI,hx⟩
 | succ d ih=>
  intro st pl p0 z r I s p h e hI hx hp;cases h with
  | nil=>
   refine Ah (Ti (a:= []) e) ?_;rintro _ rfl;refine Ad L.hA.PF ?_;intro I0 e0 h0;have hZ:=e0.symm.trans hI;clear hI;have hZ:=Ay hZ;subst hZ;rcases Qb ((h0.mem _).mp hx) with h|⟨h,_⟩
   ·have hZ:=B3.mp h;clear h;cases hZ
   ·exfalso;injection h
  | @go Ed q0 z' g I' mv x h h1 h2 h3=>
   refine Ah (Ti e) ?_;clear e;rintro _ rfl;refine Ad ((L.hA.mv z' I' mv h1 h2).2.2 _ _ h3) ?_;intro J e1 hJ;have hZ:=e1.symm.trans hI;clear hI;have hZ:=Ay hZ;subst hZ;rcases Qb ((hJ.mem _).mp hx) with hx|⟨hx,_⟩
   ·refine Ch (LQ.mp hx) ?_;clear hx;intro hZ;obtain⟨r',d',s'⟩:=hZ;intro hy ha e2;obtain⟨rfl,rfl,rfl⟩:r=r'/\d=d'/\s=s':=by cases e2;exact⟨rfl,rfl,rfl⟩
    refine Ad (Ia ha) ?_;clear ha;intro p' a1 a2;have hZ:=hp.symm.trans a1;clear a1;have hZ:=Ay hZ;subst hZ;obtain⟨s1,s2,p1,z1,I1,rfl,b2,b3,b4,b5,b6,b7⟩:=ih h rfl h1 hy hp;refine⟨s1,s2++ [x],p1,z1,I1,DE _ _ _,Aa AY<|Aa b2 rfl,?_,?_,b5,b6,b7⟩
    ·exact Aa Bs<|Aa b3<|Aa Fu<|Aa (show p.2[d]?=some (DJ x) from a2) rfl
    ·rw[AbA (by exact Aa h.len<|Aa AY<|AI (Gh _ _) (HJ rfl))];exact b4
   ·exfalso;injection hx
structure Jn(Ag:List (List It))(Aw:List (List (Sy×Nat)))(m:Nat)(ps:List Pr)(rws:List (List Int))(Ae:List (List (Nat×Nat)))(Ab:List Int)(w:List Sy)(st:List Nd)(pl:List Nat)(k:Nat)(lk:Bool)(ms:List Mv)(os:List (List Sy)):Prop where
 run:Gg Ag.length ps w rws Ae Ab ⟨[],[0],0,false⟩ ms ⟨st,pl,k,lk⟩
 led:Ge ps w rws Ae ⟨[],[0],0⟩ ms ⟨st.map DJ,pl,k⟩ os
 Xw:Gf (st++(w.drop k).map .lf) (w::os).reverse
 rd:(Cv st).filterMap PV=ms.filterMap P8
 lf:(Cv st).filterMap PU=w.take k
 kl:k<=w.length
 Kp:Jr Ag Aw st pl
 cnt:ms.length+st.length+(st.filter CT).length<=3*k
 nm:∀x∈st,CT x=false->DJ x∈sig m
 ro:∀r∈os,r.length<=4*w.length
 ol:os.length<=ms.length
theorem vM(l:List Sy):(l.map Nd.lf).map DJ=l:=Aa BC<|QY l
theorem vN(l:List Sy):∀x∈l.map Nd.lf,CT x=true:=λx h=>by refine Ad (Bj.mp h) ?_;clear h;rintro y _ rfl;rfl
theorem Nv(a b:List Nd):Cv (a++b)=Cv a++Cv b:=Y3
theorem Qe(x:Nd):Cv [x]=FJ x:=by unfold Cv;simp
theorem Jn.start(w:List Sy):Jn Ag Aw m ps rws Ae Ab w [] [0] 0 false [] []:=
 ⟨.nil _,.nil _,by have:=Gf.stop (vN w);rwa[vM] at this,rfl,rfl,Cq _,.nil,Cq _,(λx h=>by cases h),(λx h=>by cases h),Cq _⟩
variable{w:List Sy}{st:List Nd}{pl p0:List Nat}{k z:Nat}{lk:Bool}{ms:List Mv}{os:List (List Sy)}{I:List It}{mv:List (Sy×Nat)}{be:Int}
theorem Jn.shift(L:LR m ps H Ag Aw rws Ae Ab)(J:Jn Ag Aw m ps rws Ae Ab w st (p0++ [z]) k lk ms os)(A:At ps Ag Aw rws Ae Ab z I mv be)(hw:w[k]?=some X)(hX:X∈A4)(h:∃x∈I,Bn ps x=some X):
  ∃g K,Jn Ag Aw m ps rws Ae Ab w (st++ [.lf X]) (p0++ [z]++ [g]) (k+1) false (ms++ [.sh g]) os/\Ag[g]?=some K/\CS ps H (gk ps I X) K:=by
 refine Zq (L.shift A hX h) ?_;intro g K e1 e2 e3 e4 e5 e6 e7;have hz:=(A5.mp A.i_).1;have hk:=(A5.mp hw).1;have hd:w.drop k=X::w.drop (k+1):=Aa (Ud hk)<|Aa ((A5.mp hw).2) rfl;refine⟨g,K,⟨J.run.snoc (.sh hz e1 hw e2 e3 e4),?_,?_,?_,?_,hk,.go J.Kp A.i_ A.m_ e5,?_,λx hx=>?_,J.ro,?_⟩,e6,e7⟩
 ·refine Fd (L.hT.at_ z I mv hz A.i_ A.m_) ?_;intro LG b d r _;have hl:(fin LG (rowOf ps mv I)).length=6:=by unfold fin;exact Aa (Ai _)<|Tg
  have hv:(fin LG (rowOf ps mv I)).getD (num X) 0=(g:Int):=by
   unfold act at e2;replace e2:=(getD_some r)▸e2;replace e2:=(getD_some d)▸e2;split at e2
   ·have:0<=LG:=by rcases b with h|⟨h,_⟩<;>lia
    lia
   ·exact e2
  have:=J.led.snoc (.sh hw r hl hv);rewrite[C8] at this;exact Aa Bs<|this
 ·have:=J.Xw;replace this:=hd▸this;simpa using this
 ·rw[Nv,Iu,Iu,J.rd,Qe];rfl
 ·exact Aa (Nv _ _)<|Aa Iu<|Aa J.lf<|Aa (Qe _)<|Aa Fu<|Aa hw rfl
 ·have:=J.cnt;refine Aa (QZ _ _)<|Aa AY<|Aa AY<|Aa AY ?_;exact M10 this
 ·rcases C9.mp hx with h|h
  ·exact J.nm x h
  ·have hZ:=B3.mp h;clear h;subst hZ;exact λe=>nomatch e
 ·exact Aa AY<|AP J.ol (Gh _ _)
theorem Jn.red(L:LR m ps H Ag Aw rws Ae Ab)(J:Jn Ag Aw m ps rws Ae Ab w st (p0++ [z]) k lk ms os)(A:At ps Ag Aw rws Ae Ab z I mv be){r:Nat}{s:Sy}{p:Pr}(hr:0<r)(hp:ps[r]?=some p)(hx:(r,p.2.length,s)∈I)
  (h:BI rws Ab z=r\/(BI rws Ab z=0/\act rws Ab z (num (ck w k))= -(r:Int))):
  ∃s1 s2 p1 z1 g CH I1 K row,st=s1++s2/\s2.length=p.2.length/\(p0++ [z]).take (s1.length+1)=p1++ [z1]/\Jn Ag Aw m ps rws Ae Ab w (s1++ [.nd p.1 r (D5 s2)]) (p1++ [z1]++ [g]) k CH (ms++ [.rd r]) (os++ [row])/\
   Ag[z1]?=some I1/\Ag[g]?=some K/\CS ps H (gk ps I1 p.1) K:=by
 have R:Tb m r p:=(L.G.at hp).resolve_left λh=>Y8 hr h.1;obtain⟨s1,s2,p1,z1,I1,rfl,h2,h3,h4,h5,h6,h7⟩:=L.back _ J.Kp rfl A.i_ hx hp;replace h3:=QV▸h3;have hz:=(A5.mp A.i_).1;have vO:=(A5.mp h6).1;have hn:∃x∈I1,Bn ps x=some p.1:=by
  have hR:=L.hA.rs I1 (A8 h6);have key:∀{K},CS ps H K I1->(r,0,s)∉K->∃x∈I1,Bn ps x=some p.1:=λhC hK=>by
   rcases Qb ((hC.mem _).mp h7) with h|⟨_,y,B,q,a1,a2,a3,_⟩
   ·exact absurd h hK
   ·have hZ:=hp.symm.trans a3;clear a3;have hZ:=Ay hZ;subst hZ;exact⟨y,(hC.mem y).mpr a1,a2⟩
  cases hR with
  | start hC=>exact key hC λh=>by have hZ:=B3.mp h;clear h;cases hZ;exact Y8 hr rfl
  | go _ _ hC=>exact key hC Xp
 refine DO (L.at h6) ?_;intro mv1 be1 A1;refine GX (L.goto A1 R.nm hn) ?_;intro g K e1 e2 e3 e4;obtain⟨CH,hlk⟩:∃CH,(BI rws Ab z=r/\CH=lk)\/(BI rws Ab z=0/\act rws Ab z (num (ck w k))= -(r:Int)/\CH=true):=by
  rcases h with h|⟨h,h'⟩
  ·exact⟨lk,.inl ⟨h,rfl⟩⟩
  ·exact⟨true,.inr ⟨h,h',rfl⟩⟩
 have pl:=J.Kp.len;have cn:=J.cnt;have jk:=J.kl;refine⟨s1,s2,p1,z1,g,CH,I1,K,(s1.map DJ++ [p.1])++w.drop k,rfl,h2,h4,⟨J.run.snoc (.rd rfl hz vO hlk hr hp h2 h4 e1),?_,?_,?_,?_,J.kl,.go h5 h6 A1.m_ e2,?_,λx hx=>?_,λx hx=>?_,?_⟩,h6,e3,e4⟩
 ·have hg:Ae[z1]?=some (Ae.getD z1 []):=by have:z1<Ae.length:=Aa L.hT.l2<|vO;exact Aa Dk<|Aa (BG this) rfl
  have:=J.led;replace this:=Bs▸this;replace this:=h3▸this;have:=this.snoc (.rd (A:=p.1) hp (by exact Aa (Ai _)<|h4) hg (L.tok.gt _ (A8 hg)) e1);exact Aa Bs<|this
 ·have hd:=J.Xw;rewrite[DE] at hd;have:=Gf.step (a:=s1) (A:=p.1) (i:=r) (k:=D5 s2) (vN (w.drop k)) (by refine Aa (No _) ?_;rewrite[DE];exact hd);replace this:=Bs▸this;replace this:=EO▸this;rewrite[vM] at this;rewrite[DE];refine AS L1 ?_;refine Aa yX ?_;rewrite[DE];exact this
 ·have e:Cv (s1++ [.nd p.1 r (D5 s2)])=Cv (s1++s2)++ [.nd p.1 r (D5 s2)]:=by refine Aa (Nv _ _)<|Aa (Nv _ _)<|Aa (Qe _) ?_;rewrite[DE];show _++(GP (D5 s2)++ [_])=_;exact Aa (PT _)<|Aa (No _) rfl
  exact Aa e<|Aa Iu<|Aa Iu<|Aa J.rd rfl
 ·have e:Cv (s1++ [.nd p.1 r (D5 s2)])=Cv (s1++s2)++ [.nd p.1 r (D5 s2)]:=by refine Aa (Nv _ _)<|Aa (Nv _ _)<|Aa (Qe _) ?_;rewrite[DE];show _++(GP (D5 s2)++ [_])=_;exact Aa (PT _)<|Aa (No _) rfl
  refine Aa e<|Aa Iu<|Aa J.lf ?_;exact C8 _
 ·have one:p.2.length=1->1<=(s2.filter CT).length:=λe=>by
   replace h2:=e▸h2;refine Ar (AbB.mp h2) ?_;clear h2;rintro v rfl;cases hv:CT v with
   | true=>simp[hv]
   | false=>
    have h1:=J.nm v (by simp) hv;have h8:=R.un e (DJ v) (by refine AS h3 ?_;exact .head _);exact absurd h1 (AkG h8)
  have l1:=R.l1;rw[QZ,AY,AY] at cn⊢;refine Aa AY ?_;rcases KS 1 p.2.length with h|h
  ·exact M1 h2 cn h
  ·have:=one (EM h l1);exact M2 h2 cn l1 h this
 ·rcases C9.mp hx with h|h
  ·exact J.nm x (CW _ h)
  ·have hZ:=B3.mp h;clear h;subst hZ;exact λZ=>R.nm
 ·rcases C9.mp hx with h|h
  ·exact J.ro x h
  ·have hZ:=B3.mp h;clear h;subst hZ;have l1:=R.l1;replace cn:=AY▸cn;refine Aa AY<|Aa AY<|Aa (Ai _)<|Aa Y1<|Aa Aa9 ?_;exact M3 h2 jk l1 cn
 ·have:=J.ol;exact Aa AY<|Aa AY<|AI this (BJ _)
end
theorem Xx:∀l:List Nd,l.length=(l.filterMap PV).length+(l.filterMap PU).length
 | []=>rfl
 | .lf s::l=>by
  have:=Xx l;exact M22 this
 | .nd A i k::l=>by
  have:=Xx l;exact M23 this
theorem Nw{α:Type}{l t:List α}{x:α}(h:l.drop d=x::t):l[d]?=some x/\l.drop (d+1)=t:=by
 constructor
 ·have:=congrArg (·[0]?) h;simpa using this
 ·refine AS AbC ?_;exact Aa h rfl
section
variable{m:Nat}{ps:List Pr}{H:Sy->List Sy}{Ag:List (List It)}{Aw:List (List (Sy×Nat))}{rws:List (List Int)}{Ae:List (List (Nat×Nat))}{Ab:List Int}
variable{w:List Sy}{st:List Nd}{pl p0:List Nat}{k z:Nat}{lk:Bool}{ms:List Mv}{os:List (List Sy)}{I:List It}{mv:List (Sy×Nat)}{be:Int}
theorem AkH(h:([Sy.S,.en]:List Sy)[d]?=some .en):d=1:=by
 cases d with
 | zero=>cases h
 | succ d=>cases d with
  | zero=>rfl
  | succ d=>exact AA h
theorem Jn.acc(L:LR m ps H Ag Aw rws Ae Ab)(J:Jn Ag Aw m ps rws Ae Ab w st (p0++ [z]) k lk ms os)(A:At ps Ag Aw rws Ae Ab z I mv be)(h:∃x∈I,Bn ps x=some .en):∃v,st= [v]/\DJ v= .S:=by
 refine Ad h ?_;clear h;intro hZ;obtain⟨r,d,s⟩:=hZ;intro hx ha;refine Ad (Ia ha) ?_;clear ha;intro p hp hd;rcases L.G.at hp with⟨e,rfl⟩|R
 ·have e:r=0:=e;subst e;have hd:([Sy.S,.en]:List Sy)[d]?=some .en:=hd;have e:=AkH hd;subst e;obtain⟨s1,s2,p1,z1,I1,rfl,h2,h3,h4,h5,h6,h7⟩:=L.back 1 J.Kp rfl A.i_ hx hp;refine Ar (AbB.mp h2) ?_;clear h2;rintro v rfl;have hv:DJ v= .S:=by injection h3
  cases h5':s1 with
  | nil=>exact⟨v,rfl,hv⟩
  | cons a b=>
   exfalso;generalize hq:p1++ [z1]=q at h5;cases h5 with
   | nil=>exact Iz h5'
   | @go Ed q0 z' g I' WZ x a1 a2 a3 a4=>
    refine Ah (Ti hq) ?_;clear hq;rintro _ rfl;refine Ad ((L.hA.mv z' I' WZ a2 a3).2.2 _ _ a4) ?_;intro K b1 b2;have hZ:=b1.symm.trans h6;clear h6;have hZ:=Ay hZ;subst hZ;exact Xq L.G b2 h7
 ·rcases R.sy .en (A8 hd) with h|h
  ·exact absurd h (by decide)
  ·have h:Sy.en∈[Sy.S,.T,.U]:=Gq h;exact absurd h (by decide)
theorem vP(L:LR m ps H Ag Aw rws Ae Ab)(J:Jn Ag Aw m ps rws Ae Ab w st (p0++ [z]) k lk ms os)(A:At ps Ag Aw rws Ae Ab z I mv be)(h:∃x∈I,Bn ps x=some .en)(hk:k=w.length)(hw:w.length<=101)(sure:Bool):Good Ag.length ps w rws Ae Ab sure:=by
 subst hk;refine Ad (J.acc L A h) ?_;rintro v rfl hv;refine Ah (L.acc A h) ?_;intro h1 h2;have hc:num (ck w w.length)=0:=by unfold ck;exact Aa Dk<|Aa (Ip (BJ _)) rfl
 have c:=J.cnt;have o:=J.ol;have rd:=J.rd;have lf:=J.lf;rw[Qe] at rd lf;replace lf:=QV▸lf;have d:=J.Xw;replace d:=List.drop_length▸d;refine⟨ms,⟨[v],p0++ [z],w.length,lk⟩,some v,⟨[.S],p0++ [z],w.length⟩,os,J.run,.ac (s1:= []) (A5.mp A.i_).1 h1 (by exact Aa hc<|h2),N1 (CN (AP (CN c) (DU _ hw))) rfl,M8 hw c o,?_,?_,rd,lf,d,λr hr=>?_⟩
 ·have:=J.led;replace this:=EO▸this;replace this:=hv▸this;have:=this.snoc .ac;rwa[C8] at this
 ·have:=NT P8 ms;refine Aa (Xx _)<|Aa rd<|Aa lf ?_;exact M7 hw c this
 ·rcases Bo.mp hr with rfl|hr
  ·exact N1 hw rfl
  ·have:=J.ro r hr;exact N1 (AP this (DU _ hw)) rfl
theorem AkI(J:Jn Ag Aw m ps rws Ae Ab w st (p0++ [z]) k lk ms os)(hz:z<Ag.length)(h1:BI rws Ab z=0)(h2:act rws Ab z (num (ck w k))=0)(hw:w.length<=101):Good Ag.length ps w rws Ae Ab false:=by
 have c:=J.cnt;have o:=J.ol;have q:=J.kl;refine⟨ms,⟨st,p0++ [z],k,lk⟩,none,⟨st.map DJ,p0++ [z],k⟩,os,J.run,.er hz h1 h2,by lia,M5 hw c o q,?_,rfl,?_⟩
 ·show Ge ps w rws Ae _ (ms++ []) _ os;exact Aa (C8 _)<|J.led
 ·rfl
theorem ends(L:LR m ps H Ag Aw rws Ae Ab)(hw:∀X∈w,X∈A4)(hl:w.length<=101)(n:Nat):∀{st:List Nd}{pl:List Nat}{k:Nat}{lk:Bool}{ms:List Mv}{os:List (List Sy)},Jn Ag Aw m ps rws Ae Ab w st pl k lk ms os->3*w.length<n+ms.length->Good Ag.length ps w rws Ae Ab false:=by
 induction n with
 | zero=>intro st pl k lk ms os J hn;exact M88 hn J.cnt J.kl
 | succ n ih=>
  intro st pl k lk ms os J hn;refine e5_3 (L.top J.Kp) ?_;rintro p0 z I mv be rfl hz A;have red:∀{r:Nat},0<r->Dn ps I r->(BI rws Ab z=r\/(BI rws Ab z=0/\act rws Ab z (num (ck w k))= -(r:Int)))->Good Ag.length ps w rws Ae Ab false:=λ{r} h0 ⟨⟨r',d,s⟩,hx,hd,e⟩ h=>by
   have e:r'=r:=e;subst e;obtain⟨_,p,hp,JV⟩:=Tf hd;have JV:d=p.2.length:=JV;subst JV;obtain⟨s1,s2,p1,z1,g,CH,I1,K,row,_,_,_,J',_⟩:=J.red L A h0 hp hx h;exact ih J' (by exact Aa AY<|(by exact Zh hn:3*w.length<n+(ms.length+1)))
  have hk:=J.kl;have ek:ck w k∈A4->w[k]?=some (ck w k):=λh=>by
   unfold ck at h⊢;rw[Dk] at h⊢;cases e:w[k]? with
   | none=>replace h:=e▸h;exact absurd h (by decide)
   | some X=>rfl
  have hc:=PZ hw k;rcases L.any A hc with⟨r,h0,h,hD⟩|⟨h,h'|⟨r,h0,h',hD⟩|⟨ht,_,hx⟩|⟨ht,hx⟩⟩
  ·exact red h0 hD (.inl h)
  ·exact AkI J hz h h' hl
  ·exact red h0 hD (.inr ⟨h,h'⟩)
  ·refine vP L J A hx ?_ hl _;rcases KS k w.length with h1|h1
   ·have:=hw _ (getD_mem (d:=Sy.en) h1);rewrite[show w.getD k .en= .en from ht] at this;exact absurd this (by decide)
   ·exact EM hk h1
  ·refine Br (J.shift L A (ek ht) ht hx) ?_;intro g K J' _;exact ih J' (by exact Aa AY<|(by exact Zh hn:3*w.length<n+(ms.length+1)))
inductive Fo(ps:List Pr):List Sy->List Sy->Prop
 | nil:Fo ps [] []
 | lf {X:Sy} {r u:List Sy}:X∈A4->Fo ps r u->Fo ps (X::r) (X::u)
 | nd {A:Sy} {β r u v:List Sy}:(A,β)∈ps->Fo ps β u->Fo ps r v->Fo ps (A::r) (u++v)
theorem Fo.app{a b u v:List Sy}(h:Fo ps a u)(h2:Fo ps b v):Fo ps (a++b) (u++v):=by
 induction h with
 | nil=>exact h2
 | lf hX _ ih=>exact .lf hX ih
 | nd hA h1 _ _ ih=>rewrite[DE];exact .nd hA h1 ih
theorem Fo.split{l w:List Sy}(h:Fo ps l w):∀a b,l=a++b->∃u v,w=u++v/\Fo ps a u/\Fo ps b v:=by
 induction h with
 | nil=>intro a b e;refine Ah (List.append_eq_nil_iff.mp e.symm) ?_;rintro rfl rfl;exact⟨[],[],rfl,.nil,.nil⟩
 | @lf X r u hX h ih=>
  intro a b e;cases a with
  | nil=>exact⟨[],_,rfl,.nil,by subst e;exact .lf hX h⟩
  | cons Y a=>
   refine Ah (Qy e) ?_;clear e;intro e1 e2;subst e1;refine BS (ih a b e2) ?_;rintro u1 v rfl h1 h2;exact⟨X::u1,v,rfl,.lf hX h1,h2⟩
 | @nd A β r u v hA h1 h2 _ ih=>
  intro a b e;cases a with
  | nil=>exact⟨[],_,rfl,.nil,by subst e;exact .nd hA h1 h2⟩
  | cons Y a=>
   refine Ah (Qy e) ?_;clear e;intro e1 e2;subst e1;refine BS (ih a b e2) ?_;rintro u1 v1 rfl a1 a2;exact⟨u++u1,v1,by rewrite[DE];rfl,.nd hA h1 a1,a2⟩
theorem Fo.self:∀{w:List Sy},(∀X∈w,X∈A4)->Fo ps w w
 | [],_=>.nil
 | X::w,h=>.lf (h X (.head _)) (Fo.self λY hY=>h Y (.tail _ hY))
theorem H7.fo{xs ys w:List Sy}(h:H7 ps xs ys):Fo ps ys w->Fo ps xs w:=by
 induction h with
 | refl=>exact id
 | @step l r β A _ hA ih=>
  intro h;refine BS (h.split (l++β) r rfl) ?_;rintro u v rfl h1 h2;refine BS (h1.split l β rfl) ?_;rintro u1 u2 rfl h3 h4;refine ih ?_;rewrite[DE];exact h3.app (.nd hA h4 h2)
theorem E4.trans{x y z:Sy}(h:E4 ps x y)(h2:E4 ps y z):E4 ps x z:=by
 induction h2 with
 | refl=>exact h
 | step _ h3 ih=>exact .step ih h3
theorem Fo.head(hs:Small ps){l u:List Sy}(h:Fo ps l u):∀Z r,l=Z::r->∃t v,u=t::v/\t∈A4/\E4 ps Z t:=by
 induction h with
 | nil=>intro Z r e;exact Iz e
 | @lf X r u hX _ _=>intro Z r e;cases e;exact⟨X,u,rfl,hX,.refl _⟩
 | @nd A β r u v hA _ _ ih _=>
  intro Z r e;cases e;cases β with
  | nil=>exact absurd rfl (hs.ne _ hA).1
  | cons B β=>
   refine BS (ih B β rfl) ?_;rintro t v' rfl h1 h2;exact⟨t,v'++v,rfl,h1,(E4.step (.refl _) hA).trans h2⟩
theorem Fo.none{u:List Sy}(h:Fo ps [] u):u= []:=by cases h;rfl
theorem AkJ{t:Sy}{v:List Sy}(h:w.drop k=t::v):ck w k=t:=getD_some (Nw h).1
theorem BV.nl(G:BV m ps){t:Sy}(h:t∈C6):t∉ps.map (·.1):=λhm=>by
 refine Ad (Bj.mp hm) ?_;clear hm;rintro p hp rfl;refine Ar (DM hp) ?_;clear hp;intro r hr;rcases G.at hr with⟨_,rfl⟩|R
 ·exact absurd h (by decide)
 ·have:=Gq R.nm;revert h this;generalize p.1=X;cases X<;>decide
inductive vQ(m:Nat)(ps:List Pr)(Ag:List (List It))(Aw:List (List (Sy×Nat)))(rws:List (List Int))(Ae:List (List (Nat×Nat)))(Ab:List Int)(w:List Sy)(st:List Nd)(pz:List Nat)(k n o d:Nat)(s:Sy):Prop
 | mk (IE:List Nd) (p2:List Nat) (z2:Nat) (CH:Bool) (GQ:List Mv) (Xy:List (List Sy)) (I2:List It):Jn Ag Aw m ps rws Ae Ab w (st++IE) (p2++ [z2]) k CH GQ Xy->IE.length=n->(p2++ [z2]).take (st.length+1)=pz->Ag[z2]?=some I2->(o,d+n,s)∈I2->vQ m ps Ag Aw rws Ae Ab w st pz k n o d s
theorem AkK(L:LR m ps H Ag Aw rws Ae Ab){r Y u2 v:List Sy}{kk o d:Nat}{s:Sy}{p:Pr}(hp:ps[o]?=some p)(AH:d<p.2.length)(d2:p.2.drop (d+1)=r++Y)(h2:Fo ps r u2)(G9:w.drop kk=u2++v)
  (c1:Y= []->ck w (kk+u2.length)=s) (c2:∀B Y',Y=B::Y'->ck w (kk+u2.length)∈H B):ck w kk∈Fm ps H (o,d,s):=by
 have e:Fm ps H (o,d,s)=if d+1=p.2.length then[s] else H (p.2.getD (d+1) .nu):=by unfold Fm;exact Aa (show ps[(o,d,s).1]?=some p from hp) rfl
 refine Aa e ?_;have big:∀{B t},p.2.drop (d+1)=B::t->ck w kk∈H B->ck w kk∈if d+1=p.2.length then[s] else H (p.2.getD (d+1) .nu):=λ{B t} h hm=>by
  have:=(Nw h).1;have hl:=(A5.mp this).1;exact Aa (if_neg (λCJ=>N50 CJ hl))<|Aa (getD_some this)<|hm
 cases r with
 | cons Z r=>
  refine BS (h2.head L.G.small Z r rfl) ?_;rintro t v' rfl b1 b2;refine big d2 ?_;refine Aa (AkJ G9) ?_;have hZ:=L.G.sy (A8 hp) (A8 (Nw d2).1);exact((L.hH Z (Tc hZ)).2 t).mpr ⟨b2,L.G.nl (.tail _ b1)⟩
 | nil=>
  cases h2.none;cases Y with
  | nil=>
   have:p.2.length<=d+1:=List.drop_eq_nil_iff.mp d2;refine Aa (if_pos (M46 AH this)) ?_;refine AS (c1 rfl) ?_;exact .head _
  | cons B Y=>exact big d2 (c2 B Y rfl)
theorem Fo.walk(L:LR m ps H Ag Aw rws Ae Ab)(hw:∀X∈w,X∈A4)(A3:∀(j:Nat) I mv,Ag[j]?=some I->Aw[j]?=some mv->Kl ps mv I=true){X u:List Sy}(h:Fo ps X u):
  ∀{st:List Nd}{p0:List Nat}{z k:Nat}{lk:Bool}{ms:List Mv}{os:List (List Sy)}{I:List It}{o d:Nat}{s:Sy}{p:Pr}{Y v:List Sy},Jn Ag Aw m ps rws Ae Ab w st (p0++ [z]) k lk ms os->Ag[z]?=some I->(o,d,s)∈I->ps[o]?=some p->p.2.drop d=X++Y->w.drop k=u++v->
   (Y= []->ck w (k+u.length)=s)->(∀B Y',Y=B::Y'->ck w (k+u.length)∈H B)->
   vQ m ps Ag Aw rws Ae Ab w st (p0++ [z]) (k+u.length) X.length o d s:=by
 have tk:∀{l q:List Nat}{n g:Nat},l.take (n+1+1)=q++ [g]->q.length=n+1->l.take (n+1)=q:=λ{l q n g} h hq=>by
  have:=congrArg (List.take (n+1)) h;replace this:=List.take_take▸this;replace this:=(Jt (L4 _))▸this;replace this:=(AbA (l₁:=q) (HJ hq))▸this;replace this:=(Gp (l:=q) (BA hq))▸this;exact this
 have vR:∀{I K:List It}{X:Sy}{o d:Nat}{s:Sy},CS ps H (gk ps I X) K->(o,d,s)∈I->Bn ps (o,d,s)=some X->(o,d+1,s)∈K:=λhK hx ha=>(hK.mem _).mpr (.base (LQ.mpr ⟨_,hx,ha,rfl⟩));have hl:∀{k},ck w k∈C6:=λ{k}=>by
  rcases PZ hw k with h|h
  ·exact Aa h<|.head _
  ·exact .tail _ h
 induction h with
 | nil=>
  intro st p0 z k lk ms os I o d s p Y v J hI hx hp _ _ _ _;exact⟨[],p0,z,lk,ms,os,I,Aa (C8 _)<|J,rfl,by refine AS J.Kp.len ?_;exact Aa QV rfl,hI,hx⟩
 | @lf X r u hX _ ih=>
  intro st p0 z k lk ms os I o d s p Y v J hI hx hp hd hk c1 c2;refine DO (L.at hI) ?_;intro mv be A;refine Ah (Nw hd) ?_;clear hd;intro d1 d2;refine Ah (Nw hk) ?_;clear hk;intro k1 k2;have ha:Bn ps (o,d,s)=some X:=by unfold Bn;exact Aa (show ps[(o,d,s).1]?=some p from hp)<|d1
  refine BS (J.shift L A k1 hX ⟨_,hx,ha⟩) ?_;intro g K J' e1 e2;have ek:k+1+u.length=k+(X::u).length:=Aa Fc<|Zl;obtain⟨IE,p2,z2,CH,GQ,Xy,I2,a1,a2,a3,a4,a5⟩:=ih J' e1 (vR e2 hx ha) hp d2 k2 (by exact Aa ek<|c1) (by exact Aa ek<|c2);replace a1:=ek▸a1;rewrite[DE] at a1;replace a3:=AY▸a3;refine⟨_,p2,z2,CH,GQ,Xy,I2,a1,Aa AY<|Aa a2<|Aa Fc<|Aa (JL _ _) rfl,tk a3 J.Kp.len,a4,?_⟩;refine Aa Fc<|Aa ((JL r.length) _) ?_;rewrite[<-Go];exact a5
 | @nd A β r u1 u2 hA _ h2 ih1 ih2=>
  intro st p0 z k lk ms os I o d s p Y v J hI hx hp hd hk c1 c2;refine DO (L.at hI) ?_;intro mv be At0;refine Ah (Nw hd) ?_;clear hd;intro d1 d2;have ha:Bn ps (o,d,s)=some A:=by unfold Bn;exact Aa (show ps[(o,d,s).1]?=some p from hp)<|d1
  refine Ar (DM hA) ?_;clear hA;intro o' ho;have R:Tb m o' (A,β):=(L.G.at ho).resolve_left λx=>by
   have e:=x.2;cases e;rcases Xn L.G ha with h|h|h
   ·exact absurd h (by decide)
   ·have h:Sy.ac∈[Sy.S,.T,.U]:=Gq h;exact absurd h (by decide)
   ·exfalso;injection h
  rewrite[DE] at hk;have G9:w.drop (k+u1.length)=u2++v:=by refine AS AbC ?_;exact Aa hk<|Aa List.drop_left rfl
  rw[AY,<-Go] at c1 c2;have AH:=(A5.mp d1).1;have hlas:=AkK L hp AH d2 h2 G9 c1 c2;have Sx:(o',0,ck w (k+u1.length))∈I:=by
   have key:∀{K},CS ps H K I->(o',0,ck w (k+u1.length))∈I:=λhC=>(hC.mem _).mpr (.step ((hC.mem _).mp hx) ha ho hlas);cases L.hA.rs I (A8 hI) with
   | start hC=>exact key hC
   | go _ _ hC=>exact key hC
  obtain⟨IE,p2,z2,uG,ms2,Nm,I2,a1,a2,a3,a4,a5⟩:=ih1 (Y:= []) J hI Sx ho (by exact Aa (C8 _) rfl) hk (λZ=>rfl) λB Y' e=>by exact Iz e
  refine DO (L.at a4) ?_;intro mv2 be2 A2;rewrite[KJ] at a5;have hr:=L.red A2 (A3 z2 I2 mv2 a4 A2.m_) a5 (by unfold done;refine Aa (show ps[(o',β.length,ck w (k+u1.length)).1]?=some (A,β) from ho)<|Aa (decide_eq_true (show 0<(o',β.length,ck w (k+u1.length)).1 from R.lo)) ?_;simp) hl;obtain⟨s1,s2,p1,z1,g,lk3,I1,K,row,b1,b2,b3,b4,b5,b6,b7⟩:=a1.red L A2 R.lo ho a5 hr;refine Ah (Abz b1 (a2.trans b2.symm)) ?_;rintro rfl rfl;refine Ah (Ti (a3.symm.trans b3)) ?_;rintro rfl rfl;have hZ:=hI.symm.trans b5;clear b5;have hZ:=Ay hZ;subst hZ;obtain⟨st3,p3,z3,lk4,ms4,os4,I3,f1,f2,f3,f4,f5⟩:=ih2 b4 b6 (vR b7 hx ha) hp d2 G9 c1 c2;rewrite[Go] at f1;replace f1:=Eq.symm AY▸f1;rewrite[DE] at f1;replace f3:=AY▸f3;refine⟨_,p3,z3,lk4,ms4,os4,I3,f1,Aa AY<|Aa f2<|Aa Fc<|Aa (JL _ _) rfl,tk f3 J.Kp.len,f4,?_⟩;refine Aa Fc<|Aa ((JL r.length) _) ?_;rewrite[<-Go];exact f5
theorem L8(hw:∀X∈w,X∈A4)(hl:w.length<=101)(L:LR m ps H Ag Aw rws Ae Ab){sure:Bool}(hs:sure=true->H7 ps [.S] w/\ ∀(j:Nat) I mv,Ag[j]?=some I->Aw[j]?=some mv->Kl ps mv I=true):Good Ag.length ps w rws Ae Ab sure:=by
 cases sure with
 | false=>exact ends L hw hl (3*w.length+1) (Jn.start w) (B7 (Abg _) (Gh _ _))
 | true=>
  refine Ah (hs rfl) ?_;intro hD A3;have F:=hD.fo (Fo.self hw);refine Ad L.hA.PF ?_;intro I0 e0 h0;refine Ad L.G.cons ?_;intro t e _;have hp:ps[0]?=some (.ac,[.S,.en]):=Aa e rfl;have ce:ck w (0+w.length)= .en:=by unfold ck;exact Aa (KJ _)<|Aa Dk<|Aa (Ip (BJ _)) rfl
  obtain⟨IE,p2,z2,uG,ms2,Nm,I2,a1,_,_,a4,a5⟩:=F.walk L hw A3 (p0:= []) (v:= []) (Y:= [.en]) (Jn.start w) e0 ((h0.mem _).mpr (.base (.head _))) hp rfl (by exact Aa (C8 _) rfl) (λe=>by exact Mm e) λB Y' e=>by
   cases e;exact Aa ce<|((L.hH .en (by decide)).2 .en).mpr ⟨.refl _,L.G.nl (.head _)⟩
  refine DO (L.at a4) ?_;clear a4;intro mv be A;exact vP L a1 A ⟨_,a5,by unfold Bn;exact Aa (show ps[(0,0+ [Sy.S].length,Sy.nu).1]?=some (.ac,[.S,.en]) from hp) rfl⟩ (KJ _) hl true
end
theorem AkL:Plain:=λm ps G=>⟨λH hH=>⟨_,_,G.vD hH⟩,λH Ag Aw rws Ae Ab pl hH hA hT A3=>⟨LR.tok ⟨G,hH,hA,hT⟩,λw sure hw hl hs=>L8 hw hl ⟨G,hH,hA,hT⟩ λe=>⟨(hs e).1,A3 (hs e).2⟩⟩⟩
noncomputable def Tj:PS:= .Hc 8 (.comp false false [1] [none,none] (.attr (.v 1) "left" 1 [559]) (.iV (.attr (.v 1) "rules" 2 [641])) .CK) (.Hc 9 (.comp false false [1] [none,none,none] (.call (.builtin "len") 2 25 (.cons (.attr (.v 1) "right" 2 [559]) .nil)) (.iV (.attr (.v 1) "rules" 2 [641])) .CK) (.Hc 10 (.comp false false [1] [none,none] (.attr (.v 1) "before" 6 [559]) (.iV (.attr (.v 1) "rules" 2 [641])) .CK) .nil))
noncomputable def Qf:PS:= .AQ (.v 1) (.v 0) "grammar" 7 [245] (.AQ (.v 2) (.v 0) "rows" 8 [245] (.AQ (.v 3) (.v 0) "gotos" 9 [245] (.AQ (.v 4) (.v 0) "defaults" 5 [245] (.AQ (.v 5) (.v 0) "conflicts" 10 [245] (.AQ (.v 6) (.v 0) "settled" 11 [245] (.AQ (.v 7) (.v 0) "mode" 12 [245] .nil))))))
noncomputable def Nx:PE:= .cons (.attr (.v 1) "names" 0 [641]) (.cons (.attr (.v 1) "terminal_count" 1 [641]) (.cons (.v 8) (.cons (.v 9) (.cons (.v 10) .nil))))
noncomputable def Tk(st:Stmt)(ns:Ns)(as:PE):Bool:=Sd st λe=>Hf e λg xs ks p=>ks.isEmpty&&Lp g λb y ap=>y=="__init__"&&Hf b (λg2 vS vT p2=>vT.isEmpty&&vS.isEmpty&&E3 g2 λid Z=>id=="super")&&noStar xs&&decide (xs.length<30)&&ap.endLine==p.line&&AX as ns xs
theorem AkM{st:Stmt}{ns:Ns}{as:PE}(h:Tk st ns as=true):∃p0 p1 ap p q xs,st= .Expr (.Call (.Attribute (.Call (.Name "super" p0) [] [] p1) "__init__" ap) xs [] p) q/\FA xs/\xs.length<30/\(ap.endLine==p.line)=true/\AX as ns xs=true:=by refine hide λG K=>?_;refine Br (kI h) ?_;clear h;rintro e q rfl g;refine Ea (Kb g) ?_;clear g;rintro g0 xs ks p rfl g;refine Ah (AO g) ?_;clear g;intro g1 g;have hZ:=El g1;clear g1;subst hZ;refine B9 (Pe g) ?_;clear g;rintro b y ap rfl g;refine MX g λh0 h1 h2 h3 h4 h5=>?_;have hZ:=eq_of_beq h0;clear h0;subst hZ;refine Ea (Kb h1) ?_;clear h1;rintro g2 vS vT p2 rfl k;refine GK k λh8 h9 h7=>?_;have hZ:=El h8;clear h8;subst hZ;have hZ:=El h9;clear h9;subst hZ;refine Br (GJ h7) ?_;clear h7;rintro id p3 rfl h6;have hZ:=eq_of_beq h6;clear h6;subst hZ;exact K ⟨p3,p2,ap,p,q,xs,rfl,.of h2,of_decide_eq_true h3,h4,h5⟩
noncomputable def Ny(md code ct:Ac):FuncData:=
 {name:="__init__",qualname:= .ofString "ParseTables.__init__",params:=Lw ⟨[],[],none,[],[],none,[]⟩ (Hd.sm 12 0) λZ pa Z Z=>pa,body:= .stmts (bodyOf (Hd.sm 12 0)),scope:=Dw (Hd.sm 12 0),globals:=3,closure:= [("__class__",211)],defaults:= .none,kwdefaults:= .none,doc:= .none,pyModule:=md,code:=code,closureTuple:=ct,builtins:=0}
theorem AkN:Cf 4 (bodyOf (Hd.sm 12 0)).length=true:=by kernel_rfl
theorem AkO:Do Tj (Dw (Hd.sm 12 0)).names ((bodyOf (Hd.sm 12 0)).take 3)=true:=by kernel_rfl
theorem AkP:Tk ((bodyOf (Hd.sm 12 0)).getD 3 default) (Dw (Hd.sm 12 0)).names Nx=true:=by kernel_rfl
theorem AkQ:Do Qf (Dw (Hd.sm 12 0)).names ((bodyOf (Hd.sm 12 0)).drop 4)=true:=by kernel_rfl
theorem AkR(P:AK):NH (Hd.K P) (.ref 220) (.ofString "ParseTables.__init__")=true:=by kernel_rfl
theorem vU(P:AK):(Hd.K P).lookup 221=some ⟨.type "function",none,.func (Ny (Hd.s "grammarmill.tables" 315) (Hd.r 220) (Hd.r 216)),#[]⟩:=(Adw P).trans (by kernel_rfl)
noncomputable def E8:List Str:= ["self","grammar","rows","gotos","defaults","conflicts","settled","mode"]
noncomputable def vV:Bool:=Sf (Dw (Hd.sm 12 0))&&Da (Dw (Hd.sm 12 0)).names.length 13&&D3 (Dw (Hd.sm 12 0)).names [0,1,2,3,4,5,6,7] E8&&decide E8.Nodup&&((Dw (Hd.sm 12 0)).names.all λx=>!(x.2== .cell))&&
 (Dw (Hd.sm 12 0)).names.lookup ("super":Str)==some NameKind.globalImplicit&&(Dw (Hd.sm 12 0)).names.lookup ("__class__":Str)==some D9&&((E8.all λx=>(Dw (Hd.sm 12 0)).names.lookup x==some NameKind.local))
theorem vW:vV=true:=by kernel_rfl
theorem AkS:((Lw (⟨[],[],none,[],[],none,[]⟩:YR) (Hd.sm 12 0) λZ pa Z Z=>pa).posonlyargs++(Lw (⟨[],[],none,[],[],none,[]⟩:YR) (Hd.sm 12 0) λZ pa Z Z=>pa).args).head?.map (·.arg)=some "self":=by kernel_rfl
noncomputable abbrev AkT:Obj:=Hd.cl "ParseTables" "ParseTables" [Hd.r 203] [Hd.r 245,Hd.r 203,.type "object"] 244 [] [some (Hd.r 208),none,some (Hd.s "ParseTables" 465),some (Hd.s "ParseTables" 473),some (.builtin "object.__new__"),some (.bool true)]
theorem vX(P:AK):(Hd.K P).lookup 211=some (Hd.ce (some (Hd.r 245))):=by kernel_rfl
theorem o220(P:AK):(Hd.K P).lookup 220=some (Hd.co "__init__" "ParseTables.__init__" 477 101 8 0 0 3 181 481 101 (Hd.r 217) (.bool true) (Hd.r 218) .none .none .none (Hd.r 219) 482):=by kernel_rfl
theorem o245(P:AK):(Hd.K P).lookup 245=some AkT:=by kernel_rfl
theorem AkU:((Hd.pE.main.file:Str)==HD "/claim/cut.py")=true:=by kernel_rfl
theorem AkV:(Hd.pE.main.scope.names.lookup ("super":Str)).isSome=false:=by kernel_rfl
theorem AkW(P:AK):nsIn (Hd.K P) FO "super"=some none:=by kernel_rfl
theorem AkX(P:AK):mroIn (Hd.K P) 245 (.ref 245)=some true:=by kernel_rfl
noncomputable abbrev vY:List Value:= [Hd.r 245,Hd.r 203,.type "object"]
theorem AkY(P:AK):alongIn (Hd.K P) "__init__" ((vY.dropWhile (· != .ref 245)).drop 1)=some (some (.ref 123)):=by kernel_rfl
theorem AkZ(P:AK):TL (Hd.K P) (.ref 123)=some (.type "function"):=by kernel_rfl
theorem Ak0(P:AK):nsIn (Hd.K P) cStatics "thirdparty.any"=some none:=by kernel_rfl
theorem Ak1(P:AK):fnIn (Hd.K P) 123=true:=by kernel_rfl
theorem Ak2{M:Ql}{A:BB}{cd:Code}{E:Ac->Aj->Prop}{env:Env}{Q:Flow->Aj->Prop}{Γ:Ctx}(hc:Γ.code=cd)(Ob:Γ.In A){l2:List Stmt}(l1:List Stmt){p:Pos}{s:Aj}
  (h:Y5 M Γ (ND l1 env) (λf Z s'=>f= .next/\_root_.PySem.wpAt M A cd (ND l2 env) Q E s') (λe Z s'=>E e s') p s):Y5 M Γ (ND (l1++l2) env) (λa Z s'=>Q a s') (λe Z s'=>E e s') p s:=by
 induction l1 generalizing p s with
 | nil=>
  rewrite[execs_nil] at h;rewrite[AbD] at h;exact h.2 Γ p hc Ob
 | cons st r ih=>
  rewrite[execs_cons] at h;rewrite[AbE] at h;show Y5 M Γ (ND (st::(r++l2)) env) _ _ p s;rewrite[execs_cons];rewrite[AbE];refine Sem.wp_mono M Γ _ (λf p' s' h'=>?_) (λZ Z Z x=>x) _ _ h;cases f with
  | next=>exact ih h'
  | _=>rewrite[AbD] at h';exfalso;injection h'.1
structure vZ(ns:Ns):Prop where
 len:ns.length=13
 nd:(ns.map (·.1)).Nodup
 pl:D3 ns [0,1,2,3,4,5,6,7] E8=true
 nc:∀x∈ns,x.2≠ .cell
 su:ns.lookup ("super":Str)=some .globalImplicit
 cl:ns.lookup ("__class__":Str)=some .free
 lo:∀x∈E8,ns.lookup x=some .local
theorem Ak3:∃ns mo,Dw (Hd.sm 12 0)=BL ns mo/\vZ ns:=by have h:=vW;unfold vV at h;refine Si h λh1 h2 h3 h4 h5 h6 h7 h8=>?_;refine Ah (Ws h1) ?_;clear h1;intro e1 e2;refine⟨_,_,e1,JH h2,e2,h3,λx hx e=>?_,eq_of_beq h6,eq_of_beq h7,λx hx=>eq_of_beq (EP.mp h8 x hx)⟩;have:=EP.mp h5 x hx;replace this:=e▸this;exact AJ this
theorem Ak4:E8.Nodup:=of_decide_eq_true (AO (AO (AO (AO (AO (AO (AO vW).1).1).1).1).1).1).2
theorem cut4{α:Type}{d:α}{l:List α}(h:4<=l.length):l=l.take 3++l.getD 3 d::l.drop 4:=by have e:l.getD 3 d=l[3]:=Aa Dk<|Aa (BG h) rfl;refine Aa e ?_;refine AS (Ud h) ?_;exact Aa (List.take_append_drop _ _) rfl
theorem Ak5:∃l1 st l2,bodyOf (Hd.sm 12 0)=l1++st::l2/\Do Tj (Dw (Hd.sm 12 0)).names l1=true/\Tk st (Dw (Hd.sm 12 0)).names Nx=true/\Do Qf (Dw (Hd.sm 12 0)).names l2=true:=
 ⟨_,_,_,cut4 (Ds AkN),AkO,AkP,AkQ⟩
theorem Ak6{ns:Ns}{v:AV}(hl:ns≠[])(h3:D3 ns [0,1,2,3,4,5,6,7] E8=true)(h1:ns.lookup ("self":Str)=some .local)(h0:W[0]?=some (some v)):Ld ns W "self" v:=by
 cases ns with
 | nil=>exact absurd rfl hl
 | cons y r=>
  cases W with
  | nil=>exact AA h0
  | cons z t=>
   have e:y.1=("self":Str):=eq_of_beq (AO (AO h3).1).1;have e2:y=(("self":Str),NameKind.local):=Prod.ext e (by
    have:List.lookup ("self":Str) (y::r)=some y.2:=by exact Aa Ju<|Aa e rfl
    exact Ay (this.symm.trans h1))
   exact Aa e2<|Aa (Ay h0)<|.loc
section
variable{c:Cx}{n:Nat}{V:St}{Q:AV->St->Prop}
theorem Tl{env:Env}{ns:Ns}(h:env.scope=BL ns mo){k:Bi}(e:ns.lookup x=some k):env.kindOf x=some k:=by unfold Qo;exact Aa h<|e
theorem Ak7(O:AE c)(hp:c.prog=Hd.pE){ns:Ns}{mo:List (Str×GR)}(N:vZ ns){env:Env}{md ct:Ac}(hf:env.func=some 221)(Xz:env.code= .ref 220)(hce:env.cells.lookup ("__class__":Str)=some 211){W:Al}{F P:Fz}(fr:Bl c (BL ns mo) env W F P){da:Addr}(h0:W[0]?=some (some (.obj 245 da)))
  {st:Stmt} (CQ:Tk st ns Nx=true) {A:BB} {s:Aj} (ok:Ok (n+1) A) (I:Inv c F P V s) {K:St->Prop} (q:vc c (n+1) Nx W V λv Av=>E2 v λxs=>A0 c (n+1) (.ref 123) (.obj 245 da::xs) Av λZ By=>K By) {body:List Stmt}:
  _root_.PySem.wpAt c.M A (.func body env) (exec st env) (λf s'=>f= .next/\ ∃F' Aq,F.le F'/\Inv c F' P Aq s'/\K Aq) (λZ Z=>False) s:=by
 refine Zt (AkM CQ) ?_;clear CQ;rintro p0 p1 ap p q0 xs rfl hs hx U2 Ak8;have hK:=O.K;have hk:∀{a o},(Hd.K c.w.params).lookup a=some o->c.K.lookup a=some o:=λe=>(congrArg (λ(k:Frag)=>k.lookup _) hK).trans e;have wA:=hk (o245 _);have G4:env.scope.kind= .function:=Aa fr.Cz rfl;refine ks_wpAt_Expr_any (prog:=c.prog) (w:=c.w) ?_ (ZK G4) rfl;show _root_.PySem.wpAt c.M A (.func body env) (do
  let ov <-KC (.Call (.Name "super" p0) [] [] p1) "__init__" env (eval (.Call (.Name "super" p0) [] [] p1) env)
  DL ap.atName
  TH (.Call (.Name "super" p0) [] [] p1) "__init__" ap p env ov (xs.length+0) (DA p (Dj xs env)) (KA p (KB [] env))) _ _ s
 refine _root_.PySem.wpAt_bind ?_;obtain⟨ar,VM,Ja⟩:∃ar,((Ny (Hd.s "grammarmill.tables" 315) (Hd.r 220) (Hd.r 216)).params.posonlyargs++(Ny (Hd.s "grammarmill.tables" 315) (Hd.r 220) (Hd.r 216)).params.args).head?=some ar/\ar.arg="self":=D8.mp AkS;have T:=I.top;refine ks_wpAt_super_base (prog:=c.prog) (w:=c.w) (Tl fr.Cz N.su) (Tl fr.Cz N.cl) (by decide+kernel) hf (I.k _ _ (hk (vU _))) rfl VM Xz (I.k _ _ (hk (o220 _))) rfl rfl (by exact Aa hp<|AkU) (by exact Aa hp<|AkV) ?_;refine ks_loadName_global G4 (Tl fr.Cz N.su) (yE (env:=env) (by exact Aa fr.gl<|T.g) (mg_none_of c.X c.T.g (by exact Aa hK<|AkW c.w.params)) (by exact Aa fr.bi<|T.b) ((T.builtins "super" (by decide+kernel)).trans (by kernel_rfl)) ⟨rfl,?_⟩);refine wpAny_loadName_free G4 (Tl fr.Cz N.cl) hce ⟨_,I.k _ _ (hk (vX _)),rfl⟩ ?_;have hld:=Ak6 (v:= .obj 245 da) (W:=W) (λe=>by have:=N.len;replace this:=e▸this;exfalso;injection this) N.pl (N.lo "self" (.head _)) h0;refine Aa Ja ?_;refine AN (ZH fr hld (n:=n+1) (V:=V) (Q:=λa s=>a= .obj 245 da/\s=V) ⟨rfl,rfl⟩ A s ok I) (λv s3 hQ=>?_) λZ Z x=>x.elim;obtain⟨F3,By,b,l3,I3,r3,eb,es⟩:=hQ;subst eb;subst es;refine Ad r3 ?_;clear r3;rintro x rfl wB;obtain⟨h,g,d,t,os⟩:=s3;have hD:=I3.k _ _ wA;refine ks_wpAny_isType_cls hD rfl ⟨rfl,?_⟩;have wC:=I3.hf _ _ wB;refine ks_wpAny_call_super (prog:=c.prog) (w:=c.w) hD rfl wC rfl (λc e=>by exfalso;injection e) (looks_mroIn I3.k (by exact Aa hK<|AkX c.w.params)) λh4 e4 k4=>?_;refine Bq I3.fresh ?_;intro f4 g4 s4;have I4:=(I3.keeps (t:=t) k4).freeze e4 f4 g4 s4;have l4:=Fz.Dt (F:=F3) (o:=Y6 245 x 245) f4;refine _root_.PySem.wpAt_of_wpAny ?_;refine Ak (Hx ?_);unfold TH;refine Aa (zD _)<|Aa (Wp hs hx) ?_;show Au c.M A (do
  let (f,first) <-DK [.ref h.objs.size] (XG (.ref h.objs.size) "__init__" (do return (<-importBound (.Call (.Name "super" p0) [] [] p1) env).getD true));let U3 <-NI true (.Call (.Name "super" p0) [] [] p1) env ap p
  TG U3 f first (DA p (Dj xs env)) (KA p (KB [] env))) _ _ _
 obtain⟨of,hof,hofc⟩:∃of,h4.get? 123=some of/\of.cls= .type "function":=by have ht:(c.K.lookup 123).map (·.cls)=some (.type "function"):=Aa hK<|AkZ c.w.params;refine Ad (D8.mp ht) ?_;clear ht;intro of a b;exact⟨of,I4.k _ _ a,b⟩
 have Bb:x≠245:=by rintro rfl;have:=hD.symm.trans wC;cases this
 refine Ak (Et (ks_wpAny_getMethod_super (prog:=c.prog) (w:=c.w) (I4.hf _ _ Fz.AC) (looks_opaque I4.k (by exact Aa hK<|Ak0 c.w.params)) (l₀:=vY) (λA Q E s k q=>Ak ((looks_clsIn I4.k (by unfold clsIn;exact Aa wA rfl)) A _ E s k (AF q))) rfl I4.k (by exact Aa hK<|AkY _) hof hofc Bb (by decide+kernel) ?_));refine Bq I4.fresh ?_;intro f5 g5 s5;have I5:=(I4.push (NU (.ref 123) (.ref x)) (t:=t+1)).freeze (Ct _ rfl) f5 g5 s5;have l5:=l4.trans (Fz.Dt (o:=NU (.ref 123) (.ref x)) f5);generalize h4.objs.size=qa at*;have e3:NI true (.Call (.Name "super" p0) [] [] p1) env ap p=pure p:=by unfold NI;exact Aa U2 rfl
 dsimp only;refine Aa e3 ?_;have wD:=l3.trans l5;have hx5:=l5 _ _ wB;have wE:(Fz.set (Fz.set F3 h.objs.size (Y6 245 x 245)) qa (NU (.ref 123) (.ref x))) qa=some (NU (.ref 123) (.ref x)):=Fz.AC;generalize Fz.set (Fz.set F3 h.objs.size (Y6 245 x 245)) qa (NU (.ref 123) (.ref x))=F5 at*;generalize (⟨h4.push (NU (.ref 123) (.ref x)),g,d,t+1,os⟩:Aj)=s5 at*;refine XX (M:=c.M) (A:=A) (pos:=p) (f:= .ref qa) (first:= []) (P:=MethP c.K qa 123 (.ref x)) (args:=DA p (Dj xs env)) (keywords:= []) (by exact Aa (Ot hs) rfl) (keeps_M (K:=c.K) (q:=qa) (f:=123) (self:= .ref x) (by exact Aa hK<|Ak1 c.w.params)) ?_;have main:Au c.M A (Kw (DA p (Dj xs env))) (λvs s'=>MethP c.K qa 123 (.ref x) s'.heap/\Au c.M A (Ik (.ref qa) ([]++vs) []) (λZ s'=>Flow.next= .next/\ ∃F' Aq,F.le F'/\Inv c F' P Aq s'/\K Aq) (λZ Z=>False) s') (λZ Z=>False) s5:=
  AN ((sound O Nx).el rfl Ak8 q F5 P env p (fr.mono wD) A s5 ok I5) (λvs s6 hQ=>by
     obtain⟨F6,EV,as,l6,I6,r6,q6⟩:=hQ;exact⟨⟨I6.hf _ _ (l6 _ _ wE),I6.k⟩,TE (Ky (ks_codeAny_call_bound (prog:=c.prog) (w:=c.w) (I6.hf _ _ (l6 _ _ wE)) (q6 F6 P (.ref x::vs) A s6 (.cons ⟨x,rfl,l6 _ _ hx5⟩ r6) ok I6)) λr s' hr=>by
   rcases r with e|(_|_|_|v)
   ·exact hr.elim
   ·exact hr.elim
   ·exact hr.elim
   ·exact hr.elim
   ·obtain⟨F',Aq,b,l,I',r,q⟩:=hr;exact⟨rfl,F',Aq,(wD.trans l6).trans l,I',q⟩)⟩) λZ Z x=>x
 cases hs with
 | nil=>
  refine Ak (AN main (λvs s' h'=>?_) λZ Z x=>x);refine Et ?_;exact Ak (AF (Ak (AF (AF h'))))
 | @cons e es he hr=>
  rw[Oe he] at main⊢;exact XY main
end
theorem Ak9{P:AK}{md code ct:Ac}:Bk P (Ny md code ct) 8 E8 []:=Be λa b c d e f g k=>rfl
section
variable{c:Cx}{n:Nat}{V:St}{Q:AV->St->Prop}
theorem Ala(O:AE c)(hp:c.prog=Hd.pE){da:Addr}{as:List AV}(hl:as.length=7)
  (h:vs c (n+1) Tj (put (Cy 13 none) [0,1,2,3,4,5,6,7] (.obj 245 da::as)) V λfl Gw Af=>fl= .next/\Gw[0]?=some (some (.obj 245 da))/\vc c (n+1) Nx Gw Af λv Av=>E2 v λxs=>A0 c (n+1) (.ref 123) (.obj 245 da::xs) Av λZ By=>vs c (n+1) Qf Gw By λfl Z Aq=>CX Q fl.val Aq):
  A0 c (n+2) (.ref 221) (.obj 245 da::as) V Q:=by
 refine A0.post ?_;intro F P vs A s On ok I;have Oo:vs.length=8:=Aa On.length<|Aa Fc<|Aa hl rfl;refine Br Ak3 ?_;intro ns mo Cz N;refine GY Ak5 ?_;intro l1 st l2 Alb wF wG wH;rw[Cz] at wF wG wH;have eK:c.K.lookup 221=some ⟨.type "function",none,.func (Ny (Hd.s "grammarmill.tables" 315) (Hd.r 220) (Hd.r 216)),#[]⟩:=Aa O.K<|vU _;generalize Tm:Ny (Hd.s "grammarmill.tables" 315) (Hd.r 220) (Hd.r 216)=fd at eK;have e1:fd.scope=BL ns mo:=by refine AS Tm ?_;exact Cz
 have e2:fd.body= .stmts (l1++st::l2):=by refine AS Tm ?_;refine AS Alb ?_;rfl
 have e3:fd.globals=FO/\fd.builtins=Qn/\fd.code= .ref 220/\fd.closure= [(("__class__":Str),211)]/\fd.qualname= .ofString "ParseTables.__init__":=by refine AS Tm ?_;exact⟨rfl,rfl,rfl,rfl,rfl⟩
 refine Mo e3 ?_;clear e3;intro e3 e4 e5 e6 e7;have e211:=(congrArg (λ(k:Frag)=>k.lookup 211) O.K).trans (vX _);have hbk:BindsTo s fd ⟨vs,[]⟩ (E8.zip vs):=by have:=Ak9 (md:=Hd.s "grammarmill.tables" 315) (code:=Hd.r 220) (ct:=Hd.r 216) vs s Oo (by refine AS O.K ?_;exact I.k);replace this:=Tm▸this;rewrite[C8] at this;exact this
 have Op:(E8.zip vs).map (·.1)=E8:=by rewrite[XU];rfl;refine Aa Oo ?_;decide
 have My:((E8.zip vs).map (·.1)).Nodup:=Aa Op<|Ak4;have CQ:Cn ns (Cy 13 none) E8 (.obj 245 da::as) (put (Cy 13 none) [0,1,2,3,4,5,6,7] (.obj 245 da::as)):=Cn.of N.pl (by exact Aa N.len<|Aa Q2 rfl) (by exact Aa Fc<|Aa hl rfl);generalize put (Cy 13 none) [0,1,2,3,4,5,6,7] (.obj 245 da::as)=ρ0 at h CQ;refine ks_codeAny_call_defAt (prog:=c.prog) (w:=c.w) (a:=221) (fd:=fd) (body:=l1++st::l2) (binds:=E8.zip vs) (by have:=ok.dp;unfold zB;exact N2 (CN this) rfl) (I.k _ _ eK) rfl I.top.nolimit (codeRec_of I.k (by exact Aa e5<|Aa e7<|Aa O.K<|AkR c.w.params)) e2 hbk (by exact Aa e1<|N.nc) (λx hx=>by exact Aa e1<|N.lo _ (by refine AS Op ?_;exact Dz hx)) (λh₀ wI keep=>?_) (by exact Aa e1 rfl) (by exact Aa e1 rfl) (by exact Aa e1 rfl);refine GY wI ?_;clear wI;intro o es ep b1 b2 b3 b4;generalize hL:s.heap.objs.size=L at*;refine Bq I.fresh ?_;intro fL pL sL;rw[hL] at fL pL sL;have I2:=(I.keeps (t:=s.toks+(E8.zip vs).length) keep).guard b1 fL sL;have sc:(JM fd L 221).scope=BL ns mo:=e1;have wJ:=I.base _ _ (c.X _ _ e211);have MG:(JM fd L 221).cells= [(("__class__":Str),211)]:=e6;have lk:∀x a,(JM fd L 221).cells.lookup x=some a->x=("__class__":Str)/\a=211:=λx a e=>by
  replace e:=MG▸e;rewrite[Ju] at e;split at e
  ·rename_i e';replace e:=Ay e;subst e;exact⟨eq_of_beq e',rfl⟩
  ·exact AA e
 have fr:Bl c (BL ns mo) (JM fd L 221) ρ0 F (P.set L o):=by
  refine⟨sc,rfl,e3,e4,N.nd,Aa CQ.ln<|Aa Q2<|N.len.symm,⟨o,es,ep,Fz.AC,b2,b3,λi x v hx hv=>?_⟩,λi x hx=>absurd rfl (N.nc _ (A8 hx)),λx y a h1 h2=>(lk _ _ h1).1.trans (lk _ _ h2).1.symm,λx a h1=>.inr ⟨_,(lk _ _ h1).2▸wJ⟩⟩;rcases CQ.old N.nd hx hv with⟨j,a,b,_⟩|h'
  ·refine Ad (On.get b) ?_;clear b;intro u hu r;refine⟨u,?_,r⟩;refine Aa (b4 _) ?_;refine lookup_mem ?_ ?_
   ·exact Abv.mpr (Fs.mpr ⟨j,by rewrite[Qu];exact⟨a,hu⟩⟩)
   ·exact Aa Abu<|(List.reverse_perm _).nodup_iff.mpr My
  ·replace h':=XW▸h';split at h'<;>simp at h'
 have KZ:Ok (n+1) (A.deeper (JM fd L 221)):=⟨ok.hh,by have:=ok.dp;show A.depth+1+8*(n+1)<=900;exact M44 this,by have:=ok.un;show A.units+3+100*(n+1)<=9000;exact M38 this⟩;have Vo:(JM fd L 221).locals=L:=rfl;have HS:(JM fd L 221).func=some 221:=rfl;have Xz:(JM fd L 221).code= .ref 220:=e5;generalize JM fd L 221=env at*;generalize ({s with heap:=h₀,toks:=s.toks+(E8.zip vs).length}:Aj)=s1 at*;have leP:∀{P2:Fz},Fw env (P.set L o) P2->P.le P2:=λo2 a x e=>by
  have h1:a≠L:=by rintro rfl;replace e:=pL▸e;exact AA e
  rw[o2 a (by exact Aa Vo<|h1) (λx q=>by
   have:=(lk _ _ q).2;subst this;replace e:=(I.fp _ _ wJ)▸e;exact AA e),Fz.Am h1];exact e
 refine ks_wpAt_mono (Q:=Out c (BL ns mo) env F (P.set L o) λfl Z V=>CX Q fl.val V) (E:=λZ Z=>False) (λΓ p hΓ1 wK=>Ak2 hΓ1 wK l1 (AN (Em O Tj _ _ _ _ _ _ wF h F (P.set L o) env _ s1 fr KZ I2) (λf s2 h2=>?_) (λZ Z x=>x) Γ p wK)) (λf s2 h2=>?_) λZ Z x=>x.elim
 ·obtain⟨F2,P2,Av,De,UU,Nz,o2,I3,C3,Oq,ea,eb,q⟩:=h2;subst ea;refine⟨by cases Oq;rfl,ks_wpAt_execs_cons (ks_wpAt_mono (Ak7 O hp N HS Xz (by exact Aa MG rfl) C3 eb wG KZ I3 q (md:= .none) (ct:= .none)) (λf s3 h3=>?_) λZ Z x=>x)⟩;obtain⟨ef,F4,CE,l4,I4,q4⟩:=h3;subst ef;refine _root_.PySem.wpAt_of_wpAny (AN (Em O Qf _ _ _ _ _ _ wH q4 F4 P2 env _ s3 (C3.mono l4) KZ I4) (λf s5 h5=>?_) λZ Z x=>x);obtain⟨F5,P5,σ5,ρ5,fl5,l5,o5,I5,K8,rf5,q5⟩:=h5;exact⟨F5,P5,σ5,ρ5,fl5,(Nz.trans l4).trans l5,o2.trans o5,I5,K8,rf5,q5⟩
 ·obtain⟨F2,P2,Av,De,UU,Nz,o2,I3,C3,Oq,q2⟩:=h2;have I4:=I3.ZE (leP o2);cases Oq with
  | ret r=>exact⟨F2,Av,_,Nz,I4,r,q2⟩
  | next=>exact⟨F2,Av,_,Nz,I4,.none,q2⟩
  | brk=>exact⟨F2,Av,_,Nz,I4,.none,q2⟩
  | cont=>exact⟨F2,Av,_,Nz,I4,.none,q2⟩
end
noncomputable def k6:List (Str×Nat):= [("$end",0),("error",1),("$undefined",2),("a",3),("b",4),("c",5)]
theorem Alc(m:Nat):∀i,i<6->∃x:Str,((BM m).map AV.str)[i]?=some (.str x)/\upd (k6.take i) x i=k6.take (i+1)
 | 0,_=>⟨_,rfl,by decide+kernel⟩
 | 1,_=>⟨_,rfl,by decide+kernel⟩
 | 2,_=>⟨_,rfl,by decide+kernel⟩
 | 3,_=>⟨_,rfl,by decide+kernel⟩
 | 4,_=>⟨_,rfl,by decide+kernel⟩
 | 5,_=>⟨_,rfl,by decide+kernel⟩
 | n+6,h=>absurd h (λCJ=>GW h (Hr _ _))
theorem Ald(i:Nat):((k6.take i).map (·.1)).Nodup:=by exact Aa Me<|(by decide+kernel:(k6.map (·.1)).Nodup).sublist (QP _ _)
theorem Ale(h3:m<=3):(BM m).length<=10:=by unfold BM sig;refine Aa AY<|Aa (Ai _)<|Aa JI ?_;exact Kq (AP (NA _ _) h3) 7
theorem Tn{α β:Type}{g:α->β}:∀(l:List α)(k:Nat),(l.zipIdx k).map (λp=>g p.1)=l.map g
 | [],_=>rfl
 | x::l,k=>congrArg (g x:: ·) (Tn l (k+1))
section
variable{c:Cx}{n:Nat}{V s:St}{Q:AV->St->Prop}{m:Nat}
theorem Alf(O:AE c)(h1:1<=m)(h3:m<=3){da:Addr}{a3 a4 a5:AV}(G:Own V [da] [Bw 245 []] s)
  (q:∀D s',Own V [da,D] [Bw 245 [.lst ((BM m).map .str),.int 6,a3,a4,a5,.lst [],.ref D],B2 (AU.str c) id AB k6] s'->Q .none s'):A0 c (n+2) (.ref 123) [.obj 245 da,.lst ((BM m).map .str),.int 6,a3,a4,a5] s Q:=by
 refine AfN.run O ?_;refine D6 G [.lst ((BM m).map .str)] (λZ Z k=>k) rfl rfl rfl λs G=>?_;refine D6 G [.lst ((BM m).map .str),.int 6] (λZ Z k=>k) rfl rfl rfl λs G=>?_;refine D6 G [.lst ((BM m).map .str),.int 6,a3] (λZ Z k=>k) rfl rfl rfl λs G=>?_;refine D6 G [.lst ((BM m).map .str),.int 6,a3,a4] (λZ Z k=>k) rfl rfl rfl λs G=>?_;refine D6 G [.lst ((BM m).map .str),.int 6,a3,a4,a5] (λZ Z k=>k) rfl rfl rfl λs G=>?_;refine D6 G [.lst ((BM m).map .str),.int 6,a3,a4,a5,.lst []] (λZ Z k=>k) rfl rfl rfl λs G=>?_;refine uA G (λD=>[.lst ((BM m).map .str),.int 6,a3,a4,a5,.lst [],.ref D]) rfl rfl (λZ=>rfl) λD s G=>?_;refine⟨6,rfl,by decide,IZ (λZ=>[some (.obj 245 da),some (.lst ((BM m).map .str)),some (.int 6),some a3,some a4,some a5,none,none]) (λi s=>Own V [da,D] [Bw 245 [.lst ((BM m).map .str),.int 6,a3,a4,a5,.lst [],.ref D],B2 (AU.str c) id AB (k6.take i)] s) G (λi x si J hx G hJ=>?_) λse G=>?_⟩
 ·refine Ad (Dx (f:=λi:Nat=>AV.int i) hx) ?_;rintro j hj rfl;have Ep:=(A5.mp hj).1;replace Ep:=FS▸Ep;replace hj:=(KE Ep)▸hj;replace hj:=Ay hj;subst hj;refine Ad (Alc m i Ep) ?_;intro x e1 e2;have G0:=G.get 0;refine⟨_,G0,?_⟩;refine AL.B4 (x:= .str x) .lst (B8 _) (by refine Aa (Ai _) ?_;have:=Ale h3;exact N2 this rfl) e1 ?_;refine PD (AU.str c) (g:=id) (a:=i) (f:=AB) (λZ Z e=>e) (Ald i) (G.get 1) (Bh (by exact Aa JI<|Q4 (N3 Ep rfl))) ?_;exact Aa e2<|hJ _ (G.set 1)
 ·exact A6 (q D _ G)
theorem Alg{da D:Addr}{a0 a1 a2 a3 a4 a5 a7 a8 a9 b1 b2 b3:AV}{ks vs:List AV}(hd:V da=none)(hD:V D=none)(G:Own V [da,D] [Bw 245 [a0,a1,a2,a3,a4,a5,.ref D,a7,a8,a9,b1,b2,b3],.dict ks vs] s)
  (q:Q (Cc 245 [a0,a1,a2,a3,a4,a5,.BH ks vs,a7,a8,a9,b1,b2,b3]) V):CX (λr Aq=>r= .none/\CX Q (.obj 245 da) Aq) .none s:=
 A6 ⟨rfl,V,Cc 245 [a0,a1,a2,a3,a4,a5,.BH ks vs,a7,a8,a9,b1,b2,b3],G.fr,.inst (G.get 0) hd (.cons (.same _) (.cons (.same _) (.cons (.same _) (.cons (.same _) (.cons (.same _) (.cons (.same _) (.cons (.BH (G.get 1) hD (.same _)) (.cons (.same _) (.cons (.same _) (.cons (.same _) (.cons (.same _) (.cons (.same _) (.cons (.same _) .nil))))))))))))),q⟩
theorem b221{da D:Addr}{a0 a1 a2 a3 a4 a5 g rw gt df b1 b2 b3 o8 o9 o10:AV}{ks vs:List AV}(hd:V da=none)(G:Own V [da,D] [Bw 245 [a0,a1,a2,a3,a4,a5,.ref D],.dict ks vs] s)
  (q:Q (Cc 245 [a0,a1,a2,a3,a4,df,.BH ks vs,g,rw,gt,b1,b2,b3]) V):Internal.vs c (n+1) Qf [some (.obj 245 da),some g,some rw,some gt,some df,some b1,some b2,some b3,some o8,some o9,some o10,none,none] s (λfl Z Aq=>CX (λr Aq=>r= .none/\CX Q (.obj 245 da) Aq) fl.val Aq):=by
 have hD:V D=none:=G.nn D (.tail _ (.head _));refine D6 G [a0,a1,a2,a3,a4,a5,.ref D,g] (λZ Z k=>k) rfl rfl rfl λs G=>?_;refine D6 G [a0,a1,a2,a3,a4,a5,.ref D,g,rw] (λZ Z k=>k) rfl rfl rfl λs G=>?_;refine D6 G [a0,a1,a2,a3,a4,a5,.ref D,g,rw,gt] (λZ Z k=>k) rfl rfl rfl λs G=>?_;refine PY G [a0,a1,a2,a3,a4,df,.ref D,g,rw,gt] (λZ Z k=>k) rfl rfl rfl λs G=>?_;refine D6 G [a0,a1,a2,a3,a4,df,.ref D,g,rw,gt,b1] (λZ Z k=>k) rfl rfl rfl λs G=>?_;refine D6 G [a0,a1,a2,a3,a4,df,.ref D,g,rw,gt,b1,b2] (λZ Z k=>k) rfl rfl rfl λs G=>?_;refine D6 G [a0,a1,a2,a3,a4,df,.ref D,g,rw,gt,b1,b2,b3] (λZ Z k=>k) rfl rfl rfl λs G=>?_;exact Alg hd hD G q
theorem Alh(O:AE c)(hp:c.prog=Hd.pE):Ni c:=λn V Q m ps x1 x2 x3 x4 rw gt df h1 h3 hl hz q=>by
 have rl:(DS ps).length=ps.length:=by unfold DS;exact Aa (Ai _)<|Aa KQ rfl
 refine Hi O (n:=n+3) (fI:=221) (by decide+kernel) λda hd=>?_;have G:=Own.base (x:=Bw 245 []) hd;refine Ala (n:=n+1) O hp rfl ?_;have r1:(DS ps).map (λr=>AV.int r.2.1)=ps.map λp=>AB (num p.1):=by unfold DS;exact Aa BC<|Tn (g:=λp:Pr=>AB (num p.1)) ps 0
 have r2:(DS ps).map (λr=>AV.int r.2.2.length)=ps.map λp=>AB p.2.length:=by unfold DS;refine Aa BC ?_;refine HG ?_ (Tn (g:=λp:Pr=>AB p.2.length) ps 0);refine Gm λp Z=>?_;show AV.int ((p.1.2.map num).length:Nat)=_;exact Aa (Ai _) rfl
 have r3:(DS ps).map (λr=>AV.int 0)=ps.map λZ=>.int 0:=by unfold DS;exact Aa BC<|Tn (g:=λp:Pr=>AV.int 0) ps 0
 have GL:∀r∈DS ps,r.2.2.length<=100:=λr hr=>by
  refine Ad (Bj.mp hr) ?_;clear hr;rintro p hp rfl;refine Ar (DM hp) ?_;clear hp;intro i hi;have:=hz p.1 (A8 (by obtain⟨_,h⟩:=A5.mp hi;have:=A8 hi;replace hi:=X6▸hi;cases e:ps[i]? with
   | none=>replace hi:=e▸hi;exact AA hi
   | some y=>replace hi:=e▸hi;replace hi:=Ay hi;subst hi;rfl))
  exact Aa (Ai _)<|this
 refine⟨rfl,?_⟩;refine comp_map (enc:=E6) (λr=>AV.int r.2.1) rfl (Bh (N1 (N7 rl hl) rfl)) (λr hr K hK=>⟨rfl,hK⟩) (BW r1 ?_);refine⟨rfl,?_⟩;refine comp_map (enc:=E6) (λr=>AV.int r.2.2.length) rfl (Bh (N1 (N7 rl hl) rfl)) (λr hr K hK=>⟨rfl,?_⟩) (BW r2 ?_)
 ·refine An.len .tup (by refine Aa (Ai _) ?_;have:=GL r hr;exact N2 this rfl) ?_;exact Aa (Ai _)<|hK
 refine⟨rfl,?_⟩;refine comp_map (enc:=E6) (λr=>AV.int 0) rfl (Bh (N1 (N7 rl hl) rfl)) (λr hr K hK=>⟨rfl,hK⟩) (BW r3 ?_);refine⟨rfl,rfl,?_⟩;refine⟨rfl,rfl,?_⟩;refine Alf (n:=n) O h1 h3 G λD s' G=>?_;exact b221 (n:=n+1) hd G q
end
theorem AlV:Mf.Holds:=Akr (λc O hp=>Alh O hp) AkL
end Mine.Internal
theorem PySem.Challenge.cw_nn0388_01_holds : PySem.Challenge.rw_nn0388_01.Holds :=
 Mine.Internal.AlV
