import PyProof.Rows.All
import Wide.All
import OpenK.AllK
import Wide.FinOn
import Lean
import PySem.Challenge.RW_qd0071_01
set_option linter.unusedVariables false
set_option maxRecDepth 100000
set_option genInjectivity false
set_option genSizeOf false
set_option genCtorIdx false
set_option compiler.extract_closed false
open PySem PySem.W PySem.Calls PyProof.Rows
open _root_.Option renaming some->Gq,none->Gs,map_eq_some_iff->GV,isSome_iff_exists->HT,map_some->IA,casesOn->Kh,isNone_iff_eq_none->Mm,bind_some->NP
open _root_.Nat renaming le_of_ble_eq_true->Gr,lt_succ_self->Gx,le_trans->Gz,lt_succ_of_lt->GB,le_refl->GL,lt_of_lt_of_le->GN,zero_le->G4,ne_of_lt->G6,sub_add_cancel->G7,pow_le_pow_right->He,le_succ->Hk,succ_le_succ->Hn,zero_testBit->Hq,beq->Ht,shiftLeft->Hx,lt_irrefl->HA,ne_of_gt->HH,le_add_right->HK,le_of_not_lt->HL,not_lt->HN,sub_le->HR,succ_mul->HX,lt_of_le_of_ne->H5,le_of_lt->Ia,add_comm->Ib,zero->Ic,succ->Ie,lor->Ij,pos_of_ne_zero->Ix,le_antisymm->IE,zero_add->IG,lt_of_le_of_lt->IT,min_eq_left->IX,add_assoc->IZ,testBit_or->Jh,zero_mul->Jq,add_sub_cancel'->Jt,lt_trans->JJ,testBit_lt_two_pow->JK,eq_of_beq_eq_true->JU,lt_of_not_le->J1,mul_le_mul_right->J4,le_of_eq->Kj,mul_le_mul->Ks,lt_of_sub_pos->KF,lt_succ_of_le->KG,one_mul->KH,one_shiftLeft->KI,add_sub_cancel_left->KQ,min_le_left->K9,lt_of_sub_ne_zero->Lc,shiftRight->Li,le_succ_of_le->LF,le_of_lt_succ->LH,lt_or_ge->LI,testBit_eq_decide_div_mod_eq->LJ,add_zero->LK,le_max_right->LX,add_mul->Md,not_lt_zero->Mn,rec->Mt,ble->Mz,log2->MN,succ_pred_eq_of_pos->Na,log2_lt->NB,le_zero->NG,mul_le_mul_left->NQ,add_le_add_left->NS,sub_pos_of_lt->Of,or_lt_two_pow->Og,mod->Oh,le_of_not_le->Om,min_eq_right->Ow,testBit_succ->Oz,le_max_left->OC,sub_self->Pn,pow_succ->Po,xor->Pp,pow_add->P4
open _root_.Bool renaming true->Gu,false->Gw,and_eq_true_iff->GX,false_eq_true->Hz,and_eq_true->HJ,or_eq_true->Ii,not_eq_false'->Ll,eq_false_iff->LB,false_and->Mw,false_or->MU,or_eq_false_iff->Nx,not_eq_true->N8,not_true->OR
open PySem renaming wpAny_bind->Gv,Value->Gy,Shared->GA,model->GO,wpAny_pure->GR,Addr->GS,Expr->GW,wpAny->G0,wpAny_mono->G1,NameKind->G2,wpAny_holding->Ha,Str->Hb,Around->Hf,World->Hh,Pos->HO,wpAny_standAt->HQ,Heap->HV,rawInt->H6,Program->Il,wpAny_loadPart_at->Iq,Stmt->Iy,mainGlobals->Iz,DictEntry->IH,starEach->II,codeAny_mono->IJ,Scope->IN,codeAny->IP,wpAny_execs_cons->IU,swapsWith->IV,relabel->I5,compEnvC->Jb,swappedStores->Je,intKind->Ji,wpAny_Call_ofName->Jl,assign->Ju,Comprehension->JD,Obj->JH,sizeLine_eq->JP,wpAny_field->JQ,assignAll->JR,sizeLine->JY,Keyword->J0,Env->J2,eval->J3,treeTable->J5,wpAny_call->J8,methodCallPos->Kg,FuncData->Kl,wpAny_execs_nil->Kq,wpAny_Constant_none->Ku,wpAny_isSubtype_exc->Kv,Sem->Kw,bootBuiltins->Kz,holding->KA,wpAny_rule->KJ,sysModules->KL,builtinsNs->KM,wpAny_Constant_int->KN,wpAny_Compare1->KO,recursionLimit->KP,wpAny_newObj_type->KU,keywordEach->KW,backTo->K4,call->K5,mem_of_lookup->K6,comprehension->K7,wpAny_call_entry->Ld,wpAny_Call_method_late->Lg,valueAt->Lj,Operator->Lp,wpAny_loadName_local->Lq,wpAny_setField->Lw,codeAny_call_builtin->Lx,newFunctionEnv->Ly,attributeBase->LQ,swapsWithSole->LS,assignInOrder->LU,ExceptHandler->LW,wpAny_Constant_str->LY,wpAny_truthy_bool->Mi,backToKw->Mj,PyData->MC,compareOp->MD,Result->ME,wpAny_lookBehind->MF,pastItsLine_dict->MG,cellsFrom->MH,wpAny_comp_letGo->MJ,opaqueClassAbove->MO,wpAny_of_eq->MV,importedModules->MX,Tok->MY,exec_Assign_arm->M2,standAt->M7,notedBy->M8,Flow->Nb,wpAny_loadPart->Ni,wpAny_Subscript_list_slice->Nk,methodCallForm->No,wpAny_newFunctionEnv_cells->Np,wpAt_of_wpAny->NA,wpAny_newList->NC,arm_eval_Call->ND,getMethod->NO,OsState->NU,truthy->NX,pyIter->NZ,codeAny_call_function->Ob,wpAt_bind->Oi,unsupported->Ol,wpAny_BinOp->Oq,Const->OA,wpAny_loadName_cell->OD,wpAny_loadName_free->OE,wpAny_evalPart_some->OG,wpAny_evalPart_none->OH,frameOf->OL,wpAny_Assign_stores->OM,isTrue->OT,typeOf->OW,isInstance->OX,getAttr->O3,wpAny_truthy_list->O4,wpAny_Return_some->O5,slot_list_setitem->O6,foldedSetIterable->O7,seqIndex?->Pf,assign_Attribute->Ph,checkBuiltinCall->Pq,wpAny_madeBy_exc->Pr,letOwnedTupleGo->P0
open _root_.List renaming length_append->GC,mem_append->GD,mem_singleton->GF,length_map->GG,mem_cons->GH,mem_of_getElem?->GJ,append_assoc->GK,append_nil->GY,map_append->GZ,cons->G3,getElem?_eq_getElem->G8,getElem?_map->Hd,all_eq_true->Hg,getD_eq_getElem?_getD->Hi,mem_map->Hj,map_cons->Hp,nil->Hv,length_cons->HC,mem_filterMap->HF,map_map->HG,getElem?_eq_some_iff->HP,foldl_append->HS,mem_filter->HZ,perm_append_comm->H3,sum_cons->H7,casesOn->H8,getElem?_set->Ih,take_of_length_le->Im,mem_flatMap->It,getElem?_append_right->Iw,getElem?_append_left->IB,forall_mem_cons->ID,getElem?_of_mem->IF,lookup_cons->IK,replicate->IL,filter_append->IQ,nodup_cons->IW,any_cons->IY,reverse_cons->I2,nodup_append->I6,rec->Jc,length->Jd,getElem?_modify->Jf,filter_cons->Jm,extract_eq_take_drop->Jn,map_congr_left->Jr,foldl_cons->Jv,length_nil->Jx,filter_nil->Jy,range->Jz,mem_range->JE,flatMap_cons->JG,length_reverse->Ka,reverse_append->Kb,drop_eq_getElem_cons->Kt,reverse_perm->Ky,size_toArray->KB,find?_cons->K0,take_append_drop->K8,mem_append_right->La,mem_append_left->Lf,take_succ_eq_append_getElem->Lz,length_set->L9,forIn_cons->Mb,sum_append->Mc,forIn_nil->Mx,map->My,length_erase_of_mem->MW,length_eq_zero_iff->MZ,getElem?_replicate->M1,map_id->Ny,idxOf_cons_self->Nz,flatMap_append->NH,length_modify->NR,getElem?_inj->NV,length_range->N0,idxOf_append->N4,map_fst_zip->N9,drop_length->Oa,mem_reverse->Oc,nodup_nil->OJ,lookup->Pc
open Decidable renaming decide->GI
open PyProof.Rows renaming wpS_bind->GP,wpS_pure->GU,Keyed->G5,SortSt->Hc,wpS_forRange->HD,pendingOf->HI,oneType'->H9,arrOf->Ig,assign_Name->Iv,kindOf->IS,seqObj->I4,wpS_modify->Js,elem'->JL,wpS_mono->JW,wpS_get->Ke,wpS->Kx,IntsAre->KS,reverseSlice'->KZ,failedOf->Lb,wpS_lift->Lo,IntKeys->LA,ord_of_one->LD,listUpdate_at->LR,add_str->Me,seqEpoch_at->MT,entry_list_sort->M0,setPending->Nf,sortedHeap->Nl,slot_list_sort->Nm,args_list_sort->Nn,size_push'->OU,add_int->Pt,sub_int->Pu,mul_int->Pw,floordiv_int->Px,mod_int->Py,pow_int_small->Pz,lshift_int_small->PA,rshift_int->PB,and_int->PC,or_int->PD,xor_int->PE,iadd_int->PG,ior_int->PH,eq_int->PI,ne_int->PJ,lt_int->PK,le_int->PL,gt_int->PM,ge_int->PN,eq_str->PO,ne_str->PP,truthy_int->PS,len_tuple->PT,len_list->PU,call_abs_int->PV,neg_int->PW,list_sort_plain->PX,get?_update_seq->PY
open PySem.Heap renaming get?_push_of_some->GQ,get?_update_other->Hl,get?_push_size->Hr,lt_size->Hy,get?_update_self->H4,SameBut->Io,size_push->JF,size_update->JS,get?_push_ne->KC,ExtBut->L3,get?_update_ne->NI
open _root_.Int renaming natCast_nonneg->G9,eq_ofNat_of_zero_le->IM,toNat_natCast->I7,le_of_lt->Jp,le_refl->JC,zero_add->Ki,fmod_eq_emod_of_nonneg->Kr,natAbs_of_nonneg->Lh,mul_zero->LC,ofNat_lt->LG,toNat->L4,one_mul->L8,add_nonneg->MA,mul_nonneg->MB,fdiv_eq_ediv_of_nonneg->MK,le_add_one->ML,natAbs_mul->MM,add_zero->Nc,zero_mul->Nd,ofNat_le->Nj,emod_lt_of_pos->N1,natAbs_add_le->Oe,max_eq_right->Ov,emod_nonneg->ON,ediv_nonneg->OO,natCast_pow->OP,pow_nonneg->OY,lt_or_le->Pg,ne_of_gt->Pm
open List.Perm renaming append_left->Hm
open PySem.Str renaming ofString->Ho
open PySem.Obj renaming mapSeq->Hs,mapFields->Ir,data_mapFields->JA,isFreed_of_fields->JT,putName->PQ
open _root_.Array renaming perm_iff_toList_perm->Hu,toList_append->HB,getElem?_eq_some_iff->Iu,toList_push->IC,toList_reverse->I8,size->Ja,length_toList->Jo,getElem?_toList->JM,toList_extract->JV,toList_setIfInBounds->Kk,getElem?_eq_getElem->Ko,size_extract->Lk,any_toList->NW,isEmpty->OF
open Ne renaming symm->Hw
open Pure renaming pure->HE
open PySem.W renaming listOf->HM,Frag->I0,instObj->JX,findIn->J7,emptyDict->J9,looks_findIn->KD,callWith_of->KV,keepIn->K3,Looks->Ls,topFrame->Mf,dictOf->Ng,plainGet_of->Ot,looks_clsIn->Ou,boot_heap->Pb,specialIn->Pd
open PySem.NameKind renaming free->HU,cell->Jj
open PySem.Calls renaming Name_function_global->HW,loadGlobal_global->Jk,spliced_cons->Jw,evalArgs_plain->JZ,spliced_nil->KT,loadGlobal_builtin->OS
open PySem.Value renaming isInt->HY,none->I9,ref->Jg,isStr->LN,int->NY,str->P5
open PySem.Env renaming kindOf->Ik
open PySem.Code renaming builtin->Ip,quiet_builtin->NT,frames->Pk
open PySem.Builtin renaming bitAnd->I3,bitOr->JN,bitXor->J6,bitNot->Kc
open PySem.PyData renaming keyHash->JB,list->OZ,int->Pa
open Option.some renaming inj->JI,injEq->MR
open PySem.Builtin.Int renaming intBits->JO
open PySem.W.Fast renaming tw14364793385576792824->Kd,tw14082659384304107361->Mg,te14364793385576792824->Mh,tw5923862056798008813->Ms
open PySem.F renaming excBase_Exception->Km,plainAttrs_list->LZ,slot_list_append->Ox,plainAttrs_dict->OI,slot_dict_keys->OV
open Classical renaming propDecidable->Kp,byContradiction->LM
open Break renaming runK->KR
open Prod.mk renaming inj->KY,injEq->Ml
open PySem.Keeper renaming boundFrame->Lm,machine->Ma,frame->MS
open ToString renaming toString->Ln
open List.cons renaming injEq->Lr
open PySem.IsL renaming update->Lu
open PySem.Within renaming cons->LL,nil->O9
open PySem.Expr renaming Name->LV
open PySem.Expr.Attribute renaming elim->L5
open PySem.Expr.Subscript renaming elim->L6
open PySem.Stmt.AugAssign renaming elim->L7
open PySem.W.Looks renaming ld->Mk,of_pure->MI,here->Pe
open PySem.Expr.ListComp renaming elim->Mo
open PySem.Expr.DictComp renaming elim->Mp
open PySem.Expr.Constant renaming elim->Mq
open PySem.Stmt.Continue renaming elim->Mr
open String renaming ofList->Mu,join->M6
open Nat.succ renaming inj->Mv
open PySem.Expr.UnaryOp renaming elim->MP
open PySem.Expr.Compare renaming elim->MQ
open PySem.Expr.BoolOp renaming elim->M3
open PySem.Stmt.Assign renaming elim->M4
open PySem.Stmt.Return renaming elim->M5
open PySem.Around renaming frames_deeper->M9
open PySem.DictEntry renaming refKey->Nh
open PySem.Expr.BinOp renaming elim->Nq
open PySem.Expr.IfExp renaming elim->Nr
open PySem.Expr.Tuple renaming elim->Nt
open PySem.Expr.Slice renaming elim->Nu
open PySem.Stmt.While renaming elim->Nv
open PySem.Stmt.Raise renaming elim->Nw
open PUnit renaming unit->NE
open PySem.Expr.Dict renaming elim->NJ
open PySem.Expr.Call renaming elim->NK
open PySem.Expr.Name renaming elim->NL
open PySem.Expr.List renaming elim->NM
open PySem.Stmt.Expr renaming elim->NN
open PySem.Sem.pure renaming elim->N5
open PySem.Stmt.For renaming elim->N6
open PySem.Stmt.Try renaming elim->N7
open PySem.Flow renaming next->Od
open ForIn renaming forIn->Oj
open LE renaming le->Oo
open And renaming intro->Oy
open PySem.Stmt.If renaming elim->OB
open PySem.Const renaming casesOn->OQ
open Inhabited renaming default->O0
open Min renaming min->O1
open PyProof.Rows.SortSt renaming mk'->O2
open PySem.Heap.FunFrames renaming cons->O8
open PySem.Builtin.Range renaming rangeSize->Pj
open LawfulMonad renaming pure_bind->Pl
open PySem.ExceptHandler renaming casesOn->Ps
open PySem.Builtin.List renaming listSubscript?->PZ
open PySem.Heap.SameBut renaming update->P1
namespace Mine.T
noncomputable abbrev rw0 := PySem.Challenge.rw_qd0071_01
noncomputable abbrev pr : Il := rw0.row.toRowW.1
noncomputable def bo := behindTheImports pr
noncomputable def en : J2 := { scope := pr.main.scope, locals := mainNs, globals := mainNs, cells := [], code := .ref 13, frame := Gq 14 }
noncomputable abbrev cE : Code := .body bo en
noncomputable abbrev p0 : HO := ⟨0,0,0,0⟩
noncomputable def qv : Il := view pr [pr.main.body.length - 1]
noncomputable def lo : List Hb := pr.boundNames.filter fun n => n != "law"
noncomputable def Xt : GA -> Bool := recOk rw0.row.toRowW.records
noncomputable def S0 (w : Hh) (b : NU) : GA := ⟨Pb w.params, Array.mk [], boot_drawn, boot_toks, b⟩
noncomputable def Sa (w : Hh) (b : NU) : GA := match topGo J5 pr w 11 (Gq (.ref 6)) 12 (S0 w b) (topStub pr) with
  | some (s, _) => s
  | none => S0 w b
noncomputable def bt : List JH -> Nat -> BT -> BT
  | [], _, t => t
  | o :: r, n, t => bt r (n + 1) (t.ins n o)
noncomputable def Sb (w : Hh) (b : NU) : SharedT := let s := Sa w b; ⟨bt s.heap.objs.toList 0 .nil, s.heap.objs.size, s.heap.life, s.gens, s.drawn, s.toks, b⟩
noncomputable def r (n : Nat) : Gy := .ref n
noncomputable def s (x : String) (t : Nat) : Gy := .str (.ofString x) t
noncomputable def i (z : Int) (t : Nat) : Gy := .int z t
noncomputable def fO (i j : Nat) (q : String) (f m : Gy) (c a : Nat) : JH := match pr.main.body[i]?.bind fun b => match j, b with
    | 0, b => Gq b
    | j + 1, .ClassDef _ _ _ l .. => l[j]?
    | _, _ => Gs with
  | some (.FunctionDef n d b _ _ _ e ..) => { cls := .type "function", data := .func { name := n, qualname := .ofString q, params := d, body := .stmts b, scope := e, globals := 3, closure := [], defaults := f, kwdefaults := .none, pyModule := m, code := r c, annotations := if a = 0 then Gs else Gq a } }
  | _ => O0
noncomputable def tO (a : Nat) (n : String) (c mro b : List Gy) (z : Option Gy) (t u : Nat) (w : String) : JH := { cls := .type "type", data := .cls { name := .ofString n, bases := c, mro := r a :: mro, ns := a - 1, qualname := .ofString n, subclasses := b }, slots := #[z, Gs, Gq (s n t), Gq (s n u), Gq (.builtin w), Gq (.bool Gu)] }
noncomputable def gO (c : Gy) (d : Option Nat) (l : List Gy) : JH := { cls := c, dict := d, data := .fields l.toArray }
noncomputable def qO (l : List Gy) : JH := { cls := .type "tuple", data := .seq l.toArray }
noncomputable def fl (t : Nat) : Gy := s "/claim/cut.py" t
noncomputable def kO (n q : String) (t : Nat) (l a k : Int) (b u : Nat) : JH := gO (.type "code") Gs [s n t, s q (t + 1), fl (t + 2), i l 0, i a 0, i 0 0, i 0 0, i k 0, r b, .bool Gu, i 181 0, r (b + 1), .none, r (b + 2), r (b + 3), r (b + 4), i u 0, i l 0, fl (u + 1)]
noncomputable def m0 : Gy := (s "grammarmill.source" 194)
noncomputable def m1 : Gy := (s "grammarmill.nfa" 276)
noncomputable def m2 : Gy := (s "grammarmill.charset" 648)
noncomputable def m3 : Gy := (s "grammarmill.dfa" 1028)
noncomputable def m4 : Gy := (s "grammarmill.regex" 1108)
noncomputable def m5 : Gy := (s "law_qd0071_01" 1437)
abbrev I := Nat × JH
noncomputable def c (n : Nat) (o : JH) (x : List I) : List I := (n,o)::x
noncomputable def f (n q : String) (t : Nat) (l a k : Int) (b u x y : Nat) (d m : Gy) (z : Nat) := (c (b+5) (kO n q t l a k b u) <| c (b+6) (fO x y q d m (b+5) z) ·)
noncomputable def j (n q : String) (t : Nat) (l a : Int) (b x y : Nat) (d m : Gy) (z : Nat) := (c (b+3) (gO (.type "code") Gs [s n t, s q (t + 1), fl (t + 2), i l 0, i a 0, i 0 0, i 0 0, i 3 0, r b, .bool Gu, i 181 0, r (b + 1), .none, .none, .none, r (b + 2), i (t + 3) 0, i l 0, fl (t + 4)]) <| c (b+4) (fO x y q d m (b+3) z) ·)
noncomputable def K (P : Params) : I0 :=
  let D (c : Gy) (l : List (String × Nat × Gy)) (n : Nat) : JH := { cls := c, data := .dict (l.map fun e => ⟨JB P (.ofString e.1), s e.1 e.2.1, e.2.2⟩).toArray n }
  let w a m b l d (x y : List (String × Nat × Gy)) k e n p g o z t u w := (c a (D (.type "dict") (("__module__",b,m)::("__firstlineno__",d,i l (d-1))::x++("__static_attributes__",e,r (a-1))::y) k) <| c (a+1) (tO (a+1) n p g o z t u w) ·)
  let t a m b l d x k e := w a m b l d x [("__doc__",e+1,.none)] k e
  let u a m b l d x k e := w a m b l d x [("__dict__",e+2,r (a+2)),("__weakref__",e+4,r (a+3)),("__doc__",e+5,.none)] k e
  c 2 (D .none [("type.__subclasses__.Exception.0",230,i 46 0),("type.__subclasses__.Exception.n",231,i 1 0)] 2)<|c 3 (D (.type "dict") [("__name__",165,m5),("__doc__",166,.none),("__package__",167,.none),("__loader__",168,(.builtin "__main__.__loader__#opaque")),("__spec__",169,.none),("__annotations__",170,r 6),("__builtins__",171,r 4),("__file__",173,fl 172),("__cached__",174,.none),("_wall",193,r 21),("ToolError",233,r 46),("RegexError",249,r 59),("TableError",265,r 71),("bits",275,r 80),("MOST_STATES",279,i 10000 278),("MOST_READ",281,i 1000 280),("Nfa",371,r 147),("chain",380,r 158),("build",392,r 165),("build_row",406,r 172),("build_choice",421,r 179),("build_loop",436,r 186),("build_copies",451,r 193),("closure",457,r 198),("tags_of",467,r 205),("Subsets",546,r 257),("Positions",647,r 324),("TOP",651,i 127 650),("CharSet",902,r 494),("Classes",1027,r 570),("DEAD",1032,i (-1) 1031),("MOST_SUBSETS",1034,i 10000 1033),("Dfa",1101,r 624),("subset_dfa",1107,r 634),("MOST_REPEAT",1111,i 40 1110),("Node",1147,r 658),("Empty",1165,r 672),("Never",1183,r 684),("Chars",1217,r 710),("Pair",1261,r 743),("Cat",1279,r 755),("Alt",1297,r 767),("Loop",1336,r 800),("Star",1354,r 812),("Plus",1372,r 824),("Opt",1390,r 836),("Repeat",1427,r 862),("spine",1436,r 871),("_law_store",1447,r 878),("_law_draw",1456,r 885),("_law_leaf",1463,r 892),("_law_tree",1474,r 899),("_law_node",1482,r 906),("_law_parts",1491,r 913),("_law_counts",1497,r 918),("_law_built",1509,r 925),("_law_read",1520,r 932),("_law_told",1528,r 939),("_law_after_right",1543,r 946),("law",1561,r 953)] 60)<|c 29 (qO [.none])<|f "__init__" "ToolError.__init__" 208 7 3 3 30 214 2 1 (r 29) m0 0<|c 45 (D (.type "dict") [("__module__",203,m0),("__firstlineno__",207,i 5 206),("__init__",216,r 36),("told",223,r 43),("__static_attributes__",226,r 44),("__weakref__",228,r 47),("__doc__",229,.none)] 3)<|c 46 (tO 46 "ToolError" [(.type "Exception")] [(.type "Exception"),(.type "BaseException"),(.type "object")] [r 59,r 71] (Gq (r 22)) 196 204 "Exception.__new__")<|t 58 m0 241 16 245 [] 2 246 "RegexError" [r 46] [r 46,(.type "Exception"),(.type "BaseException"),(.type "object")] [] (Gq (r 50)) 234 242 "Exception.__new__"<|t 70 m0 257 18 261 [] 2 262 "TableError" [r 46] [r 46,(.type "Exception"),(.type "BaseException"),(.type "object")] [] (Gq (r 62)) 250 258 "Exception.__new__"<|f "bits" "bits" 266 20 1 3 74 273 5 0 .none m0 0<|c 88 (qO [i 10000 278])<|f "__init__" "Nfa.__init__" 294 35 2 3 89 299 9 1 (r 88) m1 0<|f "add_state" "Nfa.add_state" 302 42 1 3 96 306 9 2 .none m1 0<|f "add_move" "Nfa.add_move" 309 49 4 3 103 316 9 3 .none m1 0<|f "add_hop" "Nfa.add_hop" 319 53 3 3 110 325 9 4 .none m1 0<|f "set_first" "Nfa.set_first" 328 57 2 3 117 333 9 5 .none m1 0<|f "set_tag" "Nfa.set_tag" 336 60 3 3 124 342 9 6 .none m1 0<|f "state_count" "Nfa.state_count" 345 63 1 3 131 349 9 7 .none m1 0<|u 146 m1 289 33 293 [("__init__",301,r 95),("add_state",308,r 102),("add_move",318,r 109),("add_hop",327,r 116),("set_first",335,r 123),("set_tag",344,r 130),("state_count",351,r 137),("links",358,r 144)] 4 364 "Nfa" [(.type "object")] [(.type "object")] [] Gs 282 290 "object.__new__"<|f "chain" "chain" 372 68 2 3 152 378 10 0 .none m1 0<|f "build" "build" 381 76 3 3 159 390 11 0 .none m1 0<|f "build_row" "build_row" 393 97 3 3 166 404 12 0 .none m1 0<|f "build_choice" "build_choice" 407 104 3 3 173 419 13 0 .none m1 0<|f "build_loop" "build_loop" 422 115 5 3 180 434 14 0 .none m1 0<|f "build_copies" "build_copies" 437 126 3 3 187 449 15 0 .none m1 0<|j "closure" "closure" 452 145 2 194 16 0 .none m1 0<|f "tags_of" "tags_of" 458 155 2 3 199 465 17 0 .none m1 0<|f "__init__" "Subsets.__init__" 480 163 2 3 213 485 18 1 .none m1 0<|f "closure_of" "Subsets.closure_of" 488 167 2 3 220 495 18 2 .none m1 0<|f "begin" "Subsets.begin" 498 176 1 3 227 502 18 3 .none m1 0<|f "ways" "Subsets.ways" 505 179 2 3 234 514 18 4 .none m1 0<|f "after" "Subsets.after" 517 186 3 3 241 526 18 5 .none m1 0<|f "tags" "Subsets.tags" 529 195 2 3 248 534 18 6 .none m1 0<|u 256 m1 475 161 479 [("__init__",487,r 219),("closure_of",497,r 226),("begin",504,r 233),("ways",516,r 240),("after",528,r 247),("tags",536,r 254)] 4 539 "Subsets" [(.type "object")] [(.type "object")] [] Gs 468 476 "object.__new__"<|c 269 (qO [i 1000 280])<|f "__init__" "Positions.__init__" 559 199 3 3 270 565 19 1 (r 269) m1 0<|j "read" "Positions.read" 568 206 2 277 19 2 .none m1 0<|f "place" "Positions.place" 574 229 2 3 282 580 19 3 .none m1 0<|f "join" "Positions.join" 583 237 3 3 289 590 19 4 .none m1 0<|f "row" "Positions.row" 593 241 2 3 296 604 19 5 .none m1 0<|f "choice" "Positions.choice" 607 254 2 3 303 618 19 6 .none m1 0<|f "loop" "Positions.loop" 621 262 2 3 310 626 19 7 .none m1 0<|j "copies" "Positions.copies" 629 266 2 317 19 8 .none m1 0<|u 323 m1 554 197 558 [("__init__",567,r 276),("read",573,r 281),("place",582,r 288),("join",592,r 295),("row",606,r 302),("choice",620,r 309),("loop",628,r 316),("copies",634,r 321)] 4 640 "Positions" [(.type "object")] [(.type "object")] [] Gs 547 555 "object.__new__"<|f "__init__" "CharSet.__init__" 664 280 2 3 336 669 22 1 .none m2 0<|j "of" "CharSet.of" 726 295 1 373 22 5 .none m2 380<|c 379 (gO (.type "staticmethod") (Gq 378) [r 377,(.bool Gw)])<|f "made" "CharSet.made" 764 303 1 3 391 774 22 7 .none m2 400<|c 399 (gO (.type "staticmethod") (Gq 398) [r 397,(.bool Gw)])<|u 493 m2 659 278 663 [("__init__",671,r 342),("none",689,r 351),("every",707,r 361),("dot",725,r 371),("of",743,r 379),("span",763,r 389),("made",788,r 399),("has",801,r 407),("size",808,r 414),("codes",818,r 421),("least",825,r 428),("is_empty",832,r 435),("union",840,r 442),("meet",848,r 449),("complement",855,r 456),("minus",863,r 463),("same",871,r 470),("meets",879,r 477),("folded",886,r 484),("key",893,r 491)] 4 895 "CharSet" [(.type "object")] [(.type "object")] [] Gs 652 660 "object.__new__"<|f "__init__" "Classes.__init__" 915 376 2 3 506 927 23 1 .none m2 0<|f "mask" "Classes.mask" 961 412 2 3 530 973 23 4 .none m2 0<|u 569 m2 910 374 914 [("__init__",929,r 512),("from_bounds",949,r 521),("of",960,r 529),("mask",975,r 536),("charset",986,r 543),("table",996,r 550),("least",1004,r 557),("word",1010,r 562),("text",1016,r 567)] 4 1020 "Classes" [(.type "object")] [(.type "object")] [] Gs 903 911 "object.__new__"<|f "__init__" "Dfa.__init__" 1047 468 3 3 582 1053 27 1 .none m3 0<|f "state_count" "Dfa.state_count" 1063 475 1 3 596 1067 27 3 .none m3 0<|j "told" "Dfa.told" 1086 486 1 617 27 6 .none m3 0<|u 623 m3 1042 466 1046 [("__init__",1055,r 588),("class_count",1062,r 595),("state_count",1069,r 602),("step",1078,r 609),("links",1085,r 616),("told",1091,r 621)] 4 1094 "Dfa" [(.type "object")] [(.type "object")] [] Gs 1035 1043 "object.__new__"<|c 629 (qO [i 10000 1033])<|j "subset_dfa" "subset_dfa" 1102 488 3 630 28 0 (r 629) m3 0<|u 657 m4 1119 511 1123 [("name",1125,s "node" 1124),("parts",1132,r 648),("told",1139,r 655)] 4 1140 "Node" [(.type "object")] [(.type "object")] [r 672,r 684,r 710,r 743,r 800] Gs 1112 1120 "object.__new__"<|t 671 m4 1155 519 1159 [("name",1161,s "empty" 1160)] 2 1162 "Empty" [r 658] [r 658,(.type "object")] [] (Gq (r 663)) 1148 1156 "object.__new__"<|t 683 m4 1173 521 1177 [("name",1179,s "never" 1178)] 2 1180 "Never" [r 658] [r 658,(.type "object")] [] (Gq (r 675)) 1166 1174 "object.__new__"<|f "__init__" "Chars.__init__" 1198 526 2 3 694 1203 34 2 .none m4 0<|t 709 m4 1191 523 1195 [("name",1197,s "chars" 1196),("__init__",1205,r 700),("told",1212,r 707)] 2 1214 "Chars" [r 658] [r 658,(.type "object")] [] (Gq (r 687)) 1184 1192 "object.__new__"<|f "__init__" "Pair.__init__" 1230 533 3 3 720 1236 35 1 .none m4 0<|t 742 m4 1225 531 1229 [("__init__",1238,r 726),("parts",1245,r 733),("told",1255,r 740)] 2 1258 "Pair" [r 658] [r 658,(.type "object")] [r 755,r 767] (Gq (r 713)) 1218 1226 "object.__new__"<|t 754 m4 1269 546 1273 [("name",1275,s "cat" 1274)] 2 1276 "Cat" [r 743] [r 743,r 658,(.type "object")] [] (Gq (r 746)) 1262 1270 "object.__new__"<|t 766 m4 1287 548 1291 [("name",1293,s "alt" 1292)] 2 1294 "Alt" [r 743] [r 743,r 658,(.type "object")] [] (Gq (r 758)) 1280 1288 "object.__new__"<|f "__init__" "Loop.__init__" 1310 552 2 3 777 1315 38 1 .none m4 0<|t 799 m4 1305 550 1309 [("__init__",1317,r 783),("parts",1324,r 790),("told",1331,r 797)] 2 1333 "Loop" [r 658] [r 658,(.type "object")] [r 812,r 824,r 836,r 862] (Gq (r 770)) 1298 1306 "object.__new__"<|t 811 m4 1344 560 1348 [("name",1350,s "star" 1349)] 2 1351 "Star" [r 800] [r 800,r 658,(.type "object")] [] (Gq (r 803)) 1337 1345 "object.__new__"<|t 823 m4 1362 562 1366 [("name",1368,s "plus" 1367)] 2 1369 "Plus" [r 800] [r 800,r 658,(.type "object")] [] (Gq (r 815)) 1355 1363 "object.__new__"<|t 835 m4 1380 564 1384 [("name",1386,s "opt" 1385)] 2 1387 "Opt" [r 800] [r 800,r 658,(.type "object")] [] (Gq (r 827)) 1373 1381 "object.__new__"<|f "__init__" "Repeat.__init__" 1405 569 4 3 846 1412 42 2 .none m4 0<|t 861 m4 1398 566 1402 [("name",1404,s "repeat" 1403),("__init__",1414,r 852),("told",1421,r 859)] 2 1424 "Repeat" [r 800] [r 800,r 658,(.type "object")] [] (Gq (r 839)) 1391 1399 "object.__new__"<|f "_law_store" "_law_store" 1439 590 1 3 872 1445 45 0 .none m5 0<|f "_law_draw" "_law_draw" 1448 595 2 3 879 1454 46 0 .none m5 0<|f "_law_leaf" "_law_leaf" 1457 602 1 3 886 1461 47 0 .none m5 0<|f "_law_tree" "_law_tree" 1464 604 1 3 893 1472 48 0 .none m5 0<|f "_law_node" "_law_node" 1475 616 1 3 900 1480 49 0 .none m5 0<|f "_law_parts" "_law_parts" 1483 633 2 3 907 1489 50 0 .none m5 0<|j "_law_counts" "_law_counts" 1492 639 1 914 51 0 .none m5 0<|f "_law_built" "_law_built" 1498 651 3 3 919 1507 52 0 .none m5 0<|f "_law_read" "_law_read" 1510 660 3 3 926 1518 53 0 .none m5 0<|f "_law_told" "_law_told" 1521 667 2 3 933 1526 54 0 .none m5 0<|f "_law_after_right" "_law_after_right" 1529 672 1 3 940 1541 55 0 .none m5 0<|f "law" "law" 1544 685 1 3 947 1559 56 0 .none m5 0<|[]
noncomputable def ks : List Nat := [2,3,29,35,36,45,46,58,59,70,71,79,80,88,94,95,101,102,108,109,115,116,122,123,129,130,136,137,146,147,157,158,164,165,171,172,178,179,185,186,192,193,197,198,204,205,218,219,225,226,232,233,239,240,246,247,253,254,256,257,269,275,276,280,281,287,288,294,295,301,302,308,309,315,316,320,321,323,324,341,342,376,377,379,396,397,399,493,494,511,512,535,536,569,570,587,588,601,602,620,621,623,624,629,633,634,657,658,671,672,683,684,699,700,709,710,725,726,742,743,754,755,766,767,782,783,799,800,811,812,823,824,835,836,851,852,861,862,877,878,884,885,891,892,898,899,905,906,912,913,917,918,924,925,931,932,938,939,945,946,952,953]

theorem Ge : ∀ P, ks = (K P).map (·.1) := fun P => by kernel_rfl
theorem e1 : ∀ w b, topGo J5 pr w 11 (Gq (.ref 6)) 12 (S0 w b) (topStub pr) = Gq (Sa w b, ⟨denote J5 cE, cE, p0, [Mf p0]⟩) := fun w b => by kernel_rfl
theorem e2 : ∀ w b, segRun J5 pr w 11 (Gq (.ref 6)) 1 1 (Sa w b) (blockOf bo en cE p0 [Mf p0]) = Gq (.next, (Sb w b).abs, cE, p0) := fun w b => by kernel_rfl
noncomputable def lk {b : Type} (Yf : GA -> b) (w : Hh) (s : GA) := ((staticsOk (Ms pr.main.body) (Pb w.params) s.heap && namesBound pr s.heap && gensDone s && laidKept (Pb w.params) s.heap),
        Fast.tw4187177175401517315 qv lo (Ms pr.main.body) Xt Gu s, Yf s)
noncomputable def fi {β : Type} (w : Hh) (b : GA -> β) : Option (Nb × SharedT × Code × HO) -> Option (Nb × Code × Option β)
  | some (f, s, c, q) => Gq (f, c, (Mg Kd pr w 11 (Gq (.ref 6)) 5 s.abs ⟨doneF .next, c, q, [Mf p0]⟩).map b)
  | none => Gs

theorem e3 : ∀ w b, fi w (lk (fun s => ks.map s.heap.get?) w) (Fast.tw10110043849684766642 Kd pr w 11 (Gq (.ref 6)) 1 20000 (Sb w b) (piecesOf bo en cE p0 [Mf p0])) = Gq (.next, cE, Gq (Gu, openGood qv lo, (K w.params).map fun e => Gq e.2)) := fun w b => by
  kernel_rfl
theorem yP {p q : Il} {loose : List Hb} {Xt : GA -> Bool} {c : Type} {Yf : GA -> c} {Ya : Hh -> c} {N n : Nat} {x : Option Gy} {w : Hh} {h : HV} {g : Array GenState} {d : Drawn} {k : Nat}
    (o : (fencedOpening J5 p w N).map (fun s => (s.heap, s.gens, s.drawn, s.toks)) = Gq (h, g, d, k))
    (f : (h.isNs Iz && g.size == 0) = Gu) (i : h.objs.size = n) (j : h.nsMap Iz "__annotations__" = x)
    (r : ∀ b, ∃ s, topRun J5 p w n x N ⟨h, g, d, k, b⟩ (topStub p) = Gq s /\ ((staticsOk (MX p.main.body) h s.heap && namesBound p s.heap && gensDone s && laidKept h s.heap),
        openSeen q loose (MX p.main.body) Xt Gu s, Yf s) = (Gu, openGood q loose, Ya w)) :
    (openEnds J5 p w N).map (fun s => (openSeen q loose (MX p.main.body) Xt Gu s, Yf s)) = Gq (openGood q loose, Ya w) := by
  obtain ⟨⟨_, _, _, _, b⟩, e, m⟩ := GV.mp o;cases m;subst i j;obtain ⟨s, r, l⟩ := r b
  have ⟨t, u⟩ := KY l
  unfold openEnds;rw [e]
  show (topFrom J5 p w N _).map _ = _
  unfold topFrom;dsimp only;rw [f, r]
  show Option.map _ (match (_ && _ && _ && _ : Bool) with | true => Gq s | false => Gs) = _
  rw [t];exact congrArg Gq u
theorem BQ {β : Type} {w : Hh} {l : GA -> β} {o : Option (Nb × SharedT × Code × HO)} {a : Nb} {b : Code} {d : Option β} (h : fi w l o = Gq (a, b, d)) :
    ∃ s q, o = Gq (a, s, b, q) /\ (Mg Kd pr w 11 (Gq (.ref 6)) 5 s.abs ⟨doneF .next, b, q, [Mf p0]⟩).map l = d := by
  match o, h with
  | some (f, s, c, q), h =>
    have ⟨e, g⟩ := KY (JI h)
    have ⟨i, j⟩ := KY g
    subst e i;exact ⟨s, q, rfl, j⟩
theorem left : LeftO pr qv lo Xt (fun s => ks.map s.heap.get?) (fun w => (K w.params).map fun e => Gq e.2) 30000 := fun w => by
  refine yP (q := qv) (loose := lo) (Xt := Xt) (Yf := fun s => ks.map s.heap.get?) (Ya := fun w => (K w.params).map fun e => Gq e.2) (boot_open (p := pr) (N := 30000) (by kernel_rfl) rfl (fun s => by kernel_rfl) w) (n := 11) (x := Gq (.ref 6)) (by kernel_rfl) (by kernel_rfl) (by kernel_rfl) fun b => ?_
  have E := e3 w b
  rw [<- Fast.te10110043849684766642, <- Mh] at E;obtain ⟨s, q, g, i⟩ := BQ E;obtain ⟨d, r, c⟩ := GV.mp i;rw [<- Fast.te14082659384304107361, <- Mh] at r
  have j : topRun J5 pr w 11 (Gq (.ref 6)) 5 s.abs (restOf [] en cE q [Mf p0]) = Gq d := piece_nil r
  have f := piece_app (rest := []) (segRun_of g) j
  rw [GY] at f
  have r := topRun_mono 9982 _ _ _ _ (go_top (e1 w b) (piece_block (e2 w b) f))
  unfold lk at c;rw [<- Fast.te5923862056798008813, <- Fast.te4187177175401517315] at c;exact ⟨d, r, c⟩
theorem top.tw14438334083155810:True:=trivial
theorem top.tw4616471095939477449:True:=trivial
end Mine.T
set_option tactic.hygienic false
namespace Mine
open PySem PySem.W PySem.Calls PyProof.Rows
inductive T2 (α β:Type) |mk (a:α) (b:β)
noncomputable def wK {b:Type} (n:b) (P:b->Prop):b:=@Classical.epsilon b ⟨n⟩ fun x=>¬P x
theorem hk0 {b:Type} {n:b} {P:b->Prop} (h:P (wK n P)) (x:b):P x:=LM fun q=>(@Classical.epsilon_spec_aux b ⟨n⟩ (fun x=>¬P x) ⟨x,q⟩) h
section
variable {A B C D E F G I J K:Type}
noncomputable def W1 (n:A) (P:A->Prop):A:=wK n fun t=>P t
theorem hk1 (n:A) {P:A->Prop} (h:P (W1 n P)) (a:A):P a:=hk0 (n:=n) (P:=fun t=>P t) h (a)
noncomputable def W2 (n:T2 A B) (P:A->B->Prop):T2 A B:=wK n fun t=>P t.1 t.2
theorem hk2 (n:T2 A B) {P:A->B->Prop} (h:P (W2 n P).1 (W2 n P).2) (a:A) (b:B):P a b:=hk0 (n:=n) (P:=fun t=>P t.1 t.2) h (.mk a b)
noncomputable def W3 (n:T2 A (T2 B C)) (P:A->B->C->Prop):T2 A (T2 B C):=wK n fun t=>P t.1 t.2.1 t.2.2
theorem hk3 (n:T2 A (T2 B C)) {P:A->B->C->Prop} (h:P (W3 n P).1 (W3 n P).2.1 (W3 n P).2.2) (a:A) (b:B) (c:C):P a b c:=hk0 (n:=n) (P:=fun t=>P t.1 t.2.1 t.2.2) h (.mk a (.mk b c))
noncomputable def W4 (n:T2 A (T2 B (T2 C D))) (P:A->B->C->D->Prop):T2 A (T2 B (T2 C D)):=wK n fun t=>P t.1 t.2.1 t.2.2.1 t.2.2.2
theorem hk4 (n:T2 A (T2 B (T2 C D))) {P:A->B->C->D->Prop} (h:P (W4 n P).1 (W4 n P).2.1 (W4 n P).2.2.1 (W4 n P).2.2.2) (a:A) (b:B) (c:C) (d:D):P a b c d:=hk0 (n:=n) (P:=fun t=>P t.1 t.2.1 t.2.2.1 t.2.2.2) h (.mk a (.mk b (.mk c d)))
noncomputable def W5 (n:T2 A (T2 B (T2 C (T2 D E)))) (P:A->B->C->D->E->Prop):T2 A (T2 B (T2 C (T2 D E))):=wK n fun t=>P t.1 t.2.1 t.2.2.1 t.2.2.2.1 t.2.2.2.2
theorem hk5 (n:T2 A (T2 B (T2 C (T2 D E)))) {P:A->B->C->D->E->Prop} (h:P (W5 n P).1 (W5 n P).2.1 (W5 n P).2.2.1 (W5 n P).2.2.2.1 (W5 n P).2.2.2.2) (a:A) (b:B) (c:C) (d:D) (e:E):P a b c d e:=hk0 (n:=n) (P:=fun t=>P t.1 t.2.1 t.2.2.1 t.2.2.2.1 t.2.2.2.2) h (.mk a (.mk b (.mk c (.mk d e))))
noncomputable def W6 (n:T2 A (T2 B (T2 C (T2 D (T2 E F))))) (P:A->B->C->D->E->F->Prop):T2 A (T2 B (T2 C (T2 D (T2 E F)))):=wK n fun t=>P t.1 t.2.1 t.2.2.1 t.2.2.2.1 t.2.2.2.2.1 t.2.2.2.2.2
theorem hk6 (n:T2 A (T2 B (T2 C (T2 D (T2 E F))))) {P:A->B->C->D->E->F->Prop} (h:P (W6 n P).1 (W6 n P).2.1 (W6 n P).2.2.1 (W6 n P).2.2.2.1 (W6 n P).2.2.2.2.1 (W6 n P).2.2.2.2.2) (a:A) (b:B) (c:C) (d:D) (e:E) (f:F):P a b c d e f:=hk0 (n:=n) (P:=fun t=>P t.1 t.2.1 t.2.2.1 t.2.2.2.1 t.2.2.2.2.1 t.2.2.2.2.2) h (.mk a (.mk b (.mk c (.mk d (.mk e f)))))
noncomputable def W7 (n:T2 A (T2 B (T2 C (T2 D (T2 E (T2 F G)))))) (P:A->B->C->D->E->F->G->Prop):T2 A (T2 B (T2 C (T2 D (T2 E (T2 F G))))):=wK n fun t=>P t.1 t.2.1 t.2.2.1 t.2.2.2.1 t.2.2.2.2.1 t.2.2.2.2.2.1 t.2.2.2.2.2.2
theorem hk7 (n:T2 A (T2 B (T2 C (T2 D (T2 E (T2 F G)))))) {P:A->B->C->D->E->F->G->Prop} (h:P (W7 n P).1 (W7 n P).2.1 (W7 n P).2.2.1 (W7 n P).2.2.2.1 (W7 n P).2.2.2.2.1 (W7 n P).2.2.2.2.2.1 (W7 n P).2.2.2.2.2.2) (a:A) (b:B) (c:C) (d:D) (e:E) (f:F) (g:G):P a b c d e f g:=hk0 (n:=n) (P:=fun t=>P t.1 t.2.1 t.2.2.1 t.2.2.2.1 t.2.2.2.2.1 t.2.2.2.2.2.1 t.2.2.2.2.2.2) h (.mk a (.mk b (.mk c (.mk d (.mk e (.mk f g))))))
noncomputable def W8 (n:T2 A (T2 B (T2 C (T2 D (T2 E (T2 F (T2 G I))))))) (P:A->B->C->D->E->F->G->I->Prop):T2 A (T2 B (T2 C (T2 D (T2 E (T2 F (T2 G I)))))):=wK n fun t=>P t.1 t.2.1 t.2.2.1 t.2.2.2.1 t.2.2.2.2.1 t.2.2.2.2.2.1 t.2.2.2.2.2.2.1 t.2.2.2.2.2.2.2
theorem hk8 (n:T2 A (T2 B (T2 C (T2 D (T2 E (T2 F (T2 G I))))))) {P:A->B->C->D->E->F->G->I->Prop} (h:P (W8 n P).1 (W8 n P).2.1 (W8 n P).2.2.1 (W8 n P).2.2.2.1 (W8 n P).2.2.2.2.1 (W8 n P).2.2.2.2.2.1 (W8 n P).2.2.2.2.2.2.1 (W8 n P).2.2.2.2.2.2.2) (a:A) (b:B) (c:C) (d:D) (e:E) (f:F) (g:G) (i:I):P a b c d e f g i:=hk0 (n:=n) (P:=fun t=>P t.1 t.2.1 t.2.2.1 t.2.2.2.1 t.2.2.2.2.1 t.2.2.2.2.2.1 t.2.2.2.2.2.2.1 t.2.2.2.2.2.2.2) h (.mk a (.mk b (.mk c (.mk d (.mk e (.mk f (.mk g i)))))))
noncomputable def W9 (n:T2 A (T2 B (T2 C (T2 D (T2 E (T2 F (T2 G (T2 I J)))))))) (P:A->B->C->D->E->F->G->I->J->Prop):T2 A (T2 B (T2 C (T2 D (T2 E (T2 F (T2 G (T2 I J))))))):=wK n fun t=>P t.1 t.2.1 t.2.2.1 t.2.2.2.1 t.2.2.2.2.1 t.2.2.2.2.2.1 t.2.2.2.2.2.2.1 t.2.2.2.2.2.2.2.1 t.2.2.2.2.2.2.2.2
theorem hk9 (n:T2 A (T2 B (T2 C (T2 D (T2 E (T2 F (T2 G (T2 I J)))))))) {P:A->B->C->D->E->F->G->I->J->Prop} (h:P (W9 n P).1 (W9 n P).2.1 (W9 n P).2.2.1 (W9 n P).2.2.2.1 (W9 n P).2.2.2.2.1 (W9 n P).2.2.2.2.2.1 (W9 n P).2.2.2.2.2.2.1 (W9 n P).2.2.2.2.2.2.2.1 (W9 n P).2.2.2.2.2.2.2.2) (a:A) (b:B) (c:C) (d:D) (e:E) (f:F) (g:G) (i:I) (j:J):P a b c d e f g i j:=hk0 (n:=n) (P:=fun t=>P t.1 t.2.1 t.2.2.1 t.2.2.2.1 t.2.2.2.2.1 t.2.2.2.2.2.1 t.2.2.2.2.2.2.1 t.2.2.2.2.2.2.2.1 t.2.2.2.2.2.2.2.2) h (.mk a (.mk b (.mk c (.mk d (.mk e (.mk f (.mk g (.mk i j))))))))
noncomputable def W10 (n:T2 A (T2 B (T2 C (T2 D (T2 E (T2 F (T2 G (T2 I (T2 J K))))))))) (P:A->B->C->D->E->F->G->I->J->K->Prop):T2 A (T2 B (T2 C (T2 D (T2 E (T2 F (T2 G (T2 I (T2 J K)))))))):=wK n fun t=>P t.1 t.2.1 t.2.2.1 t.2.2.2.1 t.2.2.2.2.1 t.2.2.2.2.2.1 t.2.2.2.2.2.2.1 t.2.2.2.2.2.2.2.1 t.2.2.2.2.2.2.2.2.1 t.2.2.2.2.2.2.2.2.2
theorem hk10 (n:T2 A (T2 B (T2 C (T2 D (T2 E (T2 F (T2 G (T2 I (T2 J K))))))))) {P:A->B->C->D->E->F->G->I->J->K->Prop} (h:P (W10 n P).1 (W10 n P).2.1 (W10 n P).2.2.1 (W10 n P).2.2.2.1 (W10 n P).2.2.2.2.1 (W10 n P).2.2.2.2.2.1 (W10 n P).2.2.2.2.2.2.1 (W10 n P).2.2.2.2.2.2.2.1 (W10 n P).2.2.2.2.2.2.2.2.1 (W10 n P).2.2.2.2.2.2.2.2.2) (a:A) (b:B) (c:C) (d:D) (e:E) (f:F) (g:G) (i:I) (j:J) (k:K):P a b c d e f g i j k:=hk0 (n:=n) (P:=fun t=>P t.1 t.2.1 t.2.2.1 t.2.2.2.1 t.2.2.2.2.1 t.2.2.2.2.2.1 t.2.2.2.2.2.2.1 t.2.2.2.2.2.2.2.1 t.2.2.2.2.2.2.2.2.1 t.2.2.2.2.2.2.2.2.2) h (.mk a (.mk b (.mk c (.mk d (.mk e (.mk f (.mk g (.mk i (.mk j k)))))))))
end
section
universe u1 u2 u3 u4
variable {A:Sort u1} {B:Sort u2} {C:Sort u3} {D:Sort u4} {G:Prop}
theorem X02 {p q:Prop} (e:p/\q) (f:p->q->G):G:=f e.1 e.2
theorem X03 {p q r:Prop} (e:p/\q/\r) (f:p->q->r->G):G:=X02 e.2 (f e.1)
theorem X04 {p q r s:Prop} (e:p/\q/\r/\s) (f:p->q->r->s->G):G:=X03 e.2 (f e.1)
theorem X05 {p q r s t:Prop} (e:p/\q/\r/\s/\t) (f:p->q->r->s->t->G):G:=X04 e.2 (f e.1)
theorem X06 {p q r s t u:Prop} (e:p/\q/\r/\s/\t/\u) (f:p->q->r->s->t->u->G):G:=X05 e.2 (f e.1)
theorem X11 {p:A->Prop} (e:∃a,p a) (f:∀a,p a->G):G:=e.elim fun a h=>f a h
theorem X12 {p q:A->Prop} (e:∃a,p a/\q a) (f:∀a,p a->q a->G):G:=e.elim fun a h=>X02 h (f a)
theorem X13 {p q r:A->Prop} (e:∃a,p a/\q a/\r a) (f:∀a,p a->q a->r a->G):G:=e.elim fun a h=>X03 h (f a)
theorem X14 {p q r s:A->Prop} (e:∃a,p a/\q a/\r a/\s a) (f:∀a,p a->q a->r a->s a->G):G:=e.elim fun a h=>X04 h (f a)
theorem X15 {p q r s t:A->Prop} (e:∃a,p a/\q a/\r a/\s a/\t a) (f:∀a,p a->q a->r a->s a->t a->G):G:=e.elim fun a h=>X05 h (f a)
theorem X21 {p:A->B->Prop} (e:∃a b,p a b) (f:∀a b,p a b->G):G:=e.elim fun a h=>X11 h (f a)
theorem X22 {p q:A->B->Prop} (e:∃a b,p a b/\q a b) (f:∀a b,p a b->q a b->G):G:=e.elim fun a h=>X12 h (f a)
theorem X23 {p q r:A->B->Prop} (e:∃a b,p a b/\q a b/\r a b) (f:∀a b,p a b->q a b->r a b->G):G:=e.elim fun a h=>X13 h (f a)
theorem X24 {p q r s:A->B->Prop} (e:∃a b,p a b/\q a b/\r a b/\s a b) (f:∀a b,p a b->q a b->r a b->s a b->G):G:=e.elim fun a h=>X14 h (f a)
theorem X25 {p q r s t:A->B->Prop} (e:∃a b,p a b/\q a b/\r a b/\s a b/\t a b) (f:∀a b,p a b->q a b->r a b->s a b->t a b->G):G:=e.elim fun a h=>X15 h (f a)
theorem X31 {p:A->B->C->Prop} (e:∃a b c,p a b c) (f:∀a b c,p a b c->G):G:=e.elim fun a h=>X21 h (f a)
theorem X32 {p q:A->B->C->Prop} (e:∃a b c,p a b c/\q a b c) (f:∀a b c,p a b c->q a b c->G):G:=e.elim fun a h=>X22 h (f a)
theorem X33 {p q r:A->B->C->Prop} (e:∃a b c,p a b c/\q a b c/\r a b c) (f:∀a b c,p a b c->q a b c->r a b c->G):G:=e.elim fun a h=>X23 h (f a)
theorem X34 {p q r s:A->B->C->Prop} (e:∃a b c,p a b c/\q a b c/\r a b c/\s a b c) (f:∀a b c,p a b c->q a b c->r a b c->s a b c->G):G:=e.elim fun a h=>X24 h (f a)
theorem X35 {p q r s t:A->B->C->Prop} (e:∃a b c,p a b c/\q a b c/\r a b c/\s a b c/\t a b c) (f:∀a b c,p a b c->q a b c->r a b c->s a b c->t a b c->G):G:=e.elim fun a h=>X25 h (f a)
theorem X42 {p q:A->B->C->D->Prop} (e:∃a b c d,p a b c d/\q a b c d) (f:∀a b c d,p a b c d->q a b c d->G):G:=e.elim fun a h=>X32 h (f a)
theorem X43 {p q r:A->B->C->D->Prop} (e:∃a b c d,p a b c d/\q a b c d/\r a b c d) (f:∀a b c d,p a b c d->q a b c d->r a b c d->G):G:=e.elim fun a h=>X33 h (f a)
@[elab_as_elim] theorem rwT {a b:A} {P:A->Prop} (h:a=b) (k:P b):P a:=h▸k
@[elab_as_elim] theorem rwS {a b:A} {P:A->Prop} (h:b=a) (k:P b):P a:=h▸k
@[elab_as_elim] theorem rwI {a b:Prop} {P:Prop->Prop} (h:a↔b) (k:P b):P a:=propext h▸k
@[elab_as_elim] theorem rwJ {a b:Prop} {P:Prop->Prop} (h:b↔a) (k:P b):P a:=propext h▸k
end
noncomputable section
theorem wY (a b:Nat):a<=a - b+b:=Nat.le_add_of_sub_le (GL _)
noncomputable def EW (l:List Nat):Nat->Nat:=Jc (fun Z=>0) (fun x Z r i=>Mt x (fun j Z=>r j) i) l
noncomputable def fg (l:List Int):List Nat->Int:=Jc (fun Z=>0) (fun c Z r b=>Jc 0 (fun x b Z=>c * x+r b) b) l
noncomputable def ku (l:List Int):List Int->List Int:=Jc (fun m=>m) (fun a l r m=>Jc (a::l) (fun b m Z=>(a+b)::r m) m) l
noncomputable def lh (k:Int) (l:List Int):List Int:=l.map (k * ·)
noncomputable def FF (i:Nat):List Int:=Mt [1] (fun Z r=>0::r) i
noncomputable def Fj (l:List Int):Bool:=l.all fun c=>GI (0<=c)
noncomputable def LP:=Nat×List Int
variable (xs:List Nat)
def Gn (e:LP):Prop:=fg e.2 (1::xs)=e.1
theorem ip (l):∀m xs,fg (ku l m) xs=fg l xs+fg m xs:=by
 induction l with
 |nil=>intro m xs;exact(Ki _).symm
 |cons a l c=>
  intro m xs
  cases m with
  |nil=>cases xs<;>exact(Nc _).symm
  |cons b m=>
   cases xs with
   |nil=>rfl
   |cons x xs=>
    show(a+b) * x+fg (ku l m) xs=(a * x+fg l xs)+(b * x+fg m xs)
    rw [c,Int.add_mul];ac_rfl
theorem hU (k) (l):∀xs,fg (lh k l) xs=k * fg l xs:=by
 induction l with
 |nil=>intro xs;exact(LC _).symm
 |cons a l b=>
  intro xs
  cases xs with
  |nil=>exact(LC _).symm
  |cons x xs=>
   show k * a * x+fg (lh k l) xs=k * (a * x+fg l xs)
   rw [b,Int.mul_add,Int.mul_assoc]
theorem uH (i):∀xs,fg (FF i) xs=EW xs i:=by
 induction i with
 |zero=>intro xs;cases xs with
  |nil=>rfl
  |cons x xs=>exact(Nc _).trans (L8 _)
 |succ i b=>intro xs;cases xs with
  |nil=>rfl
  |cons x xs=>exact(congrArg (· +_) (Nd _)).trans ((Ki _).trans (b xs))
theorem wA {l:List Int} (h:Fj l=Gu):∀xs,0<=fg l xs:=by
 induction l with
 |nil=>intro xs;exact JC _
 |cons a l b=>
  intro xs
  cases xs with
  |nil=>exact JC _
  |cons x xs=>
   have h:=(HJ _ _).mp h
   exact MA (MB (of_decide_eq_true h.1) (G9 _)) (b h.2 xs)
/-- relations:what they say,and the form that is then 0 or more -/
def si (k p q:Nat):Prop:=bif k.beq 13 then p=q else bif k.beq 11 then p<=q else bif k.beq 12 then p<q else bif k.beq 14 then¬p<=q else¬p<q
noncomputable def CD (k:Nat) (p q:List Int):List Int:=bif k.beq 13 then ku q (lh (-1) p) else bif k.beq 11 then ku q (lh (-1) p) else bif k.beq 12 then ku [-1] (ku q (lh (-1) p)) else bif k.beq 14 then ku [-1] (ku p (lh (-1) q)) else ku p (lh (-1) q)
noncomputable def Dd (l:Nat):Int:=bif l.blt 8 then -(l:Int) else(l:Int) - 8
def FY:Nat->Nat->List LP->Bool->List Int->List Int->Prop->Prop:=
 Mt (fun Z Z Z Z Z Z=>True) fun Z r c d g a b P=>
  bif c.beq 0 then bif g|| !(Fj a&&Fj b) then True else P
  else bif (c % 16).blt 6 then r (c / 16) ((EW xs (c % 16),0::FF (c % 16))::d) g a b P
  else bif (c % 16).beq 6 then bif g&&d.isEmpty then r (c / 16) d Gw [-1] [] False else r (c / 256) ((EW xs (c / 16 % 16),0::FF (c / 16 % 16))::d) g a b P
  else bif (c % 16).beq 8 then r (c / 256) ((c / 16 % 16,[((c / 16 % 16:Nat):Int)])::d) g a b P
  else Jc True (fun q d Z=>bif (c % 16).beq 9 then r (c / 256) ((16 * q.1+c / 16 % 16,[((16 * q.1+c / 16 % 16:Nat):Int)])::d) g a b P
   else Jc True (fun p d Z=>
    bif (c % 16).beq 7 then r (c / 16) ((p.1+q.1,ku p.2 q.2)::d) g a b P
    else bif (c % 16).beq 10 then r (c / 16) ((p.1 * q.1,lh p.1 q.2)::d) g a b P
    else(fun L=>bif g then r (c / 256) d Gw L (bif (c % 16).beq 13 then lh (-1) L else []) (si (c % 16) p.1 q.1)
     else bif (c % 16).beq 13 then r (c / 256) d Gw (ku (lh (Dd (c / 16 % 16)) L) a) (Jc [] (fun Z Z Z=>ku (lh (-1 * Dd (c / 16 % 16)) L) b) b) (si (c % 16) p.1 q.1->P)
     else bif (c / 16 % 16).blt 8 then r (c / 256) d Gw (ku (lh (Dd (c / 16 % 16)) L) a) b (si (c % 16) p.1 q.1->P) else True) (CD (c % 16) p.2 q.2)) d) d
def iz (c:Nat):Prop:=FY xs 99 c [] Gu [] [] True
theorem bi {b:Bool} {P Q:Prop} (h:b=Gu->P) (h':b=Gw->Q):bif b then P else Q:=match b with
 |true=>h rfl
 |false=>h' rfl
def A4 (st:List LP):Prop:=∀e∈st,fg e.2 (1::xs)=e.1
variable {xs}
theorem A4.cons {st:List LP} {d f} (h:A4 xs st) (e:fg f (1::xs)=(d:Nat)):A4 xs ((d,f)::st):=ID.mpr ⟨e,h⟩
theorem tL (d:Nat):fg [(d:Int)] (1::xs)=d:=(Nc _).trans (Int.mul_one _)
theorem vD (p q:List Int) (b):fg (ku q (lh (-1) p)) b=fg q b - fg p b:=by rw [ip,hU,Int.neg_one_mul,Int.sub_eq_add_neg]
theorem CT (l:List Int):fg (ku [-1] l) (1::xs)= -1+fg l (1::xs):=ip _ _ _
theorem Ap {p q:Nat} {f g:List Int} (hp:fg f (1::xs)=p) (b:fg g (1::xs)=q) (k:Nat):si k p q↔bif k.beq 13 then fg (CD k f g) (1::xs)=0 else 0<=fg (CD k f g) (1::xs):=by
 unfold CD si
 cases k.beq 13 with
 |true=>show p=q↔fg (ku g (lh (-1) f)) (1::xs)=0;rw [vD,hp,b];omega
 |false=>
 cases k.beq 11 with
 |true=>show p<=q↔0<=fg (ku g (lh (-1) f)) (1::xs);rw [vD,hp,b];omega
 |false=>
 cases k.beq 12 with
 |true=>show p<q↔0<=fg (ku [-1] (ku g (lh (-1) f))) (1::xs);rw [CT,vD,hp,b];omega
 |false=>
 cases k.beq 14 with
 |true=>show¬p<=q↔0<=fg (ku [-1] (ku f (lh (-1) g))) (1::xs);rw [CT,vD,hp,b];omega
 |false=>show¬p<q↔0<=fg (ku f (lh (-1) g)) (1::xs);rw [vD,hp,b];omega
theorem cw (f:Nat):∀c st g a b P,A4 xs st->(g=Gw->0<=fg a (1::xs)->0<=fg b (1::xs)->P)->FY xs f c st g a b P:=by
 induction f with
 |zero=>intros;trivial
 |succ f i=>
  intro c st g a b P d j;refine bi (fun Y=>bi (fun Y=>trivial) fun h=>?_) fun Y=>bi (fun Y=>i _ _ _ _ _ _ (d.cons ?_) j) fun Y=>bi (fun Y=>bi (fun Y=>i _ _ _ _ _ _ d fun Y h=>?_) fun Y=>i _ _ _ _ _ _ (d.cons ((congrArg (· +_) (Nd _)).trans ((Ki _).trans (uH _ _)))) j) fun Y=>bi (fun Y=>i _ _ _ _ _ _ (d.cons (tL _)) j) fun Y=>?_
  ·simp only [Nx,Ll,HJ] at h;exact j h.1 (wA h.2.1 _) (wA h.2.2 _)
  ·exact(congrArg (· +_) (Nd _)).trans ((Ki _).trans (uH _ _))
  ·exact absurd h (by show¬(0:Int)<= -1 * (1:Nat)+0;decide)
  ·cases st with
   |nil=>trivial
   |cons q st=>
   obtain⟨o,d⟩:=ID.mp d;refine bi (fun Y=>i _ _ _ _ _ _ (A4.cons d (tL _)) j) fun Y=>?_
   cases st with
   |nil=>trivial
   |cons p st=>
   obtain⟨l,d⟩:=ID.mp d;refine bi (fun Y=>i _ _ _ _ _ _ (A4.cons d ?_) j) fun Y=>bi (fun Y=>i _ _ _ _ _ _ (A4.cons d ?_) j) fun Y=>?_
   ·rw [ip,l,o];rfl
   ·rw [hU,o];rfl
   ·have R:=Ap l o (c % 16)
    dsimp only;revert R;generalize CD (c % 16) p.2 q.2=L;generalize si (c % 16) p.1 q.1=Z;intro R;refine bi (fun Y=>i _ _ _ _ _ _ d fun Y h m=>R.mpr ?_) fun r=>?_
    ·revert m
     cases(c % 16).beq 13 with
     |true=>intro m;have m:0<=fg (lh (-1) L) (1::xs):=m;rw [hU] at m;show fg L (1::xs)=0;omega
     |false=>intro _;exact h
    ·cases h:(c % 16).beq 13 with
     |true=>
      refine i _ _ _ _ _ _ d fun Y n k z=>?_
      have e:=R.mp z
      rw [h] at e
      have e:fg L (1::xs)=0:=e
      refine j r ?_ ?_
      ·rw [ip,hU,e,LC,Ki] at n;exact n
      ·cases b with
       |nil=>exact JC _
       |cons b s=>
        have k:0<=fg (ku (lh (-1 * Dd (c / 16 % 16)) L) (b::s)) (1::xs):=k
        rw [ip,hU,e,LC,Ki] at k;exact k
     |false=>
      refine(bi (fun t=>i _ _ _ _ _ _ d fun Y n k z=>j r ?_ k) fun Y=>trivial:bif (c / 16 % 16).blt 8 then _ else _)
      have e:=R.mp z
      rw [h] at e;rw [ip,hU,show Dd (c / 16 % 16)=_ from congrArg (cond · _ _) t] at n
      have:=MB (G9 (c / 16 % 16)) e
      rw [cond_true,Int.neg_mul] at n;omega
theorem l0 (c:Nat):iz [] c:=cw _ _ _ _ _ _ _ (fun Z h=>nomatch h) nofun
theorem l1 {x:Nat} (c:Nat):iz [x] c:=cw _ _ _ _ _ _ _ (fun Z h=>nomatch h) nofun
theorem l2 {x y:Nat} (c:Nat):iz [x,y] c:=cw _ _ _ _ _ _ _ (fun Z h=>nomatch h) nofun
theorem l3 {x y z:Nat} (c:Nat):iz [x,y,z] c:=cw _ _ _ _ _ _ _ (fun Z h=>nomatch h) nofun
theorem l4 {x y z w:Nat} (c:Nat):iz [x,y,z,w] c:=cw _ _ _ _ _ _ _ (fun Z h=>nomatch h) nofun
theorem l5 {x y z w t:Nat} (c:Nat):iz [x,y,z,w,t] c:=cw _ _ _ _ _ _ _ (fun Z h=>nomatch h) nofun
theorem l6 {x y z w t r:Nat} (c:Nat):iz [x,y,z,w,t,r] c:=cw _ _ _ _ _ _ _ (fun Z h=>nomatch h) nofun
theorem l7 {x y z w t r p:Nat} (c:Nat):iz [x,y,z,w,t,r,p] c:=cw _ _ _ _ _ _ _ (fun Z h=>nomatch h) nofun
theorem l8 {x y z w t r p q:Nat} (c:Nat):iz [x,y,z,w,t,r,p,q] c:=cw _ _ _ _ _ _ _ (fun Z h=>nomatch h) nofun
theorem l9 {x y z w t r p q s:Nat} (c:Nat):iz [x,y,z,w,t,r,p,q,s] c:=cw _ _ _ _ _ _ _ (fun Z h=>nomatch h) nofun
theorem F8 {x y z w t r p q s u:Nat} (c:Nat):iz [x,y,z,w,t,r,p,q,s,u] c:=cw _ _ _ _ _ _ _ (fun Z h=>nomatch h) nofun
theorem Gl {x y z w t r p q s u v:Nat} (c:Nat):iz [x,y,z,w,t,r,p,q,s,u,v] c:=cw _ _ _ _ _ _ _ (fun Z h=>nomatch h) nofun
theorem Gm {x y z w t r p q s u v m:Nat} (c:Nat):iz [x,y,z,w,t,r,p,q,s,u,v,m] c:=cw _ _ _ _ _ _ _ (fun Z h=>nomatch h) nofun
end
set_option maxRecDepth 100000
set_option maxHeartbeats 1000000
open Lean in
def tp (s:String) (a:List Syntax):Syntax:=
 (((((((s.replace "?" "[ '? '_ ]~syntheticHole").replace "{" "[ [ [").replace "}" "]null ]!tacticSeq1Indented ]!tacticSeq").replace "!" "Lean.Parser.Tactic.").replace "~" "Lean.Parser.Term.").splitOn " ").foldl (fun l t=>match t.toList with
 | '[' :: _ => .missing::l
 | ']' :: r => let p:=l.span (!·.isMissing); .node .none (Mu r).toName p.1.reverse.toArray::p.2.tail
 | '\'' :: r => .atom .none (Mu r)::l
 | '$' :: r => a.getD (Mu r).toNat! .missing::l
 | '*' :: _ => a.head!.getArgs.toList.reverse++l
 | _ => mkIdent t.toName::l) []).head!
open Lean in
def gz (x:Array Syntax) (e:String):Syntax:=
 let k:=x.size
 tp ("[ '( { [ 'revert [ * ]null ]!revert '; [ 'refine [ 'no_implicit_lambda% [ hk"++toString k++" [ ? ? ]null ]~app ]~noImplicitLambda ]!refine '; [ 'next [ ]null '=> { [ 'repeat { [ 'first [ [ '| { [ 'exact default ]!exact } ]group [ '| { [ 'exact [ '0 ]num ]!exact } ]group [ '| { [ 'exact True ]!exact } ]group [ '| { [ 'intro [ [ '_ ]~hole ]null ]!intro } ]group [ '| { [ 'constructor ]!constructor } ]group ]null ]!first } ]!tacticRepeat_ } ]!«tacticNext_=>_»"++((Jz k).foldl (fun (g,t) j=>(g++" '; [ 'generalize [ [ [ ]null "++(if j+1=k then t else "[ "++t++" '. [ '1 ]fieldIdx ]~proj")++" '= $"++toString (j+1)++" ]!generalizeArg ]null [ ]null ]!generalize","[ "++t++" '. [ '2 ]fieldIdx ]~proj")) ("","[ W"++toString k++" [ [ '_ ]~hole [ '_ ]~hole ]null ]~app")).1++e++" } ') ]!paren") (mkNullNode x::x.toList)
local macro_rules | `(tactic| injections $x*) => return gz (Lean.TSyntaxArray.raw x) ""
local macro_rules | `(tactic| delta $x*) => return gz (Lean.TSyntaxArray.raw x) " '; [ 'set_option tactic.hygienic [ ]null 'false 'in { [ 'intros [ ]null ]!intros } ]!set_option"
local macro_rules | `(tactic| obtain ⟨$ps,*⟩ := $e) => do
 let ps:=ps.getElems.toList.map (·.raw)
 let n:=ps.length
 if n<2||ps.dropLast.any fun p=>p[0][0].getNumArgs>1 then Lean.Macro.throwUnsupported
 let q:=ps.zipIdx.map fun (p,i)=>let c:=p[0][0][0]; if p[0][0].getNumArgs=1&&(c.isOfKind `Lean.Parser.Tactic.rcasesPat.one&&c[0].getId != `rfl||c.isOfKind `Lean.Parser.Tactic.rcasesPat.ignore) then (if c.isOfKind `Lean.Parser.Tactic.rcasesPat.one then c[0] else tp "[ '_ ]~hole" [],"") else (tp s!"zq{i}{n}" [],s!" '; [ 'obtain [ ${2+i} ]null [ ]null [ ':= [ zq{i}{n} ]null ]null ]!obtain")
 return tp ("[ 'first ["++String.join ((Jz n).map fun k=>if k<=4&&n-k<=7 then s!" [ '| \{ [ 'refine [ X{k}{n-k} [ $1 ? ]null ]~app ]!refine"++(if e.raw.isIdent then " '; [ 'try { [ 'clear [ $1 ]null ]!clear } ]!tacticTry_" else "")++" '; [ 'intro [ * ]null ]!intro"++String.join (q.map (·.2))++" } ]group" else "")++s!" [ '| \{ [ 'rcases [ [ [ ]null $1 ]!elimTarget ]null [ 'with [ [ [ [ '⟨ [ ${n+2} ]null '⟩ ]!rcasesPat.tuple ]null ]!rcasesPatMed [ ]null ]!rcasesPatLo ]null ]!rcases } ]group ]null ]!first") (Lean.mkNullNode (q.map (·.1)).toArray::e::ps.map (fun p=>p[0])++[Lean.Syntax.mkSep ps.toArray (.atom .none ",")])
local macro_rules | `(tactic| cases $x:ident $y:inductionAlts) => return tp ("[ 'first ["++String.join (["V","List","Nat","Tr","Option","Bool","Cell"].map fun t=>" [ '| { [ 'induction [ [ [ ]null $0 ]!elimTarget ]null [ 'using "++t++".cases"++(if t="Nat" then "Aux" else "")++"On ]null [ ]null [ $1 ]null ]!induction } ]group")++" [ '| { [ 'cases [ [ [ ]null [ [ '( [  ]hygieneInfo ]~hygienicLParen $0 ') ]~paren ]!elimTarget ]null [ ]null [ $1 ]null ]!cases } ]group ]null ]!first") [x,y]
local macro_rules | `(tactic| rw [$r,*]) => do
 let A:="[ '( { [ 'first [ [ '| { [ 'refine [ rwT [ [ $0 [ [ '.. ]~ellipsis ]null ]~app ? ]null ]~app ]!refine } ]group [ '| { [ 'refine [ rwI [ [ $0 [ [ '.. ]~ellipsis ]null ]~app ? ]null ]~app ]!refine } ]group [ '| { [ 'rewrite [ [ ]null ]!optConfig [ '[ [ $1 ]null '] ]!rwRuleSeq [ ]null ]!rewriteSeq } ]group ]null ]!first '; [ 'try { [ 'with_reducible { [ 'rfl ]!tacticRfl } ]!withReducible } ]!tacticTry_ } ') ]!paren"
 return tp "[ '( { * } ') ]!paren" [Lean.Syntax.mkSep ((Lean.TSyntaxArray.raw r.getElems).map fun r=>tp (if r[0].getNumArgs=0 then A else (A.replace "wT" "wS").replace "wI" "wJ") [r[1],r]) (.atom .none ";")]
local macro_rules | `(tactic| show $t) => return tp "[ 'refine [ 'no_implicit_lambda% [ [ '( [  ]hygieneInfo ]~hygienicLParen ? ': [ $0 ]null ') ]~typeAscription ]~noImplicitLambda ]!refine" [t]
section
local macro_rules | `(tactic| cases $x:ident) => return tp "[ 'first [ [ '| { [ 'exact [ absurd [ [ '( a ':= [ [ '@ Eq ]~explicit [ Nat [ '_ ]~hole [ '_ ]~hole ]null ]~app ') ]~namedArgument $0 [ 'by { [ 'decide [ [ ]null ]!optConfig ]!decide } ]~byTactic ]null ]~app ]!exact } ]group [ '| { [ 'injection $0 [ ]null ]!injection '; [ 'done ]!done } ]group [ '| { [ 'injection $0 [ 'with [ q1 q2 q3 q4 q5 q6 ]null ]null ]!injection '; $1 '; $2 '; $3 '; $4 '; $5 '; $6 } ]group [ '| { [ 'injection $0 [ 'with [ q1 q2 q3 q4 q5 ]null ]null ]!injection '; $1 '; $2 '; $3 '; $4 '; $5 } ]group [ '| { [ 'injection $0 [ 'with [ q1 q2 q3 q4 ]null ]null ]!injection '; $1 '; $2 '; $3 '; $4 } ]group [ '| { [ 'injection $0 [ 'with [ q1 q2 q3 ]null ]null ]!injection '; $1 '; $2 '; $3 } ]group [ '| { [ 'injection $0 [ 'with [ q1 q2 ]null ]null ]!injection '; $1 '; $2 } ]group [ '| { [ 'injection $0 [ 'with [ q1 ]null ]null ]!injection '; $1 } ]group [ '| { [ 'subst [ $0 ]null ]!subst } ]group ]null ]!first" (x.raw::["q1","q2","q3","q4","q5","q6"].map fun q=>tp ("[ 'cases [ [ [ ]null "++q++" ]!elimTarget ]null [ ]null [ ]null ]!cases") [])
noncomputable def dJ:Bool->G5->Array G5->Nat->Nat->Nat->StateT Hc Kw (Option Nat):=sortPriv% PySem.Builtin.gallop
def mB (p:G5):Prop:=∃n t,p.1=.int n t
structure SW (a₀:Array G5) (st:Hc):Prop where
 perm:(Ig st).Perm a₀
 kind:IS st=H9
 failed:Lb st=Gs
section
variable {prog:Il} {w:Hh} {A:Hf} {E:Gy->GA->Prop} {s:GA} {a₀:Array G5} {st:Hc}
theorem mV {x y:G5} {Q:Option Bool->Hc->Prop} (c:IS st=H9) (d:mB x) (e:mB y) (h:∀b,Q (Gq b) st):Kx (GO prog w) A E s (lt' x y) Q st:=by
 obtain⟨a,t,f⟩:=d;obtain⟨b,u,g⟩:=e;rw [lt'_eq,f,g];refine GP (Ke ?_);rw [c,keyLt'_oneType];refine GP (Lo (wpAny_attempt (oneLt_int ⟨rfl,?_⟩)));exact GU (h _)
theorem aV {xs:Array G5} {i:Nat} (hi:i<xs.size) {Q:G5->Hc->Prop} (h:Q xs[i] st):Kx (GO prog w) A E s (JL xs i) Q st:=by
 rw [elem'_eq,getElem?_pos xs i hi];exact GU h
noncomputable def hS (b:Bool) (c:G5) (d:Array G5) (base i:Nat):StateT Hc Kw (Option Bool):=do
 let x<-JL d (base+i)
 if b then lt' x c else return (<-lt' c x).map (!·)
theorem rV (left:Bool) (key:G5) (arr:Array G5) (base n hint:Nat):dJ left key arr base n hint=(do
 let mut lastofs:=0
 let mut ofs:=1
 let mut lo:=0
 let mut hi:=0
 let Gq right<-hS left key arr base hint|return Gs
 if right then
  let maxofs:=n - hint
  for _ in [0:n] do
   if ofs>=maxofs then break
   let Gq more<-hS left key arr base (hint+ofs) |return Gs
   if !more then break
   lastofs:=ofs
   ofs:=2 * ofs+1
  lo:=hint+lastofs+1
  hi:=hint+min ofs maxofs
 else
  let maxofs:=hint+1
  for _ in [0:n] do
   if ofs>=maxofs then break
   let Gq found<-hS left key arr base (hint - ofs) |return Gs
   if found then break
   lastofs:=ofs
   ofs:=2 * ofs+1
  lo:=hint+1 - O1 ofs maxofs
  hi:=hint - lastofs
 for _ in [0:n] do
  if lo>=hi then break
  let m:=lo+(hi - lo) / 2
  let Gq more<-hS left key arr base m|return Gs
  if more then lo:=m+1 else hi:=m
 return Gq hi):=rfl
theorem fN {d:Bool} {g:G5} {c:Array G5} {base i:Nat} (k:IS st=H9) (e:mB g) (f:∀j (h:j<c.size),mB c[j]) (hi:base+i<c.size) {Q:Option Bool->Hc->Prop} (h:∀b,Q (Gq b) st):Kx (GO prog w) A E s (hS d g c base i) Q st:=by
 refine GP (aV hi ?_);cases d
 ·exact GP (mV k e (f _ hi) fun b=>GU (h _))
 ·exact mV k (f _ hi) e h
noncomputable def CB (left:Bool) (key:G5) (arr:Array G5) (base n lo' hi':Nat):StateT Hc Kw (Option Nat):=do
 let mut lo:=lo'
 let mut hi:=hi'
 for _ in [0:n] do
  if lo>=hi then break
  let m:=lo+(hi - lo) / 2
  let Gq more<-hS left key arr base m|return Gs
  if more then lo:=m+1 else hi:=m
 return Gq hi
theorem w8 {f:Bool} {g:G5} {d:Array G5} {base n lo hi:Nat} (p:IS st=H9) (i:mB g) (m:∀j (h:j<d.size),mB d[j]) (q:hi<=n) (t:base+n<=d.size) {Q:Option Nat->Hc->Prop} (h:∀k,k<=n->Q (Gq k) st):Kx (GO prog w) A E s (CB f g d base n lo hi) Q st:=by
 refine GP (HD (I:=fun Z c e=>e=st/\∃l r,c=(Gs,l,r)/\r<=n) (Q:=_) ?step ?fin ⟨rfl,lo,hi,rfl,q⟩)
 case fin=>
  rintro c e ⟨rfl,l,r,rfl,o⟩
  exact GU (h r o)
 case step=>
  rintro x c e _ _ ⟨rfl,l,r,rfl,o⟩
  dsimp only
  split
  ·exact GU (GU (h r o))
  ·refine GP (fN p i m (by lia) fun b=>?_)
   cases b
   ·exact GU ⟨rfl,l,_,rfl,by lia⟩
   ·exact GU ⟨rfl,_,r,rfl,o⟩
theorem di {g:Bool} {o:G5} {f:Array G5} {base n d:Nat} (t:IS st=H9) (i:mB o) (m:∀j (h:j<f.size),mB f[j]) (q:d<n) (u:base+n<=f.size) {Q:Option Nat->Hc->Prop} (h:∀k,k<=n->Q (Gq k) st):Kx (GO prog w) A E s (dJ g o f base n d) Q st:=by
 revert g o f base n d Q;delta prog w A E s st;revert Q;delta g o f base n d;delta Q;rw [rV];refine GP (fN t i m ((l4 0x1b27101c131c2730) u q) fun p=>?_);delta p;dsimp only
 have G:∀y v,v<=n->Kx (GO prog w) A E s (CB g o f base n y v) Q st:=fun y v q=>w8 t i m q u h
 cases p
 ·simp only [Hz,if_false];refine GP (HD (I:=fun Z c e=>e=st/\∃l r,c=(Gs,l,r)) (Q:=fun c e=>Kx (GO prog w) A E s _ Q e) ?step ?fin ⟨rfl,0,1,rfl⟩)
  case fin=>
   rintro c e ⟨rfl,l,r,rfl⟩
   exact G (d+1 - O1 r (d+1)) (d - l) ((l3 30864090077968) q (HR _ _))
  case step=>
   rintro x c e _ _ ⟨rfl,l,r,rfl⟩
   dsimp only
   split
   ·exact GU (show Kx _ _ _ _ _ _ _ from G (d+1 - O1 r (d+1)) (d - l) ((l3 30864090077968) q (HR _ _)))
   ·refine GP (fN t i m ((l5 0x1b27401c431b311c2710) u q (HR _ _)) fun b=>?_);cases b
    ·exact GU ⟨rfl,_,_,rfl⟩
    ·exact GU (show Kx _ _ _ _ _ _ _ from G (d+1 - O1 r (d+1)) (d - l) ((l3 30864090077968) q (HR _ _)))
 ·simp only [if_true];refine GP (HD (I:=fun Z c e=>e=st/\∃l r,c=(Gs,l,r)) (Q:=fun c e=>Kx (GO prog w) A E s _ Q e) ?step2 ?mfin2 ⟨rfl,0,1,rfl⟩)
  case mfin2=>
   rintro c e ⟨rfl,l,r,rfl⟩
   exact G (d+l+1) (d+min r (n - d)) ((l4 0x1d27031b311b2710) (G7 (Ia q)) (Nat.min_le_right _ _))
  case step2=>
   rintro x c e _ _ ⟨rfl,l,r,rfl⟩
   dsimp only
   split
   ·exact GU (show Kx _ _ _ _ _ _ _ from G (d+l+1) (d+min r (n - d)) (by lia))
   ·refine GP (fN t i m (by lia) fun b=>?_)
    cases b
    ·exact GU (show Kx _ _ _ _ _ _ _ from G (d+l+1) (d+min r (n - d)) (by lia))
    ·exact GU ⟨rfl,_,_,rfl⟩
end
noncomputable def setMinGallop':Nat->StateT Hc Kw Unit:=sortPriv% PySem.Builtin.setMinGallop
noncomputable def je:Array G5->Array G5->StateT Hc Kw (Array G5):=sortPriv% PySem.Builtin.mergeLo
theorem iN (g:Nat):setMinGallop' g=modify fun st=>O2 (IS st) (Ig st) (HI st) g (Lb st):=rfl
noncomputable abbrev L2:=Option (Array G5)×Array G5×Nat×Nat×Nat×Nat×Nat
noncomputable def uz (a b out:Array G5) (c d f k e:Nat):StateT Hc Kw (ForInStep L2):=do
 let z<-JL a c
 if(c+1+1==a.size)=Gu then HE (.done (Gq (out.push z++b.extract d b.size++a.extract (c+1) a.size),out.push z,c+1,d,f,k,e))
 else if(GI (k<7)&&GI (e<7))=Gu then HE (.done (Gs,out.push z,c+1,d,f,k,e))
 else HE (.yield (Gs,out.push z,c+1,d,f,k,e))
noncomputable def mfin2 (a b out:Array G5) (e c f k k0:Nat):StateT Hc Kw (ForInStep L2):=do
 let x<-JL a e
 let y<-dJ Gu x b c (b.size - c) 0
 match y with
 |some d=>
  if d>0 then
   if(c+d==b.size)=Gu then HE (.done (Gq (out++b.extract c (c+d)++a.extract e a.size++b.extract (c+d) b.size),out++b.extract c (c+d),e,c+d,f,k,d))
   else uz a b (out++b.extract c (c+d)) e (c+d) f k d
  else uz a b out e c f k d
 |x=>HE (.done (Gq (out++a.extract e a.size++b.extract c b.size),out,e,c,f,k,k0))
noncomputable def BB (a b out:Array G5) (d c e k k0:Nat):StateT Hc Kw (ForInStep L2):=do
 let z<-JL b c
 if(c+1==b.size)=Gu then HE (.done (Gq (out.push z++a.extract d a.size++b.extract (c+1) b.size),out.push z,d,c+1,e,k,k0))
 else mfin2 a b (out.push z) d (c+1) e k k0
structure jE (a b out:Array G5) (ia ib:Nat):Prop where
 perm:(out.toList++(a.toList.drop ia++b.toList.drop ib)).Perm (a.toList++b.toList)
 la:ia<=a.size
 lb:ib<=b.size
section
variable {a b out:Array G5} {c d:Nat}
theorem lq {a:Array G5} {i:Nat} (h:i<a.size):a.toList.drop i=a[i]::a.toList.drop (i+1):=by
 rw [Kt (by simpa using h)];rfl
theorem lj {a:Array G5} {i k:Nat} (h:i+k<=a.size):a.toList.drop i=(a.extract i (i+k)).toList++a.toList.drop (i+k):=by
 rw [JV,Jn,KQ, <-List.drop_drop,K8]
theorem jE.pa (h:jE a b out c d) (q:c<a.size):jE a b (out.push a[c]) (c+1) d:=by
 refine⟨.trans ?_ h.perm,q,h.lb⟩;rw [IC,lq q,GK];exact .refl _
theorem jE.pb (h:jE a b out c d) (q:d<b.size):jE a b (out.push b[d]) c (d+1):=by
 refine⟨.trans ?_ h.perm,h.la,q⟩;rw [IC,lq q,GK];rw [List.singleton_append];exact Hm _ List.perm_middle.symm
theorem jE.pak {k:Nat} (h:jE a b out c d) (q:c+k<=a.size):jE a b (out++a.extract c (c+k)) (c+k) d:=by
 refine⟨.trans ?_ h.perm,q,h.lb⟩;rw [HB,lj q,GK,GK]
theorem jE.pbk {k:Nat} (h:jE a b out c d) (q:d+k<=b.size):jE a b (out++b.extract d (d+k)) c (d+k):=by
 refine⟨.trans ?_ h.perm,h.la,q⟩;rw [HB,lj q,GK];refine Hm _ ?_;rw [<-GK, <-GK];exact H3.append_right _
theorem o8 (a:Array G5) (i:Nat):(a.extract i a.size).toList=a.toList.drop i:=by
 rw [JV,Jn];exact Im (by simp)
theorem jE.done (h:jE a b out c d):(out++a.extract c a.size++b.extract d b.size).Perm (a++b):=by
 rw [Hu];simp only [HB,o8,GK];exact h.perm
theorem jE.last (h:jE a b out c d):(out++b.extract d b.size++a.extract c a.size).Perm (a++b):=by
 rw [Hu];simp only [HB,o8,GK];exact .trans (H3.append_left _) h.perm
end
structure dE (st st':Hc):Prop where
 arr:Ig st'=Ig st
 pend:HI st'=HI st
 kind:IS st'=IS st
 failed:Lb st'=Lb st
theorem dE.refl (st:Hc):dE st st:=⟨rfl,rfl,rfl,rfl⟩
theorem dE.trans {a b c:Hc} (h:dE a b) (h':dE b c):dE a c:=⟨h'.arr.trans h.arr,h'.pend.trans h.pend,h'.kind.trans h.kind,h'.failed.trans h.failed⟩
structure fV (a b out:Array G5) (ia ib m:Nat):Prop where
 s:jE a b out ia ib
 la:ia+1<a.size
 lb:ib<b.size
 m:m<=ia+ib
inductive Out2 (a b:Array G5) (m:Nat):ForInStep L2->Prop where
 |res (x:Array G5) (c) (h:x.Perm (a++b)):Out2 a b m (.done (Gq x,c))
 |out (out:Array G5) (ia ib:Nat) (c) (h:fV a b out ia ib m):Out2 a b m (.done (Gs,out,ia,ib,c))
 |on (out:Array G5) (ia ib:Nat) (c) (h:fV a b out ia ib m):Out2 a b m (.yield (Gs,out,ia,ib,c))
def bR (a:Array G5):Prop:=∀j (h:j<a.size),mB a[j]
section
variable {prog:Il} {w:Hh} {A:Hf} {E:Gy->GA->Prop} {s:GA} {st:Hc} {a b out:Array G5} {c d m i k k0 f:Nat} {Q:ForInStep L2->Hc->Prop}
theorem qS (h:jE a b out c d) (n:c+1<a.size) (o:d<b.size) (p:m<=c+d) (j:∀r,Out2 a b (m+1) r->Q r st):Kx (GO prog w) A E s (uz a b out c d i k f) Q st:=by
 have q:c<a.size:=(l2 1930344537104) n
 refine GP (aV q ?_)
 have l:=h.pa q
 split
 ·exact GU (j _ (.res _ _ l.last))
 ·rename_i z
  replace z:¬c+1+1=a.size:=fun e=>z (beq_iff_eq.mpr e)
  have g:fV a b (out.push a[c]) (c+1) d (m+1):=⟨l,by lia,o,(l3 0x1b72101b7271817180) p⟩
  split
  ·exact GU (j _ (.out _ _ _ _ g))
  ·exact GU (j _ (.on _ _ _ _ g))
theorem zf (o:IS st=H9) (p:bR a) (t:bR b) (h:jE a b out c d) (j:c+1<a.size) (l:d<b.size) (u:m<=c+d) (g:∀r,Out2 a b (m+1) r->Q r st):Kx (GO prog w) A E s (mfin2 a b out c d i k k0) Q st:=by
 have q:c<a.size:=(l2 1930344537104) j
 refine GP (aV q ?_);refine GP (di o (p _ q) t (by exact(l3 0x1c121b72011c008) l (wY _ _)) (by exact(l3 32053359486736) (G7 (Ia l))) fun f v=>?_)
 dsimp only
 split
 ·have n:=h.pbk (k:=f) (by lia)
  split
  ·rename_i z;refine GU (g _ (.res _ _ ?_))
   have:=n.last
   have e:=eq_of_beq z
   rw [e] at this ⊢
   have y:b.extract b.size b.size= #[]:=by simp
   rw [y] at this ⊢
   simpa using this
  ·rename_i z
   replace z:¬d+f=b.size:=fun e=>z (beq_iff_eq.mpr e)
   exact qS n j (by lia) (by lia) g
 ·exact qS h j l u g
theorem qV (n:IS st=H9) (o:bR a) (p:bR b) (h:jE a b out c d) (q:c+1<a.size) (j:d<b.size) (t:m<=c+d) (g:∀r,Out2 a b (m+1) r->Q r st):Kx (GO prog w) A E s (BB a b out c d i k k0) Q st:=by
 refine GP (aV j ?_)
 have l:=h.pb j
 split
 ·exact GU (g _ (.res _ _ l.done))
 ·rename_i z
  replace z:¬d+1=b.size:=fun e=>z (beq_iff_eq.mpr e)
  exact zf n o p l q (by lia) ((l3 0x1b72101b7718210) t) g
end
section
variable {prog:Il} {w:Hh} {A:Hf} {E:Gy->GA->Prop} {s:GA} {st:Hc} {a b out:Array G5} {f l m n k k0 k1:Nat}
theorem fM {Q:Unit->Hc->Prop} (h:∀c,dE st c->Q () c):Kx (GO prog w) A E s (setMinGallop' n) Q st:=by
 rw [iN];exact Js (h _ ⟨rfl,rfl,rfl,rfl⟩)
noncomputable def t5 (a b out:Array G5) (f l n d c:Nat):StateT Hc Kw (ForInStep L2):=do
 let z<-JL b l
 let y<-dJ Gw z a f (a.size - f) 0
 match y with
 |some k=>
  if k>0 then
   if(f+k+1==a.size)=Gu then HE (.done (Gq (out++a.extract f (f+k)++b.extract l b.size++a.extract (f+k) a.size),out++a.extract f (f+k),f+k,l,n,k,c))
   else if(f+k==a.size)=Gu then HE (.done (Gq (out++a.extract f (f+k)++a.extract (f+k) a.size++b.extract l b.size),out++a.extract f (f+k),f+k,l,n,k,c))
   else BB a b (out++a.extract f (f+k)) (f+k) l n k c
  else BB a b out f l n k c
 |x=>HE (.done (Gq (out++a.extract f a.size++b.extract l b.size),out,f,l,n,d,c))
theorem uI {u v:Nat} {Q:ForInStep L2->Hc->Prop} (d:IS st=H9) (i:bR a) (j:bR b) (g:fV a b out f l m) (c:∀r,Out2 a b (m+1) r->Q r st):Kx (GO prog w) A E s (t5 a b out f l n u v) Q st:=by
 have p:=g.la
 refine GP (aV g.lb ?_);refine GP (di d (j _ g.lb) i (by exact(l3 0x1c171821b72011c008) p (wY _ _)) (by lia) fun k y=>?_)
 dsimp only
 have z:=g.m
 split
 ·have o:=g.s.pak (k:=k) (by lia)
  split
  ·exact GU (c _ (.res _ _ o.last))
  ·split
   ·exact GU (c _ (.res _ _ o.done))
   ·rename_i q t
    replace q:¬f+k+1=a.size:=fun e=>q (beq_iff_eq.mpr e)
    replace t:¬f+k=a.size:=fun e=>t (beq_iff_eq.mpr e)
    exact qV d i j o (by lia) g.lb (by lia) c
 ·exact qV d i j g.s p g.lb z c
noncomputable def zS (a b out:Array G5) (f l n d e:Nat):StateT Hc Kw L2:=
 Oj [:a.size+b.size] ((Gs,out,f,l,n,d,e):L2) fun x c=>
  if c.2.2.2.2.1>1 then do
   setMinGallop' (c.2.2.2.2.1 - 1)
   t5 a b c.2.1 c.2.2.1 c.2.2.2.1 (c.2.2.2.2.1 - 1) c.2.2.2.2.2.1 c.2.2.2.2.2.2
  else do
   setMinGallop' c.2.2.2.2.1
   t5 a b c.2.1 c.2.2.1 c.2.2.2.1 c.2.2.2.2.1 c.2.2.2.2.2.1 c.2.2.2.2.2.2
inductive End2 (a b:Array G5) (m:Nat):L2->Prop where
 |res (x:Array G5) (c) (h:x.Perm (a++b)):End2 a b m (Gq x,c)
 |out (out:Array G5) (f l:Nat) (c) (h:fV a b out f l m):End2 a b m (Gs,out,f,l,c)
theorem uS {v z:Nat} {Q:L2->Hc->Prop} (B:IS st=H9) (C:bR a) (D:bR b) (g:fV a b out f l m) (q:∀c p,dE st p->End2 a b (m+1) c->Q c p):Kx (GO prog w) A E s (zS a b out f l n v z) Q st:=by
 refine HD (I:=fun y c p=>dE st p/\∃out f l d,c=(Gs,out,f,l,d)/\fV a b out f l (m+y)) ?step ?fin ⟨.refl _,_,_,_,_,rfl,g⟩
 case fin=>
  rintro c p ⟨S,out,f,l,d,rfl,t⟩
  exact q _ _ S (.out _ _ _ _ ⟨t.s,t.la,t.lb,by have F:=t.m;have G:=g.la;exact(l6 0x1b17401c251b47321b17180) F G (LX _ _)⟩)
 case step=>
  rintro y c p _ _ ⟨S,out,f,l,d,rfl,t⟩
  dsimp only
  split
  all_goals
   refine GP (fM fun u e=>uI ((S.trans e).kind.trans B) C D t fun r H=>?_)
   cases H with
   |res x c h=>exact q _ _ (S.trans e) (.res _ _ h)
   |out o i j c h=>exact q _ _ (S.trans e) (.out _ _ _ _ ⟨h.s,h.la,h.lb,by have J:=h.m;exact(l3 0x1b27187101b27180) J⟩)
   |on o i j c h=>exact⟨S.trans e,_,_,_,_,rfl,h⟩
noncomputable abbrev L1:=Option (Array G5)×Array G5×Nat×Nat×Nat×Nat
noncomputable def zY (a b out:Array G5) (f l n:Nat):StateT Hc Kw L1:=
 Oj [:a.size+b.size] ((Gs,out,f,l,0,0):L1) fun x c=>do
  let z<-JL b c.2.2.2.1
  let y<-JL a c.2.2.1
  let r<-lt' z y
  match r with
  |some d=>
   if d=Gu then do
    let z<-JL b c.2.2.2.1
    if(c.2.2.2.1+1==b.size)=Gu then HE (.done (Gq (c.2.1.push z++a.extract c.2.2.1 a.size++b.extract (c.2.2.2.1+1) b.size),c.2.1.push z,c.2.2.1,c.2.2.2.1+1,0,c.2.2.2.2.2+1))
    else if c.2.2.2.2.2+1>=n then HE (.done (Gs,c.2.1.push z,c.2.2.1,c.2.2.2.1+1,0,c.2.2.2.2.2+1))
    else HE (.yield (Gs,c.2.1.push z,c.2.2.1,c.2.2.2.1+1,0,c.2.2.2.2.2+1))
   else do
    let z<-JL a c.2.2.1
    if(c.2.2.1+1+1==a.size)=Gu then HE (.done (Gq (c.2.1.push z++b.extract c.2.2.2.1 b.size++a.extract (c.2.2.1+1) a.size),c.2.1.push z,c.2.2.1+1,c.2.2.2.1,c.2.2.2.2.1+1,0))
    else if c.2.2.2.2.1+1>=n then HE (.done (Gs,c.2.1.push z,c.2.2.1+1,c.2.2.2.1,c.2.2.2.2.1+1,0))
    else HE (.yield (Gs,c.2.1.push z,c.2.2.1+1,c.2.2.2.1,c.2.2.2.2.1+1,0))
  |x=>HE (.done (Gq (c.2.1++a.extract c.2.2.1 a.size++b.extract c.2.2.2.1 b.size),c.2.1,c.2.2.1,c.2.2.2.1,c.2.2.2.2.1,c.2.2.2.2.2))
inductive End1 (a b:Array G5) (m:Nat):L1->Prop where
 |res (x:Array G5) (c) (h:x.Perm (a++b)):End1 a b m (Gq x,c)
 |out (out:Array G5) (f l:Nat) (c) (h:fV a b out f l m):End1 a b m (Gs,out,f,l,c)
theorem tP {Q:L1->Hc->Prop} (v:IS st=H9) (D:bR a) (F:bR b) (g:fV a b out f l m) (i:∀c,End1 a b m c->Q c st):Kx (GO prog w) A E s (zY a b out f l n) Q st:=by
 revert l m n Q;delta prog w A E s st a b out f;delta l m n Q;refine HD (I:=fun y c j=>j=st/\∃out f l d,c=(Gs,out,f,l,d)/\fV a b out f l m) ?step ?fin ⟨rfl,_,_,_,_,rfl,g⟩
 case fin=>
  rintro c j ⟨rfl,out,f,l,d,rfl,o⟩
  exact i _ (.out _ _ _ _ o)
 case step=>
  rintro y c j _ _ ⟨rfl,out,f,l,d,rfl,o⟩
  revert out f l d;injections y j;intro _ _ v i out f l d o;delta out f l d;dsimp only
  have B:=o.la
  have p:=o.lb
  have C:=o.m
  have q:f<a.size:=(l2 1930344537104) B
  refine GP (aV p (GP (aV q (GP (mV v (F _ p) (D _ q) fun r=>?_)))))
  cases r with
  |true=>
   refine GP (aV p ?_)
   have t:=o.s.pb p
   split
   ·exact GU (i _ (.res _ _ t.done))
   ·rename_i z
    replace z:¬l+1=b.size:=fun e=>z (beq_iff_eq.mpr e)
    have u:fV a b (out.push b[l]) f (l+1) m:=⟨t,B,by lia,(l3 0x1b72101b7718210) C⟩
    split
    ·exact GU (i _ (.out _ _ _ _ u))
    ·exact GU ⟨rfl,_,_,_,_,rfl,u⟩
  |false=>
   refine GP (aV q ?_)
   have t:=o.s.pa q
   split
   ·exact GU (i _ (.res _ _ t.last))
   ·rename_i z
    replace z:¬f+1+1=a.size:=fun e=>z (beq_iff_eq.mpr e)
    have u:fV a b (out.push a[f]) (f+1) l m:=⟨t,by lia,p,(l3 0x1b72101b7271810) C⟩
    split
    ·exact GU (i _ (.out _ _ _ _ u))
    ·exact GU ⟨rfl,_,_,_,_,rfl,u⟩
end
noncomputable abbrev L0:=Option (Array G5)×Array G5×Nat×Nat×Nat
noncomputable def lo3 (c:L2):StateT Hc Kw (ForInStep L0):=KR c.1 (fun Z=>do
 setMinGallop' (c.2.2.2.2.1+1)
 HE (.yield (Gs,c.2.1,c.2.2.1,c.2.2.2.1,c.2.2.2.2.1+1))) fun x=>HE (.done (Gq x,c.2.1,c.2.2.1,c.2.2.2.1,c.2.2.2.2.1))
noncomputable def lo2 (a b:Array G5) (e:Nat) (c:L1):StateT Hc Kw (ForInStep L0):=KR c.1 (fun Z=>do
 rule "list.sort.gallop"
 let d<-zS a b c.2.1 c.2.2.1 c.2.2.2.1 (e+1) c.2.2.2.2.1 c.2.2.2.2.2
 lo3 d) fun x=>HE (.done (Gq x,c.2.1,c.2.2.1,c.2.2.2.1,e))
noncomputable def lo1 (a b:Array G5) (c:L0):StateT Hc Kw (ForInStep L0):=do
 let d<-zY a b c.2.1 c.2.2.1 c.2.2.2.1 c.2.2.2.2
 lo2 a b c.2.2.2.2 d
noncomputable def Gc (a b:Array G5) (x:G5):StateT Hc Kw (Array G5):=do
 let d<-get
 let c<-Oj [:a.size+b.size] ((Gs, #[x],0,1,gallopOf d):L0) fun Z c=>lo1 a b c
 KR c.1 (fun Z=>liftM (m:=Kw) (Ol "internal:list.sort.merge-bound")) HE
theorem qe (a b:Array G5):je a b=(do
 rule "list.sort.merge-lo"
 let x<-JL b 0
 if(1==b.size)=Gu then HE (#[x]++a.extract 0 a.size++b.extract 1 b.size)
 else if(0+1==a.size)=Gu then HE (#[x]++b.extract 1 b.size++a.extract 0 a.size)
 else Gc a b x):=rfl
section
variable {prog:Il} {w:Hh} {A:Hf} {E:Gy->GA->Prop} {s:GA} {st:Hc} {a b out:Array G5} {f l m mg k k0 k1:Nat}
theorem fV.lt (g:fV a b out f l m):m<a.size+b.size:=by have c:=g.la;have d:=g.lb;have e:=g.m;exact(l5 0x1c171831c241b74301c7210) c d e
theorem aR {d:Type} {c:Prop} [Decidable c] {x y:StateT Hc Kw d} {Q:d->Hc->Prop} (e:c->Kx (GO prog w) A E s x Q st) (g:¬c->Kx (GO prog w) A E s y Q st):Kx (GO prog w) A E s (if c then x else y) Q st:=by
 by_cases h:c
 ·rw [if_pos h];exact e h
 ·rw [if_neg h];exact g h
inductive Out1 (a b:Array G5) (m:Nat):ForInStep L0->Prop where
 |res (x:Array G5) (c) (h:x.Perm (a++b)):Out1 a b m (.done (Gq x,c))
 |on (out:Array G5) (f l d:Nat) (h:fV a b out f l m):Out1 a b m (.yield (Gs,out,f,l,d))
theorem AW {c:L2} (h:End2 a b m c) {Q:ForInStep L0->Hc->Prop} (d:∀r e,dE st e->Out1 a b m r->Q r e):Kx (GO prog w) A E s (lo3 c) Q st:=by
 cases h with
 |res x c h=>exact GU (d _ _ (.refl _) (.res _ _ h))
 |out o i j c h=>exact GP (fM fun g n=>GU (d _ _ n (.on _ _ _ _ h)))
theorem Br (n:IS st=H9) (p:bR a) (q:bR b) {c:L1} (h:End1 a b m c) {Q:ForInStep L0->Hc->Prop} (d:∀r e,dE st e->Out1 a b (m+1) r->Q r e):Kx (GO prog w) A E s (lo2 a b mg c) Q st:=by
 cases h with
 |res x c h=>exact GU (d _ _ (.refl _) (.res _ _ h))
 |out o i j c h=>exact GP (Lo (KJ ⟨rfl,GP (uS n p q h fun B t u v=>AW v fun r g y z=>d r g (u.trans y) z)⟩))
theorem pU (u:IS st=H9) (v:bR a) (z:bR b) (C:1<=a.size) (q:1<=b.size) {Q:Array G5->Hc->Prop} (p:∀x n,dE st n->x.Perm (a++b)->Q x n):Kx (GO prog w) A E s (je a b) Q st:=by
 revert Q;delta prog w A E s st a b;delta Q;rw [qe]
 have t:jE a b #[b[0]] 0 1:=(jE.mk (by simp) (G4 _) (G4 _):jE a b #[] 0 0).pb q
 refine GP (Lo (KJ ⟨rfl,GP (aV q (aR (fun Z=>GU (p _ _ (.refl _) t.done)) fun D=>aR (fun Z=>GU (p _ _ (.refl _) t.last)) fun F=>GP (Ke (GP ?_))))⟩));refine JW (HD (I:=fun y c n=>dE st n/\∃out f l d,c=(Gs,out,f,l,d)/\fV a b out f l y) (Q:=fun c n=>dE st n/\∃x d,c=(Gq x,d)/\x.Perm (a++b)) ?step ?fin ⟨.refl _,_,_,_,_,rfl,t,?_,?_,G4 _⟩) ?_
 case fin=>
  rintro c n ⟨S,out,f,l,d,rfl,g⟩
  exact absurd g.lt (HA _)
 case step=>
  rintro y c n _ _ ⟨S,out,f,l,d,rfl,g⟩
  refine GP (tP (S.kind.trans u) v z g fun c G=>Br (S.kind.trans u) v z G fun r H B J=>?_)
  cases J with
  |res x c h=>exact⟨S.trans B,_,_,rfl,h⟩
  |on o i j d h=>exact⟨S.trans B,_,_,_,_,rfl,h⟩
 ·exact H5 C fun e=>F (beq_iff_eq.mpr e)
 ·exact H5 q fun e=>D (beq_iff_eq.mpr e)
 ·rintro c n ⟨S,x,d,rfl,K⟩
  exact GU (p _ _ S K)
end
noncomputable def jU:Array G5->Array G5->StateT Hc Kw (Array G5):=sortPriv% PySem.Builtin.mergeHi
noncomputable abbrev H2:=Option (Array G5)×Nat×Nat×Array G5×Nat×Nat×Nat
noncomputable def BW (a b out:Array G5) (c d f k e:Nat):StateT Hc Kw (ForInStep H2):=do
 let z<-JL a (c - 1)
 if(c - 1==0)=Gu then HE (.done (Gq (a.extract 0 (c - 1)++b.extract 0 d++(out.push z).reverse),c - 1,d,out.push z,f,k,e))
 else if(GI (k<7)&&GI (e<7))=Gu then HE (.done (Gs,c - 1,d,out.push z,f,k,e))
 else HE (.yield (Gs,c - 1,d,out.push z,f,k,e))
noncomputable def Dq (a b out:Array G5) (d c e k k0:Nat):StateT Hc Kw (ForInStep H2):=do
 let x<-JL a (d - 1)
 let y<-dJ Gu x b 0 c (c - 1)
 match y with
 |some t=>
  if c - t>0 then
   if(t==1)=Gu then HE (.done (Gq (b.extract 0 t++a.extract 0 d++(out++(b.extract t c).reverse).reverse),d,t,out++(b.extract t c).reverse,e,k,c - t))
   else if(t==0)=Gu then HE (.done (Gq (a.extract 0 d++b.extract 0 t++(out++(b.extract t c).reverse).reverse),d,t,out++(b.extract t c).reverse,e,k,c - t))
   else BW a b (out++(b.extract t c).reverse) d t e k (c - t)
  else BW a b out d c e k (c - t)
 |x=>HE (.done (Gq (a.extract 0 d++b.extract 0 c++out.reverse),d,c,out,e,k,k0))
noncomputable def Ah (a b out:Array G5) (d c e k k0:Nat):StateT Hc Kw (ForInStep H2):=do
 let z<-JL b (c - 1)
 if(c - 1==1)=Gu then HE (.done (Gq (b.extract 0 (c - 1)++a.extract 0 d++(out.push z).reverse),d,c - 1,out.push z,e,k,k0))
 else Dq a b (out.push z) d (c - 1) e k k0
noncomputable def vt (a b out:Array G5) (c d e g f:Nat):StateT Hc Kw (ForInStep H2):=do
 let z<-JL b (d - 1)
 let y<-dJ Gw z a 0 c (c - 1)
 match y with
 |some t=>
  if c - t>0 then
   if(t==0)=Gu then HE (.done (Gq (a.extract 0 t++b.extract 0 d++(out++(a.extract t c).reverse).reverse),t,d,out++(a.extract t c).reverse,e,c - t,f))
   else Ah a b (out++(a.extract t c).reverse) t d e (c - t) f
  else Ah a b out c d e (c - t) f
 |x=>HE (.done (Gq (a.extract 0 c++b.extract 0 d++out.reverse),c,d,out,e,g,f))
structure jt (a b out:Array G5) (na nb:Nat):Prop where
 perm:(a.toList.take na++(b.toList.take nb++out.toList)).Perm (a.toList++b.toList)
 la:na<=a.size
 lb:nb<=b.size
section
variable {a b out:Array G5} {c d:Nat}
theorem kT {a:Array G5} {i:Nat} (h:i - 1<a.size) (e:1<=i):a.toList.take i=a.toList.take (i - 1)++[a[i - 1]]:=by
 obtain⟨j,rfl⟩:∃j,i=j+1:=⟨i - 1,(l2 0x9d071811d71810) (G7 e)⟩;rw [Lz (by simpa using h)];rfl
theorem eG {a:Array G5} {i t:Nat} (h:t<=i) (hi:i<=a.size):a.toList.take i=a.toList.take t++(a.extract t i).toList:=by
 rw [JV,Jn];obtain⟨k,rfl⟩:∃k,i=t+k:=⟨i - t,(l3 0x9d07121d7210) (G7 h)⟩;rw [KQ,List.take_add]
theorem jt.pa (h:jt a b out c d) (q:c - 1<a.size) (e:1<=c):jt a b (out.push a[c - 1]) (c - 1) d:=by
 refine⟨.trans ?_ h.perm,(l2 470817552) q,h.lb⟩;rw [IC,kT q e,GK];refine Hm _ ?_;rw [<-GK];exact H3
theorem jt.pb (h:jt a b out c d) (q:d - 1<b.size) (e:1<=d):jt a b (out.push b[d - 1]) c (d - 1):=by
 refine⟨.trans ?_ h.perm,h.la,(l2 470817552) q⟩;rw [IC,kT q e];refine Hm _ ?_;rw [GK];refine Hm _ ?_;exact H3
theorem jt.pak {t:Nat} (h:jt a b out c d) (q:t<=c):jt a b (out++(a.extract t c).reverse) t d:=by
 refine⟨.trans ?_ h.perm,Gz q h.la,h.lb⟩;rw [HB,eG q h.la,GK,I8];refine Hm _ ?_;rw [<-GK];refine H3.trans ?_;exact(Ky _).append_right _
theorem jt.pbk {t:Nat} (h:jt a b out c d) (q:t<=d):jt a b (out++(b.extract t d).reverse) c t:=by
 refine⟨.trans ?_ h.perm,h.la,Gz q h.lb⟩;rw [HB,eG q h.lb,I8];refine Hm _ ?_;rw [GK];refine Hm _ ?_;exact H3.trans ((Ky _).append_right _)
theorem nK (a:Array G5) (i:Nat):(a.extract 0 i).toList=a.toList.take i:=by
 rw [JV,Jn];rfl
theorem jt.done (h:jt a b out c d):(a.extract 0 c++b.extract 0 d++out.reverse).Perm (a++b):=by
 rw [Hu];simp only [HB,nK,GK,I8];exact .trans (Hm _ (Hm _ (Ky _))) h.perm
theorem jt.last (h:jt a b out c d):(b.extract 0 d++a.extract 0 c++out.reverse).Perm (a++b):=by
 rw [Hu];simp only [HB,nK,I8];refine .trans ?_ h.perm;rw [<-GK];exact .trans (Hm _ (Ky _)) (H3.append_right _)
end
structure dH (a b out:Array G5) (na nb m:Nat):Prop where
 s:jt a b out na nb
 la:1<=na
 lb:2<=nb
 m:na+nb+m<=a.size+b.size
inductive OutH (a b:Array G5) (m:Nat):ForInStep H2->Prop where
 |res (x:Array G5) (c) (h:x.Perm (a++b)):OutH a b m (.done (Gq x,c))
 |out (out:Array G5) (na nb:Nat) (c) (h:dH a b out na nb m):OutH a b m (.done (Gs,na,nb,out,c))
 |on (out:Array G5) (na nb:Nat) (c) (h:dH a b out na nb m):OutH a b m (.yield (Gs,na,nb,out,c))
section
variable {prog:Il} {w:Hh} {A:Hf} {E:Gy->GA->Prop} {s:GA} {st:Hc} {a b out:Array G5} {c d m f k k0 k1:Nat} {Q:ForInStep H2->Hc->Prop}
theorem rb (h:jt a b out c d) (j:1<=c) (n:2<=d) (o:c+d+m<=a.size+b.size) (i:∀r,OutH a b (m+1) r->Q r st):Kx (GO prog w) A E s (BW a b out c d f k k1) Q st:=by
 have q:c - 1<a.size:=by have:=h.la;exact(l3 0x1b121d271801c10) this (G7 j)
 refine GP (aV q ?_)
 have l:=h.pa q j
 refine aR (fun Z=>GU (i _ (.res _ _ l.done))) fun z=>?_
 replace z:¬c - 1=0:=fun e=>z (beq_iff_eq.mpr e)
 have g:dH a b (out.push a[c - 1]) (c - 1) d (m+1):=⟨l,((l1 120267583512) (Ix z)),n,(l5 0x1b3727141d471801b377182710) o (G7 j)⟩
 exact aR (fun Z=>GU (i _ (.out _ _ _ _ g))) fun Z=>GU (i _ (.on _ _ _ _ g))
theorem yx (u:IS st=H9) (v:bR a) (y:bR b) (h:jt a b out c d) (i:1<=c) (z:2<=d) (l:c+d+m<=a.size+b.size) (g:∀r,OutH a b (m+1) r->Q r st):Kx (GO prog w) A E s (Dq a b out c d f k k0) Q st:=by
 have q:c - 1<a.size:=by have:=h.la;exact(l3 0x1b121d271801c10) this (G7 i)
 have B:=h.lb
 refine GP (aV q ?_);refine GP (di u (v _ q) y (by lia) (by exact(l2 1859749244936) B) fun t n=>?_)
 dsimp only
 have j:=h.pbk (t:=t) n
 refine aR (fun Z=>aR (fun Z=>GU (g _ (.res _ _ j.last))) fun o=>aR (fun Z=>GU (g _ (.res _ _ j.done))) fun p=>?_) fun Z=>rb h i z l g
 replace o:¬t=1:=fun e=>o (beq_iff_eq.mpr e)
 replace p:¬t=0:=fun e=>p (beq_iff_eq.mpr e)
 exact rb j i (by lia) ((l5 0x1b3727101b141b372740) l n) g
theorem rn (j:IS st=H9) (l:bR a) (n:bR b) (h:jt a b out c d) (o:1<=c) (p:2<=d) (t:c+d+m<=a.size+b.size) (g:∀r,OutH a b (m+1) r->Q r st):Kx (GO prog w) A E s (Ah a b out c d f k k0) Q st:=by
 have u:=h.lb
 have q:d - 1<b.size:=by lia
 refine GP (aV q ?_)
 have i:=h.pb q ((l1 116006170648) p)
 refine aR (fun Z=>GU (g _ (.res _ _ i.last))) fun z=>?_
 replace z:¬d - 1=1:=fun e=>z (beq_iff_eq.mpr e)
 exact yx j l n i o (by lia) ((l5 0x1b3727401b411b372710) t (HR _ _)) g
theorem tX {B C:Nat} (j:IS st=H9) (l:bR a) (n:bR b) (g:dH a b out c d m) (i:∀r,OutH a b (m+1) r->Q r st):Kx (GO prog w) A E s (vt a b out c d f B C) Q st:=by
 have o:=g.la
 have p:=g.lb
 have u:=g.m
 have D:=g.s.la
 have F:=g.s.lb
 have q:d - 1<b.size:=by lia
 refine GP (aV q ?_);refine GP (di j (n _ q) l ((l2 1999064013840) (G7 o)) (by exact(l2 1859749244936) D) fun t v=>?_)
 dsimp only
 have y:=g.s.pak (t:=t) v
 refine aR (fun Z=>aR (fun Z=>GU (i _ (.res _ _ y.done))) fun z=>?_) fun Z=>rn j l n g.s o p u i
 replace z:¬t=0:=fun e=>z (beq_iff_eq.mpr e)
 exact rn j l n y (((l1 120267583512) (Ix z))) p ((l5 0x1b3727101b041b372714) u v) i
end
section
variable {prog:Il} {w:Hh} {A:Hf} {E:Gy->GA->Prop} {s:GA} {st:Hc} {a b out:Array G5} {l f m n k k0 k1:Nat}
noncomputable def wO (a b out:Array G5) (l f n d e:Nat):StateT Hc Kw H2:=
 Oj [:a.size+b.size] ((Gs,l,f,out,n,d,e):H2) fun x c=>
  if c.2.2.2.2.1>1 then do
   setMinGallop' (c.2.2.2.2.1 - 1)
   vt a b c.2.2.2.1 c.2.1 c.2.2.1 (c.2.2.2.2.1 - 1) c.2.2.2.2.2.1 c.2.2.2.2.2.2
  else do
   setMinGallop' c.2.2.2.2.1
   vt a b c.2.2.2.1 c.2.1 c.2.2.1 c.2.2.2.2.1 c.2.2.2.2.2.1 c.2.2.2.2.2.2
inductive EndH2 (a b:Array G5) (m:Nat):H2->Prop where
 |res (x:Array G5) (c) (h:x.Perm (a++b)):EndH2 a b m (Gq x,c)
 |out (out:Array G5) (l f:Nat) (c) (h:dH a b out l f m):EndH2 a b m (Gs,l,f,out,c)
theorem sJ {v z:Nat} {Q:H2->Hc->Prop} (B:IS st=H9) (C:bR a) (D:bR b) (g:dH a b out l f m) (q:∀c p,dE st p->EndH2 a b (m+1) c->Q c p):Kx (GO prog w) A E s (wO a b out l f n v z) Q st:=by
 refine HD (I:=fun y c p=>dE st p/\∃out l f d,c=(Gs,l,f,out,d)/\dH a b out l f (m+y)) ?step ?fin ⟨.refl _,_,_,_,_,rfl,g⟩
 case fin=>
  rintro c p ⟨S,out,l,f,d,rfl,t⟩
  exact q _ _ S (.out _ _ _ _ ⟨t.s,t.la,t.lb,by have F:=t.m;have G:=g.s.la;have H:=g.la;exact(l6 0x1b5181b251b732774101b47321b732771810) H G F (LX _ _)⟩)
 case step=>
  rintro y c p _ _ ⟨S,out,l,f,d,rfl,t⟩
  dsimp only
  split
  all_goals
   refine GP (fM fun u e=>tX ((S.trans e).kind.trans B) C D t fun r J=>?_)
   cases J with
   |res x c h=>exact q _ _ (S.trans e) (.res _ _ h)
   |out o i j c h=>exact q _ _ (S.trans e) (.out _ _ _ _ ⟨h.s,h.la,h.lb,by have K:=h.m;exact(l4 0x1b3771872101b3771810) K⟩)
   |on o i j c h=>exact⟨S.trans e,_,_,_,_,rfl,h⟩
noncomputable abbrev H1:=Option (Array G5)×Nat×Nat×Array G5×Nat×Nat
noncomputable def tU (a b out:Array G5) (l f n:Nat):StateT Hc Kw H1:=
 Oj [:a.size+b.size] ((Gs,l,f,out,0,0):H1) fun x c=>do
  let z<-JL b (c.2.2.1 - 1)
  let y<-JL a (c.2.1 - 1)
  let r<-lt' z y
  match r with
  |some d=>
   if d=Gu then do
    let z<-JL a (c.2.1 - 1)
    if(c.2.1 - 1==0)=Gu then HE (.done (Gq (a.extract 0 (c.2.1 - 1)++b.extract 0 c.2.2.1++(c.2.2.2.1.push z).reverse),c.2.1 - 1,c.2.2.1,c.2.2.2.1.push z,c.2.2.2.2.1+1,0))
    else if c.2.2.2.2.1+1>=n then HE (.done (Gs,c.2.1 - 1,c.2.2.1,c.2.2.2.1.push z,c.2.2.2.2.1+1,0))
    else HE (.yield (Gs,c.2.1 - 1,c.2.2.1,c.2.2.2.1.push z,c.2.2.2.2.1+1,0))
   else do
    let z<-JL b (c.2.2.1 - 1)
    if(c.2.2.1 - 1==1)=Gu then HE (.done (Gq (b.extract 0 (c.2.2.1 - 1)++a.extract 0 c.2.1++(c.2.2.2.1.push z).reverse),c.2.1,c.2.2.1 - 1,c.2.2.2.1.push z,0,c.2.2.2.2.2+1))
    else if c.2.2.2.2.2+1>=n then HE (.done (Gs,c.2.1,c.2.2.1 - 1,c.2.2.2.1.push z,0,c.2.2.2.2.2+1))
    else HE (.yield (Gs,c.2.1,c.2.2.1 - 1,c.2.2.2.1.push z,0,c.2.2.2.2.2+1))
  |x=>HE (.done (Gq (a.extract 0 c.2.1++b.extract 0 c.2.2.1++c.2.2.2.1.reverse),c.2.1,c.2.2.1,c.2.2.2.1,c.2.2.2.2.1,c.2.2.2.2.2))
inductive EndH1 (a b:Array G5) (m:Nat):H1->Prop where
 |res (x:Array G5) (c) (h:x.Perm (a++b)):EndH1 a b m (Gq x,c)
 |out (out:Array G5) (l f:Nat) (c) (h:dH a b out l f m):EndH1 a b m (Gs,l,f,out,c)
theorem sE {Q:H1->Hc->Prop} (B:IS st=H9) (F:bR a) (G:bR b) (g:dH a b out l f m) (i:∀c,EndH1 a b m c->Q c st):Kx (GO prog w) A E s (tU a b out l f n) Q st:=by
 revert f m n Q;delta prog w A E s st a b out l;delta f m n Q;refine HD (I:=fun y c o=>o=st/\∃out l f d,c=(Gs,l,f,out,d)/\dH a b out l f m) ?step ?fin ⟨rfl,_,_,_,_,rfl,g⟩
 case fin=>
  rintro c o ⟨rfl,out,l,f,d,rfl,j⟩
  exact i _ (.out _ _ _ _ j)
 case step=>
  rintro y c o _ _ ⟨rfl,out,l,f,d,rfl,j⟩
  revert out l f d;injections y o;intro _ _ B i out l f d j;delta out l f d;dsimp only
  have v:=j.la
  have C:=j.lb
  have D:=j.m
  have H:=j.s.la
  have J:=j.s.lb
  have t:l - 1<a.size:=(l3 0x1b121d271801c10) H (G7 v)
  have u:f - 1<b.size:=by lia
  refine GP (aV u (GP (aV t (GP (mV B (G _ u) (F _ t) fun r=>?_)))));delta r
  cases r with
  |true=>
   refine GP (aV t ?_)
   have p:=j.s.pa t v
   refine aR (fun Z=>GU (i _ (.res _ _ p.done))) fun z=>?_
   replace z:¬l - 1=0:=fun e=>z (beq_iff_eq.mpr e)
   have q:dH a b (out.push a[l - 1]) (l - 1) f m:=⟨p,((l1 120267583512) (Ix z)),C,(l5 0x1b3727141b401b372710) D (HR _ _)⟩
   exact aR (fun Z=>GU (i _ (.out _ _ _ _ q))) fun Z=>GU ⟨rfl,_,_,_,_,rfl,q⟩
  |false=>
   refine GP (aV u ?_)
   have p:=j.s.pb u ((l1 116006170648) C)
   refine aR (fun Z=>GU (i _ (.res _ _ p.last))) fun z=>?_
   replace z:¬f - 1=1:=fun e=>z (beq_iff_eq.mpr e)
   have q:dH a b (out.push b[f - 1]) l (f - 1) m:=⟨p,v,by lia,(l5 0x1b3727401b411b372710) D (HR _ _)⟩
   exact aR (fun Z=>GU (i _ (.out _ _ _ _ q))) fun Z=>GU ⟨rfl,_,_,_,_,rfl,q⟩
noncomputable abbrev H0:=Option (Array G5)×Nat×Nat×Array G5×Nat
noncomputable def hi3 (c:H2):StateT Hc Kw (ForInStep H0):=KR c.1 (fun Z=>do
 setMinGallop' (c.2.2.2.2.1+1)
 HE (.yield (Gs,c.2.1,c.2.2.1,c.2.2.2.1,c.2.2.2.2.1+1))) fun x=>HE (.done (Gq x,c.2.1,c.2.2.1,c.2.2.2.1,c.2.2.2.2.1))
noncomputable def hi2 (a b:Array G5) (n:Nat) (c:H1):StateT Hc Kw (ForInStep H0):=KR c.1 (fun Z=>do
 rule "list.sort.gallop"
 let d<-wO a b c.2.2.2.1 c.2.1 c.2.2.1 (n+1) c.2.2.2.2.1 c.2.2.2.2.2
 hi3 d) fun x=>HE (.done (Gq x,c.2.1,c.2.2.1,c.2.2.2.1,n))
noncomputable def hi1 (a b:Array G5) (c:H0):StateT Hc Kw (ForInStep H0):=do
 let d<-tU a b c.2.2.2.1 c.2.1 c.2.2.1 c.2.2.2.2
 hi2 a b c.2.2.2.2 d
noncomputable def F9 (a b:Array G5) (x:G5):StateT Hc Kw (Array G5):=do
 let st<-get
 let c<-Oj [:a.size+b.size] ((Gs,a.size - 1,b.size, #[x],gallopOf st):H0) fun Z c=>hi1 a b c
 KR c.1 (fun Z=>liftM (m:=Kw) (Ol "internal:list.sort.merge-bound")) HE
theorem pH (a b:Array G5):jU a b=(do
 rule "list.sort.merge-hi"
 let x<-JL a (a.size - 1)
 if(a.size - 1==0)=Gu then HE (a.extract 0 (a.size - 1)++b.extract 0 b.size++ #[x].reverse)
 else if(b.size==1)=Gu then HE (b.extract 0 b.size++a.extract 0 (a.size - 1)++ #[x].reverse)
 else F9 a b x):=rfl
inductive OutH1 (a b:Array G5) (m:Nat):ForInStep H0->Prop where
 |res (x:Array G5) (c) (h:x.Perm (a++b)):OutH1 a b m (.done (Gq x,c))
 |on (out:Array G5) (l f d:Nat) (h:dH a b out l f m):OutH1 a b m (.yield (Gs,l,f,out,d))
theorem Aq {c:H2} (h:EndH2 a b m c) {Q:ForInStep H0->Hc->Prop} (d:∀r e,dE st e->OutH1 a b m r->Q r e):Kx (GO prog w) A E s (hi3 c) Q st:=by
 cases h with
 |res x c h=>exact GU (d _ _ (.refl _) (.res _ _ h))
 |out o i j c h=>exact GP (fM fun g p=>GU (d _ _ p (.on _ _ _ _ h)))
theorem B1 (p:IS st=H9) (q:bR a) (t:bR b) {c:H1} (h:EndH1 a b m c) {Q:ForInStep H0->Hc->Prop} (d:∀r e,dE st e->OutH1 a b (m+1) r->Q r e):Kx (GO prog w) A E s (hi2 a b n c) Q st:=by
 cases h with
 |res x c h=>exact GU (d _ _ (.refl _) (.res _ _ h))
 |out o i j c h=>exact GP (Lo (KJ ⟨rfl,GP (sJ p q t h fun C u v y=>Aq y fun r g z B=>d r g (v.trans z) B)⟩))
theorem pJ (v:IS st=H9) (z:bR a) (B:bR b) (C:1<=a.size) (M:1<=b.size) {Q:Array G5->Hc->Prop} (t:∀x p,dE st p->x.Perm (a++b)->Q x p):Kx (GO prog w) A E s (jU a b) Q st:=by
 revert Q;delta prog w A E s st a b;delta Q;rw [pH]
 have q:a.size - 1<a.size:=Nat.sub_lt C Nat.one_pos
 have u:jt a b #[a[a.size - 1]] (a.size - 1) b.size:=(jt.mk (by rw [Im (by simp),Im (by simp)];simp) (GL _) (GL _):jt a b #[] a.size b.size).pa q C
 refine GP (Lo (KJ ⟨rfl,GP (aV q (aR (fun Z=>GU (t _ _ (.refl _) u.done)) fun D=>aR (fun Z=>GU (t _ _ (.refl _) u.last)) fun F=>GP (Ke (GP ?_))))⟩))
 replace D:¬a.size - 1=0:=fun e=>D (beq_iff_eq.mpr e)
 replace F:¬b.size=1:=fun e=>F (beq_iff_eq.mpr e)
 refine JW (HD (I:=fun y c p=>dE st p/\∃out l f d,c=(Gs,l,f,out,d)/\dH a b out l f y) (Q:=fun c p=>dE st p/\∃x d,c=(Gq x,d)/\x.Perm (a++b)) ?step ?fin ⟨.refl _,_,_,_,_,rfl,u,by lia,by lia,(l3 0x1c101b721708720) q⟩) ?_
 case fin=>
  rintro c p ⟨S,out,l,f,d,rfl,g⟩
  have N:=g.m
  have O:=g.la
  lia
 case step=>
  rintro y c p _ _ ⟨S,out,l,f,d,rfl,g⟩
  refine GP (sE (S.kind.trans v) z B g fun c H=>B1 (S.kind.trans v) z B H fun r J G K=>?_)
  cases K with
  |res x c h=>exact⟨S.trans G,_,_,rfl,h⟩
  |on o i j d h=>exact⟨S.trans G,_,_,_,_,rfl,h⟩
 ·rintro c p ⟨S,x,d,rfl,L⟩
  exact GU (t _ _ S L)
end
noncomputable def POK:List (Nat×Nat×Nat)->Nat->Nat->Prop
 |[],x,e=>x=e
 |r::l,x,e=>r.1=x/\1<=r.2.1/\POK l (x+r.2.1) e
theorem POK.le:∀ {l:List (Nat×Nat×Nat)} {x e:Nat},POK l x e->x<=e
 |[],x,e,h=>Kj h
 |r::l,x,e,h=>Gz (HK _ _) h.2.2.le
theorem POK.snoc {l:List (Nat×Nat×Nat)}:∀ {x e n p:Nat},POK l x e->1<=n->POK (l++[(e,n,p)]) x (e+n):=by
 induction l with
 |nil=>intro x e n p h b;cases h;exact⟨rfl,b,rfl⟩
 |cons r l c=>exact fun h b=>⟨h.1,h.2.1,c h.2.2 b⟩
theorem POK.join {l:List (Nat×Nat×Nat)}:∀ {x e i d b p f c q:Nat},POK l x e->l[i]? =Gq (d,b,p)->l[i+1]? =Gq (f,c,q)->POK ((l.set i (d,b+c,p)).eraseIdx (i+1)) x e/\f=d+b/\f+c<=e/\1<=b/\1<=c:=by
 induction l with
 |nil=>intro x e i d b p f c q h k m;cases k
 |cons r l s=>
  intro x e i d b p f c q h k m
  cases i with
  |zero=>
   cases l with
   |nil=>cases m
   |cons t l=>
    cases k;cases m;obtain⟨j,n,g,u,o⟩:=h
    have j:d=x:=j
    have g:f=x+b:=g
    have o:POK l (x+b+c) e:=o
    subst j;exact⟨⟨rfl,Gz n (HK _ _),by show POK l (d+(b+c)) e;rw [<-IZ];exact o⟩,g,by rw [g];exact o.le,n,u⟩
  |succ i=>
   obtain⟨j,n,g⟩:=h;obtain⟨v,y⟩:=s (i:=i) g k m;exact⟨⟨j,n,v⟩,y⟩
theorem POK.mod {l:List (Nat×Nat×Nat)}:∀ {x e i:Nat} {f:Nat×Nat×Nat->Nat×Nat×Nat},(∀r,(f r).1=r.1/\(f r).2.1=r.2.1)->POK l x e->POK (l.modify i f) x e:=by
 induction l with
 |nil=>intro x e i f b h;cases i<;>exact h
 |cons r l c=>
  intro x e i f b h
  cases i with
  |zero=>
   show POK (f r::l) x e
   refine⟨(b r).1.trans h.1,by rw [(b r).2];exact h.2.1,?_⟩
   rw [(b r).2];exact h.2.2
  |succ i=>exact⟨h.1,h.2.1,c b h.2.2⟩
theorem qC (i:Nat):mergeAt' i=(do
 let s<-get
 let (Gq (c,d,e),Gq (g,f,_)):=((HI s)[i]?,(HI s)[i+1]?) |unsupported "internal:list.sort.pending"
 set (Nf s (((HI s).setIfInBounds i (c,d+f,e)).eraseIdxIfInBounds (i+1)))
 let Gq k<-dJ Gw (<-JL (Ig s) g) (Ig s) c d 0|return Gw
 let (c,d):=(c+k,d - k)
 if d==0 then return Gu
 let Gq f<-dJ Gu (<-JL (Ig s) (c+d - 1)) (Ig s) g f (f - 1) |return Gw
 if f==0 then return Gu
 let x:=(Ig s).extract c g
 let y:=(Ig s).extract g (g+f)
 let b<-if d<=f then je x y else jU x y
 modify fun s=>setArr s (b.toList.zipIdx.foldl (fun a (p,j)=>a.setIfInBounds (c+j) p) (Ig s))
 return (Lb (<-get)).isNone):=rfl
theorem wj {b:Type} (xs:List b):∀(l:List b) (i n:Nat),i+n+xs.length<=l.length->(xs.zipIdx n).foldl (fun(a:List b) (p:b×Nat)=>a.set (i+p.2) p.1) l=l.take (i+n)++xs++l.drop (i+n+xs.length):=by
 induction xs with
 |nil=>
  intro l i n h;rw [GY];exact(K8 _ _).symm
 |cons x xs c=>
  intro l i n h
  have h:i+n+(xs.length+1)<=l.length:=h
  rw [List.zipIdx_cons,Jv,c _ i (n+1) (by rw [L9];exact(l4 0x1b3771827101b372771810) h)]
  show List.take (i+(n+1)) (l.set (i+n) x)++xs++List.drop (i+(n+1)+xs.length) (l.set (i+n) x)=_
  have d:List.take (i+(n+1)) (l.set (i+n) x)=l.take (i+n)++[x]:=by
   rw [<-IZ,Lz (by rw [L9];exact(l3 477699551271968) h),List.take_set_of_le (GL _),List.getElem_set_self]
  have e:List.drop (i+(n+1)+xs.length) (l.set (i+n) x)=l.drop (i+n+(x::xs).length):=by
   rw [List.drop_set_of_lt (by exact(l3 500447198643984))]
   congr 1
   show _=i+n+(xs.length+1)
   exact(l3 0x1d7718271072771810)
  rw [d,e,GK (l.take _) [x] xs];rfl
theorem yg (xs:List G5) (a:Array G5) (i:Nat) (h:i+xs.length<=a.size):(xs.zipIdx.foldl (fun(a:Array G5) (p:G5×Nat)=>a.setIfInBounds (i+p.2) p.1) a).toList=a.toList.take i++xs++a.toList.drop (i+xs.length):=by
 have c:∀(b:List (G5×Nat)) (a:Array G5),(b.foldl (fun(a:Array G5) (p:G5×Nat)=>a.setIfInBounds (i+p.2) p.1) a).toList=b.foldl (fun(a:List G5) (p:G5×Nat)=>a.set (i+p.2) p.1) a.toList:=fun b=>by
  induction b with
  |nil=>exact fun a=>rfl
  |cons p b d=>exact fun a=>by rw [Jv,d,Kk];rfl
 rw [c]
 have e:=wj xs a.toList i 0 (by simpa using h)
 exact e
section
variable {prog:Il} {w:Hh} {A:Hf} {E:Gy->GA->Prop} {s:GA} {st:Hc} {a₀:Array G5} {e:Nat}
theorem SW.ints (h:SW a₀ st) (b:LA a₀):bR (Ig st):=fun j d=>by
 have c:(Ig st)[j]∈a₀.toList:=(Hu.mp h.perm).mem_iff.mp (by simp)
 exact b _ c
theorem SW.size (h:SW a₀ st):(Ig st).size=a₀.size:=h.perm.size_eq
theorem bR.ext {a:Array G5} (h:bR a) (i j:Nat):bR (a.extract i j):=fun k b=>by
 rw [Array.getElem_extract];exact h _ _
theorem Dz {i j k:Nat} (h:i<=j) (h':j<=k):j - i+(k - j)=k - i:=(Ib _ _).trans (Nat.sub_add_sub_cancel h' h)
theorem SW.lay (h:SW a₀ st) {m:Array G5} {i j k:Nat} (c:i<=j) (b:j<=k) (d:k<=a₀.size) (g:m.Perm ((Ig st).extract i j++(Ig st).extract j k)):(m.toList.zipIdx.foldl (fun(a:Array G5) (p:G5×Nat)=>a.setIfInBounds (i+p.2) p.1) (Ig st)).Perm a₀:=by
 refine Array.Perm.trans ?_ h.perm;rw [Hu]
 have f:=h.size
 have l:m.toList.length=k - i:=by
  rw [(Hu.mp g).length_eq,HB,GC];simp only [Jo,Lk];rw [f,IX (Gz b d),IX d];exact Dz c b
 have n:=Jt (Gz c b)
 rw [yg _ _ _ (by rw [l,n,f];exact d),l,n]
 have o:(Ig st).toList=(Ig st).toList.take i++(((Ig st).extract i j).toList++((Ig st).extract j k).toList)++(Ig st).toList.drop k:=by
  have q:=eG (a:=Ig st) (i:=j) (t:=i) c ((l4 0x9d101b121b231b03) f d b)
  have r:=eG (a:=Ig st) (i:=k) (t:=j) b ((l3 0x9d101b121b02) f d)
  rw [<-GK, <-q, <-r,K8]
 refine .trans ?_ (.of_eq o.symm);refine List.Perm.append_right _ (Hm _ ?_)
 have:=Hu.mp g
 rwa [HB] at this
theorem f7 {i:Nat} {Q:Bool->Hc->Prop} (U:LA a₀) (h:SW a₀ st) (hp:POK (HI st).toList 0 e) (u:e<=a₀.size) (hi:i+1<(HI st).size) (g:∀b,SW a₀ b->POK (HI b).toList 0 e->Q Gu b):Kx (GO prog w) A E s (mergeAt' i) Q st:=by
 revert i Q;delta prog w A E s st a₀ e;delta i Q;rw [qC];refine GP (Ke ?_);obtain⟨⟨l,z,I⟩,M⟩:∃r,(HI st)[i]? =Gq r:=⟨_,Ko ((l2 1930344537104) hi)⟩;delta l z I;obtain⟨⟨d,J,V⟩,N⟩:∃r,(HI st)[i+1]? =Gq r:=⟨_,Ko hi⟩;delta d J V;obtain⟨W,o,v,X,G⟩:=POK.join hp (i:=i) (by rw [JM];exact M) (by rw [JM];exact N)
 rw [M,N];dsimp only
 have p:=h.ints U
 have B:=h.size
 generalize q:Nf st (((HI st).setIfInBounds i (l,z+J,I)).eraseIdxIfInBounds (i+1))=c;delta c
 have n:SW a₀ c:=by rw [<-q];exact⟨h.perm,h.kind,h.failed⟩
 have K:POK (HI c).toList 0 e:=by
  rw [<-q]
  show POK ((((HI st).setIfInBounds i (l,z+J,I)).eraseIdxIfInBounds (i+1)).toList) 0 e
  rw [Array.toList_eraseIdxIfInBounds,Kk];exact W
 have Y:Ig c=Ig st:=by rw [<-q]
 refine GP (show Kx _ _ _ _ (set c) _ st from Js (f:=fun Z=>c) ?_)
 have L:d<(Ig st).size:=(l6 0x1b100d321b07421b4189d151c52) u o v G B
 refine GP (aV L ?_);refine GP (di n.kind (p _ L) p ((l1 115989397512) X) ((l6 0x1b109d321b07420b4189d151b53) u o v G B) fun k hk=>?_);delta k;dsimp only;refine aR (fun Z=>GU (g _ n K)) fun C=>?_
 replace C:¬z - k=0:=fun e=>C (beq_iff_eq.mpr e)
 have O:l+k+(z - k) - 1<(Ig st).size:=((F8 0x1b66969d752861b96776861b76189d6611d57341b7473201c10) u o v G B (G7 (Ia (Lc C))) (HR _ _))
 refine GP (aV O ?_);refine GP (di n.kind (p _ O) p (by exact(l2 1999064013840) (G7 G)) ((l6 0x9d100d321b141b451b05) B o u v) fun t D=>?_)
 delta t;dsimp only;refine aR (fun Z=>GU (g _ n K)) fun H=>?_
 replace H:¬t=0:=fun e=>H (beq_iff_eq.mpr e)
 have F:∀(m:Array G5) (b:Hc),dE c b->m.Perm ((Ig st).extract (l+k) d++(Ig st).extract d (d+t))->Kx (GO prog w) A E s (do
   modify fun s=>setArr s (m.toList.zipIdx.foldl (fun a x=>a.setIfInBounds (l+k+x.2) x.1) (Ig s))
   return (Lb (<-get)).isNone) Q b:=fun m b S y=>by
  refine GP (Js (GP (Ke ?_)));rw [<-Y] at y
  have:=n.lay (i:=l+k) (j:=d) (k:=d+t) ((l4 0x9d72101b231b0731) o hk) (l2 1798400) ((l6 0x1b27100d301b421b151b4750) v o u D) y
  have P:Lb b=Gs:=S.failed.trans n.failed
  have r:Kx (GO prog w) A E s (HE Gu:StateT Hc Kw Bool) Q (setArr b (m.toList.zipIdx.foldl (fun a x=>a.setIfInBounds (l+k+x.2) x.1) (Ig b))):=GU (g _ ⟨by rw [S.arr];exact this,S.kind.trans n.kind,P⟩ (by show POK (HI b).toList 0 e;rw [S.pend];exact K))
  show Kx _ _ _ _ (HE (Lb b).isNone) _ _
  rw [P];exact r
 have R:((Ig st).extract (l+k) d).size=d - (l+k):=by rw [Lk,IX (Ia L)]
 have T:((Ig st).extract d (d+t)).size=t:=by
  have yk:d+t<=(Ig st).size:=((l6 0x1b451b57309d421b311b2710) u v B D)
  rw [Lk,IX yk,KQ]
 refine aR (fun Z=>?_) fun Z=>?_
 ·exact GP (pU n.kind (p.ext _ _) (p.ext _ _) (((l6 0x9d75319d201c541b7743211b018) o R (Lc C) (wY _ _))) (((l2 0x9d101c1081b018) T (Ix H))) fun m b S y=>F m b S y)
 ·exact GP (pJ n.kind (p.ext _ _) (p.ext _ _) (((l6 0x9d75319d201c541b7743211b018) o R (Lc C) (wY _ _))) (((l2 0x9d101c1081b018) T (Ix H))) fun m b S y=>F m b S y)
end
section
variable {prog:Il} {w:Hh} {A:Hf} {E:Gy->GA->Prop} {s:GA} {st:Hc} {a₀:Array G5} {e:Nat}
structure SP (a₀:Array G5) (e:Nat) (st:Hc):Prop where
 w:SW a₀ st
 p:POK (HI st).toList 0 e
theorem SP.setArr (h:SP a₀ e st) {xs:Array G5} (hp:xs.Perm (Ig st)):SP a₀ e (setArr st xs):=⟨⟨hp.trans h.w.perm,h.w.kind,h.w.failed⟩,h.p⟩
theorem fR {i j:Nat} {Q:Option Bool->Hc->Prop} (l:LA a₀) (h:SP a₀ e st) (hi:i<a₀.size) (m:j<a₀.size) (c:∀b,Q (Gq b) st):Kx (GO prog w) A E s (ltAt' i j) Q st:=by
 rw [ltAt'_eq]
 have d:=h.w.size
 have f:=h.w.ints l
 have g:i<(Ig st).size:=(l3 30857680264224) hi d
 have k:j<(Ig st).size:=(l3 30857680264224) m d
 refine GP (Ke ?_);exact GP (aV g (GP (aV k (mV h.w.kind (f _ g) (f _ k) c))))
theorem lV {i j:Nat} {Q:Unit->Hc->Prop} (h:SP a₀ e st) (b:∀c,SP a₀ e c->Q () c):Kx (GO prog w) A E s (KZ i j) Q st:=
 wpS_reverse (b _ (h.setArr (mirror_perm _ _ _ _)))
noncomputable def qA (lo n0 nrem:Nat):StateT Hc Kw (Option Nat):=do
 let mut n:=n0
 rule "list.sort.descending-run"
 n:=n+1
 let mut neq:=0
 for _ in [n:nrem] do
  let Gq smaller<-ltAt' (lo+n) (lo+n - 1) |return Gs
  if smaller then
   if neq>0 then KZ (lo+n - (neq+1)) (lo+n)
   neq:=0
  else
   let Gq larger<-ltAt' (lo+n - 1) (lo+n) |return Gs
   if larger then break
   neq:=neq+1
  n:=n+1
 if neq>0 then KZ (lo+n - (neq+1)) (lo+n)
 KZ lo (lo+n)
 for _ in [n:nrem] do
  let Gq smaller<-ltAt' (lo+n) (lo+n - 1) |return Gs
  if smaller then break
  n:=n+1
 return Gq n
noncomputable def uk (lo n0 nrem:Nat):StateT Hc Kw (Option Nat):=do
 let mut n:=n0
 KZ lo (lo+n)
 for _ in [n:nrem] do
  let Gq smaller<-ltAt' (lo+n) (lo+n - 1) |return Gs
  if smaller then break
  n:=n+1
 return Gq n
theorem oy {lo n f:Nat} {Q:Option Nat->Hc->Prop} (p:LA a₀) (h:SP a₀ e st) (l:lo+f<=a₀.size) (o:1<=n) (v:n<=f) (i:∀m d,SP a₀ e d->1<=m->m<=f->Q (Gq m) d):Kx (GO prog w) A E s (uk lo n f) Q st:=by
 refine GP (lV h fun j k=>?_);refine GP (HD (I:=fun x c d=>d=j/\c=(Gs,x)) (Q:=fun c d=>d=j/\∃m,c=(Gs,m)/\1<=m/\m<=f) ?step ?fin ⟨rfl,rfl⟩ |> fun q=>JW q ?_)
 case fin=>
  rintro c d ⟨rfl,rfl⟩
  exact⟨rfl,_,rfl,(l2 7619073073590296) o (OC _ _),by lia⟩
 case step=>
  rintro x c d r g ⟨rfl,rfl⟩
  dsimp only;refine GP (fR p k ((l4 0x1b27101c131c2730) l g) ((l5 0x1c431b17421b73201c10) g l (HR _ _)) fun b=>?_);cases b
  ·exact GU ⟨rfl,rfl⟩
  ·exact GU ⟨rfl,_,rfl,(l2 7601480903274776) o r,(l2 470817552) g⟩
 ·rintro c d ⟨rfl,m,rfl,t,u⟩
  exact GU (i _ _ k t u)
theorem lg {lo n d:Nat} {Q:Option Nat->Hc->Prop} (k:LA a₀) (h:SP a₀ e st) (j:lo+d<=a₀.size) (v:1<=n) (t:n<d) (i:∀m f,SP a₀ e f->1<=m->m<=d->Q (Gq m) f):Kx (GO prog w) A E s (qA lo n d) Q st:=by
 revert lo n d Q;delta prog w A E s st a₀ e;delta lo n d Q;refine GP (Lo (KJ ⟨rfl,?_⟩));dsimp only;refine GP (HD (I:=fun x c f=>SP a₀ e f/\∃q,c=(Gs,x,q)) (Q:=fun c f=>SP a₀ e f/\∃m q,c=(Gs,m,q)/\1<=m/\m<=d) ?step ?fin ⟨h,_,rfl⟩ |> fun q=>JW q ?_)
 case fin=>
  rintro c f ⟨S,q,rfl⟩
  exact⟨S,_,_,rfl,(l3 493825408741400) t (LX _ _),by lia⟩
 case step=>
  rintro x c f u g ⟨S,q,rfl⟩
  dsimp only;refine GP (fR k S ((l4 0x1b27101c131c2730) j g) ((l5 0x1b17421c431b73201c10) j g (HR _ _)) fun b=>?_);cases b
  ·refine GP (fR k S ((l5 0x1b17421c431b73201c10) j g (HR _ _)) ((l4 0x1b27101c131c2730) j g) fun b=>?_);cases b
   ·exact GU ⟨S,_,rfl⟩
   ·exact GU ⟨S,_,_,rfl,(l2 29717282533400) u,(l2 470817552) g⟩
  ·dsimp only;refine aR (fun Z=>?_) fun z=>absurd rfl z;refine aR (fun Z=>?_) fun Z=>?_
   ·exact GP (lV S fun l o=>GU ⟨o,_,rfl⟩)
   ·exact GU ⟨S,_,rfl⟩
 ·rintro c f ⟨S,m,q,rfl,p,r⟩
  dsimp only;refine aR (fun Z=>?_) fun Z=>?_
  ·exact GP (lV S fun l o=>show Kx _ _ _ _ (uk lo m d) _ _ from oy k o j p r i)
  ·exact show Kx _ _ _ _ (uk lo m d) _ _ from oy k S j p r i
theorem nV {lo d:Nat} {Q:Option Nat->Hc->Prop} (k:LA a₀) (h:SP a₀ e st) (j:lo+d<=a₀.size) (o:1<=d) (g:∀m f,SP a₀ e f->1<=m->m<=d->Q (Gq m) f):Kx (GO prog w) A E s (countRun' lo d) Q st:=by
 revert lo d Q;delta prog w A E s st a₀ e;delta lo d Q;rw [countRun'_eq];dsimp only;refine GP (HD (β:=Option (Option Nat)×Nat) (I:=fun x c f=>f=st/\c=(Gs,x)) (Q:=fun c f=>f=st/\∃m,c=(Gs,m)/\1<=m/\m<=d) ?step ?fin ⟨rfl,rfl⟩ |> fun q=>JW q ?_)
 case fin=>
  rintro c f ⟨rfl,rfl⟩
  exact⟨rfl,_,rfl,(l1 115989393432) (OC _ _),by lia⟩
 case step=>
  rintro x c f p i ⟨rfl,rfl⟩
  dsimp only;refine GP (fR k h ((l4 0x1b27101c131c2730) j i) ((l5 0x1c431b17421b73201c10) i j (HR _ _)) fun b=>?_);cases b
  ·exact GU ⟨rfl,rfl⟩
  ·exact GU ⟨rfl,_,rfl,(l1 115989393432) p,(l2 470817552) i⟩
 ·rintro c f ⟨rfl,m,rfl,l,n⟩
  revert m;delta f;delta m;dsimp only;refine aR (fun Z=>GU (g _ _ h l n)) fun z=>?_
  replace z:¬m=d:=fun e=>z (beq_iff_eq.mpr e)
  refine aR (fun Z=>?_) fun Z=>show Kx _ _ _ _ (qA lo m d) _ _ from lg k h j l (by lia) g
  refine GP (fR k h ((l3 0x1b0181b27011c21) o j) (((l5 0x1b17341b72401c321c10) j (HR _ _) (H5 n z))) fun b=>?_);cases b
  ·exact GP (lV h fun r t=>show Kx _ _ _ _ (qA lo m d) _ _ from lg k t j l (((l2 470817808) (H5 n z))) g)
  ·exact GU (g _ _ h l n)
theorem td {lo n j:Nat} {Q:Bool->Hc->Prop} (m:LA a₀) (h:SP a₀ e st) (o:lo+n<=a₀.size) (g:∀d,SP a₀ e d->Q Gu d):Kx (GO prog w) A E s (binarySort' lo n j) Q st:=by
 rw [binarySort'_eq];refine GP (HD (I:=fun Z c d=>c=(Gs,())/\SP a₀ e d) (Q:=fun c d=>c=(Gs,())/\SP a₀ e d) ?step (fun Z Z q=>q) ⟨rfl,h⟩ |> fun q=>JW q ?_)
 case step=>
  rintro k c d t i ⟨rfl,S⟩
  dsimp only;refine GP (HD (I:=fun Z c f=>f=d/\∃l r,c=(Gs,l,r)/\r<=k) (Q:=fun c f=>f=d/\∃l r,c=(Gs,l,r)) ?istep ?ifin ⟨rfl,0,k,rfl,GL _⟩ |> fun q=>JW q ?_)
  case ifin=>
   rintro c f ⟨rfl,l,r,rfl,_⟩
   exact⟨rfl,l,r,rfl⟩
  case istep=>
   rintro x c f _ _ ⟨rfl,l,r,rfl,p⟩
   dsimp only;refine aR (fun Z=>GU ⟨rfl,_,_,rfl⟩) fun z=>?_;refine GP (fR m S ((l4 0x1b27101c131c2730) o i) (by lia) fun b=>?_)
   cases b
   ·exact GU ⟨rfl,_,_,rfl,p⟩
   ·exact GU ⟨rfl,_,_,rfl,by lia⟩
  ·rintro c f ⟨rfl,l,r,rfl⟩
   show Kx _ _ _ _ (do moveDown' (lo+k) (lo+l);HE (ForInStep.yield (Gs,()))) _ _
   rw [moveDown'_eq];exact GP (Js (GU ⟨rfl,S.setArr (bubble_perm _ _ _)⟩))
 ·rintro c d ⟨rfl,S⟩
  exact GU (g _ S)
end
section
variable {prog:Il} {w:Hh} {A:Hf} {E:Gy->GA->Prop} {s:GA} {st:Hc} {a₀:Array G5} {e:Nat}
theorem SP.push {lo n:Nat} (h:SP a₀ lo st) (b:1<=n):SP a₀ (lo+n) (Nf st ((HI st).push (lo,n,0))):=
 ⟨⟨h.w.perm,h.w.kind,h.w.failed⟩,by show POK ((HI st).push (lo,n,0)).toList 0 (lo+n);rw [IC];exact h.p.snoc b⟩
theorem SP.mod {f:Nat×Nat×Nat->Nat×Nat×Nat} {i:Nat} (h:SP a₀ e st) (b:∀r,(f r).1=r.1/\(f r).2.1=r.2.1):SP a₀ e (Nf st ((HI st).modify i f)):=
 ⟨⟨h.w.perm,h.w.kind,h.w.failed⟩,by show POK ((HI st).modify i f).toList 0 e;rw [Array.toList_modify];exact h.p.mod b⟩
theorem AM {c:Prop} [Decidable c] {a b:Nat} (h:a<=b):(if c then a else b)<=b:=by
 by_cases q:c
 ·rw [if_pos q];exact h
 ·rw [if_neg q];exact GL _
set_option tactic.hygienic true in
theorem oJ {Q:Unit->Hc->Prop} (G:LA a₀) (h:SP a₀ 0 st) (post:∀b,SW a₀ b->Q () b):Kx (GO prog w) A E s sortRuns' Q st:=by
 revert Q;delta prog w A E s st a₀;delta Q;rw [sortRuns'_eq];refine GP (Ke ?_);dsimp only;simp only [h.w.size];refine GP (JW (HD (I:=fun x c b=>∃d,c=(Gs,d)/\d<=a₀.size/\SP a₀ d b) (Q:=fun c b=>∃d,c=(Gs,d)/\d<=a₀.size/\SP a₀ d b) ?step (fun Z Z q=>q) ⟨0,rfl,G4 _,h⟩) ?post)
 case step=>
  rintro x c b _ _ ⟨d,rfl,g,S⟩
  revert d;delta x b;delta d;dsimp only;refine aR (fun Z=>GU ⟨d,rfl,g,S⟩) fun z=>?_;refine GP (nV G S ((l3 32053359486736) (G7 (Om z))) ((l3 0x1e211b72011b018) z (wY _ _)) fun n L M D F=>?_);delta n L;dsimp only;refine aR (fun R=>?_) fun Z=>?_
  ·refine GP (Lo (KJ ⟨rfl,?_⟩));generalize H:O1 (a₀.size - d) (minRun' a₀.size a₀.size 0)=m;delta m;refine GP (td G M (((l5 0x9d131d27041b431b2710) H (G7 (Ia (KF (Gz D F)))) (K9 _ _))) fun f N=>?_);delta f;refine aR (fun h=>nomatch h) fun Z=>?_
   have O:1<=m:=by lia
   have P:d+m<=a₀.size:=((l5 0x9d131d27041b431b2710) H (G7 (Ia (KF (Gz D F)))) (K9 _ _))
   refine GP (Ke ?_)
   split
   ·rename_i i j k _;delta i j k;refine GP (JW (HD (I:=fun Z c b=>c=(Gs,())/\SP a₀ d b) (Q:=fun c b=>c=(Gs,())/\SP a₀ d b) ?step (fun Z Z q=>q) ⟨rfl,N⟩) ?_)
    case step=>
     rintro x c b _ _ ⟨rfl,S⟩
     injections x b;intro _ _ S;refine GP (Ke ?_)
     split
     ·rename_i q;rename_i l o p;delta l o p;refine aR (fun Z=>GU ⟨rfl,S⟩) fun Z=>?_
      have z:(HI b).size>1:=by
       by_cases z:(HI b).size>1
       ·exact z
       ·rw [if_neg z] at q;cases q
      exact GP (f7 G S.w S.p (by lia) ((l2 8188234920194432) (G7 z)) fun f J K=>GU ⟨rfl,J,K⟩)
     ·exact GU ⟨rfl,S⟩
    ·rintro c b ⟨rfl,S⟩
     refine GP (Js (GP (Js (GU ⟨d+m,rfl,(l2 454040336) P,SP.push (SP.mod S ?_) O⟩))));exact fun r=>⟨rfl,rfl⟩
   ·exact GP (Js (GU ⟨d+m,rfl,(l2 454040336) P,SP.push N O⟩))
  ·refine GP (Ke ?_)
   split
   ·rename_i t u v _;delta t u v;refine GP (JW (HD (I:=fun Z c b=>c=(Gs,())/\SP a₀ d b) (Q:=fun c b=>c=(Gs,())/\SP a₀ d b) ?step (fun Z Z q=>q) ⟨rfl,M⟩) ?_)
    case step=>
     rintro x c b _ _ ⟨rfl,S⟩
     injections x b;intro _ _ S;refine GP (Ke ?_)
     split
     ·rename_i q;rename_i y B C;delta y B C;refine aR (fun Z=>GU ⟨rfl,S⟩) fun Z=>?_
      have z:(HI b).size>1:=by
       by_cases z:(HI b).size>1
       ·exact z
       ·rw [if_neg z] at q;cases q
      exact GP (f7 G S.w S.p (by lia) ((l2 8188234920194432) (G7 z)) fun f J K=>GU ⟨rfl,J,K⟩)
     ·exact GU ⟨rfl,S⟩
    ·rintro c b ⟨rfl,S⟩
     refine GP (Js (GP (Js (GU ⟨d+n,rfl,((l4 0x1b311d27031b2710) F (G7 (Ia (KF (Gz D F))))),SP.push (SP.mod S ?_) D⟩))));exact fun r=>⟨rfl,rfl⟩
   ·exact GP (Js (GU ⟨d+n,rfl,((l4 0x1b311d27031b2710) F (G7 (Ia (KF (Gz D F))))),SP.push M D⟩))
 case post=>
  rintro c b ⟨d,rfl,g,S⟩
  delta b d;dsimp only;refine GP (JW (HD (I:=fun Z c b=>c=(Gs,())/\SP a₀ d b) (Q:=fun c b=>c=(Gs,())/\SP a₀ d b) ?step2 (fun Z Z q=>q) ⟨rfl,S⟩) ?_)
  case step2=>
   rintro x c b _ _ ⟨rfl,S⟩
   refine GP (Ke ?_);refine aR (fun Z=>GU ⟨rfl,S⟩) fun z=>?_;refine GP (f7 G S.w S.p g ?_ fun f J K=>GU ⟨rfl,J,K⟩);exact IT (Hn (AM (HR _ 1))) (by lia)
  ·rintro c b ⟨rfl,S⟩
   exact GU (post _ S.w)
end
set_option genCtorIdx true in
inductive V where
 |none
 |bool (b:Bool)
 |int (i:Int)
 |str (k:Nat)
 |tup (vs:List V)
 |lst (vs:List V)
 |obj (c:GS) (ks:List Nat) (vs:List V)
 |dic (ks:List Int) (vs:List V)
 |ref (a:Nat)
 deriving Inhabited
set_option genCtorIdx true in
inductive Cell where
 |dead
 |list (vs:List V)
 |dict (kvs:List (Int×V))
 |inst (c:GS) (as:List (Nat×V))
structure Sg where
 n:Nat
 cell:Nat->Cell
noncomputable def Sg.set (σ:Sg) (a:Nat) (c:Cell):Sg:=⟨σ.n,fun x=>if x=a then c else σ.cell x⟩
noncomputable def Sg.alloc (σ:Sg) (c:Cell):Sg:=⟨σ.n+1,fun x=>if x=σ.n then c else σ.cell x⟩
@[simp] theorem Sg.alloc_n (σ:Sg) (c:Cell):(σ.alloc c).n=σ.n+1:=rfl
theorem Sg.set_cell (σ:Sg) (a x:Nat) (c:Cell):(σ.set a c).cell x=if x=a then c else σ.cell x:=rfl
theorem Sg.alloc_cell (σ:Sg) (x:Nat) (c:Cell):(σ.alloc c).cell x=if x=σ.n then c else σ.cell x:=rfl
noncomputable def DG:List String:=["most","moves","hops","tags","first","nfa","kept","count","classes","masks","follows","spans","bounds","numbers","rows","charset","left","right","body","low","high","name",
 "cat","alt","star","plus","opt","repeat","chars","empty","never","a","b",
 "add_state","add_move","add_hop","set_first","set_tag","state_count","closure_of","begin","ways","after","read","place","join","row","choice","loop","copies","mask","told","of","made","__init__"]
noncomputable def nm (k:Nat):Hb:=Ho (DG.getD k "?")
noncomputable def PairsI:List IH->List (Int×Gy)->Prop
 |[],kvs=>kvs=[]
 |e::c,kvs=>∃b r,kvs=b::r/\HY b.1 e.key=Gu/\e.val=b.2/\PairsI c r
inductive iL (o:JH) (kvs:List (Int×Gy)):Prop where
 |mk (es:Array IH) (ep:Nat) (x:o.ExactDict) (d:o.data=.dict es ep) (k:∀e∈es,∃k,HY k e.key=Gu/\e.hash=hashInt k) (p:PairsI es.toList kvs) (n:(kvs.map (·.1)).Nodup)
theorem ki {prog:Il} {w:Hh} {d:List IH}:∀ {kvs:List (Int×Gy)},PairsI d kvs↔PySem.Pairs (Ji prog w) d kvs:=by
 induction d with
 |nil=>exact fun{kvs}=>⟨fun(h:kvs=[])=>h▸.nil,fun h=>by cases h;rfl⟩
 |cons e d f=>
  refine fun{kvs}=>⟨fun h=>?_,fun h=>?_⟩
  ·obtain⟨k,r,rfl,g,i,j⟩:=h;exact .cons g i (f.mp j)
  ·cases h with
   |cons a b c=>exact⟨_,_,rfl,a,b,f.mpr c⟩
theorem bw {prog:Il} {w:Hh} {h:HV} {a:GS} {kvs:List (Int×Gy)}:h.DictOf (Ji prog w) a kvs↔∃o,h.get? a=Gq o/\iL o kvs:=by
 refine⟨fun h=>?_,fun h=>?_⟩
 ·obtain⟨o,b,c,q⟩:=h;obtain⟨e,x,d,k,p,n⟩:=q;exact⟨o,e,.mk b c x d k (ki.mpr p) n⟩
 ·obtain⟨o,e,q⟩:=h;obtain⟨b,c,x,d,k,p,n⟩:=q;exact⟨o,b,c,e,x,d,k,ki.mp p,n⟩
structure Gh where
 N:Nat
 φ:Nat->GS
 δ:Nat->GS
 Z:GS->Option JH
noncomputable def EKeys:List Nat->List IH->Prop
 |[],b=>b=[]
 |k::ks,b=>∃e r,b=e::r/\(k<55/\∃t,e.key=.str (nm k) t)/\EKeys ks r
mutual
noncomputable def VRep (G:Gh):V->Gy->Prop
 |.none,v=>v=.none
 |.bool b,v=>v=.bool b
 |.int i,v=>∃t,v=.int i t
 |.str k,v=>∃t,v=.str (nm k) t
 |.tup vs,v=>∃a items n,v=.ref a/\G.Z a=Gq {cls:=.type "tuple",data:=.seq items n}/\VReps G vs items.toList
 |.lst vs,v=>∃a items n,v=.ref a/\G.Z a=Gq {cls:=.type "list",data:=.seq items n}/\VReps G vs items.toList
 |.obj c ks vs,v=>∃a d es n,v=.ref a/\G.Z a=Gq (JX c d)/\G.Z d=Gq (Ng es n)/\EKeys ks es/\VReps G vs (es.map (·.val))
 |.dic ks vs,v=>∃a kvs,v=.ref a/\(∃o,G.Z a=Gq o/\iL o kvs)/\kvs.map (·.1)=ks/\VReps G vs (kvs.map (·.2))
 |.ref i,v=>i<G.N/\v=.ref (G.φ i)
noncomputable def VReps (G:Gh):List V->List Gy->Prop
 |[],l=>l=[]
 |x::xs,l=>∃y ys,l=y::ys/\VRep G x y/\VReps G xs ys
end
structure Gh.Le (G G':Gh):Prop where
 N:G.N<=G'.N
 φ:∀i,i<G.N->G'.φ i=G.φ i/\G'.δ i=G.δ i
 Z:∀a o,G.Z a=Gq o->G'.Z a=Gq o
theorem Gh.Le.refl (G:Gh):G.Le G:=⟨GL _,fun Z Z=>⟨rfl,rfl⟩,fun Z Z e=>e⟩
theorem Gh.Le.trans {G d b:Gh} (x:G.Le d) (y:d.Le b):G.Le b:=
 ⟨Gz x.N y.N,fun i c=>⟨(y.φ i (GN c x.N)).1.trans (x.φ i c).1,(y.φ i (GN c x.N)).2.trans (x.φ i c).2⟩,fun a o e=>y.Z a o (x.Z a o e)⟩
set_option tactic.hygienic true in
theorem VRep.mono {G p:Gh} (l:G.Le p) {x:V}:∀ {v:Gy},VRep G x v->VRep p x v:=by
 induction x using V.rec (motive_2:=fun q=>∀ {m:List Gy},VReps G q m->VReps p q m) with
 |none=>exact fun h=>h
 |bool _=>exact fun h=>h
 |int _=>exact fun h=>h
 |str _=>exact fun h=>h
 |tup m g=>
  intro _ h;obtain⟨a,f,n,e,z,r⟩:=h;exact⟨a,f,n,e,l.Z _ _ z,g r⟩
 |lst m g=>
  intro _ h;obtain⟨a,f,n,e,z,r⟩:=h;exact⟨a,f,n,e,l.Z _ _ z,g r⟩
 |obj c t m g=>
  intro _ h;obtain⟨a,d,u,n,e,z,A,k,r⟩:=h;exact⟨a,d,u,n,e,l.Z _ _ z,l.Z _ _ A,k,g r⟩
 |dic t m g=>
  intro _ h;obtain⟨a,s,e,⟨o,z,d⟩,k,r⟩:=h;exact⟨a,s,e,⟨o,l.Z _ _ z,d⟩,k,g r⟩
 |ref i=>exact fun h=>⟨GN h.1 l.N,h.2.trans (by rw [(l.φ i h.1).1])⟩
 |nil=>assumption
 |cons x q i j=>
  rename_i h;obtain⟨y,B,e,a,b⟩:=h;exact⟨y,B,e,i a,j b⟩
theorem VReps.mono {G c:Gh} (l:G.Le c) {xs:List V}:∀ {vs:List Gy},VReps G xs vs->VReps c xs vs:=by
 induction xs with
 |nil=>exact fun h=>h
 |cons x xs d=>
  intro _ h;obtain⟨y,f,e,a,b⟩:=h;exact⟨y,f,e,VRep.mono l a,d b⟩
theorem VReps.nil {G:Gh}:VReps G [] []:=by rfl
theorem VReps.cons {G:Gh} {x:V} {v:Gy} {xs:List V} {vs:List Gy} (a:VRep G x v) (b:VReps G xs vs):VReps G (x::xs) (v::vs):=by exact⟨_,_,rfl,a,b⟩
theorem VReps.length {G:Gh} {xs:List V}:∀ {vs:List Gy},VReps G xs vs->vs.length=xs.length:=by
 induction xs with
 |nil=>intro _ h;cases h;rfl
 |cons x xs c=>
  intro _ h;obtain⟨y,d,e,a,b⟩:=h;rw [e];exact congrArg Nat.succ (c b)
theorem VReps.get {G:Gh} {xs:List V}:∀ {vs:List Gy} {i:Nat} {x:V},VReps G xs vs->xs[i]? =Gq x->∃v,vs[i]? =Gq v/\VRep G x v:=by
 induction xs with
 |nil=>
  intro _ _ _ _ e;simp at e
 |cons x xs c=>
  intro _ i y h e;obtain⟨v,f,d,a,b⟩:=h;subst d
  cases i with
  |zero=>simp at e;subst e;exact⟨v,by simp,a⟩
  |succ i=>
   have:=c (i:=i) b (by simpa using e)
   simpa using this
theorem VReps.append {G:Gh} {xs:List V}:∀ {c:List V} {vs d:List Gy},VReps G xs vs->VReps G c d->VReps G (xs++c) (vs++d):=by
 induction xs with
 |nil=>
  intro _ _ _ h k;subst h;exact k
 |cons x xs e=>
  intro _ _ _ h k;obtain⟨v,f,g,a,b⟩:=h;subst g;exact .cons a (e b k)
theorem VReps.take {G:Gh} (n:Nat) {xs:List V}:∀ {vs:List Gy},VReps G xs vs->VReps G (xs.take n) (vs.take n):=by
 induction xs generalizing n with
 |nil=>intro _ h;cases h;cases n<;>exact .nil
 |cons x xs c=>
  intro _ h;obtain⟨v,d,e,a,b⟩:=h;subst e
  cases n with
  |zero=>exact .nil
  |succ n=>exact .cons a (c n b)
theorem VReps.drop {G:Gh} (n:Nat) {xs:List V}:∀ {vs:List Gy},VReps G xs vs->VReps G (xs.drop n) (vs.drop n):=by
 induction xs generalizing n with
 |nil=>intro _ h;cases h;cases n<;>exact .nil
 |cons x xs c=>
  intro _ h
  cases n with
  |zero=>exact h
  |succ n=>
   obtain⟨v,d,e,a,b⟩:=h;subst e;exact c n b
theorem VReps.set {G:Gh} {y:V} {u:Gy} (c:VRep G y u) (n:Nat) {xs:List V}:∀ {vs:List Gy},VReps G xs vs->VReps G (xs.set n y) (vs.set n u):=by
 induction xs generalizing n with
 |nil=>intro _ h;cases h;exact .nil
 |cons x xs d=>
  intro _ h;obtain⟨v,e,f,a,b⟩:=h;subst f
  cases n with
  |zero=>exact .cons c b
  |succ n=>exact .cons a (d n b)
theorem VReps.reverse {G:Gh} {xs:List V}:∀ {vs:List Gy},VReps G xs vs->VReps G xs.reverse vs.reverse:=by
 induction xs with
 |nil=>
  intro _ h;subst h;exact .nil
 |cons x xs c=>
  intro _ h;obtain⟨v,d,e,a,b⟩:=h;subst e;rw [I2,I2];exact VReps.append (c b) (.cons a .nil)
noncomputable def ARep (G:Gh):List (Nat×V)->List IH->Prop
 |[],c=>c=[]
 |d::r,c=>∃e b,c=e::b/\(d.1<55/\∃t,e.key=.str (nm d.1) t)/\VRep G d.2 e.val/\ARep G r b
noncomputable def DRep (G:Gh):List (Int×V)->List (Int×Gy)->Prop
 |[],l=>l=[]
 |b::r,l=>∃y c,l=y::c/\y.1=b.1/\VRep G b.2 y.2/\DRep G r c
theorem ARep.mono {G j:Gh} (l:G.Le j) {f:List (Nat×V)}:∀ {g:List IH},ARep G f g->ARep j f g:=by
 induction f with
 |nil=>exact fun h=>h
 |cons x f k=>
  intro g h;obtain⟨e,i,a,b,c,d⟩:=h;exact⟨e,i,a,b,c.mono l,k d⟩
theorem DRep.mono {G j:Gh} (l:G.Le j) {f:List (Int×V)}:∀ {g:List (Int×Gy)},DRep G f g->DRep j f g:=by
 induction f with
 |nil=>exact fun h=>h
 |cons x f k=>
  intro g h;obtain⟨e,i,a,b,c,d⟩:=h;exact⟨e,i,a,b,c.mono l,k d⟩
noncomputable def io (G:Gh) (h:HV) (i:Nat):Cell->Prop
 |.dead=>True
 |.list vs=>∃items n,h.get? (G.φ i)=Gq (HM items n)/\VReps G vs items.toList
 |.dict kvs=>∃b,(∃o,h.get? (G.φ i)=Gq o/\iL o b)/\DRep G kvs b
 |.inst c e=>h.get? (G.φ i)=Gq (JX c (G.δ i))/\∃d n,h.get? (G.δ i)=Gq (Ng d n)/\ARep G e d
def aT (σ:Sg) (i:Nat):Prop:=i<σ.n/\σ.cell i≠.dead
structure ff (base:HV) (Fs:List J2) (Pv:List GS) (G:Gh) (σ:Sg) (h:HV):Prop where
 N:G.N=σ.n
 stays:base.StaysIn h
 frames:h.FunFrames base Fs
 cells:∀i,aT σ i->io G h i (σ.cell i)
 live:∀i,aT σ i->(∃o,h.get? (G.φ i)=Gq o)/\∃o,h.get? (G.δ i)=Gq o
 fresh:∀i,aT σ i->∀b,b=G.φ i\/b=G.δ i->base.get? b=Gs/\G.Z b=Gs/\b∉Pv
 inj:∀i j,aT σ i->aT σ j->i≠j->∀b,b=G.φ i\/b=G.δ i->b≠G.φ j/\b≠G.δ j
 froz:∀a o,G.Z a=Gq o->h.get? a=Gq o
 pv:∀b∈Pv,(∃o,h.get? b=Gq o)/\base.get? b=Gs/\G.Z b=Gs
 fpv:∀env∈Fs,∀L,env.frame=Gq L->L∈Pv
 sys:(∃o,base.get? KL=Gq o)/\G.Z KL=Gs
structure gf (Fs:List J2) (G:Gh) (σ:Sg) (h:HV) (G':Gh) (σ':Sg) (h':HV):Prop where
 le:G.Le G'
 keep:∀b o,h.get? b=Gq o->(∀i,aT σ i->b≠G.φ i/\b≠G.δ i)->∃o',h'.get? b=Gq o'/\(o'=o\/(b∈Fs.filterMap (·.frame)/\∃sl,o'={o with slots:=sl}))
 there:∀b,(∃o,h.get? b=Gq o)->∃o,h'.get? b=Gq o
 newφ:∀i,G.N<=i->aT σ' i->h.get? (G'.φ i)=Gs/\h.get? (G'.δ i)=Gs
 newZ:∀a o,G'.Z a=Gq o->G.Z a=Gq o\/h.get? a=Gs\/∃i,aT σ i/\(a=G.φ i\/a=G.δ i)
 dead:∀i,i<G.N->aT σ' i->aT σ i
theorem Ga {h:HV} {a:GS} {o:JH} (e:h.get? a=Gq o): @LT.lt Nat instLTNat a h.objs.size:=Hy e
theorem jQ {h h':HV} {a:GS} {m:Hb->Option Gy} (x:h.Ns a m) (k:∀o,h.get? a=Gq o->∃b,h'.get? a=Gq b/\b.data=o.data):h'.Ns a m:=by
 obtain⟨o,e,f,g,i,r⟩:=x;obtain⟨b,c,d⟩:=k o g;exact⟨b,e,f,c,d.trans i,r⟩
theorem dS {h h' base:HV} {l:List J2}:h.FunFrames base l->(∀env∈l,∀L,env.frame=Gq L->∀o,h.get? L=Gq o->(∀vs,o.data≠.fields vs)->∃b,h'.get? L=Gq b/\∀vs,b.data≠.fields vs)->h'.FunFrames base l:=by
 induction l with
 |nil=>
  intro _ _;exact trivial
 |cons env _ i=>
  intro c k;obtain⟨j,⟨L,o,g,m,n,p⟩,q⟩:=c;obtain⟨b,d,f⟩:=k env (.head _) L g o n p;exact⟨j,⟨L,b,g,m,d,f⟩,i q fun e r=>k e (.tail _ r)⟩
theorem dh {h h' base:HV} {l:List J2} (x:h.FunFrames base l) (k:∀env∈l,∀L,env.frame=Gq L->∀o,h.get? L=Gq o->∃b,h'.get? L=Gq b/\b.data=o.data):h'.FunFrames base l:=
 dS x fun env f L g o e i=>by
  obtain⟨b,c,d⟩:=k env f L g o e;exact⟨b,c,fun j e=>i j (d▸e)⟩
structure Cx where
 base:HV
 Fs:List J2
 env:J2
 Pv:List GS
 pins:List (GS×JH)
 G₀:Gh
 σ₀:Sg
 s₀:GA
 comp:Bool
def fZ (env:J2) (G:Gh) (h:HV) (m:Hb->Option Gy) (x:Hb×G2) (v:V):Prop:=
 (x.2=.local/\∃u,m x.1=Gq u/\VRep G v u)\/((x.2=.cell\/x.2=.free)/\∃a u,env.cells.lookup x.1=Gq a/\h.IsCell a (Gq u)/\VRep G v u)
def pY (env:J2) (ρ:List (Option V)) (G:Gh) (h:HV):Prop:=
 ∃m,h.Ns env.locals m/\(∀(k:Nat) x v,env.scope.names[k]? =Gq x->ρ[k]? =Gq (Gq v)->fZ env G h m x v)/\∀x,(x,Jj)∈env.scope.names->∃a b,env.cells.lookup x=Gq a/\h.IsCell a b
structure aI (c:Cx):Prop where
 kind:c.env.scope.kind=.function
 nodup:(c.env.scope.names.map (·.1)).Nodup
 locPv:c.env.locals∈c.Pv
 locNew:c.s₀.heap.get? c.env.locals=Gs
 baseLe:c.base.objs.size<=c.env.locals
 cellPv:∀x a,c.env.cells.lookup x=Gq a->a∈c.Pv/\a≠c.env.locals
 cellNew:c.comp=Gw->∀x a,(x,Jj)∈c.env.scope.names->c.env.cells.lookup x=Gq a->c.s₀.heap.get? a=Gs
 cellInj:∀x y a b,c.env.cells.lookup x=Gq a->c.env.cells.lookup y=Gq b->x≠y->a≠b
 pins:∀p∈c.pins,p.1∈c.Pv/\p.1≠c.env.locals/\p.1∉c.Fs.filterMap (·.frame)/\∀x a,c.env.cells.lookup x=Gq a->p.1≠a
 glob:c.env.globals=Iz
 bi:c.env.builtins=KM
 frame:∃e r L,c.Fs=e::r/\e.frame=Gq L/\c.env.frame=Gq L
 fpv:∀env∈c.Fs,∀L,env.frame=Gq L->L∈c.Pv
section
structure At (c:Cx) (ρ:List (Option V)) (G:Gh) (σ:Sg) (s:GA):Prop where
 inv:ff c.base c.Fs c.Pv G σ s.heap
 envr:pY c.env ρ G s.heap
 adv:gf c.Fs c.G₀ c.σ₀ c.s₀.heap G σ s.heap
 gens:s.gens=c.s₀.gens
 os:s.os=c.s₀.os
 pins:∀p∈c.pins,s.heap.get? p.1=Gq p.2
variable {c:Cx} {ρ:List (Option V)} {G:Gh} {σ:Sg} {s:GA}
theorem io.keeps {h h':HV} {i:Nat} {cl:Cell} (x:io G h i cl) (f:∀o,h.get? (G.φ i)=Gq o->h'.get? (G.φ i)=Gq o) (g:∀o,h.get? (G.δ i)=Gq o->h'.get? (G.δ i)=Gq o):io G h' i cl:=by
 cases cl with
 |dead=>trivial
 |list l=>obtain⟨d,n,a,b⟩:=x;exact⟨d,n,f _ a,b⟩
 |dict j=>obtain⟨e,⟨o,a,b⟩,r⟩:=x;exact⟨e,⟨o,f _ a,b⟩,r⟩
 |inst C m=>obtain⟨a,k,n,b,r⟩:=x;exact⟨f _ a,k,n,g _ b,r⟩
theorem io.mono {g:Gh} {h:HV} {i:Nat} {cl:Cell} (l:G.Le g) (hi:i<G.N) (x:io G h i cl):io g h i cl:=by
 obtain⟨f,j⟩:=l.φ i hi
 cases cl with
 |dead=>trivial
 |list o=>obtain⟨d,n,a,b⟩:=x;exact⟨d,n,f▸a,b.mono l⟩
 |dict k=>obtain⟨e,a,r⟩:=x;exact⟨e,by rw [f];exact a,r.mono l⟩
 |inst C p=>obtain⟨a,m,n,b,r⟩:=x;exact⟨f▸j▸a,m,n,j▸b,r.mono l⟩
theorem fZ.keeps {env:J2} {j:Gh} {h h':HV} {m:Hb->Option Gy} {x:Hb×G2} {v:V} (z:fZ env G h m x v) (l:G.Le j)
  (k:∀y a,env.cells.lookup y=Gq a->∀o,h.get? a=Gq o->∃i,h'.get? a=Gq i/\i.data=o.data):fZ env j h' m x v:=by
 rcases z with ⟨a,u,b,d⟩ |⟨a,b,u,e,⟨o,f,n⟩,d⟩
 ·exact .inl ⟨a,u,b,d.mono l⟩
 ·obtain⟨i,g,p⟩:=k _ _ e o f;exact .inr ⟨a,b,u,e,⟨i,g,p.trans n⟩,d.mono l⟩
theorem pY.keeps {env:J2} {g:Gh} {h h':HV} (x:pY env ρ G h) (l:G.Le g) (k:∀o,h.get? env.locals=Gq o->∃e,h'.get? env.locals=Gq e/\e.data=o.data)
  (j:∀y a,env.cells.lookup y=Gq a->∀o,h.get? a=Gq o->∃e,h'.get? a=Gq e/\e.data=o.data):pY env ρ g h':=by
 obtain⟨m,a,b,d⟩:=x;refine⟨m,jQ a k,fun i y v p r=>(b i y v p r).keeps l j,fun y t=>?_⟩;obtain⟨q,f,n,⟨o,u,z⟩⟩:=d y t;obtain⟨e,A,B⟩:=j y q n o u;exact⟨q,f,n,e,A,B.trans z⟩
theorem At.tok (x:At c ρ G σ s) (t:MY):At c ρ G σ {s with toks:=t}:=⟨x.inv,x.envr,x.adv,x.gens,x.os,x.pins⟩
theorem ff.pv_ne {base:HV} {Fs:List J2} {d:List GS} {h:HV} (x:ff base Fs d G σ h) {b:GS} (f:b∈d):∀i,aT σ i->b≠G.φ i/\b≠G.δ i:=
 fun i g=>⟨fun e=>(x.fresh i g _ (.inl rfl)).2.2 (e▸f),fun e=>(x.fresh i g _ (.inr rfl)).2.2 (e▸f)⟩
theorem At.grow (x:At c ρ G σ s) {h':HV} {t:MY} (k:∀b o,s.heap.get? b=Gq o->h'.get? b=Gq o):At c ρ G σ {s with heap:=h',toks:=t}:=by
 have g:∀b o,s.heap.get? b=Gq o->∃d,h'.get? b=Gq d/\d.data=o.data:=fun b o e=>⟨o,k b o e,rfl⟩
 refine⟨⟨x.inv.N,fun b o e=>k b o (x.inv.stays b o e),dh x.inv.frames fun Z Z L Z o e=>g L o e,fun i j=>(x.inv.cells i j).keeps (k _) (k _),fun i j=>?_,x.inv.fresh,x.inv.inj,fun a o e=>k a o (x.inv.froz a o e),
   fun b l=>?_,x.inv.fpv,x.inv.sys⟩,x.envr.keeps (.refl _) (g _) (fun Z a Z=>g a),⟨x.adv.le,fun b o e f=>?_,fun b l=>(x.adv.there b l).elim fun o e=>⟨o,k _ _ e⟩,x.adv.newφ,x.adv.newZ,x.adv.dead⟩,x.gens,x.os,fun p m=>k _ _ (x.pins p m)⟩
 ·obtain⟨⟨o,a⟩,⟨d,b⟩⟩:=x.inv.live i j;exact⟨⟨o,k _ _ a⟩,⟨d,k _ _ b⟩⟩
 ·obtain⟨⟨o,a⟩,r⟩:=x.inv.pv b l;exact⟨⟨o,k _ _ a⟩,r⟩
 ·obtain⟨d,a,r⟩:=x.adv.keep b o e f;exact⟨d,k _ _ a,r⟩
theorem At.push (x:At c ρ G σ s) (o:JH) (t:MY):At c ρ G σ {s with heap:=s.heap.push o,toks:=t}:=
 x.grow (fun Z Z e=>GQ _ e)
theorem At.mut (x:At c ρ G σ s) (C:aI c) {i:Nat} {cl:Cell} (hi:aT σ i) {h':HV} {t:MY} (k:∀b o,s.heap.get? b=Gq o->b≠G.φ i->b≠G.δ i->h'.get? b=Gq o)
  (I:∃o,h'.get? (G.φ i)=Gq o) (J:∃o,h'.get? (G.δ i)=Gq o) (P:io G h' i cl):At c ρ G (σ.set i cl) {s with heap:=h',toks:=t}:=by
 revert i cl h' t;delta c ρ G σ s;revert h' t;delta i cl;delta h' t
 have g:∀j,aT (σ.set i cl) j->aT σ j:=fun j d=>by
  refine⟨d.1,fun e=>?_⟩
  by_cases q:j=i
  ·subst q;exact hi.2 e
  ·exact d.2 (by rw [Sg.set_cell,if_neg q];exact e)
 have D:∀b∈c.Pv,∀o,s.heap.get? b=Gq o->h'.get? b=Gq o:=fun b l o e=>k b o e (x.inv.pv_ne l i hi).1 (x.inv.pv_ne l i hi).2
 have E:∀b∈c.Pv,∀o,s.heap.get? b=Gq o->∃v,h'.get? b=Gq v/\v.data=o.data:=fun b l o e=>⟨o,D b l o e,rfl⟩
 have B:=x.inv.fresh i hi
 refine⟨⟨x.inv.N,fun b o e=>k b o (x.inv.stays b o e) (fun q=>by rw [q,(B _ (.inl rfl)).1] at e;cases e) (fun q=>by rw [q,(B _ (.inr rfl)).1] at e;cases e),
   dh x.inv.frames fun F Q L R o e=>E L (x.inv.fpv F Q L R) o e,fun j d=>?_,fun j d=>?_,fun j d=>x.inv.fresh j (g j d),fun a b S l=>x.inv.inj a b (g a S) (g b l),
   fun a o e=>k a o (x.inv.froz a o e) (fun q=>by rw [q,(B _ (.inl rfl)).2.1] at e;cases e) (fun q=>by rw [q,(B _ (.inr rfl)).2.1] at e;cases e),fun b l=>?_,x.inv.fpv,x.inv.sys⟩,
  x.envr.keeps (.refl _) (E _ C.locPv) (fun y a e=>E a (C.cellPv y a e).1),⟨x.adv.le,fun b o e f=>?_,fun b l=>?_,fun j d a=>x.adv.newφ j d (g j a),x.adv.newZ,fun j d a=>x.adv.dead j d (g j a)⟩,x.gens,x.os,
  fun p K=>D _ (C.pins p K).1 _ (x.pins p K)⟩
 ·by_cases q:j=i
  ·subst q;rw [Sg.set_cell,if_pos rfl];exact P
  ·rw [Sg.set_cell,if_neg q]
   have z:=x.inv.inj j i (g j d) hi q _ (.inl rfl)
   have A:=x.inv.inj j i (g j d) hi q _ (.inr rfl)
   exact(x.inv.cells j (g j d)).keeps (fun o e=>k _ o e z.1 z.2) (fun o e=>k _ o e A.1 A.2)
 ·by_cases q:j=i
  ·subst q;exact⟨I,J⟩
  ·have z:=x.inv.inj j i (g j d) hi q _ (.inl rfl)
   have A:=x.inv.inj j i (g j d) hi q _ (.inr rfl)
   obtain⟨⟨o,a⟩,⟨v,b⟩⟩:=x.inv.live j (g j d);exact⟨⟨o,k _ _ a z.1 z.2⟩,⟨v,k _ _ b A.1 A.2⟩⟩
 ·obtain⟨⟨o,a⟩,r⟩:=x.inv.pv b l;exact⟨⟨o,D b l _ a⟩,r⟩
 ·obtain⟨v,a,r⟩:=x.adv.keep b o e f
  have n:∀q,(q=G.φ i\/q=G.δ i)->b≠q:=fun q m u=>by
   by_cases H:i<c.G₀.N
   ·have M:=x.adv.dead i H hi
    have:=x.adv.le.φ i H
    rcases m with m|m
    ·exact(f i M).1 (by rw [u,m,this.1])
    ·exact(f i M).2 (by rw [u,m,this.2])
   ·have:=x.adv.newφ i (HL H) hi
    rcases m with m|m
    ·rw [u,m,this.1] at e;cases e
    ·rw [u,m,this.2] at e;cases e
  exact⟨v,k _ _ a (n _ (.inl rfl)) (n _ (.inr rfl)),r⟩
 ·obtain⟨o,e⟩:=x.adv.there b l
  by_cases N:b=G.φ i
  ·rw [N];exact I
  ·by_cases O:b=G.δ i
   ·rw [O];exact J
   ·exact⟨o,k _ _ e N O⟩
noncomputable def Gh.add (G:Gh) (a d:GS):Gh:={G with N:=G.N+1,φ:=fun i=>if i=G.N then a else G.φ i,δ:=fun i=>if i=G.N then d else G.δ i}
noncomputable def Gh.frz (G:Gh) (a:GS) (o:JH):Gh:={G with Z:=fun b=>if b=a then Gq o else G.Z b}
theorem Gh.add_le (G:Gh) (a d:GS):G.Le (G.add a d):=⟨Hk _,fun i b=>⟨if_neg (G6 b),if_neg (G6 b)⟩,fun Z Z e=>e⟩
theorem Gh.frz_le (G:Gh) (a:GS) (o:JH) (h:G.Z a=Gs):G.Le (G.frz a o):=⟨GL _,fun Y Y=>⟨rfl,rfl⟩,fun b d e=>by
 show(if b=a then Gq o else G.Z b)=Gq d
 by_cases q:b=a
 ·subst q;rw [h] at e;cases e
 ·rw [if_neg q];exact e⟩
def qF (c:Cx) (G:Gh) (σ:Sg) (q:GS):Prop:=(c.base.get? q=Gs/\G.Z q=Gs/\q∉c.Pv)/\(∀j,aT σ j->G.φ j≠q/\G.δ j≠q)/\c.s₀.heap.get? q=Gs
theorem At.adopt' {u:GA} (k:At c ρ G σ u) {a d:GS} {cl:Cell}
  (y:qF c G σ a) (hd:qF c G σ d) (L:∃o,u.heap.get? a=Gq o) (M:∃o,u.heap.get? d=Gq o) (N:io (G.add a d) u.heap G.N cl) (E:cl≠.dead):
  At c ρ (G.add a d) (σ.alloc cl) u:=by
 revert u a d cl;delta c ρ G σ;revert a d cl;delta u;delta a d cl
 have z:=k.inv.N
 have C:=Gh.add_le G a d
 have n:∀j,aT (σ.alloc cl) j->j≠G.N->aT σ j:=fun j f q=>by
  have O:j≠σ.n:=z▸q
  refine⟨?_,?_⟩
  ·have:=f.1;simp only [Sg.alloc_n] at this;lia
  ·have:=f.2;rw [Sg.alloc_cell,if_neg O] at this;exact this
 have r:∀j,aT σ j->j<G.N:=fun j f=>z▸f.1
 have g:∀j,j<G.N->(G.add a d).φ j=G.φ j/\(G.add a d).δ j=G.δ j:=C.φ
 have l:(G.add a d).φ G.N=a/\(G.add a d).δ G.N=d:=⟨if_pos rfl,if_pos rfl⟩
 have v:∀j,aT σ j->∀b,(b=G.φ j\/b=G.δ j)->∀q,qF c G σ q->b≠q:=fun j f b m q F=>by
  rcases m with rfl|rfl
  ·exact(F.2.1 j f).1
  ·exact(F.2.1 j f).2
 have A:∀b,qF c G σ b->c.base.get? b=Gs/\G.Z b=Gs/\b∉c.Pv:=fun b m=>m.1
 have t:∀b,qF c G σ b->c.s₀.heap.get? b=Gs:=fun b m=>m.2.2
 refine⟨⟨by rw [Sg.alloc_n, <-z];rfl,k.inv.stays,k.inv.frames,fun j f=>?_,fun j f=>?_,fun j f b m=>?_,fun i j P f H b m=>?_,k.inv.froz,k.inv.pv,k.inv.fpv,k.inv.sys⟩,k.envr.keeps C (fun o e=>⟨o,e,rfl⟩) (fun Y Y Y o e=>⟨o,e,rfl⟩),
  ⟨k.adv.le.trans C,k.adv.keep,k.adv.there,fun j f p=>?_,k.adv.newZ,fun j f p=>?_⟩,k.gens,k.os,k.pins⟩
 ·by_cases q:j=G.N
  ·subst q;rw [Sg.alloc_cell,if_pos z];exact N
  ·rw [Sg.alloc_cell,if_neg (z▸q)];exact(k.inv.cells j (n j f q)).mono C (r j (n j f q))
 ·by_cases q:j=G.N
  ·subst q;rw [l.1,l.2];exact⟨L,M⟩
  ·rw [(g j (r j (n j f q))).1,(g j (r j (n j f q))).2];exact k.inv.live j (n j f q)
 ·by_cases q:j=G.N
  ·subst q;rw [l.1,l.2] at m;rcases m with rfl|rfl
   ·exact A _ y
   ·exact A _ hd
  ·rw [(g j (r j (n j f q))).1,(g j (r j (n j f q))).2] at m;exact k.inv.fresh j (n j f q) b m
 ·revert b;delta i j;delta b
  by_cases I:i=G.N
  ·subst I;rw [l.1,l.2] at m
   have p:=n j f (Hw H)
   rw [(g j (r j p)).1,(g j (r j p)).2]
   have B:=v j p _ (.inl rfl)
   have J:=v j p _ (.inr rfl)
   rcases m with rfl|rfl
   ·exact⟨(B _ y).symm,(J _ y).symm⟩
   ·exact⟨(B _ hd).symm,(J _ hd).symm⟩
  ·have D:=n i P I
   rw [(g i (r i D)).1,(g i (r i D)).2] at m
   have B:=v i D b m
   by_cases K:j=G.N
   ·subst K;rw [l.1,l.2];exact⟨B _ y,B _ hd⟩
   ·have p:=n j f K
    rw [(g j (r j p)).1,(g j (r j p)).2];exact k.inv.inj i j D p H b m
 ·by_cases q:j=G.N
  ·subst q;rw [l.1,l.2];exact⟨t _ y,t _ hd⟩
  ·rw [(g j (r j (n j p q))).1,(g j (r j (n j p q))).2];exact k.adv.newφ j f (n j p q)
 ·have q:j≠G.N:=by have:=k.adv.le.N;exact(l3 493688003875334) f this
  exact k.adv.dead j f (n j p q)
theorem At.free (x:At c ρ G σ s) {q:GS} (b:s.heap.get? q=Gs):qF c G σ q:=by
 refine⟨⟨?_,?_,fun z=>?_⟩,fun j d=>⟨fun z=>?_,fun z=>?_⟩,?_⟩
 ·cases e:c.base.get? q with
  |none=>rfl
  |some o=>have:=x.inv.stays q o e;rw [b] at this;cases this
 ·cases e:G.Z q with
  |none=>rfl
  |some o=>have:=x.inv.froz q o e;rw [b] at this;cases this
 ·obtain⟨⟨o,e⟩,_⟩:=x.inv.pv q z;rw [b] at e;cases e
 ·obtain⟨⟨o,e⟩,_⟩:=x.inv.live j d;rw [z,b] at e;cases e
 ·obtain⟨_,⟨o,e⟩⟩:=x.inv.live j d;rw [z,b] at e;cases e
 ·cases e:c.s₀.heap.get? q with
  |none=>rfl
  |some o=>obtain⟨g,f⟩:=x.adv.there q ⟨o,e⟩;rw [b] at f;cases f
theorem At.adopt (x:At c ρ G σ s) {e:GA} (f:At c ρ G σ e) {a d:GS} {cl:Cell}
 (g:s.heap.get? a=Gs) (hd:s.heap.get? d=Gs) (i:∃o,e.heap.get? a=Gq o) (j:∃o,e.heap.get? d=Gq o) (k:io (G.add a d) e.heap G.N cl) (b:cl≠.dead):
 At c ρ (G.add a d) (σ.alloc cl) e:=f.adopt' (x.free g) (x.free hd) i j k b
theorem At.track (x:At c ρ G σ s) {h':HV} {t:MY} {a d:GS} {cl:Cell} (k:∀b o,s.heap.get? b=Gq o->h'.get? b=Gq o)
 (f:s.heap.get? a=Gs) (hd:s.heap.get? d=Gs) (g:∃o,h'.get? a=Gq o) (i:∃o,h'.get? d=Gq o) (j:io (G.add a d) h' G.N cl) (e:cl≠.dead):
 At c ρ (G.add a d) (σ.alloc cl) {s with heap:=h',toks:=t}:=x.adopt (x.grow (t:=t) k) f hd g i j e
theorem At.froze (x:At c ρ G σ s) {h':HV} {t:MY} {a:GS} {o:JH} (k:∀b o,s.heap.get? b=Gq o->h'.get? b=Gq o)
  (y:s.heap.get? a=Gs) (z:h'.get? a=Gq o):At c ρ (G.frz a o) σ {s with heap:=h',toks:=t}/\G.Le (G.frz a o)/\(G.frz a o).Z a=Gq o:=by
 revert h' t a o;delta c ρ G σ s;delta h' t a o
 have d:=x.grow (t:=t) k
 have A:G.Z a=Gs:=by
  cases e:G.Z a with
  |none=>rfl
  |some o=>have:=x.inv.froz _ _ e;rw [y] at this;cases this
 have n:=Gh.frz_le G a o A
 have p:∀b g,s.heap.get? b=Gq g->b≠a:=fun b g e q=>by rw [q,y] at e;cases e
 have l:∀b,b≠a->(G.frz a o).Z b=G.Z b:=fun b i=>if_neg i
 refine⟨⟨⟨x.inv.N,d.inv.stays,d.inv.frames,fun j m=>(d.inv.cells j m).mono n (x.inv.N▸m.1),d.inv.live,fun j m b i=>?_,d.inv.inj,fun b g e=>?_,fun b i=>?_,d.inv.fpv,d.inv.sys.1,?_⟩,d.envr.keeps n (fun o e=>⟨o,e,rfl⟩) (fun Y Y Y o e=>⟨o,e,rfl⟩),
  ⟨x.adv.le.trans n,d.adv.keep,d.adv.there,d.adv.newφ,fun b g e=>?_,d.adv.dead⟩,x.gens,x.os,d.pins⟩,n,if_pos rfl⟩
 ·have f:=x.inv.fresh j m b i
  refine⟨f.1,?_,f.2.2⟩;rw [l b];exact f.2.1;obtain⟨⟨r,u⟩,⟨F,B⟩⟩:=x.inv.live j m;rcases i with rfl|rfl
  ·exact p _ _ u
  ·exact p _ _ B
 ·by_cases q:b=a
  ·subst q
   have:(G.frz b o).Z b=Gq o:=if_pos rfl
   rw [this] at e;cases e;exact z
  ·rw [l b q] at e;exact d.inv.froz b g e
 ·obtain⟨⟨r,u⟩,C,D⟩:=x.inv.pv b i;exact⟨⟨r,k _ _ u⟩,C,by rw [l b (p _ _ u)];exact D⟩
 ·obtain⟨g,v⟩:=x.inv.sys.1;rw [l _ (p _ _ (x.inv.stays _ _ v))];exact x.inv.sys.2
 ·by_cases q:b=a
  ·subst q;refine .inr (.inl ?_)
   cases E:c.s₀.heap.get? b with
   |none=>rfl
   |some r=>obtain⟨g,v⟩:=x.adv.there b ⟨r,E⟩;rw [y] at v;cases v
  ·rw [l b q] at e;exact x.adv.newZ b g e
theorem At.priv (x:At c ρ G σ s) (N:aI c) {q:GS} (y:q∈c.Pv) (D:c.s₀.heap.get? q=Gs) (hp:∀p∈c.pins,p.1≠q) {h':HV} {t:MY} {k:List (Option V)} (E:∀b,b≠q->h'.get? b=s.heap.get? b)
  (F:∃o,h'.get? q=Gq o/\((∀vs,o.data≠.fields vs)\/∀env∈c.Fs,env.frame≠Gq q)) (H:pY c.env k G h'):At c k G σ {s with heap:=h',toks:=t}:=by
 have g:∀b o,(b=q->False)->s.heap.get? b=Gq o->h'.get? b=Gq o:=fun b o n e=>(E b n).trans e
 obtain⟨A,l,d⟩:=F
 have u:∀b,(∃o,s.heap.get? b=Gq o)->∃o,h'.get? b=Gq o:=fun b ⟨o,e⟩=>by
  by_cases z:b=q
  ·exact⟨A,z▸l⟩
  ·exact⟨o,g b o z e⟩
 have B:=x.inv.pv q y
 refine⟨⟨x.inv.N,fun b o e=>g b o (fun z=>by rw [z,B.2.1] at e;cases e) (x.inv.stays b o e),dS x.inv.frames fun env I L J o e K=>?_,fun i j=>(x.inv.cells i j).keeps (fun o e=>g _ o (fun z=>(x.inv.pv_ne y i j).1 z.symm) e) (fun o e=>g _ o (fun z=>(x.inv.pv_ne y i j).2 z.symm) e),
   fun i j=>⟨u _ (x.inv.live i j).1,u _ (x.inv.live i j).2⟩,x.inv.fresh,x.inv.inj,fun b o e=>g b o (fun z=>by rw [z,B.2.2] at e;cases e) (x.inv.froz b o e),fun b v=>⟨u b (x.inv.pv b v).1,(x.inv.pv b v).2⟩,x.inv.fpv,x.inv.sys⟩,H,
  ⟨x.adv.le,fun b o e f=>?_,fun b v=>u b (x.adv.there b v),x.adv.newφ,x.adv.newZ,x.adv.dead⟩,x.gens,x.os,fun p m=>g _ _ (hp p m) (x.pins p m)⟩
 ·by_cases z:L=q
  ·subst z;rcases d with d|d
   ·exact⟨A,l,d⟩
   ·exact absurd J (d env I)
  ·exact⟨o,g L o z e,K⟩
 ·obtain⟨C,M,r⟩:=x.adv.keep b o e f;exact⟨C,g b C (fun z=>by rw [z,D] at e;cases e) M,r⟩
theorem u0 {d β:Type}:∀ {l:List (d×β)} {i j:Nat} {x y:d×β},(l.map (·.1)).Nodup->l[i]? =Gq x->l[j]? =Gq y->x.1=y.1->i=j:=by
 intro l i j x y f g k e
 have b:(l.map (·.1))[i]? =Gq x.1:=by rw [Hd,g];rfl
 have m:(l.map (·.1))[j]? =Gq x.1:=by rw [Hd,k,e];rfl
 exact(NV (by rw [HP] at b;exact b.1) f).mp (b.trans m.symm)
theorem At.store (x:At c ρ G σ s) (i:aI c) {k:Nat} {y:Hb×G2} {v:V} {F:Gy} {h':HV} {t:MY} (J:c.env.scope.names[k]? =Gq y) (U:VRep G v F)
  (hs:(y.2=.local/\(∀m,s.heap.Ns c.env.locals m->h'.Ns c.env.locals (fun x=>if x=y.1 then Gq F else m x))/\Io c.env.locals s.heap h')\/
   ∃a,c.comp=Gw/\y.2=.cell/\c.env.cells.lookup y.1=Gq a/\h'.IsCell a (Gq F)/\Io a s.heap h'):At c (ρ.set k (Gq v)) G σ {s with heap:=h',toks:=t}:=by
 revert k y v F h' t;delta c ρ G σ s;delta k y v F h' t;obtain⟨m,K,W,X⟩:=x.envr;delta m
 have n:∀(j:Nat) z u,c.env.scope.names[j]? =Gq z->(ρ.set k (Gq v))[j]? =Gq (Gq u)->(j=k/\z=y/\u=v)\/(j≠k/\z.1≠y.1/\ρ[j]? =Gq (Gq u)):=fun j z u C l=>by
  by_cases q:j=k
  ·subst q;rw [J] at C;cases C;rw [Ih] at l;simp only [if_true] at l
   split at l
   ·simp only [MR] at l;exact .inl ⟨rfl,rfl,l.symm⟩
   ·cases l
  ·refine .inr ⟨q,fun e=>q (u0 i.nodup C J e),?_⟩;rw [Ih,if_neg (Hw q)] at l;exact l
 rcases hs with ⟨I,H,D⟩ |⟨a,L,I,E,g,D⟩
 ·refine x.priv i i.locPv i.locNew (fun p M=>(i.pins p M).2.1) D.2 ?_ ⟨_,H m K,fun j z u C l=>?_,fun z N=>?_⟩
  ·obtain⟨o,Y,Z,d,f,_⟩:=H m K;exact⟨o,d,.inl fun vs e=>by rw [f] at e;cases e⟩
  ·delta j z u;rcases n j z u C l with ⟨rfl,rfl,rfl⟩ |⟨q,O,P⟩
   ·exact .inl ⟨I,F,by simp,U⟩
   ·rcases W j z u C P with ⟨d,w,f,A⟩ |⟨d,b,w,f,⟨o,A,Q⟩,R⟩
    ·exact .inl ⟨d,w,by simp [O,f],A⟩
    ·exact .inr ⟨d,b,w,f,⟨o,(D.2 b (i.cellPv _ _ f).2).trans A,Q⟩,R⟩
  ·obtain⟨b,B,d,⟨o,f,A⟩⟩:=X z N;exact⟨b,B,d,o,(D.2 b (i.cellPv _ _ d).2).trans f,A⟩
 ·delta a
  have S:(y.1,Jj)∈c.env.scope.names:=by
   have:=GJ J
   rw [<-I];exact this
  have T:=(i.cellPv _ _ E).2
  refine x.priv i (i.cellPv _ _ E).1 (i.cellNew L _ _ S E) (fun p M=>(i.pins p M).2.2.2 _ _ E) D.2 ?_ ⟨m,?_,fun j z u C l=>?_,fun z N=>?_⟩
  ·obtain⟨o,d,f⟩:=g;exact⟨o,d,.inl fun vs e=>by rw [f] at e;cases e⟩
  ·obtain⟨o,Y,Z,d,r⟩:=K;exact⟨o,Y,Z,(D.2 _ (Hw T)).trans d,r⟩
  ·delta j z u;rcases n j z u C l with ⟨rfl,rfl,rfl⟩ |⟨q,O,P⟩
   ·exact .inr ⟨.inl I,a,F,E,g,U⟩
   ·rcases W j z u C P with ⟨d,w,f,A⟩ |⟨d,b,w,f,⟨o,A,Q⟩,R⟩
    ·exact .inl ⟨d,w,f,A⟩
    ·exact .inr ⟨d,b,w,f,⟨o,(D.2 b (i.cellInj _ _ _ _ f E O)).trans A,Q⟩,R⟩
  ·obtain⟨b,B,d,⟨o,f,A⟩⟩:=X z N
   by_cases q:z=y.1
   ·subst q;exact⟨a,_,E,g⟩
   ·exact⟨b,B,d,o,(D.2 b (i.cellInj _ _ _ _ d E q)).trans f,A⟩
end
set_option genCtorIdx true in
inductive Op|add|sub|mul|fdiv|mod|pow|shl|shr|band|bor|bxor
set_option genCtorIdx true in
inductive Rel|eq|ne|lt|le|gt|ge
inductive lM where
 |tup|lst|dct0
 |attr (n:Nat) |idx|from1|upto24
 |bin (op:Op) |rel (op:Rel) |isNone|notNone|inn|notIn|not
 |app|pop|rev|sortedKeys|get|len|sorted|tupleOf|intOf|abs|sum|ord|max|min
set_option genCtorIdx true in
inductive E where
 |const (v:V)
 |loc (k:Nat)
 |op (p:lM) (es:List E)
 |and (a b:E) |or (a b:E) |ite (c a b:E)
 |chain (a b c:E)
 |tsorted (e:E)
 |app (o e:E)
 |getD (o k d:E)
 |dct1 (k v:E)
 |dtrue (t:Nat) (iter:E)
 |callF (f:GS) (es:List E)
 |callM (n:Nat) (r:E) (es:List E)
 |callC (C:GS) (es:List E)
 |comp (vars:List (Option Nat)) (t:Nat) (elt iter:E)
 |compR (vars:List (Option Nat)) (t:Nat) (elt iter:E)
inductive kw where
 |loc (k:Nat)
 |locs (ks:List Nat)
set_option genCtorIdx true in
inductive S where
 |expr (e:E)
 |assign (t:kw) (e:E)
 |setAttr (o:E) (n:Nat) (e:E)
 |setIdx (o i e:E)
 |aug (k:Nat) (op:Op) (e:E)
 |augAttr (o:E) (n:Nat) (op:Op) (e:E)
 |augIdx (o i:E) (op:Op) (e:E)
 |ret (e:E)
 |ite (c:E) (a b:List S)
 |while (c:E) (b:List S)
 |for (t:kw) (e:E) (b:List S)
 |forR (k:Nat) (e:E) (b:List S)
 |cont
 |raise (e:E)
 |stuck
 |try (b:List S) (h:List S)
 |frz (k:Nat)
inductive Fl where
 |next|cont
 |ret (v:V)
structure lU where
 fields:List (GS×List Nat)
 consts:List ((GS×Nat)×V)
 meths:List ((GS×Nat)×GS)
 inits:List (GS×Option GS)
noncomputable def V.isN:V->Bool
 |.none=>Gu
 |_=>Gw
noncomputable def dT:Op->Int->Int->Option Int
 |.add,a,b=>Gq (a+b)
 |.sub,a,b=>Gq (a - b)
 |.mul,a,b=>if a.natAbs<2^60\/(a.natAbs<2^3000/\b.natAbs<2^3000) then Gq (a * b) else Gs
 |.fdiv,a,b=>if b=0\/1000000<b.natAbs then Gs else Gq (a.fdiv b)
 |.mod,a,b=>if b=0 then Gs else Gq (a.fmod b)
 |.pow,a,b=>if 0<=b/\b<=1000/\a.natAbs<2^64 then Gq (a^b.toNat) else Gs
 |.shl,a,b=>if 0<=b/\b<=1000000/\a.natAbs<2^64 then Gq (a * 2^b.toNat) else Gs
 |.shr,a,b=>if 0<=b then Gq (a.fdiv (2^b.toNat)) else Gs
 |.band,a,b=>Gq (I3 a b)
 |.bor,a,b=>Gq (JN a b)
 |.bxor,a,b=>Gq (J6 a b)
noncomputable def A5:Rel->Int->Int->Bool
 |.eq,a,b=>a==b
 |.ne,a,b=>!(a==b)
 |.lt,a,b=>GI (a<b)
 |.le,a,b=>GI (a<=b)
 |.gt,a,b=>GI (a>b)
 |.ge,a,b=>GI (a>=b)
noncomputable def ints?:List V->Option (List Int)
 |[]=>Gq []
 |.int i::r=>(ints? r).map (i:: ·)
 |_::_=>Gs
noncomputable def strs?:List V->Option (List Nat)
 |[]=>Gq []
 |.str i::r=>(strs? r).map (i:: ·)
 |_::_=>Gs
noncomputable def aX:V->Sg->Option (List V)
 |.tup vs,_=>Gq vs
 |.lst vs,_=>Gq vs
 |.ref a,σ=>match σ.cell a with
  |.list vs=>Gq vs
  |_=>Gs
 |_,_=>Gs
noncomputable def lookI (k:Int):List (Int×V)->Option V
 |[]=>Gs
 |b::r=>if b.1=k then Gq b.2 else lookI k r
noncomputable def putI (k:Int) (v:V):List (Int×V)->List (Int×V)
 |[]=>[(k,v)]
 |b::r=>if b.1=k then(k,v)::r else b::putI k v r
noncomputable def cM:V->Sg->Option (List (Int×V))
 |.dic ks vs,_=>Gq (ks.zip vs)
 |.ref a,σ=>match σ.cell a with
  |.dict kvs=>Gq kvs
  |_=>Gs
 |_,_=>Gs
noncomputable def lookN (k:Nat):List (Nat×V)->Option V
 |[]=>Gs
 |b::r=>if b.1=k then Gq b.2 else lookN k r
noncomputable def putN' (k:Nat) (v:V):List (Nat×V)->List (Nat×V)
 |[]=>[(k,v)]
 |b::r=>if b.1=k then(k,v)::r else b::putN' k v r
noncomputable def lookT {β:Type} (c:GS) (n:Nat):List ((GS×Nat)×β)->Option β
 |[]=>Gs
 |e::r=>if e.1.1=c/\e.1.2=n then Gq e.2 else lookT c n r
noncomputable def lookC {β:Type} (c:GS):List (GS×β)->Option β
 |[]=>Gs
 |e::r=>if e.1=c then Gq e.2 else lookC c r
noncomputable def bZ (T:lU) (c:GS) (n:Nat):Bool:=match lookC c T.fields with
 |some b=>b.contains n&&GI (n<55)
 |none=>Gw
noncomputable def wx (T:lU) (c:GS):Bool:=(lookC c T.fields).isSome
noncomputable def eQ (T:lU) (c:GS) (n:Nat) (b:List (Nat×V)):Option V:=match lookN n b with
 |some v=>if bZ T c n then Gq v else Gs
 |none=>if wx T c&&GI (n<55) then lookT c n T.consts else Gs
noncomputable def ky (T:lU) (n:Nat) (σ:Sg):V->Option V
 |.obj c ks vs=>if ks.length=vs.length then eQ T c n (ks.zip vs) else Gs
 |.ref a=>match σ.cell a with
  |.inst c b=>eQ T c n b
  |_=>Gs
 |_=>Gs
noncomputable def ny (σ:Sg):V->Option (GS×List Nat)
 |.obj c ks _=>Gq (c,ks)
 |.ref a=>match σ.cell a with
  |.inst c b=>Gq (c,b.map (·.1))
  |_=>Gs
 |_=>Gs
noncomputable def d6 (T:lU) (n:Nat) (σ:Sg) (v:V):Option GS:=match ny σ v with
 |some (c,b)=>if b.contains n|| !(wx T c) ||decide (55<=n) then Gs else lookT c n T.meths
 |none=>Gs
noncomputable def B3 (vs:List V) (i:Int):Option V:=if 0<=i then vs[i.toNat]? else if -(vs.length:Int)<=i then vs[(i+vs.length).toNat]? else Gs
noncomputable def b6 (σ:Sg):V->Option Bool
 |.bool b=>Gq b
 |.int i=>Gq (!(i==0))
 |.ref a=>match σ.cell a with
  |.list vs=>if vs.length<=1000000 then Gq (!vs.isEmpty) else Gs
  |_=>Gs
 |.lst vs=>if vs.length<=1000000 then Gq (!vs.isEmpty) else Gs
 |_=>Gs
structure Vw (σ:Sg) (n:Nat) (x:V) (d:MC):Prop where
 lay:d.canLay0=Gu
 dep:d.depth<=n
 rd:∀ {c:Cx} {ρ:List (Option V)} {G:Gh} {s:GA} {v:Gy},At c ρ G σ s->VRep G x v->∃as,Reads s.heap v d as
structure qG (σ:Sg) (n:Nat) (xs:List V) (ds:List MC):Prop where
 lay:PyData.canLayAll0 ds=Gu
 dep:PyData.depthAll ds<=n
 rd:∀ {c:Cx} {ρ:List (Option V)} {G:Gh} {s:GA} {vs:List Gy},At c ρ G σ s->VReps G xs vs->∃as,ReadsAll s.heap vs ds as
noncomputable def jV (σ:Sg) (x y:V):Bool:=@GI (∃d,Vw σ 8 x d/\Vw σ 8 y d) (Kp _)
inductive FrzL:Sg->List V->List V->Sg->Prop
 |nil {σ}:FrzL σ [] [] σ
 |keep {σ σ' v l l'}:FrzL σ l l' σ'->FrzL σ (v::l) (v::l') σ'
 |tup {σ σ₁ σ' vs vs' l l'}:FrzL σ vs vs' σ₁->FrzL σ₁ l l' σ'->FrzL σ (.tup vs::l) (.tup vs'::l') σ'
 |list {σ σ₁ σ' a vs vs' l l'}:σ.cell a=.list vs->a<σ.n->FrzL (σ.set a .dead) vs vs' σ₁->FrzL σ₁ l l' σ'->FrzL σ (.ref a::l) (.lst vs'::l') σ'
 |dict {σ σ₁ σ' a kvs vs' l l'}:σ.cell a=.dict kvs->a<σ.n->FrzL (σ.set a .dead) (kvs.map (·.2)) vs' σ₁->FrzL σ₁ l l' σ'->FrzL σ (.ref a::l) (.dic (kvs.map (·.1)) vs'::l') σ'
 |inst {σ σ₁ σ' a c as vs' l l'}:σ.cell a=.inst c as->a<σ.n->FrzL (σ.set a .dead) (as.map (·.2)) vs' σ₁->FrzL σ₁ l l' σ'->FrzL σ (.ref a::l) (.obj c (as.map (·.1)) vs'::l') σ'
noncomputable def iH (l:List Int):List Int:=l.mergeSort (fun a b=>GI (a<=b))
noncomputable def mc:Nat->Option Int
 |31=>Gq 97
 |32=>Gq 98
 |_=>Gs
noncomputable def w4 {β:Type} (f:Int->Option β):V->Option β
 |.int i=>f i
 |_=>Gs
noncomputable def xI {β:Type} (f:Nat->Option β):V->Option β
 |.ref a=>f a
 |_=>Gs
noncomputable def EI {β:Type} (f:List V->Option β):V->Option β
 |.lst l=>f l
 |_=>Gs
noncomputable def p1 {β:Type} (f:V->Option β):List V->Option β
 |[v]=>f v
 |_=>Gs
noncomputable def p2 {β:Type} (f:V->V->Option β):List V->Option β
 |[v,w]=>f v w
 |_=>Gs
noncomputable def p3 {β:Type} (f:V->V->V->Option β):List V->Option β
 |[v,w,x]=>f v w x
 |_=>Gs
noncomputable abbrev PR:=Option (V×Sg)
noncomputable def bV (a:Nat) (σ:Sg) (f:List V->PR):PR:=match σ.cell a with
 |.list l=>f l
 |_=>Gs
noncomputable def lF (a:Nat) (σ:Sg) (f:List (Int×V)->PR):PR:=match σ.cell a with
 |.dict b=>f b
 |_=>Gs
noncomputable def tA (v:V) (σ:Sg) (f:List V->PR) (g:List (Int×V)->PR):PR:=match aX v σ with
 |some l=>f l
 |none=>match cM v σ with
  |some b=>g b
  |none=>Gs
noncomputable def rF (σ:Sg) (kvs:List (Int×V)):PR:=if kvs.length<64 then Gq (.ref σ.n,σ.alloc (.list ((iH (kvs.map (·.1))).map .int))) else Gs
noncomputable def w3 (i:Int) (c:V) (σ:Sg):Option Bool:=match cM c σ with
 |some b=>Gq (lookI i b).isSome
 |none=>match (aX c σ).bind ints? with
  |some d=>Gq (d.any (· ==i))
  |none=>Gs
noncomputable def BE (k:Nat) (c:List V) (σ:Sg):PR:=match strs? c with
 |some b=>if k<55/\b.all (· <55) then Gq (.bool (b.any (· ==k)),σ) else Gs
 |none=>Gs
noncomputable def DU (op:Rel) (a b:V) (σ:Sg):PR:=match op with
 |.ne=>if jV σ a b then Gq (.bool Gw,σ) else Gs
 |_=>Gs
noncomputable def EG (op:Rel) (a b:Nat) (σ:Sg):PR:=match op with
 |.eq=>if a<55/\b<55 then Gq (.bool (GI (a=b)),σ) else Gs
 |.ne=>if a<55/\b<55 then Gq (.bool (!(GI (a=b))),σ) else Gs
 |_=>Gs
noncomputable def FA (op:Rel) (σ:Sg) (a b:V):PR:=match a with
 |.int i=>match b with
  |.int j=>Gq (.bool (A5 op i j),σ)
  |_=>DU op a b σ
 |.str i=>match b with
  |.str j=>EG op i j σ
  |_=>DU op a b σ
 |_=>DU op a b σ
noncomputable def C2:Op->Bool
 |.add=>Gu
 |_=>Gw
noncomputable def EQ (op:Op) (σ:Sg) (a b:V):PR:=match a with
 |.int i=>w4 (fun j=>(dT op i j).map (.int ·,σ)) b
 |.ref i=>xI (fun j=>if C2 op then bV i σ fun l=>bV j σ fun k=>if l.length+k.length<=1000000 then Gq (.ref σ.n,σ.alloc (.list (l++k))) else Gs else Gs) b
 |_=>Gs
noncomputable def Gb (σ:Sg) (x c:V):PR:=match x with
 |.int i=>(w3 i c σ).map (.bool ·,σ)
 |.str k=>match c with
  |.tup b=>BE k b σ
  |_=>Gs
 |_=>Gs
noncomputable def eF (a:Nat) (σ:Sg):PR:=match σ.cell a with
 |.list l=>match l with
  |[v]=>Gq (.ref σ.n,σ.alloc (.list [v]))
  |_=>Gs
 |.dict b=>rF σ b
 |_=>Gs
noncomputable def Bp (σ:Sg) (v:V):PR:=match v with
 |.ref a=>bV a σ fun l=>if l.length<=1000000 then Gq (.tup l,σ) else Gs
 |.lst l=>if l.length<=1000000 then Gq (.tup l,σ) else Gs
 |_=>Gs
noncomputable def EU (σ:Sg) (v:V):PR:=match v with
 |.int i=>Gq (.int i,σ)
 |.bool b=>Gq (.int (if b then 1 else 0),σ)
 |_=>Gs
noncomputable def Fc (σ:Sg) (v:V):PR:=match v with
 |.str k=>(mc k).map (.int ·,σ)
 |_=>Gs
noncomputable def aJ (T:lU) (p:lM) (vs:List V) (σ:Sg):PR:=match p with
 |.tup=>if vs.length<=1000 then Gq (.tup vs,σ) else Gs
 |.lst=>if vs.length<=1000 then Gq (.ref σ.n,σ.alloc (.list vs)) else Gs
 |.dct0=>match vs with
  |[]=>Gq (.ref σ.n,σ.alloc (.dict []))
  |_=>Gs
 |.attr n=>p1 (fun v=>(ky T n σ v).map (·,σ)) vs
 |.idx=>p2 (fun v=>w4 fun i=>tA v σ (fun l=>if l.length<=1000000 then(B3 l i).map (·,σ) else Gs) fun e=>(lookI i e).map (·,σ)) vs
 |.from1=>p1 (EI fun l=>if l.length<=1000000 then Gq (.ref σ.n,σ.alloc (.list (l.drop 1))) else Gs) vs
 |.upto24=>p1 (EI fun l=>if l.length<=1000000 then Gq (.ref σ.n,σ.alloc (.list (l.take 24))) else Gs) vs
 |.bin f=>p2 (EQ f σ) vs
 |.rel f=>p2 (FA f σ) vs
 |.isNone=>p1 (fun v=>Gq (.bool v.isN,σ)) vs
 |.notNone=>p1 (fun v=>Gq (.bool (!v.isN),σ)) vs
 |.inn=>p2 (Gb σ) vs
 |.notIn=>p2 (fun x c=>w4 (fun i=>(w3 i c σ).map (.bool !·,σ)) x) vs
 |.not=>p1 (fun v=>(b6 σ v).map (.bool !·,σ)) vs
 |.app=>p2 (fun x v=>xI (fun a=>bV a σ fun l=>if a<σ.n/\l.length<=1000000 then Gq (.none,σ.set a (.list (l++[v]))) else Gs) x) vs
 |.pop=>p1 (xI fun a=>bV a σ fun l=>if a<σ.n/\l.length<=1000000 then l.getLast?.map (·,σ.set a (.list l.dropLast)) else Gs) vs
 |.rev=>p1 (xI fun a=>bV a σ fun l=>if a<σ.n/\l.length<=1000000 then Gq (.none,σ.set a (.list l.reverse)) else Gs) vs
 |.sortedKeys=>p1 (xI fun a=>lF a σ (rF σ)) vs
 |.get=>p3 (fun x k d=>xI (fun a=>w4 (fun k=>lF a σ fun e=>Gq ((lookI k e).getD d,σ)) k) x) vs
 |.len=>p1 (fun v=>tA v σ (fun l=>if l.length<=1000000 then Gq (.int l.length,σ) else Gs) fun e=>if e.length<=1000000 then Gq (.int e.length,σ) else Gs) vs
 |.sorted=>p1 (xI fun a=>eF a σ) vs
 |.tupleOf=>p1 (Bp σ) vs
 |.intOf=>p1 (EU σ) vs
 |.abs=>p1 (w4 fun i=>Gq (.int i.natAbs,σ)) vs
 |.sum=>p1 (xI fun a=>bV a σ fun l=>(ints? l).map fun g=>(.int g.sum,σ)) vs
 |.ord=>p1 (Fc σ) vs
 |.max=>p2 (fun x y=>w4 (fun a=>w4 (fun b=>Gq (.int (if b>a then b else a),σ)) y) x) vs
 |.min=>p2 (fun x y=>w4 (fun a=>w4 (fun b=>Gq (.int (if b<a then b else a),σ)) y) x) vs
theorem dy {β:Type} {f:Nat->Option β} {v:V} {r:β} (h:xI f v=Gq r):∃a,v=.ref a/\f a=Gq r:=by
 cases v with
 |ref a=>exact⟨a,rfl,h⟩
 |_=>cases h
theorem cv {β:Type} {f:Int->Option β} {v:V} {r:β} (h:w4 f v=Gq r):∃a,v=.int a/\f a=Gq r:=by
 cases v with
 |int a=>exact⟨a,rfl,h⟩
 |_=>cases h
theorem nX {β:Type} {f:List V->Option β} {v:V} {r:β} (h:EI f v=Gq r):∃a,v=.lst a/\f a=Gq r:=by
 cases v with
 |lst a=>exact⟨a,rfl,h⟩
 |_=>cases h
set_option tactic.hygienic true in
theorem bW {a:Nat} {σ:Sg} {f:List V->PR} {r:V×Sg} (h:bV a σ f=Gq r):∃l,σ.cell a=.list l/\f l=Gq r:=by
 unfold bV at h
 split at h
 ·rename_i l e;exact⟨l,e,h⟩
 ·cases h
set_option tactic.hygienic true in
theorem jc {a:Nat} {σ:Sg} {f:List (Int×V)->PR} {r:V×Sg} (h:lF a σ f=Gq r):∃l,σ.cell a=.dict l/\f l=Gq r:=by
 unfold lF at h
 split at h
 ·rename_i l e;exact⟨l,e,h⟩
 ·cases h
set_option tactic.hygienic true in
theorem ph {v:V} {σ:Sg} {f:List V->PR} {g:List (Int×V)->PR} {r:V×Sg} (h:tA v σ f g=Gq r):(∃l,aX v σ=Gq l/\f l=Gq r)\/∃kvs,cM v σ=Gq kvs/\g kvs=Gq r:=by
 unfold tA at h
 split at h
 ·rename_i l e;exact .inl ⟨l,e,h⟩
 ·split at h
  ·rename_i kvs e;exact .inr ⟨kvs,e,h⟩
  ·cases h
set_option tactic.hygienic true in
theorem oT {i:Int} {c:V} {σ:Sg} {b:Bool} (h:w3 i c σ=Gq b):(∃kvs,cM c σ=Gq kvs/\b=(lookI i kvs).isSome)\/∃l is,aX c σ=Gq l/\ints? l=Gq is/\b=is.any (· ==i):=by
 delta i c σ b;unfold w3 at h
 split at h
 ·rename_i kvs e;cases h;exact .inl ⟨kvs,e,rfl⟩
 ·split at h
  ·rename_i is e;delta is;cases h;obtain⟨l,d,f⟩:=Option.bind_eq_some_iff.mp e;delta l;exact .inr ⟨l,is,d,f,rfl⟩
  ·cases h
theorem ba {b:Type} {p:Prop} [Decidable p] {x:Option b} {r:b} (h:(if p then x else Gs)=Gq r):p/\x=Gq r:=by
 split at h
 ·rename_i q;exact⟨q,h⟩
 ·cases h
noncomputable def jM (σ:Sg):V->Bool
 |.ref a=>match σ.cell a with
  |.list _=>Gu
  |_=>Gw
 |_=>Gw
noncomputable def kZ (σ:Sg):V->Bool
 |.ref a=>match σ.cell a with
  |.dict _=>Gu
  |_=>Gw
 |_=>Gw
theorem pW {σ:Sg} {v:V} (h:jM σ v=Gu):∃a l,v=.ref a/\σ.cell a=.list l:=by
 cases v with
 |ref a=>
  revert h
  show(match σ.cell a with|.list _=>Gu|_=>Gw)=Gu->_
  cases e:σ.cell a with
  |list l=>exact fun Z=>⟨a,l,rfl,e⟩
  |_=>intro h;cases h
 |_=>cases h
theorem jT {σ:Sg} {v:V} (h:kZ σ v=Gu):∃a l,v=.ref a/\σ.cell a=.dict l:=by
 cases v with
 |ref a=>
  revert h
  show(match σ.cell a with|.dict _=>Gu|_=>Gw)=Gu->_
  cases e:σ.cell a with
  |dict l=>exact fun Z=>⟨a,l,rfl,e⟩
  |_=>intro h;cases h
 |_=>cases h
noncomputable abbrev aC:=GS->List V->(V->Sg->Prop)->(Sg->Prop)->Sg->Prop
noncomputable def fE (v:V) (σ:Sg):Option (List V):=match v with
 |.str k=>if(mc k).isSome then Gq [.str k] else Gs
 |v=>match aX v σ with
  |some l=>if l.length<=1000000 then Gq l else Gs
  |none=>Gs
def b9 (v:V) (l:List V) (σ:Sg):Prop:=match v with
 |.ref a=>a<σ.n/\σ.cell a=.list l
 |_=>True
noncomputable def aZ (n:Int):List V:=(Jz n.toNat).map fun(i:Nat)=>V.int (i:Int)
noncomputable def eY (ρ:List (Option V)):kw->V->Sg->Option (List (Option V))
 |.loc k,v,_=>Gq (ρ.set k (Gq v))
 |.locs ks,v,σ=>match v with
  |.tup vs=>if ks.length=vs.length/\(ks.length=2\/ks.length=3) then Gq ((ks.zip vs).foldl (fun ρ b=>ρ.set b.1 (Gq b.2)) ρ) else Gs
  |_=>Gs
noncomputable def compW (W:V->(V->Sg->Prop)->(Sg->Prop)->Sg->Prop) (b:Sg->Prop) (X:Sg->Prop):List V->List V->(List V->Sg->Prop)->Sg->Prop
 |[],acc,Q,σ=>b σ/\Q acc σ
 |i::r,acc,Q,σ=>b σ/\W i (fun u σ'=>compW W b X r (acc++[u]) Q σ') X σ
mutual
noncomputable def wpE (T:lU) (C:aC) (ρ:List (Option V)):E->(V->Sg->Prop)->(Sg->Prop)->Sg->Prop
 |.const v,Q,_,σ=>Q v σ
 |.loc k,Q,_,σ=>match ρ[k]? with
  |some (Gq v)=>Q v σ
  |_=>False
 |.op p es,Q,X,σ=>wpEs T C ρ es (fun vs σ'=>match aJ T p vs σ' with
  |some (v,σ'')=>Q v σ''
  |none=>False) X σ
 |.and a b,Q,X,σ=>wpE T C ρ a (fun v σ'=>match b6 σ' v with
  |some Gu=>wpE T C ρ b Q X σ'
  |some Gw=>Q v σ'
  |none=>False) X σ
 |.or a b,Q,X,σ=>wpE T C ρ a (fun v σ'=>match b6 σ' v with
  |some Gu=>Q v σ'
  |some Gw=>wpE T C ρ b Q X σ'
  |none=>False) X σ
 |.ite c a b,Q,X,σ=>wpE T C ρ c (fun v σ'=>match b6 σ' v with
  |some t=>(match t with
   |true=>wpE T C ρ a Q X σ'
   |false=>wpE T C ρ b Q X σ')
  |none=>False) X σ
 |.chain _ _ _,_,_,_=>False
 |.tsorted e,Q,X,σ=>wpE T C ρ e (fun v σ'=>∃a kvs,v=.ref a/\σ'.cell a=.dict kvs/\kvs.length<=200/\∀l:List Int,l.Perm (kvs.map (·.1))->Q (.tup (l.map .int)) (σ'.alloc (.list (l.map .int)))) X σ
 |.app o e,Q,X,σ=>wpE T C ρ o (fun v σ'=>jM σ' v=Gu/\wpE T C ρ e (fun y σ''=>match aJ T .app [v,y] σ'' with
  |some (r,σ₃)=>Q r σ₃
  |none=>False) X σ') X σ
 |.getD o k d,Q,X,σ=>wpE T C ρ o (fun v σ'=>kZ σ' v=Gu/\wpE T C ρ k (fun y σ''=>wpE T C ρ d (fun z σ₃=>match aJ T .get [v,y,z] σ₃ with
  |some (r,σ₄)=>Q r σ₄
  |none=>False) X σ'') X σ') X σ
 |.dct1 k v,Q,X,σ=>wpE T C ρ k (fun x σ₁=>wpE T C ρ v (fun y σ₂=>∃i,x=.int i/\σ₂.cell σ.n=.dict []/\Q (.ref σ.n) (σ₂.set σ.n (.dict [(i,y)]))) X σ₁) X (σ.alloc (.dict []))
 |.dtrue _ e,Q,X,σ=>wpE T C ρ e (fun v σ'=>∃a i,v=.ref a/\σ'.cell a=.list [.int i]/\Q (.ref σ'.n) (σ'.alloc (.dict [(i,.bool Gu)]))) X σ
 |.callF f es,Q,X,σ=>wpEs T C ρ es (fun vs σ'=>C f vs Q X σ') X σ
 |.callM n r es,Q,X,σ=>wpE T C ρ r (fun v σ'=>match d6 T n σ' v with
  |some f=>wpEs T C ρ es (fun vs σ''=>C f (v::vs) Q X σ'') X σ'
  |none=>False) X σ
 |.callC c es,Q,X,σ=>wpEs T C ρ es (fun vs σ'=>match lookC c T.inits with
  |some (Gq f)=>C f (.ref σ'.n::vs) (fun r σ''=>r=.none/\Q (.ref σ'.n) σ'') X (σ'.alloc (.inst c []))
  |some Gs=>match vs with
   |[]=>Q (.ref σ'.n) (σ'.alloc (.inst c []))
   |_=>False
  |none=>False) X σ
 |.comp vars t elt iter,Q,X,σ=>wpE T C ρ iter (fun v σ'=>match fE v σ' with
  |some l=>compW (fun i Q' X' σ''=>wpE T C ((vars.map fun|none=>Gs|some k=>(ρ[k]?).join).set t (Gq i)) elt Q' X' σ'') (b9 v l) X l [] (fun us σ''=>Q (.ref σ''.n) (σ''.alloc (.list us))) σ'
  |none=>False) X σ
 |.compR vars t elt iter,Q,X,σ=>wpE T C ρ iter (fun v σ'=>∃n,v=.int n/\0<=n/\n<=1000000/\compW (fun i Q' X' σ''=>wpE T C ((vars.map fun|none=>Gs|some k=>(ρ[k]?).join).set t (Gq i)) elt Q' X' σ'') (fun Z=>True) X (aZ n) [] (fun us σ''=>Q (.ref σ''.n) (σ''.alloc (.list us))) σ') X σ
noncomputable def wpEs (T:lU) (C:aC) (ρ:List (Option V)):List E->(List V->Sg->Prop)->(Sg->Prop)->Sg->Prop
 |[],Q,_,σ=>Q [] σ
 |e::r,Q,X,σ=>wpE T C ρ e (fun v σ'=>wpEs T C ρ r (fun vs σ''=>Q (v::vs) σ'') X σ') X σ
end
noncomputable def wpB (T:lU) (C:aC) (ρ:List (Option V)):E->(Bool->Sg->Prop)->(Sg->Prop)->Sg->Prop
 |.and a b,Q,X,σ=>wpB T C ρ a (fun t σ'=>match t with
  |true=>wpB T C ρ b Q X σ'
  |false=>Q Gw σ') X σ
 |.or a b,Q,X,σ=>wpB T C ρ a (fun t σ'=>match t with
  |true=>Q Gu σ'
  |false=>wpB T C ρ b Q X σ') X σ
 |.chain a b c,Q,X,σ=>wpE T C ρ a (fun x σ'=>wpE T C ρ b (fun y d=>match x,y with
  |.int i,.int j=>if i<=j then wpE T C ρ c (fun z f=>match z with
   |.int k=>Q (GI (j<k)) f
   |_=>False) X d else Q Gw d
  |_,_=>False) X σ') X σ
 |e,Q,X,σ=>wpE T C ρ e (fun v σ'=>match b6 σ' v with
  |some t=>Q t σ'
  |none=>False) X σ
noncomputable abbrev cU:=Fl->List (Option V)->Sg->Prop
noncomputable def forW (W:V->List (Option V)->cU->Sg->Prop) (c:Sg->Prop):List V->List (Option V)->cU->Sg->Prop
 |[],ρ,Q,σ=>c σ/\Q .next ρ σ
 |i::r,ρ,Q,σ=>c σ/\W i ρ (fun fl b σ'=>match fl with
  |.next|.cont=>forW W c r b Q σ'
  |.ret v=>Q (.ret v) b σ') σ
def A9 (B:List (Option V)->(Bool->Sg->Prop)->Sg->Prop) (W:List (Option V)->cU->Sg->Prop) (ρ:List (Option V)) (Q:cU) (σ:Sg):Prop:=
 ∃I:Nat->List (Option V)->Sg->Prop,(∃n,I n ρ σ)/\∀n ρ σ,I n ρ σ->B ρ (fun t c=>match t with
  |false=>Q .next ρ c
  |true=>W ρ (fun e d b=>match e with
   |.next|.cont=>∃m,m<n/\I m d b
   |.ret v=>Q (.ret v) d b) c) σ
noncomputable def oA (T:lU) (σ:Sg) (n:Nat) (u:V):V->Option Sg
 |.ref a=>match σ.cell a with
  |.inst c b=>if a<σ.n/\b.length<=100/\bZ T c n then Gq (σ.set a (.inst c (putN' n u b))) else Gs
  |_=>Gs
 |_=>Gs
noncomputable def ji (σ:Sg) (u:V):V->V->Option Sg
 |.ref a,.int i=>match σ.cell a with
  |.list l=>if a<σ.n/\l.length<=1000000/\0<=i/\i<l.length then Gq (σ.set a (.list (l.set i.toNat u))) else Gs
  |.dict kvs=>if a<σ.n/\kvs.length<=1000000 then Gq (σ.set a (.dict (putI i u kvs))) else Gs
  |_=>Gs
 |_,_=>Gs
mutual
noncomputable def wpS (T:lU) (C:aC):S->List (Option V)->cU->(Sg->Prop)->Sg->Prop
 |.expr e,ρ,Q,X,σ=>wpE T C ρ e (fun Z σ'=>Q .next ρ σ') X σ
 |.assign t e,ρ,Q,X,σ=>wpE T C ρ e (fun v σ'=>match eY ρ t v σ' with
  |some ρ'=>Q .next ρ' σ'
  |none=>False) X σ
 |.setAttr o n e,ρ,Q,X,σ=>wpE T C ρ e (fun u σ₁=>wpE T C ρ o (fun v σ₂=>match oA T σ₂ n u v with
  |some σ₃=>Q .next ρ σ₃
  |none=>False) X σ₁) X σ
 |.setIdx o i e,ρ,Q,X,σ=>wpE T C ρ e (fun u σ₁=>wpE T C ρ o (fun v σ₂=>wpE T C ρ i (fun j σ₃=>match ji σ₃ u v j with
  |some σ₄=>Q .next ρ σ₄
  |none=>False) X σ₂) X σ₁) X σ
 |.aug k op e,ρ,Q,X,σ=>∃a,ρ[k]? =Gq (Gq (.int a))/\wpE T C ρ e (fun v σ'=>∃b r,v=.int b/\dT op a b=Gq r/\Q .next (ρ.set k (Gq (.int r))) σ') X σ
 |.augAttr o n op e,ρ,Q,X,σ=>wpE T C ρ o (fun v σ₁=>∃a,ky T n σ₁ v=Gq (.int a)/\wpE T C ρ e (fun u σ₂=>∃b r σ₃,u=.int b/\dT op a b=Gq r/\oA T σ₂ n (.int r) v=Gq σ₃/\Q .next ρ σ₃) X σ₁) X σ
 |.augIdx o i op e,ρ,Q,X,σ=>wpE T C ρ o (fun v σ₁=>wpE T C ρ i (fun j σ₂=>∃a σz,aJ T .idx [v,j] σ₂=Gq (.int a,σz)/\wpE T C ρ e (fun u σ₃=>∃b r σ₄,u=.int b/\dT op a b=Gq r/\ji σ₃ (.int r) v j=Gq σ₄/\Q .next ρ σ₄) X σ₂) X σ₁) X σ
 |.ret e,ρ,Q,X,σ=>wpE T C ρ e (fun v σ'=>Q (.ret v) ρ σ') X σ
 |.ite c a b,ρ,Q,X,σ=>wpB T C ρ c (fun t σ'=>match t with
  |true=>wpSs T C a ρ Q X σ'
  |false=>wpSs T C b ρ Q X σ') X σ
 |.while c b,ρ,Q,X,σ=>A9 (fun ρ Q' σ=>wpB T C ρ c Q' X σ) (fun ρ Q' σ=>wpSs T C b ρ Q' X σ) ρ Q σ
 |.for t e b,ρ,Q,X,σ=>wpE T C ρ e (fun v σ'=>match aX v σ' with
  |some l=>forW (fun i ρ Q' σ=>match eY ρ t i σ with
   |some ρ'=>wpSs T C b ρ' Q' X σ
   |none=>False) (b9 v l) l ρ Q σ'
  |none=>False) X σ
 |.forR k e b,ρ,Q,X,σ=>wpE T C ρ e (fun v σ'=>∃n,v=.int n/\0<=n/\n<=1000000/\forW (fun i ρ Q' σ=>wpSs T C b (ρ.set k (Gq i)) Q' X σ) (fun Z=>True) (aZ n) ρ Q σ') X σ
 |.cont,ρ,Q,_,σ=>Q .cont ρ σ
 |.raise e,ρ,_,X,σ=>wpE T C ρ e (fun v σ'=>∃i,v=.int i/\0<=i/\i<=1000000/\X σ') X σ
 |.stuck,_,_,_,_=>False
 |.try b h,ρ,Q,X,σ=>wpSs T C b ρ Q (fun σ'=>wpSs T C h (ρ.map fun Z=>Gs) Q X σ') σ
 |.frz k,ρ,Q,_,σ=>match ρ[k]? with
  |some (Gq v)=>∃v' σ',FrzL σ [v] [v'] σ'/\Q .next (ρ.set k (Gq v')) σ'
  |_=>False
noncomputable def wpSs (T:lU) (C:aC):List S->List (Option V)->cU->(Sg->Prop)->Sg->Prop
 |[],ρ,Q,_,σ=>Q .next ρ σ
 |s::r,ρ,Q,X,σ=>wpS T C s ρ (fun fl ρ' σ'=>match fl with
  |.next=>wpSs T C r ρ' Q X σ'
  |fl=>Q fl ρ' σ') X σ
end
noncomputable def Op.m:Op->Lp
 |.add=>.Add|.sub=>.Sub|.mul=>.Mult|.fdiv=>.FloorDiv|.mod=>.Mod|.pow=>.Pow|.shl=>.LShift|.shr=>.RShift|.band=>.BitAnd|.bor=>.BitOr|.bxor=>.BitXor
noncomputable def Rel.m:Rel->CmpOp
 |.eq=>.Eq|.ne=>.NotEq|.lt=>.Lt|.le=>.LtE|.gt=>.Gt|.ge=>.GtE
theorem jj {a:Int} (h:a.natAbs<2^3000):JO a<=3000:=by
 unfold JO
 split
 ·exact(l0 118274766856)
 ·rename_i q
  have:a.natAbs≠0:=fun e=>q (by simpa using e)
  have:=(NB this).mpr h
  exact(l1 0x1c89b9b801b89b9b87180) this
theorem pR {a:Int} (h:a.natAbs<2^60):JO a<=64:=by
 unfold JO
 split
 ·exact(l0 453593096)
 ·rename_i q
  have:a.natAbs≠0:=fun e=>q (by simpa using e)
  have:=(NB this).mpr h
  exact(l1 0x1cc93801b09487180) this
theorem DF {a b:Int} (c:a.natAbs<2^3000) (d:b.natAbs<2^3000):IntMulOk a b:=by
 have f:=jj c
 have g:=jj d
 intro h
 have e:=(GX.mp h).2
 have i:=of_decide_eq_true e
 have:(bitsLine:Int)=134217728:=rfl
 lia
section
variable {prog:Il} {w:Hh} {A:Hf} {E:Gy->GA->Prop} {s:GA} {a b r:Int} {t u:MY} {Q:Gy->GA->Prop}
theorem C8 (op:Op) (e:dT op a b=Gq r) (h:Q (.int r s.toks) {s with toks:=s.toks+1}):G0 (GO prog w) A (binaryOp op.m (.int a t) (.int b u)) Q E s:=by
 cases op
 ·cases e;exact Pt h
 ·cases e;exact Pu h
 ·change ite _ _ _=_ at e
  split at e
  ·rename_i q;cases e;exact Pw h (q.elim (fun q=>.of_left (pR q)) fun q=>DF q.1 q.2)
  ·cases e
 ·change ite _ _ _=_ at e
  split at e
  ·cases e
  ·rename_i q;cases e;exact Px (fun z=>q (.inl z)) h (.inl (PyProof.noPylong_small (by lia)))
 ·change ite _ _ _=_ at e
  split at e
  ·cases e
  ·rename_i q;cases e;exact Py q h
 ·change ite _ _ _=_ at e
  split at e
  ·rename_i q;cases e;exact Pz q.1 (by lia) q.2.2 h
  ·cases e
 ·change ite _ _ _=_ at e
  split at e
  ·rename_i q;cases e;exact PA q.1 q.2.1 q.2.2 h
  ·cases e
 ·change ite _ _ _=_ at e
  split at e
  ·rename_i q;cases e;exact PB q h
  ·cases e
 ·cases e;exact PC h
 ·cases e;exact PD h
 ·cases e;exact PE h
theorem qq (op:Op) (e:dT op a b=Gq r) (c:op=.add\/op=.bor) (h:Q (.int r s.toks) {s with toks:=s.toks+1}):G0 (GO prog w) A (inplaceOp op.m (.int a t) (.int b u)) Q E s:=by
 rcases c with rfl|rfl<;>cases e
 ·exact PG h
 ·exact PH h
theorem CS (op:Rel) (h:Q (.bool (A5 op a b)) s):G0 (GO prog w) A (MD op.m (.int a t) (.int b u)) Q E s:=by
 cases op
 ·exact PI h
 ·exact PJ h
 ·exact PK h
 ·exact PL h
 ·exact PM h
 ·exact PN h
end
structure U where
 prog:Il
 T:lU
 Kf:Params->I0
 gl:List (Hb×Gy)
 te:GS
noncomputable def lookS (x:Hb):List (Hb×Gy)->Option Gy
 |[]=>Gs
 |e::r=>if e.1=x then Gq e.2 else lookS x r
structure Rm (A:Hf) (d:Nat) (Fs:List J2):Prop where
 handled:A.handled=Gs
 depth:A.depth+20 * d+20<=900
 units:A.units+100 * d+100<=9000
 frames:A.frames=Gq Fs
structure D3 (A:Hf) (d:Nat) (Fs:List J2):Prop where
 handled:A.handled=Gs
 depth:A.depth+20 * d+10<=900
 units:A.units+100 * d+50<=9000
 frames:A.frames=Gq Fs
theorem Rm.toC {A:Hf} {d:Nat} {Fs:List J2} (r:Rm A d Fs):D3 A d Fs:=⟨r.handled,by have:=r.depth;exact(l1 0x1b4989387491801b4989387a80) this,by have:=r.units;exact(l1 0x1b892939287496801b89293928729380) this,r.frames⟩
noncomputable def dg:List Hb:=[Ho "len",Ho "sorted",Ho "range",Ho "tuple",Ho "str",Ho "int",Ho "abs",Ho "sum",Ho "ord",Ho "max",Ho "min",Ho "Exception"]
structure Gd (u:U) (w:Hh) (base:HV):Prop where
 inK:(u.Kf w.params).In base
 globals:∃mg,base.Ns Iz mg/\(∀x v,lookS x u.gl=Gq v->mg x=Gq v)/\∀x∈dg,mg x=Gs
 builtins:∃mb,base.Ns KM mb/\∀x∈dg,mb x=Kz x
 lim:base.NoLimit
inductive ol (u:U) (L:Option GS) (e:Gy) (ps:List GS) (h:HV):Prop where
 |mk (a:GS) (oe:JH) (vs:Array Gy) (he:e=.ref a) (ha:h.get? a=Gq oe) (hc:oe.cls=.ref u.te) (hd:oe.data=.fields vs) (k:(ps=[a]/\vs[1]? =Gq .none)\/
  ∃t ot ts x,ps=[a,t]/\t≠a/\vs[1]? =Gq (.ref t)/\h.get? t=Gq ot/\ot.data=.fields ts/\ts[3]? =Gq x/\(x=.none\/∃l,L=Gq l/\x=H6 l))
inductive AU (base:HV) (Fs:List J2) (Pv:List GS) (G:Gh) (σ:Sg) (s:GA) (Q:V->Sg->Prop) (v:Gy) (s':GA):Prop where
 |mk (G':Gh) (σ':Sg) (x:V) (i:ff base Fs Pv G' σ' s'.heap) (a:gf Fs G σ s.heap G' σ' s'.heap) (g:s'.gens=s.gens) (o:s'.os=s.os) (r:VRep G' x v) (q:Q x σ')
inductive AE (base:HV) (Fs:List J2) (Pv:List GS) (u:U) (G:Gh) (σ:Sg) (s:GA) (X:Sg->Prop) (e:Gy) (s':GA):Prop where
 |mk (G':Gh) (σ':Sg) (ps:List GS) (i:ff base Fs (ps++Pv) G' σ' s'.heap) (a:gf Fs G σ s.heap G' σ' s'.heap) (g:s'.gens=s.gens) (o:s'.os=s.os) (x:ol u Gs e ps s'.heap) (n:∀b∈ps,s.heap.get? b=Gs) (q:X σ')
def eE (base:HV) (Fs:List J2) (b:List GS) (u:U) (G:Gh) (σ:Sg) (s:GA) (Q:V->Sg->Prop) (X:Sg->Prop) (r:ME) (c:GA):Prop:=match r with
 |.ok (.ret v)=>AU base Fs b G σ s Q v c
 |.ok _=>False
 |.error e=>AE base Fs b u G σ s X e c
noncomputable def ae (u:U) (d:Nat):aC:=fun f e Q X i=>
 ∀(w:Hh) (A:Hf) (b:HV) (g:List J2) (j:List GS) (G:Gh) (s:GA) (c:List Gy),Gd u w b->D3 A d g->ff b g j G i s.heap->@Oo Nat instLENat b.objs.size s.heap.objs.size->VReps G e c->
  IP (GO u.prog w) A (.call (.ref f) ⟨c,[]⟩) (eE b g j u G i s Q X) s
inductive hG (c:Cx) (ρ:List (Option V)) (G:Gh) (Q:V->Sg->Prop) (v:Gy) (s':GA):Prop where
 |mk (G':Gh) (σ':Sg) (r:V) (a:At c ρ G' σ' s') (l:G.Le G') (h:VRep G' r v) (q:Q r σ')
inductive CC (c:Cx) (ρ:List (Option V)) (G:Gh) (Q:List V->Sg->Prop) (vs:List Gy) (s':GA):Prop where
 |mk (G':Gh) (σ':Sg) (rs:List V) (a:At c ρ G' σ' s') (l:G.Le G') (h:VReps G' rs vs) (q:Q rs σ')
inductive a9 (u:U) (c:Cx) (X:Sg->Prop) (e:Gy) (s':GA):Prop where
 |mk (G':Gh) (σ':Sg) (ps:List GS) (i:ff c.base c.Fs (ps++c.Pv) G' σ' s'.heap) (a:gf c.Fs c.G₀ c.σ₀ c.s₀.heap G' σ' s'.heap) (g:s'.gens=c.s₀.gens) (o:s'.os=c.s₀.os) (x:ol u c.env.frame e ps s'.heap) (n:∀b∈ps,c.s₀.heap.get? b=Gs) (m:∃m,s'.heap.Ns c.env.locals m) (q:X σ')
def ao (u:U) (d:Nat) (names:List (Hb×G2)) (e:GW) (g:E):Prop:=
 ∀(w:Hh) (A:Hf) (c:Cx),aI c->c.env.scope.names=names->Gd u w c.base->Rm A d c.Fs->∀(b:List (Option V)) (G:Gh) (f:Sg) (s:GA) (Q:V->Sg->Prop) (X:Sg->Prop),At c b G f s->wpE u.T (ae u d) b g Q X f->
  G0 (GO u.prog w) A (J3 e c.env) (hG c b G Q) (a9 u c X) s
section
variable {u:U} {d:Nat} {names:List (Hb×G2)} {w:Hh} {A:Hf} {c:Cx} {ρ:List (Option V)} {G:Gh} {σ:Sg} {s:GA}
theorem hG.of {Q:V->Sg->Prop} {v:Gy} {x:V} (a:At c ρ G σ s) (h:VRep G x v) (q:Q x σ):hG c ρ G Q v s:=⟨G,σ,x,a,.refl _,h,q⟩
theorem hG.le {Q:V->Sg->Prop} {v:Gy} {f:Gh} {g:GA} (l:G.Le f) (h:hG c ρ f Q v g):hG c ρ G Q v g:=by
 obtain⟨e,b,x,a,i,r,q⟩:=h;exact⟨e,b,x,a,l.trans i,r,q⟩
theorem ay {e:GW} {i:E} (S:ao u d names e i) (j:aI c) (m:c.env.scope.names=names) (g:Gd u w c.base) (n:Rm A d c.Fs) {P:Gy->GA->Prop} {Q:V->Sg->Prop} {X:Sg->Prop} (a:At c ρ G σ s)
  (h:wpE u.T (ae u d) ρ i Q X σ) (k:∀v f b σ' x,At c ρ b σ' f->G.Le b->VRep b x v->Q x σ'->P v f):G0 (GO u.prog w) A (J3 e c.env) P (a9 u c X) s:=
 G1 (S w A c j m g n ρ G σ s Q X a h) (fun v f o=>by obtain⟨b,σ',x,p,l,r,q⟩:=o;exact k v f b σ' x p l r q) fun Z Z x=>x
theorem kind_at {env:J2} (hd:(env.scope.names.map (·.1)).Nodup) {k:Nat} {x:Hb×G2} (h:env.scope.names[k]? =Gq x):env.kindOf x.1=Gq x.2:=by
 unfold Ik;generalize env.scope.names=l at hd h
 induction l generalizing k with
 |nil=>simp at h
 |cons y l g=>
  obtain⟨b,m⟩:=y;rw [Hp,IW] at hd
  cases k with
  |zero=>simp at h;subst h;simp [Pc]
  |succ k=>
   have f:l[k]? =Gq x:=by simpa using h
   have i:x.1∈l.map (·.1):=Hj.mpr ⟨x,GJ f,rfl⟩
   have j:¬x.1=b:=fun e=>hd.1 (e▸i)
   rw [IK]
   have:(x.1==b)=Gw:=by simpa using j
   rw [this];exact g hd.2 f
theorem xa {T:lU} {C:aC} {k:Nat} {v:V} {Q:V->Sg->Prop} {X:Sg->Prop} (e:ρ[k]? =Gq (Gq v)) (q:Q v σ):wpE T C ρ (.loc k) Q X σ:=by
 show(match ρ[k]? with|some (Gq v)=>Q v σ|_=>False)
 rw [e];exact q
theorem qP {x:Hb} {pos:HO} {k:Nat} {kd:G2} (o:names[k]? =Gq (x,kd)) (hd:(x==("__debug__":Hb))=Gw) (p:(x==("__classdict__":Hb))=Gw):ao u d names (.Name x pos) (.loc k):=by
 intro w A c i q g D ρ G σ s Q X a h
 have h:(match ρ[k]? with|some (Gq v)=>Q v σ|_=>False):=h
 split at h
 ·rename_i v t;obtain⟨m,z,B,_⟩:=a.envr
  have l:c.env.scope.names[k]? =Gq (x,kd):=by rw [q];exact o
  have j:=kind_at i.nodup l
  refine wpAny_Name ?_ hd;rcases B k _ v l t with ⟨e,y,C,r⟩ |⟨e,b,y,n,f,r⟩
  ·exact Lq i.kind (by rw [j];exact congrArg Gq e) z C (.of a r h)
  ·rcases e with e|e
   ·exact OD i.kind (by rw [j];exact congrArg Gq e) n f (.of a r h)
   ·exact OE i.kind (by rw [j];exact congrArg Gq e) n f (.of a r h) p
 ·exact h.elim
theorem vF {k pos}:ao u d names (.Constant .none k pos) (.const .none):=by
 intro w A c b e g f ρ G σ s Q X a h;exact Ku (.of a (by rfl) h)
theorem oE {b k pos}:ao u d names (.Constant (.bool b) k pos) (.const (.bool b)):=by
 intro w A c e f g i ρ G σ s Q X a h;exact wpAny_Constant_bool (.of a (by rfl) h)
theorem xc {i k pos}:ao u d names (.Constant (.int i) k pos) (.const (.int i)):=by
 intro w A c b e g f ρ G σ s Q X a h;exact KN (.of (a.tok _) (by exact⟨_,rfl⟩) h)
theorem yX {x:Hb} {j k pos} (e:nm j=x):ao u d names (.Constant (.str x) k pos) (.const (.str j)):=by
 intro w A c b f g i ρ G σ s Q X a h;exact LY (.of (a.tok _) (by exact⟨_,by rw [e]⟩) h)
theorem pf {x:Hb} {pos:HO} {i:Int} {t:MY} (f:names.lookup x=Gq .globalImplicit) (e:lookS x u.gl=Gq (.int i t)) (hd:(x==("__debug__":Hb))=Gw):ao u d names (.Name x pos) (.const (.int i)):=by
 intro w A c b j g n ρ G σ s Q X a h;obtain⟨k,l,m,_⟩:=g.globals
 have:s.heap.Ns c.env.globals k:=by rw [b.glob];exact l.keeps a.inv.stays
 exact HW b.kind (by unfold Ik;rw [j];exact f) (Jk this (m x _ e) (.of a (by exact⟨_,rfl⟩) h)) hd
set_option tactic.hygienic true in
theorem tf {l r:GW} {L M:E} {p:lM} (Y:ao u d names l L) (Z:ao u d names r M) (N:aI c) (O:c.env.scope.names=names) (g:Gd u w c.base) (R:Rm A d c.Fs) {Q:V->Sg->Prop} {X:Sg->Prop} {P:Gy->Gy->GA->Prop}
  (a:At c ρ G σ s) (h:wpE u.T (ae u d) ρ (.op p [L,M]) Q X σ)
  (k:∀x y S T K σ' U r i,At c ρ K σ' U->G.Le K->VRep K x S->VRep K y T->aJ u.T p [x,y] σ'=Gq (r,i)->Q r i->P S T U):
  G0 (GO u.prog w) A (J3 l c.env) (fun a o=>G0 (GO u.prog w) A (J3 r c.env) (fun b j=>P a b j) (a9 u c X) o) (a9 u c X) s:=by
 have h:wpE u.T (ae u d) ρ L (fun x m=>wpE u.T (ae u d) ρ M (fun y f=>match aJ u.T p [x,y] f with|some (v,i)=>Q v i|none=>False) X m) X σ:=h
 refine ay Y N O g R a h fun v o W m x B C D F=>?_;refine ay Z N O g R B F fun v' j H f y I q J n=>?_
 split at n
 ·rename_i z t e;exact k x y v v' H f j z t I (C.trans q) (D.mono q) J e n
 ·exact n.elim
set_option tactic.hygienic true in
theorem kH {l:GW} {y:E} {p:lM} (F:ao u d names l y) (H:aI c) (I:c.env.scope.names=names) (g:Gd u w c.base) (J:Rm A d c.Fs) {Q:V->Sg->Prop} {X:Sg->Prop} {P:Gy->GA->Prop}
  (a:At c ρ G σ s) (h:wpE u.T (ae u d) ρ (.op p [y]) Q X σ)
  (k:∀x C B σ' D r f,At c ρ B σ' D->G.Le B->VRep B x C->aJ u.T p [x] σ'=Gq (r,f)->Q r f->P C D):
  G0 (GO u.prog w) A (J3 l c.env) P (a9 u c X) s:=by
 have h:wpE u.T (ae u d) ρ y (fun x b=>match aJ u.T p [x] b with|some (v,f)=>Q v f|none=>False) X σ:=h
 refine ay F H I g J a h fun v m n b x o q t i=>?_
 split at i
 ·rename_i z j e;exact k x v n b m z j o q t e i
 ·exact i.elim
end
section
variable {u:U} {d:Nat} {names:List (Hb×G2)} {w:Hh} {A:Hf} {c:Cx} {ρ:List (Option V)} {G:Gh} {σ:Sg} {s:GA}
theorem At.cell (a:At c ρ G σ s) {i:Nat} {cl:Cell} (hi:i<G.N) (b:σ.cell i=cl) (hd:cl≠.dead):aT σ i/\io G s.heap i cl:=by
 have e:aT σ i:=⟨a.inv.N▸hi,by rw [b];exact hd⟩
 exact⟨e,b▸a.inv.cells i e⟩
theorem aU {i:Nat} {v:Gy} (h:VRep G (.ref i) v):i<G.N/\v=.ref (G.φ i):=by exact h
theorem aE {i:Int} {v:Gy} (h:VRep G (.int i) v):∃t,v=.int i t:=by exact h
theorem gr {b:Bool} {v:Gy} (h:VRep G (.bool b) v):v=.bool b:=by exact h
theorem fT {k:Nat} {v:Gy} (h:VRep G (.str k) v):∃t,v=.str (nm k) t:=by exact h
theorem vH {v:Gy} (h:VRep G .none v):v=.none:=by exact h
theorem fK {vs:List V} {v:Gy} (h:VRep G (.tup vs) v):∃a items n,v=.ref a/\G.Z a=Gq {cls:=.type "tuple",data:=.seq items n}/\VReps G vs items.toList:=by exact h
theorem eJ {vs:List V} {v:Gy} (h:VRep G (.lst vs) v):∃a items n,v=.ref a/\G.Z a=Gq {cls:=.type "list",data:=.seq items n}/\VReps G vs items.toList:=by exact h
theorem bz (i:Int) (t:MY):VRep G (.int i) (.int i t):=by exact⟨t,rfl⟩
theorem bO (b:Bool):VRep G (.bool b) (.bool b):=by rfl
theorem iP:VRep G .none .none:=by rfl
theorem AL {i:Nat} (h:i<G.N):VRep G (.ref i) (.ref (G.φ i)):=by exact⟨h,rfl⟩
theorem aN (h:HV):h.get? h.objs.size=Gs:=by
 cases e:h.get? h.objs.size with
 |none=>rfl
 |some o=>exact absurd (Hy e) (HA _)
theorem gp (a:At c ρ G σ s) {items:Array Gy} {vs:List V} {n:Nat} {t:MY} (r:VReps G vs items.toList):
  ∃b,At c ρ b (σ.alloc (.list vs)) {s with heap:=s.heap.push (HM items n),toks:=t}/\G.Le b/\VRep b (.ref σ.n) (.ref s.heap.objs.size):=by
 have g:=Gh.add_le G s.heap.objs.size s.heap.objs.size
 have f:(s.heap.push (HM items n)).get? s.heap.objs.size=Gq (HM items n):=Hr _ rfl
 refine⟨G.add s.heap.objs.size s.heap.objs.size,a.track (fun Z Z e=>GQ _ e) (aN _) (aN _) ⟨_,f⟩ ⟨_,f⟩ ?_ (by simp),g,?_⟩
 ·refine⟨items,n,?_,r.mono g⟩;rw [show(G.add s.heap.objs.size s.heap.objs.size).φ G.N=s.heap.objs.size from if_pos rfl];exact f
 ·refine⟨by rw [<-a.inv.N];exact Gx _,?_⟩
  rw [show(G.add s.heap.objs.size s.heap.objs.size).φ σ.n=s.heap.objs.size from if_pos a.inv.N.symm]
theorem qW (a:At c ρ G σ s) {items:Array Gy} {vs:List V} {t:MY} (r:VReps G vs items.toList):
  ∃b,At c ρ b σ {s with heap:=s.heap.push {cls:=.type "tuple",data:=.seq items},toks:=t}/\G.Le b/\VRep b (.tup vs) (.ref s.heap.objs.size):=by
 obtain⟨g,f,z⟩:=a.froze (h':=s.heap.push {cls:=.type "tuple",data:=.seq items}) (t:=t) (a:=s.heap.objs.size) (o:={cls:=.type "tuple",data:=.seq items}) (fun Z Z e=>GQ _ e)
  (aN _) (Hr _ rfl)
 exact⟨_,g,f,by exact⟨_,_,_,rfl,z,r.mono f⟩⟩
theorem zt {l r:GW} {D F:E} {op:Op} {pos:HO} (T:ao u d names l D) (U:ao u d names r F):ao u d names (.BinOp l op.m r pos) (.op (.bin op) [D,F]):=by
 revert l r D F op pos;delta u d names;delta l r D F op pos;intro w A c V W g Y ρ G σ s Q X a h;revert ρ G σ s Q X;delta w A c;delta ρ G σ s Q X;refine Oq (tf T U V W g Y a h fun x y Z vy v o m z p b L M H e q=>?_);delta x y Z vy v o m z p
 cases x with
 |int i=>
  obtain⟨j,rfl,e⟩:=cv e;obtain⟨t,rfl⟩:=aE M;obtain⟨t',rfl⟩:=aE H;obtain⟨k,hk,e⟩:=GV.mp e;cases e;exact C8 op hk (.le L (.of (b.tok _) (bz _ _) q))
 |ref i=>
  delta i;obtain⟨j,rfl,e⟩:=dy e;injections j;intro e H e;obtain⟨I,e⟩:=ba e
  have I:op=.add:=by cases op<;>first|rfl|cases I
  subst I;obtain⟨k,N,e⟩:=bW e;injections k;intro N e;obtain⟨O,P,e⟩:=bW e;injections O;intro P e;obtain⟨J,e⟩:=ba e;cases e;obtain⟨hi,rfl⟩:=aU M;obtain⟨hj,rfl⟩:=aU H;obtain⟨_,items,n,g1,R⟩:=b.cell hi N (by simp)
  delta items n;obtain⟨_,f,n',g2,S⟩:=b.cell hj P (by simp)
  delta f n'
  have B:=R.length
  have C:=S.length
  simp only [Jo] at B C;refine PySem.P.add_list g1 g2 ?_ (by rw [B,C];exact(l1 0x1b09492949f801b090909090909180) J)
  obtain⟨G',a',K,rr⟩:=gp (n:=0) (t:=m.toks) b (items:=items++f) (vs:=k++O) (by rw [HB];exact R.append S)
  exact⟨G',_,_,a',L.trans K,rr,q⟩
 |_=>cases e
end
theorem qI:∀a,a<55->∀b,b<55->nm a=nm b->a=b:=by
 have h:(Jz 55).all (fun a=>(Jz 55).all fun b=>GI (a=b) || !(GI (nm a=nm b)))=Gu:=by decide+kernel
 intro a d b f e
 have g:=Hg.mp h a (JE.mpr d)
 have c:=Hg.mp g b (JE.mpr f)
 simp only [e,decide_true,OR,Bool.or_false,decide_eq_true_eq] at c;exact c
section
variable {u:U} {d:Nat} {names:List (Hb×G2)} {prog:Il} {w:Hh} {A:Hf} {c:Cx} {ρ:List (Option V)} {G:Gh} {σ:Sg} {s:GA}
theorem jJ {l:List V}:∀ {vs:List Gy} {is:List Int},VReps G l vs->ints? l=Gq is->KS vs is:=by
 induction l with
 |nil=>
  intro _ _ r e;subst r;cases e;exact .nil
 |cons x l b=>
  intro _ _ r e;obtain⟨y,k,rfl,f,g⟩:=r
  cases x with
  |int i=>
   obtain⟨is,j,rfl⟩:=GV.mp e;obtain⟨t,rfl⟩:=aE f;exact .cons i t (b g j)
  |_=>cases e
theorem jr {is:List Int} {vs:List Gy} (h:KS vs is):VReps G (is.map .int) vs:=by
 induction h with
 |nil=>exact .nil
 |cons n t h b=>exact .cons (bz n t) b
theorem uA {l:List V}:∀ {vs:List Gy} {ks:List Nat},VReps G l vs->strs? l=Gq ks->StrsAre vs (ks.map nm):=by
 induction l with
 |nil=>
  intro _ _ r e;subst r;cases e;exact .nil
 |cons x l b=>
  intro _ _ r e;obtain⟨y,k,rfl,f,g⟩:=r
  cases x with
  |str i=>
   obtain⟨m,j,rfl⟩:=GV.mp e;obtain⟨t,rfl⟩:=fT f;exact .cons _ t (b g j)
  |_=>cases e
theorem g9 {kvs:List (Int×V)}:∀ {b:List (Int×Gy)} (k:Int),DRep G kvs b->match lookI k kvs with|none=>Lj b k=Gs|some v=>∃x,Lj b k=Gq x/\VRep G v x:=by
 induction kvs with
 |nil=>
  intro _ k r;subst r;rfl
 |cons f kvs g=>
  intro _ k r;obtain⟨y,l,rfl,e,i,j⟩:=r;unfold lookI Lj
  by_cases q:f.1=k
  ·rw [if_pos q];refine⟨y.2,?_,i⟩;rw [K0,show GI (y.1=k)=Gu from decide_eq_true (e.trans q)];rfl
  ·rw [if_neg q,K0,show GI (y.1=k)=Gw from decide_eq_false (fun z=>q (e.symm.trans z))]
   exact g k j
theorem ui {ks:List Int}:∀ {vs:List V} {b:List (Int×Gy)},b.map (·.1)=ks->VReps G vs (b.map (·.2))->DRep G (ks.zip vs) b:=by
 induction ks with
 |nil=>
  intro vs b e r;cases b with|nil=>rfl|cons _ _=>cases e
 |cons k ks f=>
  intro vs b e r
  cases b with
  |nil=>cases e
  |cons g b=>
   cases vs with
   |nil=>cases r
   |cons v vs=>
    obtain⟨y,l,h,i,j⟩:=r;cases h;cases e;exact⟨g,b,rfl,rfl,i,f rfl j⟩
theorem hY {i:Nat} {kvs:List (Int×V)} (h:σ.cell i=.dict kvs):cM (.ref i) σ=Gq kvs:=by
 unfold cM;dsimp only;rw [h]
theorem pj {i:Nat} {l:List V} (h:σ.cell i=.list l):aX (.ref i) σ=Gq l:=by
 unfold aX;dsimp only;rw [h]
set_option tactic.hygienic true in
theorem eI (a:At c ρ G σ s) {x:V} {v:Gy} {kvs:List (Int×V)} (r:VRep G x v) (e:cM x σ=Gq kvs) (prog:Il) (w:Hh):
  ∃b f,v=.ref b/\s.heap.DictOf (Ji prog w) b f/\DRep G kvs f/\(b==KL)=Gw:=by
 cases x with
 |ref i=>
  obtain⟨m,rfl⟩:=aU r;unfold cM at e;dsimp only at e
  cases g:σ.cell i with
  |dict l=>
   rw [g] at e;cases e;obtain⟨n,f,o,j⟩:=a.cell m g nofun
   refine⟨_,f,rfl,bw.mpr o,j,?_⟩;obtain⟨y,p⟩:=a.inv.sys.1
   have:=(a.inv.fresh i n _ (.inl rfl)).1
   exact beq_false_of_ne fun q=>by rw [q,p] at this;cases this
  |_=>rw [g] at e;cases e
 |dic B C=>
  cases e;obtain⟨b,f,rfl,⟨o,z,t⟩,k,j⟩:=r;refine⟨b,f,rfl,bw.mpr ⟨o,a.inv.froz _ _ z,t⟩,ui k j,beq_false_of_ne fun q=>?_⟩;rw [q,a.inv.sys.2] at z;cases z
 |_=>cases e
set_option tactic.hygienic true in
theorem gV (a:At c ρ G σ s) {x:V} {v:Gy} {l:List V} (r:VRep G x v) (e:aX x σ=Gq l):
  ∃b items n,v=.ref b/\VReps G l items.toList/\((s.heap.get? b=Gq {cls:=.type "tuple",data:=.seq items n}/\x=.tup l)\/s.heap.get? b=Gq (HM items n)):=by
 cases x with
 |ref i=>
  obtain⟨m,rfl⟩:=aU r;unfold aX at e;dsimp only at e
  cases j:σ.cell i with
  |list k=>
   rw [j] at e;cases e;obtain⟨o,items,n,g,f⟩:=a.cell m j nofun
   exact⟨_,items,n,rfl,f,.inr g⟩
  |_=>rw [j] at e;cases e
 |tup k=>
  cases e;obtain⟨b,items,n,rfl,z,f⟩:=fK r;exact⟨b,items,n,rfl,f,.inl ⟨a.inv.froz _ _ z,rfl⟩⟩
 |lst k=>
  cases e;obtain⟨b,items,n,rfl,z,f⟩:=eJ r;exact⟨b,items,n,rfl,f,.inr (a.inv.froz _ _ z)⟩
 |_=>cases e
noncomputable abbrev iB (r:GW):Prop:=∀op,behindInMarks op r=Gw
theorem eP {x:V} {v:Gy} (r:VRep G x v):(v==I9)=x.isN/\plainIs v .none=Gu:=by
 cases x with
 |none=>cases r;exact⟨rfl,rfl⟩
 |bool _=>cases r;exact⟨rfl,rfl⟩
 |int _=>obtain⟨t,rfl⟩:=r;exact⟨rfl,rfl⟩
 |str _=>obtain⟨t,rfl⟩:=r;exact⟨rfl,rfl⟩
 |tup _=>obtain⟨a,_,_,rfl,_⟩:=r;exact⟨rfl,rfl⟩
 |lst _=>obtain⟨a,_,_,rfl,_⟩:=r;exact⟨rfl,rfl⟩
 |obj _ _ _=>obtain⟨a,_,_,_,rfl,_⟩:=r;exact⟨rfl,rfl⟩
 |dic _ _=>obtain⟨a,_,rfl,_⟩:=r;exact⟨rfl,rfl⟩
 |ref _=>obtain⟨_,rfl⟩:=r;exact⟨rfl,rfl⟩
theorem qy {l:GW} {j:E} {pos:HO} {k:Nat} {p:HO} (r:ao u d names l j):ao u d names (.Compare l [.Is] [.Constant .none k p] pos) (.op .isNone [j]):=by
 intro w A c t v g y ρ G σ s Q X a h;refine KO (kH r t v g y a h fun x C m f n z i b B o e q=>Ku ?_) rfl;cases e;refine wpAny_is_plain (eP o).2 ?_;rw [(eP o).1];exact .le B (.of b (bO _) q)
theorem oU {l:GW} {j:E} {pos:HO} {k:Nat} {p:HO} (r:ao u d names l j):ao u d names (.Compare l [.IsNot] [.Constant .none k p] pos) (.op .notNone [j]):=by
 intro w A c t v g y ρ G σ s Q X a h;refine KO (kH r t v g y a h fun x C m f n z i b B o e q=>Ku ?_) rfl;cases e;refine wpAny_isNot_plain (eP o).2 ?_;rw [(eP o).1];exact .le B (.of b (bO _) q)
theorem d4 {b:GS} {items:Array Gy} {n:Nat} (h:s.heap.get? b=Gq {cls:=.type "tuple",data:=.seq items n}):IsTup s.heap b items:=⟨_,h,rfl,n,rfl⟩
theorem aY {b:GS} {items:Array Gy} {n:Nat} (h:s.heap.get? b=Gq (HM items n)):s.heap.IsList b items:=⟨_,h,rfl,n,rfl⟩
theorem jB (a:At c ρ G σ s) {kvs:List (Int×V)} {b:List (Int×Gy)} (r:DRep G kvs b) (k:Int):(Lj b k).isSome=(lookI k kvs).isSome:=by
 have:=g9 k r
 split at this
 ·rename_i e;rw [e,this];rfl
 ·rename_i e;obtain⟨x,h,_⟩:=this;rw [e,h];rfl
theorem f9 (i:Int) (t:MY):HY i (.int i t)=Gu:=by simp [HY]
theorem qh {i j:Nat} (hi:i<55) (b:j<55):(nm i==nm j)=GI (i=j):=by
 by_cases e:i=j
 ·subst e;simp
 ·rw [beq_false_of_ne fun z=>e (qI i hi j b z),decide_eq_false e]
theorem B7 {i:Nat} (hi:i<55) {ks:List Nat}:ks.all (· <55)=Gu->(ks.map nm).any (· ==nm i)=ks.any (· ==i):=by
 induction ks with
 |nil=>
  intro _;exact rfl
 |cons k ks b=>
  intro h;obtain⟨e,f⟩:=GX.mp h;rw [Hp,IY,IY,b f,qh (of_decide_eq_true e) hi];rfl
set_option tactic.hygienic true in
theorem Bn {l r:GW} {F H:E} {pos:HO} (B:ao u d names l F) (O:ao u d names r H) (P:iB r):ao u d names (.Compare l [.In] [r] pos) (.op .inn [F,H]):=by
 intro w A c R S g T ρ G σ s Q X a h;refine KO (tf B O R S g T a h fun x y vx vy I j J z m f v K C e q=>?_) (P _)
 cases x with
 |int i=>
  obtain⟨t,rfl⟩:=aE K;obtain⟨r,U,e⟩:=GV.mp e;cases e;rcases oT U with ⟨V,D,rfl⟩ |⟨l,is,B,W,rfl⟩
  ·obtain⟨b,L,rfl,Y,p,Z⟩:=eI f C D u.prog w;refine wpAny_in_of (knd:=Ji u.prog w) (f9 i t) Z Y.mapOf ?_;rw [jB f p];exact .le v (.of (f.tok _) (bO _) q)
  ·obtain⟨b,o,n,rfl,p,k⟩:=gV f C B
   have M:=jJ p W
   rcases k with ⟨k,_⟩ |k
   ·exact in_tuple_ints (d4 k) M (.le v (.of f (bO _) q))
   ·exact in_list_ints (aY k) M (.le v (.of f (bO _) q))
 |str i=>
  obtain⟨t,rfl⟩:=fT K
  cases y with
  |tup us=>
   replace e:BE i us j=Gq (z,m):=e
   unfold BE at e
   split at e
   ·rename_i ks D;obtain⟨N,e⟩:=ba e;cases e;obtain⟨b,o,n,rfl,z,p⟩:=fK C;refine in_tuple_strs (d4 (f.inv.froz _ _ z)) (uA p D) ?_;rw [B7 N.1 N.2];exact .le v (.of f (bO _) q)
   ·cases e
  |_=>cases e
 |_=>cases e
theorem sZ {l r:GW} {C D:E} {pos:HO} (j:ao u d names l C) (L:ao u d names r D) (M:iB r):ao u d names (.Compare l [.NotIn] [r] pos) (.op .notIn [C,D]):=by
 intro w A c N O g P ρ G σ s Q X a h;refine KO (tf j L N O g P a h fun x y Z vy F m H z o f p R I e q=>?_) (M _);obtain⟨i,rfl,e⟩:=cv e;obtain⟨t,rfl⟩:=aE R;obtain⟨r,S,e⟩:=GV.mp e;cases e;rcases oT S with ⟨T,U,rfl⟩ |⟨l,is,j,V,rfl⟩
 ·obtain⟨b,J,rfl,W,v,Y⟩:=eI f I U u.prog w;refine wpAny_notIn_of (knd:=Ji u.prog w) (f9 i t) Y W.mapOf ?_;rw [jB f v];exact .le p (.of (f.tok _) (bO _) q)
 ·obtain⟨b,B,n,rfl,v,k⟩:=gV f I j
  have K:=jJ v V
  rcases k with ⟨k,_⟩ |k
  ·exact notin_tuple_ints (d4 k) K (.le p (.of f (bO _) q))
  ·exact notin_list_ints (aY k) K (.le p (.of f (bO _) q))
def uE (u:U):Prop:=∀(w:Hh) (A:Hf) (c:Cx) (ρ:List (Option V)) (G:Gh) (σ:Sg) (s:GA) (x y:V) (b e:Gy) (Q:Gy->GA->Prop) (E:Gy->GA->Prop),A.units+60<cLine->At c ρ G σ s->VRep G x b->VRep G y e->jV σ x y=Gu->
 (∀f,Q (.bool Gw) {s with toks:=f})->G0 (GO u.prog w) A (MD .NotEq b e) Q E s
theorem Rm.line (b:Rm A d c.Fs):A.units+60<cLine:=by
 have e:=b.units
 have f:cLine=9900:=rfl
 exact(l3 0x1b89293928749687209dc9a9692811c17c9380) e f
theorem xx {l r:GW} {F H:E} {op:Rel} {pos:HO} (L:uE u) (M:ao u d names l F) (N:ao u d names r H) (O:iB r):ao u d names (.Compare l [op.m] [r] pos) (.op (.rel op) [F,H]):=by
 intro w A c P R g I ρ G σ s Q X a h;refine KO (tf M N P R g I a h fun x y J K o k m z n f v C D e q=>?_) (O _)
 have b:DU op x y k=Gq (z,n)->G0 (GO u.prog w) A (MD op.m J K) (hG c ρ G Q) (a9 u c X) m:=fun B=>by
  cases op<;>first|cases B|skip
  obtain⟨S,B⟩:=ba B;cases B;exact L w A c ρ o k m x y J K _ _ I.line f C D S fun U=>.le v (.of (f.tok _) (bO _) q)
 cases x with
 |int i=>
  cases y with
  |int j=>
   obtain⟨t,rfl⟩:=aE C;obtain⟨T,rfl⟩:=aE D;cases e;exact CS op (.le v (.of f (bO _) q))
  |_=>exact b e
 |str i=>
  cases y with
  |str j=>
   obtain⟨t,rfl⟩:=fT C;obtain⟨T,rfl⟩:=fT D;cases op<;>first|cases e|skip
   ·obtain⟨p,e⟩:=ba e;cases e;refine PO ?_;rw [qh p.1 p.2];exact .le v (.of f (bO _) q)
   ·obtain⟨p,e⟩:=ba e;cases e;refine PP ?_
    show hG c ρ G Q (.bool (!(nm i==nm j))) m
    rw [qh p.1 p.2];exact .le v (.of f (bO _) q)
  |_=>exact b e
 |_=>exact b e
end
noncomputable def rB (K:I0) (c:GS) (n:Nat):Bool:=J7 K (.ref c) (nm n) ==Gq Gs&&takerIn K c (nm n) ==Gq Gs
noncomputable def iX (K:I0) (c:GS):Bool:=plainGet K c (nm 0)&&hasDictIn K c&&plainOver K c&&J7 K (.ref c) "__setattr__"==Gq (Gq (.builtin "object.__setattr__"))
noncomputable def lP (K:I0) (c:GS) (n:Nat) (v:V):Bool:=match v with
 |.str k=>match J7 K (.ref c) (nm n) with
  |some (Gq (.str s t))=>s==nm k&&Pd K (.str s t) "__get__"==Gq Gs&& !(copiedNames.contains (nm n))
  |_=>Gw
 |_=>Gw
noncomputable def wz (K:I0) (c:GS) (n:Nat) (f:GS):Bool:=J7 K (.ref c) (nm n) ==Gq (Gq (.ref f))&&isFn K (.ref f)&&K3 K (.ref f)
noncomputable def kq (K:I0) (c:GS) (i:Option GS):Bool:=makesIn K c&&K3 K (.ref c)&&match i with
 |some f=>J7 K (.ref c) "__init__"==Gq (Gq (.ref f))&&isFn K (.ref f)
 |none=>J7 K (.ref c) "__init__"==Gq (Gq (.builtin "object.__init__"))
structure fA (T:lU) (K:I0):Prop where
 inits:T.inits.all (fun e=>kq K e.1 e.2)=Gu
 fields:T.fields.all (fun e=>iX K e.1&&e.2.all fun n=>rB K e.1 n)=Gu
 consts:T.consts.all (fun e=>lP K e.1.1 e.1.2 e.2)=Gu
 meths:T.meths.all (fun e=>wz K e.1.1 e.1.2 e.2)=Gu
theorem b7 {β:Type} {c:GS} {b:β} {l:List (GS×β)}:lookC c l=Gq b->(c,b)∈l:=by
 induction l with
 |nil=>
  intro h;cases h
 |cons e r d=>
  intro h;change ite _ _ _=_ at h
  split at h
  ·rename_i q;cases h;rw [<-q];exact .head _
  ·exact .tail _ (d h)
theorem im {β:Type} {c:GS} {n:Nat} {b:β} {l:List ((GS×Nat)×β)}:lookT c n l=Gq b->((c,n),b)∈l:=by
 induction l with
 |nil=>
  intro h;cases h
 |cons e r d=>
  intro h;change ite _ _ _=_ at h
  split at h
  ·rename_i q;cases h;obtain⟨⟨x,y⟩,z⟩:=e;simp only at q;rw [<-q.1, <-q.2];exact .head _
  ·exact .tail _ (d h)
theorem gH {G:Gh} {n:Nat} (i:n<55) {b:List (Nat×V)}:∀ {c:List IH},ARep G b c->match lookN n b with
  |some v=>∃x,getL (nm n) c=Gq (Gq x)/\VRep G v x
  |none=>getL (nm n) c=Gq Gs:=by
 induction b with
 |nil=>exact fun(h:_=[])=>h▸rfl
 |cons d b f=>
  intro c h;obtain⟨e,c,rfl,⟨j,t,g⟩,k,l⟩:=h
  have f:=f l
  show match if d.1=n then Gq d.2 else lookN n b with|some v=>_|none=>_
  unfold getL
  by_cases q:d.1=n
  ·rw [if_pos q];refine⟨e.val,?_,k⟩;rw [K0,show e.key.isStr (nm n)=Gu from by rw [g, <-q];simp [LN]]
  ·rw [if_neg q]
   have m:e.key.isStr (nm n)=Gw:=by
    rw [g];simp only [LN,beq_eq_false_iff_ne,ne_eq];exact fun z=>q (qI _ j _ i (by first|exact z|exact z.symm))
   have o:e.refKey=Gw:=by unfold Nh;rw [g]
   rw [K0,m,IY,o];exact f
theorem ux {G:Gh} {ks:List Nat}:∀ {vs:List V} {b:List IH},EKeys ks b->VReps G vs (b.map (·.val))->ks.length=vs.length->ARep G (ks.zip vs) b:=by
 induction ks with
 |nil=>
  intro _ _ k r _;subst k;rfl
 |cons k ks d=>
  intro vs _ h r c;obtain⟨e,b,rfl,f,g⟩:=h
  cases vs with
  |nil=>cases c
  |cons v vs=>
   obtain⟨y,l,h,i,j⟩:=r;simp only [Hp,Lr] at h;exact⟨e,b,rfl,f,h.1▸i,d g (h.2▸j) (by simpa using c)⟩
section
variable {u:U} {d:Nat} {names:List (Hb×G2)} {w:Hh} {A:Hf} {c:Cx} {ρ:List (Option V)} {G:Gh} {σ:Sg} {s:GA}
theorem mQ (a:At c ρ G σ s) {x:V} {v:Gy} {C:GS} {l:List (Nat×V)} (r:VRep G x v)
  (e:(∃ks vs,x=.obj C ks vs/\l=ks.zip vs/\ks.length=vs.length)\/∃i,x=.ref i/\σ.cell i=.inst C l):
  ∃b g f n,v=.ref b/\s.heap.get? b=Gq (JX C g)/\s.heap.get? g=Gq (Ng f n)/\ARep G l f/\InstAt s.heap b (JX C g) C (Gq (Ng f n)):=by
 rcases e with ⟨ks,vs,rfl,rfl,o⟩ |⟨i,rfl,p⟩
 ·obtain⟨b,g,f,n,rfl,q,t,y,m⟩:=r
  have j:=a.inv.froz _ _ q
  have k:=a.inv.froz _ _ t
  exact⟨b,g,f,n,rfl,j,k,ux y m o,⟨j,rfl,rfl,k⟩⟩
 ·obtain⟨z,rfl⟩:=aU r;obtain⟨B,j,f,n,k,m⟩:=a.cell z p (by simp)
  exact⟨_,_,f,n,rfl,j,k,m,⟨j,rfl,rfl,k⟩⟩
noncomputable abbrev cX (o:GW):Prop:=∀attr env (t:Kw Gy),LQ o attr env t=t
inductive ClassF (K:I0) (C:GS):Prop
 |mk (pg:plainGet K C (nm 0)=Gu) (hd:hasDictIn K C=Gu) (po:plainOver K C=Gu) (sa:J7 K (.ref C) "__setattr__"=Gq (Gq (.builtin "object.__setattr__"))):ClassF K C
theorem jg {K:I0} {C:GS} (h:iX K C=Gu):ClassF K C:=by
 simp only [iX,HJ,beq_iff_eq] at h;exact .mk h.1.1.1 h.1.1.2 h.1.2 h.2
inductive FieldF (K:I0) (C:GS) (n:Nat):Prop
 |mk (hn:n<55) (c:ClassF K C) (f1:J7 K (.ref C) (nm n)=Gq Gs) (f2:takerIn K C (nm n)=Gq Gs):FieldF K C n
theorem oP {T:lU} {K:I0} (f:fA T K) {C:GS} {n:Nat} (h:bZ T C n=Gu):FieldF K C n:=by
 unfold bZ at h
 cases b:lookC C T.fields with
 |none=>rw [b] at h;cases h
 |some i=>
  rw [b] at h
  have h:=GX.mp h
  have g:=GX.mp (Hg.mp f.fields _ (b7 b))
  have e:=GX.mp (Hg.mp g.2 n (List.contains_iff_mem.mp h.1))
  exact .mk (of_decide_eq_true h.2) (jg g.1) (beq_iff_eq.mp e.1) (beq_iff_eq.mp e.2)
theorem pn {y:V} {v:Gy} (r:VRep G y v):handedIn v=Gu:=by
 cases y with
 |none=>cases r;rfl
 |bool _=>cases r;rfl
 |int _=>obtain⟨t,rfl⟩:=r;rfl
 |str _=>obtain⟨t,rfl⟩:=r;rfl
 |tup _=>obtain⟨a,_,_,rfl,_⟩:=r;rfl
 |lst _=>obtain⟨a,_,_,rfl,_⟩:=r;rfl
 |obj _ _ _=>obtain⟨a,_,_,_,rfl,_⟩:=r;rfl
 |dic _ _=>obtain⟨a,_,rfl,_⟩:=r;rfl
 |ref _=>obtain⟨_,rfl⟩:=r;rfl
set_option tactic.hygienic true in
theorem lA (m:fA u.T (u.Kf w.params)) (g:Gd u w c.base) (a:At c ρ G σ s) {x:V} {v:Gy} {n:Nat} {y:V} (r:VRep G x v) (e:ky u.T n σ x=Gq y) {f:Bool} {Q:Gy->GA->Prop} {E:Gy->GA->Prop}
  (h:∀J,VRep G y J->Q J {s with toks:=s.toks+1}):G0 (GO u.prog w) A (O3 v (nm n) f) Q E s:=by
 revert x v n y f Q E;delta u w A c ρ G σ s;revert f Q E;delta x v n y;delta f Q E
 have X:(u.Kf w.params).In s.heap:=g.inK.keeps a.inv.stays
 have q:∀ {C:GS} {o:List (Nat×V)},((∃p B,x=.obj C p B/\o=p.zip B/\p.length=B.length)\/∃i,x=.ref i/\σ.cell i=.inst C o)->eQ u.T C n o=Gq y->
   G0 (GO u.prog w) A (O3 v (nm n) f) Q E s:=fun{C o} S l=>by
  obtain⟨b,dx,es,k,rfl,h1,h2,P,I⟩:=mQ a r S;unfold eQ at l
  split at l
  ·rename_i z K
   split at l
   ·rename_i D;cases l
    cases oP m D with|mk T j U f2=>
    cases j with|mk L M W Y=>
    have F:=gH T P
    rw [K] at F;obtain⟨J,N,R⟩:=F;exact get_value X I (Ot L).1 (findObj_own M U rfl N) (pn R) (h J R)
   ·cases l
  ·rename_i K
   split at l
   ·rename_i D;simp only [HJ,decide_eq_true_eq] at D
    have F:=gH D.2 P
    rw [K] at F
    have j:=Hg.mp m.consts _ (im l)
    obtain⟨p,O⟩:=HT.mp D.1
    cases jg (GX.mp (Hg.mp m.fields _ (b7 O))).1 with|mk L M W Y=>
    unfold lP at j
    split at j
    ·rename_i k' H
     split at j
     ·rename_i st t Z;simp only [HJ,beq_iff_eq,Bool.not_eq_true'] at j H;subst H;exact get_value X I (Ot L).1 (findObj_cls M Z j.1.2 rfl j.2 F) rfl (h _ (by exact⟨t,by rw [j.1.1]⟩))
     ·cases j
    ·cases j
   ·cases l
 cases x with
 |obj C p B=>
  change ite _ _ _=_ at e
  split at e
  ·rename_i N;exact q (.inl ⟨p,B,rfl,rfl,N⟩) e
  ·cases e
 |ref i=>
  have e:(match σ.cell i with|.inst c o=>eQ u.T c n o|_=>Gs)=Gq y:=e
  cases j:σ.cell i with
  |inst C o=>rw [j] at e;exact q (.inr ⟨i,rfl,j⟩) e
  |_=>rw [j] at e;cases e
 |_=>cases e
theorem vl (i:∀w:Hh,fA u.T (u.Kf w.params)) {o:GW} {b:E} {n:Nat} {x:Hb} {pos:HO} (p:ao u d names o b) (t:cX o) (v:nm n=x):ao u d names (.Attribute o x pos) (.op (.attr n) [b]):=by
 subst v;intro w A c B C g D ρ G σ s Q X a h
 have F:J3 (.Attribute o (nm n) pos) c.env=(do
   let b<-J3 o c.env
   M7 pos.atName
   let r<-KA [b] (O3 b (nm n) Gu)
   letTemporaryGo o b r
   HE r):=by
  rw [show J3 (.Attribute o (nm n) pos) c.env=(do
   let b<-LQ o (nm n) c.env (J3 o c.env)
   M7 pos.atName
   let r<-KA [b] (O3 b (nm n) Gu)
   letTemporaryGo o b r
   HE r) from by with_unfolding_all rfl,t]
 refine Attribute_any_ ?_ F;refine kH p B C g D a h fun x M l j m z k f H I e q=>?_;obtain⟨y,J,K⟩:=GV.mp e;cases K;exact lA (i w) g f I J fun N L=>.le H (.of (f.tok _) L q)
theorem tu {ks:List Nat}:∀ {b:List IH},EKeys ks b->b.length=ks.length:=by
 induction ks with
 |nil=>intro b h;cases h;rfl
 |cons k ks f=>intro b h;obtain⟨e,r,rfl,_,h⟩:=h;exact congrArg Nat.succ (f h)
set_option tactic.hygienic true in
theorem nN (p:fA u.T (u.Kf w.params)) (g:Gd u w c.base) (a:At c ρ G σ s) {x:V} {v:Gy} {n:Nat} {f:GS} (r:VRep G x v) (e:d6 u.T n σ x=Gq f) {pl:Kw Bool} {Q:Gy×List Gy->GA->Prop} {E:Gy->GA->Prop}
  (h:Q (.ref f,[v]) s):G0 (GO u.prog w) A (NO v (nm n) pl) Q E s:=by
 revert x v n f pl Q E;delta u w A c ρ G σ s;revert pl Q E;delta x v n f;delta pl Q E
 have X:(u.Kf w.params).In s.heap:=g.inK.keeps a.inv.stays
 have q:∀ {C:GS} {l:List (Nat×V)},((∃m o,x=.obj C m o/\l=m.zip o/\m.length=o.length)\/∃i,x=.ref i/\σ.cell i=.inst C l)->(l.map (·.1)).contains n=Gw->wx u.T C=Gu->n<55->lookT C n u.T.meths=Gq f->
   G0 (GO u.prog w) A (NO v (nm n) pl) Q E s:=fun{C l} J t j O P=>by
  obtain⟨b,R,K,k,rfl,D,Y,y,I⟩:=mQ a r J
  have S:lookN n l=Gs:=by
   clear y J
   induction l with
   |nil=>rfl
   |cons Z l T=>
    rw [Hp,List.contains_cons,Nx] at t
    show ite _ _ _=_
    rw [if_neg (fun z=>by rw [z] at t;simp at t)]
    exact T t.2
  have L:=gH O y
  rw [S] at L;obtain⟨m,F⟩:=HT.mp j
  cases jg (GX.mp (Hg.mp p.fields _ (b7 F))).1 with|mk B hd po sa=>
  have M:=GX.mp (GX.mp (Hg.mp p.meths _ (im P))).1
  have B:=Ot B
  have U:typeIn (u.Kf w.params) (.ref f)=Gq (.type "function"):=beq_iff_eq.mp M.2
  refine method_fn X I B.1 B.2 (beq_iff_eq.mp M.1) U ?_ h
  show shadowIn (Gq (Ng K k)) (nm n)=Gq Gw
  unfold shadowIn;simp [lookIn_dict,L]
 cases x with
 |obj C m o=>
  delta C m o;change ite _ _ _=_ at e
  split at e
  ·cases e
  ·rename_i j;simp only [Ii,not_or,N8,decide_eq_true_eq,Ll,Nat.not_le] at j;obtain⟨b,R,K,k,rfl,z1,z2,W,y⟩:=r
   have N:m.length=o.length:=by
    have D:=y.length
    rw [GG] at D;rw [<-D,tu W]
   refine q (.inl ⟨m,o,rfl,rfl,N⟩) ?_ j.1.2 j.2 e;rw [N9 (Kj N)];exact j.1.1
 |ref i=>
  unfold d6 ny at e;dsimp only at e
  cases H:σ.cell i with
  |inst C l=>
   rw [H] at e;change ite _ _ _=_ at e
   split at e
   ·cases e
   ·rename_i j;simp only [Ii,not_or,N8,decide_eq_true_eq,Ll,Nat.not_le] at j;exact q (.inr ⟨i,rfl,H⟩) j.1.1 j.1.2 j.2 e
  |_=>rw [H] at e;cases e
 |_=>cases e
end
theorem wC {G:Gh} {n:Nat} (f:n<55) {g:Int} {t:MY} {x:V} {i:Gy} (j:VRep G x i) {c:List (Nat×V)}:∀ {b:List IH},ARep G c b->ARep G (putN' n x c) (putL (nm n) g (.str (nm n) t) i b):=by
 induction c with
 |nil=>exact fun(h:_=[])=>h▸⟨_,[],rfl,⟨f,t,rfl⟩,j,rfl⟩
 |cons o c p=>
  intro b h;obtain⟨e,b,rfl,⟨k,l,d⟩,r,m⟩:=h;unfold putN' putL
  by_cases q:o.1=n
  ·rw [if_pos q,if_pos (show e.key.isStr (nm n)=Gu from by rw [d, <-q];simp [LN])]
   exact⟨_,b,rfl,⟨f,l,by rw [d,q]⟩,j,m⟩
  ·have s:¬(e.key.isStr (nm n)=Gu):=by
    rw [d];simp only [LN,beq_iff_eq];exact fun z=>q (qI _ k _ f (by first|exact z|exact z.symm))
   rw [if_neg q,if_neg s];exact⟨e,_,rfl,⟨k,l,d⟩,r,p m⟩
theorem vJ {G:Gh} {b:List (Nat×V)}:∀ {c:List IH},ARep G b c->c.length=b.length:=by
 induction b with
 |nil=>
  intro _ h;subst h;rfl
 |cons g b d=>
  intro _ h;obtain⟨e,c,rfl,_,_,f⟩:=h;rw [HC,HC,d f]
theorem rX {G:Gh} {c:List (Nat×V)}:∀ {d:List IH},ARep G c d->∀e∈d,e.refKey=Gw:=by
 induction c with
 |nil=>
  intro _ h e b;subst h;cases b
 |cons k c f=>
  intro _ h e b;obtain⟨l,g,rfl,⟨_,t,i⟩,_,j⟩:=h;rcases GH.mp b with rfl|b
  ·unfold Nh;rw [i]
  ·exact f j e b
theorem uv (name:Hb) (c:Int) (k v:Gy) (b:List IH):(putL name c k v b).length<=b.length+1:=by
 induction b with
 |nil=>exact GL _
 |cons e b d=>
  unfold putL
  split
  ·exact Hk _
  ·exact Hn d
section
variable {u:U} {d:Nat} {names:List (Hb×G2)} {w:Hh} {A:Hf} {c:Cx} {ρ:List (Option V)} {G:Gh} {σ:Sg} {s:GA}
set_option tactic.hygienic true in
theorem lE (K:fA u.T (u.Kf w.params)) (g:Gd u w c.base) (Y:aI c) (a:At c ρ G σ s) {x y:V} {v f:Gy} {n:Nat} {σ':Sg} (r:VRep G x v) (ry:VRep G y f) (e:oA u.T σ n y x=Gq σ') {Q:Unit->GA->Prop} {E:Gy->GA->Prop}
  (h:∀R,At c ρ G σ' R->Q () R):G0 (GO u.prog w) A (setAttr v (nm n) f) Q E s:=by
 revert x y v f n σ' Q E;delta u w A c ρ G σ s;revert Q E;delta x y v f n σ';delta Q E
 have X:(u.Kf w.params).In s.heap:=g.inK.keeps a.inv.stays
 cases x with
 |ref i=>
  delta i;unfold oA at e;dsimp only at e
  cases p:σ.cell i with
  |inst C as=>
   rw [p] at e;delta C as;change ite _ _ _=_ at e
   split at e
   ·rename_i t;cases e;obtain⟨hi,B,hf⟩:=t;obtain⟨b,S,j,k,hb,D,F,J,I⟩:=mQ a r (.inr ⟨i,rfl,p⟩);delta b S j k;obtain⟨L,rfl⟩:=aU r;cases hb;obtain⟨al,H,_⟩:=a.cell L p (by simp)
    have M:S=G.δ i:=by
     rw [D] at H
     have:=congrArg Obj.dict (JI H)
     exact JI this
    subst M
    cases oP K hf with|mk T p f1 f2=>
    cases p with|mk pg hd po sa=>
     obtain⟨cd,N,l⟩:=any_some (show(clsIn (u.Kf w.params) C).any (·.hasDict)=Gu from hd)
     delta cd;refine set_plain X I sa ?_;refine osa_open (s:={s with toks:=s.toks+1}) X I po f2 fun b=>?_
     delta b;refine Gv (GR (Gv (Gv (Ni D (Gv (Pe (s:={s with toks:=s.toks+1}) (Ou X N) ?_))))))
     rw [l];refine GR (a:=Gq (G.δ i)) (Gv (GR (Gv ?_)));refine Gv (Gv (wpAny_askSetting (GR (Gv (wpAny_mkText (Gv (Ni F ?_)))))))
     have ag:=gH T J
     have c0:(!j.toArray.any (·.key.isStr (nm n))&&j.toArray.any (·.refKey))=Gw:=by
      have:j.any (·.refKey)=Gw:=List.any_eq_false.mpr fun e he=>by rw [rX J e he];decide
      rw [<-NW, <-NW,this,Bool.and_false]
     dsimp only;rw [aRefKeyMayBeTheName_at,c0];refine wpAny_updatePart F ?_
     have U:=putName_dict (nm n) (JB w.params (nm n)) (.str (nm n) (s.toks+1)) f j k
     have m:(s.heap.update (G.δ i) (PQ (nm n) (JB w.params (nm n)) (.str (nm n) (s.toks+1)) f)).get? (G.δ i)=Gq (Ng (putL (nm n) (JB w.params (nm n)) (.str (nm n) (s.toks+1)) f j) (putN (nm n) j k)):=by
      rw [<-U];exact H4 _ F (by rw [U];rfl)
     have hz:=uv (nm n) (JB w.params (nm n)) (.str (nm n) (s.toks+1)) f j
     have O:=vJ J
     refine Gv (MF m (MG (by rw [KB,JP];exact(l3 0x1d101b496811b718021b718090909090909182) O B hz)) ?_)
     refine GR ?_
     have W:G.δ i≠G.φ i:=fun z=>by rw [z,D] at F;cases F
     have P:∀q,q≠G.δ i->(s.heap.update (G.δ i) (PQ (nm n) (JB w.params (nm n)) (.str (nm n) (s.toks+1)) f)).get? q=s.heap.get? q:=fun q t=>Hl _ _ (Hw t)
     refine h _ (a.mut Y al (fun q o e Z t=>(P q t).trans e) ⟨_,(P _ W.symm).trans D⟩ ⟨_,m⟩ ⟨(P _ W.symm).trans D,_,_,m,wC T ry J⟩)
   ·cases e
  |_=>rw [p] at e;cases e
 |_=>cases e
end
section
variable {u:U} {d:Nat} {names:List (Hb×G2)} {w:Hh} {A:Hf} {c:Cx} {ρ:List (Option V)} {G:Gh} {σ:Sg} {s:GA}
noncomputable def SndEs (u:U) (d:Nat) (names:List (Hb×G2)):List GW->List E->Prop
 |[],[]=>True
 |e::r,b::f=>ao u d names e b/\SndEs u d names r f
 |_,_=>False
noncomputable def noStar:List GW->Prop
 |[]=>True
 |e::r=>(∀r env,II (e::r) env=(Gw,J3 e env)::II r env)/\noStar r
theorem aL {e:GW} {r:List GW} {env:J2} (h:noStar (e::r)):II (e::r) env=(Gw,J3 e env)::II r env/\noStar r:=⟨h.1 r env,h.2⟩
theorem f4 {pos:HO} (D:aI c) (F:c.env.scope.names=names) (g:Gd u w c.base) (H:Rm A d c.Fs) {t:List GW}:∀ {b:List E} {G:Gh} {σ:Sg} {s:GA} {Q:List V->Sg->Prop} {X:Sg->Prop},SndEs u d names t b->noStar t->At c ρ G σ s->wpEs u.T (ae u d) ρ b Q X σ->
  G0 (GO u.prog w) A (spliced (K4 pos (II t c.env))) (CC c ρ G Q) (a9 u c X) s:=by
 induction t with
 |nil=>
  intro b G σ s Q X S _ a h
  cases b with
  |nil=>exact KT ⟨G,σ,[],a,.refl _,.nil,h⟩
  |cons _ _=>exact S.elim
 |cons e r I=>
  intro b G σ s Q X S J a h
  cases b with
  |nil=>exact S.elim
  |cons N O=>
   obtain⟨K,L⟩:=aL (env:=c.env) J;rw [K]
   show G0 _ _ (spliced ((Gw,J3 e c.env)::K4 pos (II r c.env))) _ _ _
   refine Jw (ay S.1 D F g H a h fun v z B y x j k l m=>?_);refine G1 (I S.2 L j m) (fun P C h=>?_) fun Z Z x=>x;obtain⟨n,i,M,o,f,p,q⟩:=h;exact⟨n,i,x::M,o,k.trans f,.cons (l.mono f) p,q⟩
theorem xo {n:List GW} {i:List E} {k:Nat} {pos:HO} (S:SndEs u d names n i) (r:noStar n):ao u d names (.Tuple n k pos) (.op .tup i):=by
 intro w A c v y g z ρ G σ s Q X a h;refine Tuple_ (G1 (f4 v y g z S r a h) (fun vs j B=>?_) fun Z Z x=>x);obtain⟨q,o,C,l,m,f,b⟩:=B
 split at b
 ·rename_i e;obtain⟨D,e⟩:=ba e;cases e;refine KU (T:="tuple") (data:=.seq vs.toArray) ?_ ?_
  ·obtain⟨F,H,p,I⟩:=qW (t:=j.toks) l (items:=vs.toArray) (vs:=C) (by simpa using f)
   exact⟨F,_,_,H,m.trans p,I,b⟩
  ·show vs.toArray.size<=JY
   rw [KB,f.length];exact(l1 0x1b89e93801b090909090909180) D
 ·exact b.elim
theorem w7 {m:List GW} {i:List E} {pos:HO} (S:SndEs u d names m i) (r:noStar m):ao u d names (.List m pos) (.op .lst i):=by
 intro w A c v y g z ρ G σ s Q X a h;refine List_ (G1 (f4 v y g z S r a h) (fun vs j B=>?_) fun Z Z x=>x);obtain⟨q,o,C,k,l,f,b⟩:=B
 split at b
 ·rename_i e;obtain⟨D,e⟩:=ba e;cases e;refine KU (T:="list") (data:=.seq vs.toArray) ?_ ?_
  ·obtain⟨F,H,p,I⟩:=gp (n:=0) (t:=j.toks) k (items:=vs.toArray) (vs:=C) (by simpa using f)
   exact⟨F,_,_,H,l.trans p,I,b⟩
  ·show vs.toArray.size<=JY
   rw [KB,f.length];exact(l1 0x1b89e93801b090909090909180) D
 ·exact b.elim
theorem jv {items:Array Gy} {vs:List V} (h:items.size=vs.length):items.isEmpty=vs.isEmpty:=by
 cases vs with
 |nil=>simp only [Jx] at h;unfold OF;rw [h];rfl
 |cons v vs=>simp only [HC] at h;unfold OF;rw [h];rfl
set_option tactic.hygienic true in
theorem gF (a:At c ρ G σ s) {x:V} {v:Gy} {b:Bool} (r:VRep G x v) (e:b6 σ x=Gq b) {Q:Bool->GA->Prop} {E:Gy->GA->Prop} (h:∀tk,Q b {s with toks:=tk}):G0 (GO u.prog w) A (NX v) Q E s:=by
 cases x with
 |bool m=>
  cases gr r;cases e;exact Mi (h s.toks)
 |int i=>
  obtain⟨t,rfl⟩:=aE r;cases e;exact PS (h s.toks)
 |ref i=>
  obtain⟨o,rfl⟩:=aU r;unfold b6 at e;dsimp only at e
  cases j:σ.cell i with
  |list k=>
   rw [j] at e;change ite _ _ _=_ at e
   split at e
   ·rename_i p;cases e;obtain⟨y,f,n,q,l⟩:=a.cell o j nofun
    have g:f.size=_:=l.length
    refine O4 (aY q) (by rw [g];lia) ?_
    have:f.isEmpty=k.isEmpty:=jv g
    rw [this];exact h _
   ·cases e
  |_=>rw [j] at e;cases e
 |lst k=>
  obtain⟨m,f,n,rfl,z,l⟩:=eJ r;change ite _ _ _=_ at e
  split at e
  ·rename_i p;cases e
   have g:f.size=_:=l.length
   refine O4 (aY (a.inv.froz _ _ z)) (by rw [g];lia) ?_
   have:f.isEmpty=k.isEmpty:=jv g
   rw [this];exact h _
  ·cases e
 |_=>cases e
end
noncomputable abbrev ow (sl:GW):Prop:=∀o i,subscripted sl Gw o i=operate [o,i] (getItem o i)
section
variable {u:U} {d:Nat} {names:List (Hb×G2)} {w:Hh} {A:Hf} {c:Cx} {ρ:List (Option V)} {G:Gh} {σ:Sg} {s:GA}
theorem A1 {l:List V} {items:Array Gy} {i:Int} {x:V} (r:VReps G l items.toList) (e:B3 l i=Gq x):∃v j,Pf i items.size=Gq j/\items[j]? =Gq v/\VRep G x v/\(0<=i->j=i.toNat)/\(i<0->j=(i+items.size).toNat/\ -(items.size:Int)<=i):=by
 revert l items i x;delta G;delta l items i x
 have k:Ja _=_:=r.length
 change ite _ _ _=_ at e
 split at e
 ·rename_i b;obtain⟨v,f,g⟩:=r.get e;delta v
  have n:=(HP.mp e).1
  refine⟨v,i.toNat,?_,by simpa using f,g,fun Z=>rfl,fun h=>by lia⟩
  have:(GI (0<=i)&&GI (i<(items.size:Int)))=Gu:=by simp;lia
  simp only [Pf,if_neg (show¬i<0 by exact Int.not_lt.mpr b),this,if_true]
 ·split at e
  ·rename_i b o
   have m:l[(i+items.size).toNat]? =Gq x:=by rw [k];exact e
   obtain⟨v,f,g⟩:=r.get m;delta v
   have n:=(HP.mp m).1
   refine⟨v,(i+items.size).toNat,?_,by simpa using f,g,fun h=>(absurd h b),fun Z=>⟨rfl,by rw [k];exact o⟩⟩
   have:(GI (0<=i+(items.size:Int))&&GI (i+(items.size:Int) <(items.size:Int)))=Gu:=by simp;lia
   simp only [Pf,if_pos (show i<0 by exact Int.not_le.mp b),this,if_true]
  ·cases e
theorem ur (a:At c ρ G σ s) {x y:V} {p F:Gy} {i:Int} {z:V} {σ':Sg} (H:VRep G x p) (M:VRep G (.int i) F) (e:aJ u.T .idx [x,.int i] σ=Gq (z,σ')) {Q:Gy->GA->Prop} {E:Gy->GA->Prop}
  (h:∀v tk,VRep G z v->Q v {s with toks:=tk}):G0 (GO u.prog w) A (getItem p F) Q E s/\∃T N,s.TypeIs p T/\typeLookup (.type T) "__getitem__"=HE (Gq (.builtin N))/\σ'=σ:=by
 obtain⟨t,rfl⟩:=aE M;rcases ph e with ⟨l,O,e⟩ |⟨P,R,e⟩
 ·obtain⟨X,e⟩:=ba e;obtain⟨S,r,B⟩:=GV.mp e;cases B;obtain⟨b,C,n,rfl,o,k⟩:=gV a H O;obtain⟨v,j,U,g,m,I,D⟩:=A1 o r
  have J:Ja _=_:=o.length
  have W:=(Iu.mp g).1
  have f:i<2^63/\ -(2^63)<=i:=by
   rcases Pg i 0 with q|q
   ·have:=(D q).2;lia
   ·have:=I q;lia
  rcases k with ⟨k,_⟩ |k
  ·exact⟨getItem_tuple (d4 k) f.2 f.1 U g (h v s.toks m),"tuple",_,(d4 k).typeIs,slot_tuple_getitem.lookup,rfl⟩
  ·refine⟨?_,"list",_,⟨_,k,rfl⟩,slot_list_getitem.lookup,rfl⟩;rcases Pg i 0 with q|q
   ·exact wpAny_getItem_list_neg (aY k) q (D q).2 f.2 (by rw [<-(D q).1];exact g) (h v s.toks m)
   ·exact wpAny_getItem_list (aY k) q f.1 (by rw [<-I q];exact g) (h v s.toks m)
 ·obtain⟨S,r,B⟩:=GV.mp e;cases B;obtain⟨b,K,rfl,L,o,Y⟩:=eI a H R u.prog w
  have:=g9 i o
  rw [r] at this;obtain⟨v,g,m⟩:=this;exact⟨wpAny_getItem_of (knd:=Ji u.prog w) (f9 i t) L.mapOf g (h v _ m),"dict",_,L.typeIs,slot_dict_getitem.lookup,rfl⟩
theorem zw {l r:GW} {k n:E} {pos:HO} (C:ao u d names l k) (D:ao u d names r n) (F:ow r):ao u d names (.Subscript l r pos) (.op .idx [k,n]):=by
 intro w A c H I g J ρ G σ s Q X a h;refine Subscript_ (tf C D H I g J a h fun x y S U o f p z j b K t B e q=>?_);obtain⟨i,rfl,e⟩:=cv e
 have:=ur (u:=u) (w:=w) (A:=A) (y:=V.none) (Q:=hG c ρ G Q) (E:=a9 u c X) b t B e (fun v L M=>by
  have N:j=f:=by
   obtain⟨_,_,_,_,_,O⟩:=ur (u:=u) (w:=w) (A:=A) (y:=V.none) (Q:=fun Z Z=>True) (E:=fun Z Z=>True) b t B e (fun Z Z Z=>trivial);exact O
  subst N;exact .le K (.of (b.tok L) M q))
 obtain⟨m,T,W,P,R,_⟩:=this;exact tail_any P R m (F _ _)
theorem FT (k a:Nat):max 0 (O1 (k:Int) a)=((O1 k a:Nat):Int):=by
 rcases Nat.le_total k a with h|h
 ·rw [IX h,Int.min_eq_left (Nj.mpr h)];exact Ov (G9 _)
 ·rw [Ow h,Int.min_eq_right (Nj.mpr h)];exact Ov (G9 _)
theorem qo (items:Array Gy):slicePick items (Gq 1) Gs Gs=(items.toList.drop 1).toArray:=by
 rw [kmk_pick_nat (a:=O1 1 items.size) (b:=items.size) items (by simp [sliceBounds];exact FT 1 _)]
 congr 1
 by_cases h:items.size=0
 ·have:items.toList=[]:=by rw [<-MZ];simpa using h
  simp [this]
 ·rw [show O1 1 items.size=1 by exact IX (Ix h)]
  rw [Im (by simp)]
theorem m6 (items:Array Gy):slicePick items Gs (Gq 24) Gs=(items.toList.take 24).toArray:=by
 rw [kmk_pick_nat (a:=0) (b:=O1 24 items.size) items (by simp [sliceBounds];exact FT 24 _)]
 congr 1
 simp only [List.drop_zero,Nat.sub_zero]
 by_cases h:items.size<=24
 ·rw [show O1 24 items.size=items.size by exact Ow h,Im (by simp),Im h]
 ·rw [show O1 24 items.size=24 by exact IX (Om h)]
theorem r8 {x:Hb} {y C D pos:HO} {k:Nat} {B:E} (J:ao u d names (.Name x y) B):ao u d names (.Subscript (.Name x y) (.Slice (Gq (.Constant (.int 1) k C)) Gs Gs D) pos) (.op .from1 [B]):=by
 revert x y C D pos k B;delta u d names;delta x y C D pos k B;intro w A c K L g M ρ G σ s Q X a h;revert ρ G σ s Q X;delta w A c;delta ρ G σ s Q X;refine Nk (kH J K L g M a h fun x N o j f z m i O H e q=>?_);delta x N o j f z m;refine OG (KN ?_);refine OH ?_;obtain⟨l,rfl,e⟩:=nX e;injections l;intro e H e;obtain⟨P,e⟩:=ba e;cases e;obtain⟨b,items,n,rfl,z,I⟩:=eJ H;delta b items n
 have R:=i.inv.froz _ _ z
 have p:Ja _=_:=I.length
 refine⟨_,items,_,_,rfl,aY (s:={f with toks:=f.toks+1}) R,by rw [p];exact(l1 0x1b09492949f801b090909090909180) P,.int 1 _,.none,?_⟩
 rw [qo]
 have r:=i.push {cls:=.type "slice",data:=.fields #[.int 1 f.toks,.none,.none]} f.toks
 obtain⟨S,T,F,v⟩:=gp (n:=0) (t:=f.toks+1) r (items:=(items.toList.drop 1).toArray) (vs:=l.drop 1) (by simpa using I.drop 1)
 rw [JF] at v;exact⟨S,_,_,T,O.trans F,v,q⟩
theorem qr {x:Hb} {y C D pos:HO} {k:Nat} {B:E} (J:ao u d names (.Name x y) B):ao u d names (.Subscript (.Name x y) (.Slice Gs (Gq (.Constant (.int 24) k C)) Gs D) pos) (.op .upto24 [B]):=by
 revert x y C D pos k B;delta u d names;delta x y C D pos k B;intro w A c K L g M ρ G σ s Q X a h;revert ρ G σ s Q X;delta w A c;delta ρ G σ s Q X;refine Nk (kH J K L g M a h fun x N o j f z m i O H e q=>?_);delta x N o j f z m;refine OH ?_;refine OG (KN ?_);obtain⟨l,rfl,e⟩:=nX e;injections l;intro e H e;obtain⟨P,e⟩:=ba e;cases e;obtain⟨b,items,n,rfl,z,I⟩:=eJ H;delta b items n
 have R:=i.inv.froz _ _ z
 have p:Ja _=_:=I.length
 refine⟨_,items,_,_,rfl,aY (s:={f with toks:=f.toks+1}) R,by rw [p];exact(l1 0x1b09492949f801b090909090909180) P,.none,.int 24 _,?_⟩
 rw [m6]
 have r:=i.push {cls:=.type "slice",data:=.fields #[.none,.int 24 f.toks,.none]} f.toks
 obtain⟨S,T,F,v⟩:=gp (n:=0) (t:=f.toks+1) r (items:=(items.toList.take 24).toArray) (vs:=l.take 24) (by simpa using I.take 24)
 rw [JF] at v;exact⟨S,_,_,T,O.trans F,v,q⟩
end
section
variable {u:U} {d:Nat} {names:List (Hb×G2)} {w:Hh} {A:Hf} {c:Cx} {ρ:List (Option V)} {G:Gh} {σ:Sg} {s:GA}
noncomputable def j7 (base h:HV) (L:GS):List (GS×JH):=(Jz h.objs.size).filterMap fun b=>if b=L then Gs else match base.get? b with
 |some _=>Gs
 |none=>(h.get? b).map (b,·)
theorem m9 (base h:HV) (L:GS):News base L h (j7 base h L):=by
 intro p f;obtain⟨b,k,e⟩:=HF.mp f
 split at e
 ·cases e
 ·rename_i g
  split at e
  ·cases e
  ·rename_i i;obtain⟨o,j,rfl⟩:=GV.mp e;exact⟨j,g,i⟩
theorem km {base h:HV} {L b:GS} {o:JH} (e:h.get? b=Gq o) (f:b≠L) (g:base.get? b=Gs):(b,o)∈j7 base h L:=by
 refine HF.mpr ⟨b,JE.mpr (Ga e),?_⟩;rw [if_neg f,g,e];rfl
theorem At.fr (a:At c ρ G σ s) (j:aI c):∃m,Fr c.base c.env.locals s.heap m/\News c.base c.env.locals s.heap (j7 c.base s.heap c.env.locals)/\
  ∀h' t,Fr c.base c.env.locals h' m->News c.base c.env.locals h' (j7 c.base s.heap c.env.locals)->At c ρ G σ {s with heap:=h',toks:=t}/\∀b o,s.heap.get? b=Gq o->b≠c.env.locals->h'.get? b=Gq o:=by
 delta c ρ G σ s;obtain⟨m,K,M,O⟩:=a.envr;delta m;refine⟨m,⟨K,a.inv.stays,j.baseLe⟩,m9 _ _ _,fun h' t F N=>?_⟩;delta h' t
 have k:∀b o,s.heap.get? b=Gq o->b≠c.env.locals->h'.get? b=Gq o:=fun b o e P=>by
  cases q:c.base.get? b with
  |some n=>
   have:=a.inv.stays b n q
   rw [e] at this;cases this;exact F.keep b o q
  |none=>exact(N _ (km e P q)).1
 obtain⟨C,Q,R,E,D,_⟩:=F.ns;delta C Q R
 have z:∀b,(∃o,s.heap.get? b=Gq o)->∃o,h'.get? b=Gq o:=fun b ⟨o,e⟩=>by
  by_cases q:b=c.env.locals
  ·exact⟨C,q▸E⟩
  ·exact⟨o,k b o e q⟩
 have H:∀i,aT σ i->G.φ i≠c.env.locals/\G.δ i≠c.env.locals:=fun i g=>⟨fun q=>(a.inv.pv_ne j.locPv i g).1 q.symm,fun q=>(a.inv.pv_ne j.locPv i g).2 q.symm⟩
 refine⟨⟨⟨a.inv.N,F.keep,dS a.inv.frames fun S he L T o e U=>?_,fun i g=>(a.inv.cells i g).keeps (fun o e=>k _ o e (H i g).1) (fun o e=>k _ o e (H i g).2),fun i g=>⟨z _ (a.inv.live i g).1,z _ (a.inv.live i g).2⟩,a.inv.fresh,a.inv.inj,
   fun b o e=>k b o (a.inv.froz b o e) fun q=>?_,fun b B=>⟨z b (a.inv.pv b B).1,(a.inv.pv b B).2⟩,a.inv.fpv,a.inv.sys⟩,⟨m,F.ns,fun i y v V W=>(M i y v V W).keeps (.refl _) fun y b e o X=>⟨o,k b o X (j.cellPv y b e).2,rfl⟩,fun y Y=>by
   obtain⟨b,l,I,o,Z,h3⟩:=O y Y
   exact⟨b,l,I,o,k b o Z (j.cellPv y b I).2,h3⟩⟩,
  ⟨a.adv.le,fun b o e f=>?_,fun b B=>z b (a.adv.there b B),a.adv.newφ,a.adv.newZ,a.adv.dead⟩,a.gens,a.os,fun p J=>k _ _ (a.pins p J) (j.pins p J).2.1⟩,k⟩
 ·by_cases q:L=c.env.locals
  ·subst q;exact⟨C,E,fun vs e=>by rw [D] at e;cases e⟩
  ·exact⟨o,k L o e q,U⟩
 ·rw [q] at e
  have:=(a.inv.pv _ j.locPv).2.2
  rw [this] at e;cases e
 ·obtain⟨n,e',r⟩:=a.adv.keep b o e f;exact⟨n,k b n e' (fun q=>by rw [q,j.locNew] at e;cases e),r⟩
theorem cH (b:String):∀h:HV,True->∃k,(k=MS\/k=Ma\/k=Lm)/\Ls (GO u.prog w) h (keeperOf (.builtin b)) k:=fun h Z=>⟨.machine,.inr (.inl rfl),.of_pure rfl⟩
theorem gh (T:String):∀h:HV,True->∃k,(k=MS\/k=Ma\/k=Lm)/\Ls (GO u.prog w) h (keeperOf (.type T)) k:=fun h Z=>⟨.machine,.inr (.inl rfl),.of_pure rfl⟩
theorem lL {x:Hb} {pos:HO} {v:Gy} (g:Gd u w c.base) (f:aI c) (l:c.env.scope.names=names) (a:At c ρ G σ s) (m:names.lookup x=Gq .globalImplicit) (k:x∈dg) (e:Kz x=Gq v) (hd:(x==("__debug__":Hb))=Gw) {Q:Gy->GA->Prop} {E:Gy->GA->Prop} (h:Q v s):
  G0 (GO u.prog w) A (J3 (.Name x pos) c.env) Q E s:=by
 obtain⟨n,o,_,b⟩:=g.globals;obtain⟨p,i,j⟩:=g.builtins
 have q:s.heap.Ns c.env.globals n:=by rw [f.glob];exact o.keeps a.inv.stays
 have r:s.heap.Ns c.env.builtins p:=by rw [f.bi];exact i.keeps a.inv.stays
 exact HW f.kind (by unfold Ik;rw [l];exact m) (OS q (b x k) r ((j x k).trans e) h) hd
theorem fU {x:Hb} {H pos:HO} {e:GW} {C:E} {v:Gy} {p:lM} (I:names.lookup x=Gq .globalImplicit) (J:x∈dg) (K:Kz x=Gq v) (hd:(x==("__debug__":Hb))=Gw) (S:ao u d names e C) (L:noStar [e])
  (M:(∃o,v=.builtin o)\/∃T,v=.type T)
  (m:∀(w:Hh) (A:Hf) (c:Cx) (ρ:List (Option V)) (G:Gh) (σ:Sg) (s:GA) (x:V) (n:Gy) (z:V) (σ':Sg) (Q:Gy->GA->Prop) (E:Gy->GA->Prop),aI c->Gd u w c.base->Rm A d c.Fs->At c ρ G σ s->VRep G x n->aJ u.T p [x] σ=Gq (z,σ')->
   (∀r t i,At c ρ i σ' t->G.Le i->VRep i z r->Q r t)->G0 (GO u.prog w) A (K5 v [n]) Q E s):
  ao u d names (.Call (.Name x H) [e] [] pos) (.op p [C]):=by
 intro w A c y D g F ρ G σ s Q X a h;refine Jl (lL g y D a I J K hd ?_);obtain⟨N,_⟩:=aL (env:=c.env) L;rw [N];refine KV (P:=fun Z=>True) rfl (by rcases M with ⟨o,rfl⟩ |⟨T,rfl⟩;exact cH o;exact gh T) (JZ (Jw (kH S y D g F a h fun x n j f k z b l O R e q=>KT ⟨trivial,?_⟩)))
 exact m w A c ρ j f k x n z b _ _ y g F l R e fun r t i U B W=>⟨i,b,z,U,O.trans B,W,q⟩
theorem rM {x:Hb} {O pos:HO} {e f:GW} {J K:E} {v:Gy} {p:lM} (R:names.lookup x=Gq .globalImplicit) (U:x∈dg) (W:Kz x=Gq v) (hd:(x==("__debug__":Hb))=Gw) (S:ao u d names e J) (Y:ao u d names f K) (ns:noStar [e,f])
  (hf:(∃B,v=.builtin B)\/∃T,v=.type T)
  (m:∀(w:Hh) (A:Hf) (c:Cx) (ρ:List (Option V)) (G:Gh) (σ:Sg) (s:GA) (x y:V) (j l:Gy) (z:V) (σ':Sg) (Q:Gy->GA->Prop) (E:Gy->GA->Prop),aI c->Gd u w c.base->Rm A d c.Fs->At c ρ G σ s->VRep G x j->VRep G y l->aJ u.T p [x,y] σ=Gq (z,σ')->
   (∀C D o,At c ρ o σ' D->G.Le o->VRep o z C->Q C D)->G0 (GO u.prog w) A (K5 v [j,l]) Q E s):
  ao u d names (.Call (.Name x O) [e,f] [] pos) (.op p [J,K]):=by
 intro w A c F L g M ρ G σ s Q X a h;refine Jl (lL g F L a R U W hd ?_);obtain⟨h1,H⟩:=aL (env:=c.env) ns;obtain⟨h2,_⟩:=aL (env:=c.env) H;rw [h1,h2];refine KV (P:=fun Z=>True) rfl (by rcases hf with ⟨B,rfl⟩ |⟨T,rfl⟩;exact cH B;exact gh T) (JZ (Jw ?_))
 refine G1 (tf S Y F L g M a h (P:=fun j l b=>G0 (GO u.prog w) A (K5 v [j,l]) (hG c ρ G Q) (a9 u c X) b) fun x y j l r n b z i t le rx ry e q=>?_) (fun j b k=>Jw (G1 k (fun l N k=>KT ⟨trivial,k⟩) fun Z Z x=>x)) fun Z Z x=>x;exact m w A c ρ r n b x y j l z i _ _ F g M t rx ry e fun C D o a' I rz=>⟨o,i,z,a',le.trans I,rz,q⟩
theorem mW {G:Gh} {kvs:List (Int×V)}:∀ {b:List (Int×Gy)},DRep G kvs b->b.length=kvs.length:=by
 induction kvs with
 |nil=>
  intro _ h;subst h;rfl
 |cons f kvs e=>
  intro _ h;obtain⟨y,g,rfl,_,_,r⟩:=h;exact congrArg (· +1) (e r)
theorem DB {w:Hh} {A:Hf} {c:Cx} {ρ:List (Option V)} {G:Gh} {σ:Sg} {s:GA} {x:V} {q:Gy} {z:V} {σ':Sg} {Q:Gy->GA->Prop} {E:Gy->GA->Prop} (a:At c ρ G σ s) (r:VRep G x q) (e:aJ u.T .len [x] σ=Gq (z,σ'))
  (h:∀t v j,At c ρ j σ' v->G.Le j->VRep j z t->Q t v):G0 (GO u.prog w) A (K5 (.builtin "len") [q]) Q E s:=by
 rcases ph e with ⟨l,i,e⟩ |⟨m,y,e⟩
 ·obtain⟨B,e⟩:=ba e;cases e;obtain⟨b,o,n,rfl,p,k⟩:=gV a r i
  have f:Ja _=_:=p.length
  rcases k with ⟨k,_⟩ |k
  ·exact PT (d4 k) (by rw [f];lia) (h _ _ G (a.tok _) (.refl _) (by rw [f];exact bz _ _))
  ·exact PU (aY k) (by rw [f];lia) (h _ _ G (a.tok _) (.refl _) (by rw [f];exact bz _ _))
 ·obtain⟨B,e⟩:=ba e;cases e;obtain⟨b,g,rfl,C,p,D⟩:=eI a r y u.prog w
  have i:g.length=m.length:=mW p
  exact call_len_dict D C (by rw [i];lia) (h _ _ G (a.tok _) (.refl _) (by rw [i];exact bz _ _))
end
section
variable {u:U} {d:Nat} {names:List (Hb×G2)} {w:Hh} {A:Hf} {c:Cx} {ρ:List (Option V)} {G:Gh} {σ:Sg} {s:GA} {x y:V} {f g:Gy} {z:V} {σ':Sg} {Q:Gy->GA->Prop} {E:Gy->GA->Prop}
theorem DK (a:At c ρ G σ s) (k:VRep G x f) (e:aJ u.T .intOf [x] σ=Gq (z,σ')) (h:∀l m j,At c ρ j σ' m->G.Le j->VRep j z l->Q l m):G0 (GO u.prog w) A (K5 (.type "int") [f]) Q E s:=by
 cases x with
 |int i=>
  cases e;obtain⟨t,rfl⟩:=aE k;exact call_int_int (h _ _ G a (.refl _) (bz _ _))
 |bool b=>
  cases e;cases gr k;exact call_int_bool (h _ _ G (a.tok _) (.refl _) (bz _ _))
 |_=>cases e
theorem CL (a:At c ρ G σ s) (l:VRep G x f) (e:aJ u.T .abs [x] σ=Gq (z,σ')) (h:∀j k b,At c ρ b σ' k->G.Le b->VRep b z j->Q j k):G0 (GO u.prog w) A (K5 (.builtin "abs") [f]) Q E s:=by
 obtain⟨i,rfl,e⟩:=cv e;cases e;obtain⟨t,rfl⟩:=aE l;refine PV fun u m=>h _ _ G (a.tok _) (.refl _) ?_;rw [show(if i<0 then -i else i)=((i.natAbs:Nat):Int) by split<;>lia]
 exact bz _ _
theorem C3 (a:At c ρ G σ s) (p:VRep G x f) (e:aJ u.T .ord [x] σ=Gq (z,σ')) (h:∀n o j,At c ρ j σ' o->G.Le j->VRep j z n->Q n o):G0 (GO u.prog w) A (K5 (.builtin "ord") [f]) Q E s:=by
 cases x with
 |str k=>
  obtain⟨i,b,e⟩:=GV.mp e;cases e;obtain⟨t,rfl⟩:=fT p;unfold mc at b
  split at b
  ·cases b
   have l:(nm 31).length=1:=by decide+kernel
   have m:(nm 31).cps.getD 0 0=97:=by decide+kernel
   exact LD l (h _ _ G (a.tok _) (.refl _) (by rw [m];exact bz 97 _))
  ·cases b
   have l:(nm 32).length=1:=by decide+kernel
   have m:(nm 32).cps.getD 0 0=98:=by decide+kernel
   exact LD l (h _ _ G (a.tok _) (.refl _) (by rw [m];exact bz 98 _))
  ·cases b
 |_=>cases e
theorem Du (p:A.handled=Gs) (q:aI c) (a:At c ρ G σ s) (r:VRep G x f) (e:aJ u.T .sum [x] σ=Gq (z,σ')) (h:∀k o b,At c ρ b σ' o->G.Le b->VRep b z k->Q k o):G0 (GO u.prog w) A (K5 (.builtin "sum") [f]) Q E s:=by
 obtain⟨i,rfl,e⟩:=dy e;obtain⟨t,rfl⟩:=aU r;obtain⟨l,v,e⟩:=bW e;obtain⟨L,j,e⟩:=GV.mp e;cases e;obtain⟨M,items,n,B,C⟩:=a.cell t v (by simp)
 obtain⟨m,F,N,D⟩:=a.fr q;refine LSm.sum_ints F N p (aY (items:=items.toList.toArray) B) (jJ C j) fun H I O J K=>?_;exact h _ _ G (D H I J K).1 (.refl _) (bz _ _)
theorem DJ (n:A.handled=Gs) (o:aI c) (a:At c ρ G σ s) (p:VRep G x f) (q:VRep G y g) (e:aJ u.T .max [x,y] σ=Gq (z,σ')) (h:∀k l b,At c ρ b σ' l->G.Le b->VRep b z k->Q k l):G0 (GO u.prog w) A (K5 (.builtin "max") [f,g]) Q E s:=by
 obtain⟨i,rfl,e⟩:=cv e;obtain⟨j,rfl,e⟩:=cv e;cases e;obtain⟨t,rfl⟩:=aE p;obtain⟨H,rfl⟩:=aE q;obtain⟨m,F,N,r⟩:=a.fr o;exact max_two_N n F N fun v B C D=>h _ _ G (r v B C D).1 (.refl _) (bz _ _)
theorem Dr (n:A.handled=Gs) (o:aI c) (a:At c ρ G σ s) (p:VRep G x f) (q:VRep G y g) (e:aJ u.T .min [x,y] σ=Gq (z,σ')) (h:∀k l b,At c ρ b σ' l->G.Le b->VRep b z k->Q k l):G0 (GO u.prog w) A (K5 (.builtin "min") [f,g]) Q E s:=by
 obtain⟨i,rfl,e⟩:=cv e;obtain⟨j,rfl,e⟩:=cv e;cases e;obtain⟨t,rfl⟩:=aE p;obtain⟨H,rfl⟩:=aE q;obtain⟨m,F,N,r⟩:=a.fr o;exact min_two_N n F N fun v B C D=>h _ _ G (r v B C D).1 (.refl _) (bz _ _)
theorem oj (a:At c ρ G σ s) {b:GS} {items:Array Gy} {n:Nat} {l:List V} (k:s.heap.get? b=Gq (HM items n)) (m:VReps G l items.toList) (q:l.length<=1000000) (h:∀o p e,At c ρ e σ p->G.Le e->VRep e (.tup l) o->Q o p):
  G0 (GO u.prog w) A (K5 (.type "tuple") [.ref b]) Q E s:=by
 have i:Ja _=_:=m.length
 refine call_tuple_list (aY k) (fun D v=>?_) (by rw [i];exact(l1 0x1b09492949f801b090909090909180) q)
 have j:=a.grow (t:=s.toks) v
 obtain⟨e,B,C,r⟩:=qW (t:=s.toks) j (items:=items) m;exact h _ _ e B C r
theorem qN (a:At c ρ G σ s) (p:VRep G x f) (e:aJ u.T .tupleOf [x] σ=Gq (z,σ')) (h:∀q r k,At c ρ k σ' r->G.Le k->VRep k z q->Q q r):G0 (GO u.prog w) A (K5 (.type "tuple") [f]) Q E s:=by
 cases x with
 |ref i=>
  obtain⟨t,rfl⟩:=aU p;obtain⟨l,v,e⟩:=bW e;obtain⟨m,e⟩:=ba e;cases e;obtain⟨C,j,n,B,o⟩:=a.cell t v (by simp)
  exact oj a B o m h
 |lst l=>
  obtain⟨m,e⟩:=ba e;cases e;obtain⟨b,j,n,rfl,z,o⟩:=eJ p;exact oj a (a.inv.froz _ _ z) o m h
 |_=>cases e
theorem uZ (F:aI c) (a:At c ρ G σ s) (r:VRep G x f) (H:VRep G y g) (e:aJ u.T .app [x,y] σ=Gq (z,σ')):∃b items n,f=.ref b/\items.size<=JY/\s.heap.get? b=Gq (HM items n)/\z=.none/\At c ρ G σ' {s with heap:=s.heap.update b (Hs fun j=>j.push g)}:=by
 revert z σ';delta u c ρ G σ s x y f g;delta z σ';obtain⟨i,rfl,e⟩:=dy e;injections i;intro e r e;obtain⟨I,rfl⟩:=aU r;obtain⟨l,t,e⟩:=bW e;injections l;intro t e;obtain⟨J,e⟩:=ba e;cases e;obtain⟨v,items,n,B,C⟩:=a.cell I t (by simp)
 delta items n
 have k:Ja _=_:=C.length
 have m:(s.heap.update (G.φ i) (Hs fun j=>j.push g)).get? (G.φ i)=Gq (HM (items.push g) (n+1)):=by
  have:=Lu (h:=s.heap) (l:=G.φ i) B (fun j=>j.push g)
  rw [if_neg (by simp)] at this;exact this
 have D:∀q,q≠G.φ i->(s.heap.update (G.φ i) (Hs fun j=>j.push g)).get? q=s.heap.get? q:=fun q p=>Hl _ _ (Hw p)
 refine⟨_,items,n,rfl,by rw [k];exact(l1 0x1b09492949f801b090909090909180) J.2,B,rfl,?_⟩
 refine a.mut F v (fun q o e p Z=>(D q p).trans e) ⟨_,m⟩ ?_ ⟨_,_,m,by rw [IC];exact C.append (.cons H .nil)⟩
 by_cases q:G.δ i=G.φ i
 ·rw [q];exact⟨_,m⟩
 ·obtain⟨o,K⟩:=(a.inv.live i v).2;exact⟨o,(D _ q).trans K⟩
theorem Cz (K:aI c) (a:At c ρ G σ s) (B:VRep G x f) (e:aJ u.T .pop [x] σ=Gq (z,σ')):∃b items n y,f=.ref b/\items.size<=JY/\s.heap.get? b=Gq (HM items n)/\items[items.size - 1]? =Gq y/\VRep G z y/\At c ρ G σ' {s with heap:=s.heap.update b (Hs fun k=>k.eraseIdxIfInBounds (items.size - 1))}:=by
 delta u c ρ G σ s x f z σ';obtain⟨i,rfl,e⟩:=dy e;injections i;intro e B e;obtain⟨L,rfl⟩:=aU B;obtain⟨l,C,e⟩:=bW e;injections l;intro C e;obtain⟨M,e⟩:=ba e;obtain⟨y,m,e⟩:=GV.mp e;injections y;intro m e;rcases e with ⟨⟩
 obtain⟨D,items,n,F,p⟩:=a.cell L C (by simp)
 delta items n
 have j:Ja _=_:=p.length
 have H:0<l.length:=by cases l with
  |nil=>simp at m
  |cons _ _=>simp
 have N:l[items.size - 1]? =Gq z:=by rw [j, <-List.getLast?_eq_getElem?];exact m
 obtain⟨g,I,O⟩:=p.get N;delta g;rw [JM] at I;obtain⟨r,t⟩:∃r,(s.heap.update (G.φ i) (Hs fun k=>k.eraseIdxIfInBounds (items.size - 1))).get? (G.φ i)=Gq (HM (items.eraseIdxIfInBounds (items.size - 1)) r):=⟨_,Lu (h:=s.heap) (l:=G.φ i) F (fun k=>k.eraseIdxIfInBounds (items.size - 1))⟩;delta r
 have J:∀q,q≠G.φ i->(s.heap.update (G.φ i) (Hs fun k=>k.eraseIdxIfInBounds (items.size - 1))).get? q=s.heap.get? q:=fun q v=>Hl _ _ (Hw v)
 refine⟨_,items,n,g,rfl,by rw [j];exact(l1 0x1b09492949f801b090909090909180) M.2,F,I,O,?_⟩
 refine a.mut K D (fun q o e v Z=>(J q v).trans e) ⟨_,t⟩ ?_ ⟨_,_,t,?_⟩
 by_cases q:G.δ i=G.φ i
 ·rw [q];exact⟨_,t⟩
 ·obtain⟨o,P⟩:=(a.inv.live i D).2;exact⟨o,(J _ q).trans P⟩
 ·have:(items.eraseIdxIfInBounds (items.size - 1)).toList=items.toList.take (l.length - 1):=by
   rw [Array.eraseIdxIfInBounds,dif_pos (by lia),Array.toList_eraseIdx,j,List.eraseIdx_eq_take_drop_succ,show items.toList.drop (l.length - 1+1)=[] from List.drop_eq_nil_of_le (by rw [Jo];exact(l3 0x1d201b718121b71810) j (wY _ _)),GY]
  rw [this,List.dropLast_eq_take];exact p.take _
theorem Dm (H:aI c) (a:At c ρ G σ s) (t:VRep G x f) (e:aJ u.T .rev [x] σ=Gq (z,σ')):∃b items n,f=.ref b/\items.size<=JY/\s.heap.get? b=Gq (HM items n)/\z=.none/\At c ρ G σ' {s with heap:=s.heap.update b (Hs fun j=>j.reverse)}:=by
 delta u c ρ G σ s x f z σ';obtain⟨i,rfl,e⟩:=dy e;injections i;intro e t e;obtain⟨I,rfl⟩:=aU t;obtain⟨l,v,e⟩:=bW e;injections l;intro v e;obtain⟨J,e⟩:=ba e;cases e;obtain⟨B,items,n,C,D⟩:=a.cell I v (by simp)
 delta items n
 have k:Ja _=_:=D.length
 obtain⟨m,p⟩:∃m,(s.heap.update (G.φ i) (Hs fun j=>j.reverse)).get? (G.φ i)=Gq (HM items.reverse m):=⟨_,Lu (h:=s.heap) (l:=G.φ i) C (fun j=>j.reverse)⟩;delta m
 have F:∀q,q≠G.φ i->(s.heap.update (G.φ i) (Hs fun j=>j.reverse)).get? q=s.heap.get? q:=fun q r=>Hl _ _ (Hw r)
 refine⟨_,items,n,rfl,by rw [k];exact(l1 0x1b09492949f801b090909090909180) J.2,C,rfl,?_⟩
 refine a.mut H B (fun q o e r Z=>(F q r).trans e) ⟨_,p⟩ ?_ ⟨_,_,p,by rw [I8];exact D.reverse⟩
 by_cases q:G.δ i=G.φ i
 ·rw [q];exact⟨_,p⟩
 ·obtain⟨o,K⟩:=(a.inv.live i B).2;exact⟨o,(F _ q).trans K⟩
end
section
variable {u:U} {d:Nat} {names:List (Hb×G2)} {w:Hh} {A:Hf} {c:Cx} {ρ:List (Option V)} {G:Gh} {σ:Sg} {s:GA}
theorem cA {b:GS} {items:Array Gy} {n:Nat} (h:s.heap.get? b=Gq (HM items n)):s.TypeIs (.ref b) "list"/\∀a,Jg b=.ref a->∃f,s.heap.get? a=Gq f/\f.dict=Gs:=
 ⟨⟨_,h,rfl⟩,fun a e=>by cases e;exact⟨_,h,rfl⟩⟩
theorem yN {o:GW} {r:E} {x:Hb} {f pos:HO} (C:ao u d names o r) (D:cX o) (H:x="pop") (I:(f.endLine==pos.line)=Gu):ao u d names (.Call (.Attribute o x f) [] [] pos) (.op .pop [r]):=by
 subst H;intro w A c t J g K ρ G σ s Q X a h;refine Lg (D _ _ _) rfl I rfl (kH C t J g K a h fun x S v k B z l i L M e q=>?_);obtain⟨b,m,n,y,rfl,N,p,O,R,j⟩:=Cz t i M e;refine⟨"list","list.pop",LZ,F.slot_list_pop,rfl,(cA p).1,(cA p).2,P.pop_list (n:=n) p O (.le L (.of j R q)) N⟩
theorem ye {o:GW} {r:E} {x:Hb} {f pos:HO} (B:ao u d names o r) (C:cX o) (D:x="reverse") (H:(f.endLine==pos.line)=Gu):ao u d names (.Call (.Attribute o x f) [] [] pos) (.op .rev [r]):=by
 subst D;intro w A c t I g J ρ G σ s Q X a h;refine Lg (C _ _ _) rfl H rfl (kH B t I g J a h fun x N v k y z l i K L e q=>?_);obtain⟨b,m,n,rfl,M,p,rfl,j⟩:=Dm t i L e;refine⟨"list","list.reverse",LZ,F.slot_list_reverse,rfl,(cA p).1,(cA p).2,P.reverse_list (n:=n) p (.le K (.of j iP q)) M⟩
set_option tactic.hygienic true in
theorem vW (a:At c ρ G σ s) {x:V} {j:Gy} (k:VRep G x j) (e:jM σ x=Gu):∃b items n,j=.ref b/\s.heap.get? b=Gq (HM items n):=by
 obtain⟨i,g,rfl,f⟩:=pW e;obtain⟨l,rfl⟩:=aU k;obtain⟨o,items,n,m,p⟩:=a.cell l f nofun
 exact⟨_,_,_,rfl,m⟩
set_option tactic.hygienic true in
theorem uB (a:At c ρ G σ s) {x:V} {j:Gy} (n:VRep G x j) (e:kZ σ x=Gu):∃b,j=.ref b/\s.TypeIs (.ref b) "dict"/\(∀a,Jg b=.ref a->∃k,s.heap.get? a=Gq k/\k.dict=Gs):=by
 obtain⟨i,g,rfl,f⟩:=jT e;obtain⟨p,rfl⟩:=aU n;obtain⟨q,l,⟨o,m,t,v,d,r⟩,y⟩:=a.cell p f nofun
 exact⟨_,rfl,⟨_,m,d.1⟩,fun a e=>by cases e;exact⟨_,m,d.2.1⟩⟩
set_option tactic.hygienic true in
theorem zc {o e:GW} {L M:E} {x:Hb} {j pos:HO} (W:ao u d names o L) (Y:ao u d names e M) (Z:noStar [e]) (D:cX o) (hx:x="append") (hl:(j.endLine==pos.line)=Gu):ao u d names (.Call (.Attribute o x j) [e] [] pos) (.app L M):=by
 subst hx;intro w A c H N g O ρ G σ s Q X a h;refine wpAny_Call_method1_late (D _ _ _) hl (by rw [(aL Z).1];rfl) (ay W H N g O a h fun v R S I x k p l hh=>?_)
 obtain⟨q,r⟩:=hh;obtain⟨b,f,n,rfl,T⟩:=vW k l q;refine⟨"list","list.append",LZ,Ox,rfl,(cA T).1,(cA T).2,P.append_list (ay Y H N g O k r fun v U V J y t m B i=>?_)⟩
 split at i
 ·rename_i z K e;obtain⟨b',f,n,D,hs,g2,rfl,C⟩:=uZ H t (l.mono m) B e;cases D;exact⟨f,n,hs,g2,.le (p.trans m) (.of C iP i)⟩
 ·exact i.elim
set_option tactic.hygienic true in
theorem za {o e f:GW} {o' e' f':E} {x:Hb} {j pos:HO} (ho:ao u d names o o') (he:ao u d names e e') (hf:ao u d names f f') (ns:noStar [e,f]) (hb:cX o) (hx:x="get") (hl:(j.endLine==pos.line)=Gu):ao u d names (.Call (.Attribute o x j) [e,f] [] pos) (.getD o' e' f'):=by
 revert o e f o' e' f' x j pos;delta u d names;delta o e f o' e' f' x j pos;subst hx;intro w A c ok hn g rm ρ G σ s Q X a h;revert ρ G σ s Q X;delta w A c;delta ρ G σ s Q X;refine wpAny_Call_method2_late (hb _ _ _) hl (by rw [(aL ns).1,(aL (aL (env:=c.env) ns).2).1];rfl) (ay ho ok hn g rm a h fun v R B K x n S l hh=>?_)
 obtain⟨C,T⟩:=hh;delta v R B K x;obtain⟨b,rfl,t1,t2⟩:=uB n l C;delta b;obtain⟨i,q,rfl,L⟩:=jT C;delta i q;obtain⟨hi,hv⟩:=aU l;cases hv
 have hs:((B.φ i) ==KL)=Gw:=by
  obtain⟨b',_,M,_,_,hs⟩:=eI n (x:=.ref i) l (hY L) u.prog w;cases M;exact hs
 refine⟨"dict","dict.get",OI,F.slot_dict_get,rfl,t1,t2,wpAny_dict_get2 (knd:=Ji u.prog w) hs (ay he ok hn g rm n T fun vk U V N y W D H I=>?_)⟩;delta vk U V N y;refine ay hf ok hn g rm W I fun vd Y Z O z J p c' m=>?_;delta vd Y Z O z
 split at m
 ·rename_i r P e;injections r P;intro e m;obtain⟨k,rfl,e⟩:=cv e;injections k;intro e H I e;obtain⟨kvs,hc,e⟩:=jc e;injections kvs;intro hc e;cases e;obtain⟨t,rfl⟩:=aE (H.mono p);delta t;obtain⟨b',d',M,hd,rr,_⟩:=eI J (x:=.ref i) (l.mono (D.trans p)) (kvs:=kvs) (hY hc) u.prog w;delta b' d';cases M;refine⟨k,_,show HY k (.int k t)=Gu by simp [HY],hd.mapOf,.le (S.trans (D.trans p)) (.of (J.tok _) ?_ m)⟩
  have:=g9 k rr
  split at this
  ·rename_i hz;rw [hz,this];exact c'
  ·rename_i vz hz;obtain⟨x,hx,rx⟩:=this;rw [hz,hx];exact rx
 ·exact m.elim
end
section
variable {u:U} {d:Nat} {names:List (Hb×G2)} {w:Hh} {A:Hf} {c:Cx} {ρ:List (Option V)} {G:Gh} {σ:Sg} {s:GA}
inductive ov (c:Cx) (ρ:List (Option V)) (G:Gh) (Q:Bool->Sg->Prop) (t:Bool) (s':GA):Prop where
 |mk (G':Gh) (σ':Sg) (a:At c ρ G' σ' s') (l:G.Le G') (q:Q t σ')
theorem ov.of {Q:Bool->Sg->Prop} {t:Bool} (a:At c ρ G σ s) (q:Q t σ):ov c ρ G Q t s:=⟨G,σ,a,.refl _,q⟩
theorem ov.le {Q:Bool->Sg->Prop} {t:Bool} {f:Gh} {g:GA} (l:G.Le f) (h:ov c ρ f Q t g):ov c ρ G Q t g:=by
 obtain⟨e,b,a,i,q⟩:=h;exact⟨e,b,a,l.trans i,q⟩
def dQ (u:U) (d:Nat) (names:List (Hb×G2)) (e:GW) (b:E):Prop:=
 ∀(w:Hh) (A:Hf) (c:Cx),aI c->c.env.scope.names=names->Gd u w c.base->Rm A d c.Fs->∀(ρ:List (Option V)) (G:Gh) (σ:Sg) (s:GA) (Q:Bool->Sg->Prop) (X:Sg->Prop),At c ρ G σ s->wpB u.T (ae u d) ρ b Q X σ->
  G0 (GO u.prog w) A (OT e c.env (J3 e c.env)) (ov c ρ G Q) (a9 u c X) s
noncomputable abbrev dX (e:GW):Prop:=(∀env whole,OT e env whole=(do let v<-whole;M7 e.pos;KA [v] (NX v)))\/∃l op r pos,e=.Compare l [op] [r] pos
theorem pA {env:J2} (l op r pos b):OT (.Compare l [op] [r] pos) env b=(do let c<-J3 (.Compare l [op] [r] pos) env;KA [c] (NX c)):=by
 rw [isTrue_Compare1,eval_Compare1];simp only [bind_assoc]
set_option tactic.hygienic true in
theorem q7 {e:GW} {p:E} (S:ao u d names e p) (hp:dX e) (y:aI c) (z:c.env.scope.names=names) (g:Gd u w c.base) (B:Rm A d c.Fs) {Q:Bool->Sg->Prop} {X:Sg->Prop} (a:At c ρ G σ s)
  (h:wpE u.T (ae u d) ρ p (fun v σ'=>match b6 σ' v with|some t=>Q t σ'|none=>False) X σ):
  G0 (GO u.prog w) A (OT e c.env (J3 e c.env)) (ov c ρ G Q) (a9 u c X) s:=by
 have j:G0 (GO u.prog w) A (J3 e c.env) (fun v b=>G0 (GO u.prog w) A (NX v) (ov c ρ G Q) (a9 u c X) b) (a9 u c X) s:=
  ay S y z g B a h fun v b q o x i m n f=>by
   split at f
   ·rename_i t C;exact gF i n C fun F=>.le m (.of (i.tok _) f)
   ·exact f.elim
 rcases hp with hp|⟨l,H,r,D,rfl⟩
 ·exact wpAny_isTrue_value j (hp _ _)
 ·rw [pA];exact Gv (G1 j (fun v b k=>Ha k) fun Z Z x=>x)
theorem yl {e:GW} {b:E} (S:ao u d names e b) (hp:dX e) (f:∀T C ρ Q X σ,wpB T C ρ b Q X σ=wpE T C ρ b (fun v σ'=>match b6 σ' v with|some t=>Q t σ'|none=>False) X σ):dQ u d names e b:=by
 intro w A c i j g k ρ G σ s Q X a h;rw [f] at h;exact q7 S hp i j g k a h
theorem dm {e:GW} {i:E} (S:dQ u d names e i) (j:aI c) (m:c.env.scope.names=names) (g:Gd u w c.base) (n:Rm A d c.Fs) {P:Bool->GA->Prop} {Q:Bool->Sg->Prop} {X:Sg->Prop} (a:At c ρ G σ s)
  (h:wpB u.T (ae u d) ρ i Q X σ) (k:∀t b f σ',At c ρ f σ' b->G.Le f->Q t σ'->P t b):G0 (GO u.prog w) A (OT e c.env (J3 e c.env)) P (a9 u c X) s:=
 G1 (S w A c j m g n ρ G σ s Q X a h) (fun v b o=>by obtain⟨f,σ',p,l,q⟩:=o;exact k v b f σ' p l q) fun Z Z x=>x
theorem t8 {x:GW} {rest:List GW} {pos:HO} {m n:E} (r:dQ u d names x m) (y:dQ u d names (.BoolOp .And rest pos) n):dQ u d names (.BoolOp .And (x::rest) pos) (.and m n):=by
 intro w A c o p g q ρ G σ s Q X a h;refine isTrue_and (dm r o p g q a h fun t j l i b e f=>?_)
 cases t with
 |true=>exact G1 (y w A c o p g q ρ l i j Q X b f) (fun v z k=>k.le e) fun Z Z x=>x
 |false=>exact .le e (.of b f)
theorem yi {x:GW} {rest:List GW} {pos:HO} {m n:E} (r:dQ u d names x m) (y:dQ u d names (.BoolOp .Or rest pos) n):dQ u d names (.BoolOp .Or (x::rest) pos) (.or m n):=by
 intro w A c o p g q ρ G σ s Q X a h;refine isTrue_or (dm r o p g q a h fun t j l i b e f=>?_)
 cases t with
 |false=>exact G1 (y w A c o p g q ρ l i j Q X b f) (fun v z k=>k.le e) fun Z Z x=>x
 |true=>exact .le e (.of b f)
theorem sU {x:GW} {pos:HO} {j:E} (m:dQ u d names x j):dQ u d names (.BoolOp .And [x] pos) j:=by
 intro w A c n o g p ρ G σ s Q X a h;refine isTrue_and (dm m n o g p a h fun t k l i b e f=>?_)
 cases t with
 |true=>exact isTrue_and_nil (.le e (.of b f))
 |false=>exact .le e (.of b f)
theorem wR {x:GW} {pos:HO} {j:E} (m:dQ u d names x j):dQ u d names (.BoolOp .Or [x] pos) j:=by
 intro w A c n o g p ρ G σ s Q X a h;refine isTrue_or (dm m n o g p a h fun t k l i b e f=>?_)
 cases t with
 |false=>exact isTrue_or_nil (.le e (.of b f))
 |true=>exact .le e (.of b f)
theorem qf {x y z:GW} {pos:HO} {O P R:E} (hx:ao u d names x O) (hy:ao u d names y P) (hz:ao u d names z R) (ns:iB z):dQ u d names (.Compare x [.LtE,.Lt] [y,z] pos) (.chain O P R):=by
 revert x y z pos O P R;delta u d names;delta x y z pos O P R;intro w A c S T g U ρ G σ s Q X a h;revert ρ G σ s Q X;delta w A c;delta ρ G σ s Q X;refine isTrue_chain (ay hx S T g U a h fun C f D r i F l H I=>?_) (ns _);delta C f D r i
 show G0 (GO u.prog w) A (do
  let m<-KA [C] (J3 y c.env)
  M7 pos
  let B<-KA [C,m] (MD .LtE C m)
  release [C,m] [B]
  if<-KA [B,m] (NX B) then testChain pos m [.Lt] [J3 z c.env] else HE Gw) _ _ f
 refine Gv (Ha (ay hy S T g U F I fun vy n J v j o p K b=>?_));delta vy n J v j;refine Gv (HQ (Gv (Ha ?_)))
 cases i with
 |int i=>
  cases j with
  |int j=>
   obtain⟨t,rfl⟩:=aE H;obtain⟨V,rfl⟩:=aE K;refine le_int (Gv (wpAny_release' (Gv (Ha (Mi ?_)))));simp only at b
   by_cases e:i<=j
   ·rw [if_pos e] at b;rw [decide_eq_true e]
    show G0 (GO u.prog w) A (do
     let m<-KA [NY j V] (J3 z c.env)
     M7 pos
     let B<-operate [NY j V,m] (MD .Lt (NY j V) m)
     KA [B] (NX B)) _ _ n
    refine Gv (Ha (ay hz S T g U o b fun vz Y Z W k L M N q=>?_))
    cases k with
    |int k=>
     obtain⟨b',rfl⟩:=aE N;refine Gv (HQ (Gv (wpAny_operating (lt_int (Ha (Mi ?_))))));exact .le (l.trans (p.trans M)) (.of L q)
    |_=>exact q.elim
   ·rw [if_neg e] at b;rw [decide_eq_false e];exact GR (.le (l.trans p) (.of o b))
  |_=>exact b.elim
 |_=>cases j<;>exact b.elim
theorem ya {t b o:GW} {pos:HO} {B p q:E} (C:ao u d names t B) (hp:dX t) (D:ao u d names b p) (F:ao u d names o q):ao u d names (.IfExp t b o pos) (.ite B p q):=by
 intro w A c r y g z ρ G σ s Q X a h;refine wpAny_IfExp (G1 (q7 C hp r y g z a (Q:=fun t n=>match t with|true=>wpE u.T (ae u d) ρ p Q X n|false=>wpE u.T (ae u d) ρ q Q X n) h) (fun t f H=>?_) fun Z Z x=>x)
 obtain⟨i,e,j,l,m⟩:=H
 cases t with
 |true=>exact G1 (D w A c r y g z ρ i e f Q X j m) (fun v I k=>k.le l) fun Z Z x=>x
 |false=>exact G1 (F w A c r y g z ρ i e f Q X j m) (fun v I k=>k.le l) fun Z Z x=>x
theorem yU {x y:GW} {pos:HO} {p q:E} (C:ao u d names x p) (D:ao u d names y q):ao u d names (.BoolOp .And [x,y] pos) (.and p q):=by
 intro w A c r t g z ρ G σ s Q X a h;refine wpAny_And2 (ay C r t g z a h fun v B n m i b l j f=>?_)
 split at f<;>rename_i e
 ·exact gF b j e fun o=>G1 (D w A c r t g z ρ n m _ Q X (b.tok o) f) (fun v F k=>k.le l) fun Z Z x=>x
 ·exact gF b j e fun o=>.le l (.of (b.tok o) j f)
 ·exact f.elim
theorem Am {x y:GW} {pos:HO} {p q:E} (C:ao u d names x p) (D:ao u d names y q):ao u d names (.BoolOp .Or [x,y] pos) (.or p q):=by
 intro w A c r t g z ρ G σ s Q X a h;refine wpAny_Or2 (ay C r t g z a h fun v B n m i b l j f=>?_)
 split at f<;>rename_i e
 ·exact gF b j e fun o=>.le l (.of (b.tok o) j f)
 ·exact gF b j e fun o=>G1 (D w A c r t g z ρ n m _ Q X (b.tok o) f) (fun v F k=>k.le l) fun Z Z x=>x
 ·exact f.elim
theorem vf {i:Int} {k:Nat} {p pos:HO}:ao u d names (.UnaryOp .USub (.Constant (.int i) k p) pos) (.const (.int (-i))):=by
 intro w A c b e g f ρ G σ s Q X a h;exact wpAny_UnaryOp (KN (PW (.of ((a.tok _).tok _) (bz _ _) h)))
end
section
variable {u:U} {d:Nat} {names:List (Hb×G2)} {w:Hh} {A:Hf} {c:Cx} {ρ:List (Option V)} {G:Gh} {σ:Sg} {s:GA}
theorem oY:iL {cls:=.type "dict",data:=.dict #[]} []:=⟨#[],0,⟨rfl,rfl,rfl⟩,rfl,fun e b=>(by simp at b),rfl,OJ⟩
theorem dC {G:Gh} {a d:GS}:(G.add a d).φ G.N=a/\(G.add a d).δ G.N=d:=⟨if_pos rfl,if_pos rfl⟩
theorem iU {a d:GS} (x:At c ρ G σ s):VRep (G.add a d) (.ref σ.n) (.ref a):=by
 refine⟨by rw [<-x.inv.N];exact Gx _,?_⟩
 rw [<-x.inv.N,dC.1]
theorem oO (a:At c ρ G σ s) {t:MY}:∃b,At c ρ b (σ.alloc (.dict [])) {s with heap:=s.heap.push {cls:=.type "dict",data:=.dict #[]},toks:=t}/\G.Le b/\VRep b (.ref σ.n) (.ref s.heap.objs.size):=by
 have f:(s.heap.push {cls:=.type "dict",data:=.dict #[]}).get? s.heap.objs.size=Gq {cls:=.type "dict",data:=.dict #[]}:=Hr _ rfl
 refine⟨G.add s.heap.objs.size s.heap.objs.size,a.track (fun Z Z e=>GQ _ e) (aN _) (aN _) ⟨_,f⟩ ⟨_,f⟩ ?_ (by simp),Gh.add_le _ _ _,iU a⟩
 exact⟨[],⟨_,by rw [dC.1];exact f,oY⟩,rfl⟩
theorem vw {pos:HO}:ao u d names (.Dict [] [] pos) (.op .dct0 []):=by
 intro w A c i j g k ρ G σ s Q X a h;obtain⟨b,e,f,r⟩:=oO (t:=s.toks) a;exact wpAny_Dict_empty ⟨b,_,_,e,f,r,h⟩
theorem vQ {k v:GW} {O P:E} {pos:HO} (hk:ao u d names k O) (hv:ao u d names v P):ao u d names (.Dict [Gq k] [v] pos) (.dct1 O P):=by
 revert k v O P pos;delta u d names;delta k v O P pos;intro w A c T W g Y ρ G σ s Q X a h;revert ρ G σ s Q X;delta w A c;delta ρ G σ s Q X;obtain⟨D,F,le,r⟩:=oO (t:=s.toks) a;delta D;refine wpAny_Dict_pairs (knd:=Ji u.prog w) (pairs:=[(J3 k c.env,do let x<-J3 v c.env;M7 pos;HE x)]) rfl (by simp) (by simp) (evalPairs_cons (ay hk T W g Y F h fun vk H I B x J n K L=>?_))
 delta vk H I B x;refine Gv (ay hv T W g Y J L fun R p f C y l z M m=>?_);delta R p f C y;refine Gv (HQ (GR (evalPairs_nil ?_)));obtain⟨i,rfl,hc,m⟩:=m;delta i;obtain⟨t,rfl⟩:=aE K;delta t
 have r':=r.mono (n.trans z)
 obtain⟨hi,hD⟩:=aU r';obtain⟨al,N,⟨o,g1,dd⟩,rr⟩:=l.cell hi hc (by simp)
 revert o;delta N;delta o
 have j:f.φ σ.n=s.heap.objs.size:=by injection hD.symm
 subst rr;refine⟨[(i,R)],⟨by show HY i (.int i t)=Gu;simp [HY],rfl,trivial⟩,bw.mpr ⟨o,j▸g1,dd⟩,fun h' hd sb=>?_⟩
 delta h';obtain⟨S,U,V⟩:=bw.mp hd;delta S;refine⟨f,_,_,l.mut (h':=h') (t:=p.toks+1) T al (fun b o e n1 Z=>(sb.2 b (by rw [<-j];exact n1)).trans e) ⟨S,j▸U⟩ ?_ (cl:=.dict [(i,y)]) ?_,le.trans (n.trans z),hD▸r',m⟩
 ·by_cases q:f.δ σ.n=f.φ σ.n
  ·rw [q,j];exact⟨S,U⟩
  ·obtain⟨o,ho⟩:=(l.inv.live _ al).2;exact⟨o,(sb.2 _ (by rw [<-j];exact q)).trans ho⟩
 ·exact⟨[(i,R)],⟨S,j▸U,V⟩,⟨(i,R),[],rfl,rfl,M,rfl⟩⟩
def f8 (u:U):Prop:=∀(w:Hh) (A:Hf) (s:GA) (D:GS) (b:List Gy) (g:List Int) (n:Nat) (P:Gy->GA->Prop) (E:Gy->GA->Prop),s.heap.get? D=Gq (HM b.toArray n)->KS b g->64<=b.length->b.length<=200->
 (∀e f,KS e.toList f->f.Perm g->P .none {s with heap:=Nl s.heap D b e})->G0 (GO u.prog w) A (K5 (.builtin "list.sort") [.ref D]) P E s
theorem kI (l:f8 u) {D:GS} {vs:List Gy} {f:List Int} {n:Nat} {P:Gy->GA->Prop} {E:Gy->GA->Prop} (g:s.heap.get? D=Gq (HM vs.toArray n)) (k:KS vs f) (m:vs.length<=200)
  (h:∀out b,KS out.toList b->b.Perm f->(vs.length<64->b.Pairwise (· <= ·))->P .none {s with heap:=Nl s.heap D vs out}):G0 (GO u.prog w) A (K5 (.builtin "list.sort") [.ref D]) P E s:=by
 by_cases e:vs.length<64
 ·exact Ld Nm ⟨_,g,rfl⟩ M0 (list_sort_tree (n:=n) g k e fun out b i j o=>⟨.none,rfl,h out b i j fun Z=>o⟩) (Nn _)
 ·exact l w A s D vs f n P E g k ((l1 8735929148639560) e) m fun out b i j=>h out b i j fun q=>absurd q e
theorem lm {a b:List Int} (hp:a.Perm b) (e:a.Pairwise (· <= ·)):a=iH b:=by
 refine ksm_same (hp.trans (List.mergeSort_perm b _).symm) e ?_
 have:=List.pairwise_mergeSort (le:=fun a b:Int=>GI (a<=b)) (fun a b c f g=>by simp only [decide_eq_true_eq] at *;lia) (fun a b=>by simp only [Ii,decide_eq_true_eq];lia) b
 exact this.imp fun h=>of_decide_eq_true h
theorem lQ {σ:Sg} {c b:Cell}:(σ.alloc c).set σ.n b=σ.alloc b:=by
 unfold Sg.alloc Sg.set
 congr 1
 funext x
 by_cases q:x=σ.n<;>simp [q]
theorem sx {D:GS} {f:JH} {b:List (GS×JH)} {h':HV} (a:At c ρ G σ s) (g:b=j7 c.base s.heap c.env.locals) (i:News c.base c.env.locals h' ((D,f)::b)) (j:∀q∈b,q.1<D):s.heap.get? D=Gs:=by
 cases e:s.heap.get? D with
 |none=>rfl
 |some o=>
  have:=(i _ (.head _)).2
  have k:=km e this.1 this.2
  exact absurd (j _ (g▸k)) (HA _)
theorem mJ {T:String} {r dd:GS} {n:Nat} {P:Nat->Gy->Prop} {V:HV->Prop} (K:KdlSrc u.prog w T r dd n P V) (so:f8 u) (hh:A.handled=Gs) (W:aI c) (a:At c ρ G σ s) (i:V s.heap) (J:n<=200) (ks:List Int) (l:ks.length=n)
  (X:∀j v,P j v->∃k t,ks[j]? =Gq k/\v=.int k t) {Q:Gy->GA->Prop} {E:Gy->GA->Prop}
  (h:∀L Y s' M,L.Perm ks->(n<64->L=iH ks)->At c ρ M (σ.alloc (.list (L.map .int))) s'->G.Le M->VRep M (.ref σ.n) Y->Q Y s'):G0 (GO u.prog w) A (K5 (.builtin "sorted") [.ref r]) Q E s:=by
 obtain⟨m,F,N,O⟩:=a.fr W;refine kdu_sorted K hh F N i (by exact(l1 0x1b89c801b090909090909180) J) fun D h' tk g F' H l1 I hv=>?_
 have hI:KS g ks:=by
  clear H O h i K
  induction g generalizing n ks P with
  |nil=>cases ks with
   |nil=>exact .nil
   |cons _ _=>simp at l I;lia
  |cons v g ih=>
   obtain⟨k,t,R,rfl⟩:=X 0 v (hv 0 v rfl)
   cases ks with
   |nil=>simp at R
   |cons O ks=>
    simp at R;subst R;exact .cons _ _ (ih (n:=n - 1) (P:=fun j v=>P (j+1) v) ((l2 0x1b89c811b101b89c80) J (HR _ _)) ks (by simp at l;lia) (fun j v S=>by simpa using X (j+1) v S) (by simp at I;lia) fun j v S=>hv (j+1) v (by simpa using S))
 have y:=(O h' tk F' fun p hp=>H p (.tail _ hp)).1
 have hD:=sx a rfl H l1
 have z:h'.get? D=Gq (HM g.toArray 0):=(H _ (.head _)).1
 have B:=a.adopt y (a:=D) (d:=D) (cl:=.list (ks.map .int)) hD hD ⟨_,z⟩ ⟨_,z⟩ ⟨g.toArray,0,by rw [dC.1];exact z,by simpa using jr hI⟩ (by simp)
 refine kI so z hI ((l2 0x1d101b89c811b89c80) I J) fun out C h1 h2 h3=>?_
 have al:aT (σ.alloc (.list (ks.map .int))) G.N:=⟨by rw [a.inv.N];exact Gx _,by rw [a.inv.N,Sg.alloc_cell,if_pos rfl];simp⟩
 obtain⟨e,U⟩:=sortedHeap_at (out:=out) z
 have f:=B.mut W al (cl:=.list (C.map .int)) (h':=Nl h' D g out) (t:=tk) (fun b o e n1 Z=>by
  rw [dC.1] at n1;exact(sortedHeap_old n1 (Hy e)).trans e) (by rw [dC.1];exact⟨_,U⟩) (by rw [dC.2];exact⟨_,U⟩) ⟨out,e,by rw [dC.1];exact U,jr h1⟩
 rw [a.inv.N,lQ] at f;exact h C _ _ _ h2 (fun q=>lm h2 (h3 ((l2 0x1d101c094811c09480) I q))) f (Gh.add_le _ _ _) (iU a)
end
section
variable {u:U} {d:Nat} {names:List (Hb×G2)} {w:Hh} {A:Hf} {c:Cx} {ρ:List (Option V)} {G:Gh} {σ:Sg} {s:GA}
theorem cP {x:Hb} {i pos:HO} {e:GW} {v:Gy} (j:names.lookup x=Gq .globalImplicit) (l:x∈dg) (m:Kz x=Gq v) (hd:(x==("__debug__":Hb))=Gw) (n:noStar [e])
  (o:(∃f,v=.builtin f)\/∃T,v=.type T) (p:aI c) (q:c.env.scope.names=names) (g:Gd u w c.base) (a:At c ρ G σ s) {Q:Gy->GA->Prop} {X:Gy->GA->Prop}
  (h:G0 (GO u.prog w) A (J3 e c.env) (fun y b=>G0 (GO u.prog w) A (K5 v [y]) Q X b) X s):
  G0 (GO u.prog w) A (J3 (.Call (.Name x i) [e] [] pos) c.env) Q X s:=by
 refine Jl (lL g p q a j l m hd ?_);obtain⟨r,_⟩:=aL (env:=c.env) n;rw [r];exact KV (P:=fun Z=>True) rfl (by rcases o with ⟨f,rfl⟩ |⟨T,rfl⟩;exact cH f;exact gh T) (JZ (Jw (G1 h (fun y b k=>KT ⟨trivial,k⟩) fun Z Z x=>x)))
theorem kL {D:GS} {v:Gy} {n:Nat} {P:Fin->GA->Prop} {E:Gy->GA->Prop} (g:s.heap.get? D=Gq (I4 "list" #[v] n))
  (h:P (.done (.ret .none)) {s with heap:=Nl s.heap D [v] #[v]}):G0 (GO u.prog w) A (Builtin.«list.sort» ⟨[.ref D],[]⟩) P E s:=by
 rw [PX]
 have j:D<s.heap.objs.size:=Hy g
 refine Gv (listItems_at g rfl ?_);refine Gv (LR g rfl ?_);obtain⟨i,b⟩:∃i,(s.heap.update D (Hs fun Z=> #[])).get? D=Gq (I4 "list" #[] i):=⟨_,PY g (fun Z=> #[])⟩;refine Gv (MT b rfl ?_);refine Gv (wpAny_newTuple ?_);refine Gv (NC ?_);refine Ha ?_
 have f:(((s.heap.update D (Hs fun Z=> #[])).push (I4 "tuple" [v].toArray 0)).push (I4 "list" #[] 0)).get? D=Gq (I4 "list" #[] i):=by
  rw [KC _ _ _ (by rw [OU,JS];exact G6 (GB j)),KC _ _ _ (by rw [JS];exact G6 j)]
  exact b
 show G0 (GO u.prog w) A _ P E {s with heap:=((s.heap.update D (Hs fun Z=> #[])).push (I4 "tuple" [v].toArray 0)).push (I4 "list" #[] 0)}
 dsimp only;rw [if_pos (show(#[v]:Array Gy).size<2 by simp),if_pos (show(#[v]:Array Gy).size<2 by simp)]
 refine Gv (GR ?_);rw [StateT.run_pure];refine Gv (GR ?_);dsimp only;refine Gv (MT f rfl ?_)
 have e:((#[v]:Array Gy).zip #[v]).map (·.2)= #[v]:=by simp
 refine Gv (LR f rfl ?_ (hsz2:=by show(((#[v]:Array Gy).zip #[v]).map (·.2)).size<=_;rw [e];simp [JY]))
 simp only [bne_self_eq_false,Hz,if_false];refine GR ?_
 show P _ {s with heap:=(((s.heap.update D (Hs fun Z=> #[])).push (I4 "tuple" [v].toArray 0)).push (I4 "list" #[] 0)).update D (Hs fun Z=>((#[v]:Array Gy).zip #[v]).map (·.2))}
 rw [e];exact h
theorem pt {l:GS} {v:Gy} {Q:Gy->GA->Prop} {E:Gy->GA->Prop} (f:s.heap.IsList l #[v])
  (h:Q (.ref (s.heap.objs.size+1)) {s with heap:=sortedAll s.heap [v] #[v]}):G0 (GO u.prog w) A (K5 (.builtin "sorted") [.ref l]) Q E s:=by
 refine Calls.call_function_entry kind_sorted plain_sorted entry_sorted (args_sorted1 _) ?_;refine Gv (m:=checkCount "sorted" 1 1 _) (GR ?_);refine Gv (collect_list (vs:=[v]) f ?_);refine Gv (NC ?_)
 have b:((s.heap.push (I4 "list" #[] 0)).update s.heap.objs.size (Hs (· ++[v].toArray))).objs.size=s.heap.objs.size+1:=by
  rw [JS,OU]
 have e:(((s.heap.push (I4 "list" #[] 0)).update s.heap.objs.size (Hs (· ++[v].toArray))).push (I4 "list" [v].toArray 0)).get? (s.heap.objs.size+1)=Gq (I4 "list" [v].toArray 0):=by
  rw [<-b];exact Hr _ rfl
 show G0 _ _ _ _ _ {s with heap:=((s.heap.push (I4 "list" #[] 0)).update s.heap.objs.size (Hs (· ++[v].toArray))).push (I4 "list" [v].toArray 0)}
 rw [b];refine Gv (Ha (Ld Nm ⟨_,e,rfl⟩ M0 (kL e ⟨_,rfl,?_⟩) (Nn _)));exact GR ⟨_,rfl,h⟩
theorem mr (a:At c ρ G σ s) {i:Nat} {kvs:List (Int×V)} (hi:i<G.N) (j:σ.cell i=.dict kvs):∃f ep,s.heap.DictAt (Ji u.prog w) (G.φ i) f ep/\((G.φ i) ==KL)=Gw/\f.map (·.1)=kvs.map (·.1):=by
 obtain⟨b,f,m,k,l,n⟩:=eI a (x:=.ref i) (v:=.ref (G.φ i)) (AL hi) (kvs:=kvs) (hY j) u.prog w;cases m;obtain⟨ep,g⟩:=k.dictAt;refine⟨f,ep,g,n,?_⟩;clear j k g
 induction kvs generalizing f with
 |nil=>subst l;rfl
 |cons q kvs o=>obtain⟨y,p,rfl,e,_,r⟩:=l;simp [o p r,e]
theorem jC {kvs:List (Int×Gy)} {ks:List Int} (h:kvs.map (·.1)=ks):∀(j:Nat) (v:Gy),(∃k x,kvs[j]? =Gq (k,x)/\(Ji u.prog w).is k v=Gu)->∃k t,ks[j]? =Gq k/\v=.int k t:=by
 rintro j v ⟨k,x,e,b⟩
 refine⟨k,?_⟩
 have:HY k v=Gu:=b
 cases v<;>simp [HY] at this
 subst this;exact⟨_,by rw [<-h,Hd,e];rfl,rfl⟩
set_option tactic.hygienic true in
theorem qd {x:Hb} {np pos:HO} {e:GW} {O:E} (so:f8 u) (hk:names.lookup x=Gq .globalImplicit) (hx:x="sorted") (S:ao u d names e O) (ns:noStar [e]):ao u d names (.Call (.Name x np) [e] [] pos) (.op .sorted [O]):=by
 subst hx;intro w A c H P g R ρ G σ s Q X a h;refine cP hk (by decide) (by decide+kernel) (by decide+kernel) ns (.inl ⟨"sorted",rfl⟩) H P g a (kH S H P g R a h fun x vx k p b z r f T rx e q=>?_)
 obtain⟨i,rfl,e⟩:=dy e;obtain⟨U,rfl⟩:=aU rx
 replace e:eF i p=Gq (z,r):=e
 unfold eF at e
 split at e
 ·rename_i l I
  split at e<;>cases e
  rename_i v;obtain⟨al,j,n,g1,J⟩:=f.cell U I (by simp)
  obtain⟨F,V,B,rv,J⟩:=(show∃y W,j.toList=y::W/\VRep k v y/\VReps k [] W by exact J)
  subst J
  have B:j= #[F]:=by rw [<-Array.toArray_toList (xs:=j),B]
  subst B;refine pt (aY g1) ?_;obtain⟨e,K⟩:=sortedAll_at b.heap [F] #[F]
  have C:b.heap.get? (b.heap.objs.size+1)=Gs:=by
   cases e:b.heap.get? (b.heap.objs.size+1) with
   |none=>rfl
   |some o=>exact absurd (Hy e) (HN.mpr (Hk _))
  refine⟨_,_,_,f.track (t:=b.toks) (cl:=.list [v]) (a:=b.heap.objs.size+1) (d:=b.heap.objs.size+1) (fun Z Z=>sortedAll_old) C C ⟨_,K⟩ ⟨_,K⟩ ⟨#[F],e,by rw [dC.1];exact K,.cons (rv.mono (Gh.add_le _ _ _)) .nil⟩ (by simp),T.trans (Gh.add_le _ _ _),iU f,q⟩
 ·rename_i kvs I;obtain⟨C,e⟩:=ba e
  ·cases e;obtain⟨m,ep,hd,L,D⟩:=mr (u:=u) (w:=w) f U I
   have M:m.length=kvs.length:=by simpa using congrArg Jd D
   refine mJ (kdl_dict (knd:=Ji u.prog w) (kvs:=m) (ep:=ep) L) so R.handled H f hd ((l2 0x1c094801d011b89c81) C M) (kvs.map (·.1)) (by rw [GG,M]) (jC D) fun l' vz s' G' hp L Y N r'=>?_
   rw [L ((l2 0x1c094801d011c09481) C M)] at Y;exact⟨G',_,_,Y,T.trans N,r',q⟩
 ·cases e
theorem jK {x:Hb} {R pos J m:HO} {k:Hb} {e:GW} {K:E} (T:f8 u) (U:names.lookup x=Gq .globalImplicit) (V:x="sorted") (S:ao u d names e K) (W:cX e) (f:k="keys") (r:(J.endLine==m.line)=Gu):ao u d names (.Call (.Name x R) [.Call (.Attribute e k J) [] [] m] [] pos) (.op .sortedKeys [K]):=by
 subst V;subst f;intro w A c B L g M ρ G σ s Q X a h;refine cP U (by decide) (by decide+kernel) (by decide+kernel) ⟨fun Z Z=>rfl,trivial⟩ (.inl ⟨"sorted",rfl⟩) B L g a (Lg (W _ _ _) rfl r rfl (kH S B L g M a h fun x vx t C v z D l Y rx e q=>?_))
 obtain⟨i,rfl,e⟩:=dy e;obtain⟨hi,rfl⟩:=aU rx;obtain⟨kvs,hc,e⟩:=jc e;obtain⟨N,e⟩:=ba e;cases e;obtain⟨b,ep,O,H,f⟩:=mr (u:=u) (w:=w) l hi hc
 have r:b.length=kvs.length:=by simpa using congrArg Jd f
 have j:=O.dictOf
 obtain⟨o,ho,dd⟩:=bw.mp j
 have xd:o.ExactDict:=by
  cases dd with
  |mk es ep x d k p n=>exact x
 refine⟨"dict","dict.keys",OI,OV,rfl,j.typeIs,fun a e=>by cases e;exact⟨_,ho,xd.2.1⟩,?_⟩
 refine callWith_method0 (env:=c.env) (pos:=m) (call_meetsIn OV j.typeIs F.entry_dict_keys (F.args_dict_keys_1 _) (kdl_meets_keys (Ji u.prog w) _ H) ⟨⟨b,j⟩,?_⟩)
 have y:=l.push {cls:=.type "dict_keys",data:=.fields #[.ref (t.φ i)]} v.toks
 refine mJ (kdl_keys (knd:=Ji u.prog w) (kvs:=b) (ep:=ep)) T M.handled B y ⟨⟨_,Hr _ rfl,rfl,rfl⟩,O.push _⟩ ((l2 0x1c094801d011b89c81) N r) (kvs.map (·.1)) (by rw [GG,r]) (jC f) fun l' vz s' G' hp H P I r'=>?_
 rw [H ((l2 0x1c094801d011c09481) N r)] at P;exact⟨G',_,_,P,Y.trans I,r',q⟩
set_option tactic.hygienic true in
theorem mU {x y:Hb} {P pos R m:HO} {e:GW} {H:E} (T:f8 u) (U:names.lookup x=Gq .globalImplicit) (n:names.lookup y=Gq .globalImplicit) (V:x="sorted") (W:y="tuple") (S:ao u d names e H) (Y:noStar [e]):ao u d names (.Call (.Name y P) [.Call (.Name x R) [e] [] m] [] pos) (.tsorted H):=by
 subst V;subst W;intro w A c l o g I ρ G σ s Q X a h;refine cP n (by decide) (by decide+kernel) (by decide+kernel) ⟨fun Z Z=>rfl,trivial⟩ (.inr ⟨"tuple",rfl⟩) l o g a ?_
 refine cP U (by decide) (by decide+kernel) (by decide+kernel) Y (.inl ⟨"sorted",rfl⟩) l o g a (ay S l o g I a h fun v J K p x b le rx q=>?_)
 obtain⟨i,kvs,rfl,hc,L,q⟩:=q;obtain⟨hi,rfl⟩:=aU rx;obtain⟨f,ep,hd,M,j⟩:=mr (u:=u) (w:=w) b hi hc
 have N:f.length=kvs.length:=by simpa using congrArg Jd j
 refine mJ (kdl_dict (knd:=Ji u.prog w) (kvs:=f) (ep:=ep) M) T I.handled l b hd ((l2 0x1d101b89c811b89c80) N L) (kvs.map (·.1)) (by rw [GG,N]) (jC j) fun r vz s' G' O M a' t r'=>?_
 have B:r.length<=200:=by rw [O.length_eq,GG];exact L
 refine qN (u:=u) (w:=w) (A:=A) (z:=.tup (r.map .int)) a' r' ?_ fun vz b' C D k F=>⟨C,_,_,D,le.trans (t.trans k),F,q r O⟩
 show bV _ _ _=_
 unfold bV;simp only [Sg.alloc_cell,if_true,GG];rw [if_pos (by exact(l1 0x1b89c801b09492949f80) B)]
end
section
variable {u:U} {d:Nat} {names:List (Hb×G2)}
theorem zs {x:Hb} {f pos:HO} {e:GW} {b:E} (i:names.lookup x=Gq .globalImplicit) (j:x="len") (S:ao u d names e b) (k:noStar [e]):ao u d names (.Call (.Name x f) [e] [] pos) (.op .len [b]):=by
 subst j;exact fU i (by decide) (by decide+kernel) (by decide+kernel) S k (.inl ⟨"len",rfl⟩) fun w A c n G o s x p z l Q E q g r a m e h=>DB a m e h
theorem o6 {x:Hb} {f pos:HO} {e:GW} {b:E} (i:names.lookup x=Gq .globalImplicit) (j:x="tuple") (S:ao u d names e b) (k:noStar [e]):ao u d names (.Call (.Name x f) [e] [] pos) (.op .tupleOf [b]):=by
 subst j;exact fU i (by decide) (by decide+kernel) (by decide+kernel) S k (.inr ⟨"tuple",rfl⟩) fun w A c n G o s x p z l Q E q g r a m e h=>qN a m e h
theorem rW {x:Hb} {f pos:HO} {e:GW} {b:E} (i:names.lookup x=Gq .globalImplicit) (j:x="int") (S:ao u d names e b) (k:noStar [e]):ao u d names (.Call (.Name x f) [e] [] pos) (.op .intOf [b]):=by
 subst j;exact fU i (by decide) (by decide+kernel) (by decide+kernel) S k (.inr ⟨"int",rfl⟩) fun w A c n G o s x p z l Q E q g r a m e h=>DK a m e h
theorem zd {x:Hb} {f pos:HO} {e:GW} {b:E} (i:names.lookup x=Gq .globalImplicit) (j:x="abs") (S:ao u d names e b) (k:noStar [e]):ao u d names (.Call (.Name x f) [e] [] pos) (.op .abs [b]):=by
 subst j;exact fU i (by decide) (by decide+kernel) (by decide+kernel) S k (.inl ⟨"abs",rfl⟩) fun w A c n G o s x p z l Q E q g r a m e h=>CL a m e h
theorem xH {x:Hb} {f pos:HO} {e:GW} {b:E} (i:names.lookup x=Gq .globalImplicit) (j:x="sum") (S:ao u d names e b) (k:noStar [e]):ao u d names (.Call (.Name x f) [e] [] pos) (.op .sum [b]):=by
 subst j;exact fU i (by decide) (by decide+kernel) (by decide+kernel) S k (.inl ⟨"sum",rfl⟩) fun w A c p G q s x r z l Q E m g n a o e h=>Du n.handled m a o e h
theorem xG {x:Hb} {f pos:HO} {e:GW} {b:E} (i:names.lookup x=Gq .globalImplicit) (j:x="ord") (S:ao u d names e b) (k:noStar [e]):ao u d names (.Call (.Name x f) [e] [] pos) (.op .ord [b]):=by
 subst j;exact fU i (by decide) (by decide+kernel) (by decide+kernel) S k (.inl ⟨"ord",rfl⟩) fun w A c n G o s x p z l Q E q g r a m e h=>C3 a m e h
theorem yS {x:Hb} {j pos:HO} {e f:GW} {b i:E} (k:names.lookup x=Gq .globalImplicit) (l:x="max") (S:ao u d names e b) (m:ao u d names f i) (n:noStar [e,f]):ao u d names (.Call (.Name x j) [e,f] [] pos) (.op .max [b,i]):=by
 subst l;exact rM k (by decide) (by decide+kernel) (by decide+kernel) S m n (.inl ⟨"max",rfl⟩) fun w A c v G B s x y C D z o Q E p g q a r t e h=>DJ q.handled p a r t e h
theorem xb {x:Hb} {j pos:HO} {e f:GW} {b i:E} (k:names.lookup x=Gq .globalImplicit) (l:x="min") (S:ao u d names e b) (m:ao u d names f i) (n:noStar [e,f]):ao u d names (.Call (.Name x j) [e,f] [] pos) (.op .min [b,i]):=by
 subst l;exact rM k (by decide) (by decide+kernel) (by decide+kernel) S m n (.inl ⟨"min",rfl⟩) fun w A c v G B s x y C D z o Q E p g q a r t e h=>Dr q.handled p a r t e h
end
section
variable {u:U} {d:Nat} {names:List (Hb×G2)} {w:Hh} {A:Hf} {c:Cx} {ρ:List (Option V)} {G y:Gh} {σ σ₀:Sg} {s:GA} {base h p h':HV} {Fs:List J2} {B ps ps':List GS}
noncomputable def eU (Fs:List J2):List GS:=Fs.filterMap (·.frame)
theorem gE (i:ff base Fs (ps++B) G σ h) (v:gf Fs y σ₀ p G σ h) (N:∀b∈ps,p.get? b=Gs)
  (O:∀env∈Fs,∀L,env.frame=Gq L->L∈B)
  (k:∀b o,h.get? b=Gq o->b∉ps->b∉eU Fs->h'.get? b=Gq o) (I:∀b∈eU Fs,∀o,h.get? b=Gq o->∃t,h'.get? b=Gq {o with slots:=t})
  (F:∀b∈ps',(∃o,h'.get? b=Gq o)/\(b∈ps\/h.get? b=Gs)) (J:∀b∈ps,∃o,h'.get? b=Gq o):
  ff base Fs (ps'++B) G σ h'/\gf Fs y σ₀ p G σ h'/\∀b∈ps',p.get? b=Gs:=by
 have z:∀b∈eU Fs,b∈B:=fun b g=>by
  obtain⟨env,C,D⟩:=HF.mp g;exact O env C b D
 have K:∀b,b∉ps++B->∀o,h.get? b=Gq o->h'.get? b=Gq o:=fun b g o e=>
  k b o e (fun q=>g (GD.mpr (.inl q))) (fun q=>g (GD.mpr (.inr (z b q))))
 have P:∀j,aT σ j->∀b,(b=G.φ j\/b=G.δ j)->∀o,h.get? b=Gq o->h'.get? b=Gq o:=fun j l b g o e=>K b (i.fresh j l b g).2.2 o e
 have H:∀b,(∃o,h.get? b=Gq o)->∃o,h'.get? b=Gq o:=fun b ⟨o,e⟩=>by
  by_cases q:b∈ps
  ·exact J b q
  ·by_cases Q:b∈eU Fs
   ·obtain⟨t,m⟩:=I b Q o e;exact⟨_,m⟩
   ·exact⟨o,k b o e q Q⟩
 have n:∀j,aT σ j->∀b,(b=G.φ j\/b=G.δ j)->∀q,h.get? q=Gs->b≠q:=fun j l b g q R e=>by
  obtain⟨⟨o,S⟩,⟨E,T⟩⟩:=i.live j l;rcases g with rfl|rfl
  ·rw [e,R] at S;cases S
  ·rw [e,R] at T;cases T
 refine⟨⟨i.N,fun b o e=>K b (fun q=>?_) o (i.stays b o e),dh i.frames fun env C L D o e=>?_,fun j l=>(i.cells j l).keeps (P j l _ (.inl rfl)) (P j l _ (.inr rfl)),fun j l=>⟨H _ (i.live j l).1,H _ (i.live j l).2⟩,
   fun j l b g=>⟨(i.fresh j l b g).1,(i.fresh j l b g).2.1,fun q=>?_⟩,i.inj,fun b o e=>K b (fun q=>?_) o (i.froz b o e),fun b g=>?_,fun env C L D=>GD.mpr (.inr (O env C L D)),i.sys⟩,
  ⟨v.le,fun b o e f=>?_,fun b g=>H b (v.there b g),v.newφ,v.newZ,v.dead⟩,fun b g=>?_⟩
 ·rw [(i.pv b q).2.1] at e;cases e
 ·obtain⟨t,m⟩:=I L (HF.mpr ⟨env,C,D⟩) o e;exact⟨_,m,rfl⟩
 ·rcases GD.mp q with q|q
  ·rcases(F b q).2 with q|q
   ·exact(i.fresh j l b g).2.2 (GD.mpr (.inl q))
   ·exact n j l b g b q rfl
  ·exact(i.fresh j l b g).2.2 (GD.mpr (.inr q))
 ·rw [(i.pv b q).2.2] at e;cases e
 ·rcases GD.mp g with q|q
  ·refine⟨(F b q).1,?_⟩;rcases(F b q).2 with q|q
   ·exact(i.pv b (GD.mpr (.inl q))).2
   ·constructor
    ·cases e:base.get? b with
     |none=>rfl
     |some o=>have:=i.stays b o e;rw [q] at this;cases this
    ·cases e:G.Z b with
     |none=>rfl
     |some o=>have:=i.froz b o e;rw [q] at this;cases this
  ·have:=i.pv b (GD.mpr (.inr q))
   exact⟨H b this.1,this.2⟩
 ·have U:b∉ps:=fun q=>by rw [N b q] at e;cases e
  obtain⟨E,m,r⟩:=v.keep b o e f
  by_cases q:b∈eU Fs
  ·obtain⟨t,M⟩:=I b q E m;refine⟨_,M,.inr ⟨q,?_⟩⟩;rcases r with rfl|⟨_,V,rfl⟩
   ·exact⟨t,rfl⟩
   ·exact⟨t,rfl⟩
  ·exact⟨E,k b E m U q,r⟩
 ·rcases(F b g).2 with q|q
  ·exact N b q
  ·cases e:p.get? b with
   |none=>rfl
   |some o=>obtain⟨E,m⟩:=v.there b ⟨o,e⟩;rw [q] at m;cases m
theorem ou {env e:J2} {r:List J2} {L:GS} {Q:Gy->GA->Prop} {E:Gy->GA->Prop} (g:A.frames=Gq (e::r)) (k:s.heap.FunFrames base (e::r)) (j:e.frame=Gq L)
  (l:env.frame=Gq L) (h:∀h',Heap.SlotsOnly (eU (e::r)) s.heap h'->Q (.ref L) {s with heap:=h'}):G0 (GO u.prog w) A (OL env) Q E s:=by
 refine Gv (wpAny_frameEnvs g ?_)
 have i:((e::r).dropWhile fun x=>x.frame != env.frame)=e::r:=by simp [List.dropWhile,j,l]
 rw [i];refine Gv (Gv (wpAny_readyFrames_fun k fun f b=>GR ?_));rw [j];exact GR (h f b)
inductive z6 (u:U) (L:GS) (e:Gy) (ps:List GS) (h:HV):Prop where
 |mk (a:GS) (oe:JH) (vs:Array Gy) (t:GS) (ot:JH) (ts:Array Gy) (he:e=.ref a) (ha:h.get? a=Gq oe) (hc:oe.cls=.ref u.te) (hd:oe.data=.fields vs) (hp:ps=[a,t]) (n:t≠a) (h1:vs[1]? =Gq (.ref t)) (ht:h.get? t=Gq ot) (htd:ot.data=.fields ts) (h3:ts[3]? =Gq (H6 L))
theorem gB {env e:J2} {r:List J2} {L a:GS} {F:JH} {vs:Array Gy} {i:Gy} {g:Bool} {Q:Unit->GA->Prop} {E:Gy->GA->Prop}
  (M:A.frames=Gq (e::r)) (T:s.heap.FunFrames base (e::r)) (V:e.frame=Gq L) (W:env.frame=Gq L)
  (U:s.heap.get? a=Gq F) (X:F.cls=.ref u.te) (hd:F.data=.fields vs) (H:1<vs.size)
  (h:∀h' t,(∀b o,s.heap.get? b=Gq o->b≠a->b∉eU (e::r)->h'.get? b=Gq o)->(∀b∈eU (e::r),∀o,s.heap.get? b=Gq o->∃N,h'.get? b=Gq {o with slots:=N})->
   s.heap.get? t=Gs->z6 u L (.ref a) [a,t] h'->Q () {s with heap:=h'}):
  G0 (GO u.prog w) A (do let Y<-OL env;let n<-entryPlaceOf L g;let b<-EntryCells.newEntry i Y .none (H6 L) .none n;setField (.ref a) 1 b) Q E s:=by
 revert env e r L a F vs i g Q E;delta u w A s base;revert E;delta env e r L a F vs i g Q;delta E
 have v:a∉eU (e::r):=fun Z=>by
  obtain⟨_,o,ho,O⟩:=T.mem Z;rw [U] at ho;injection ho with ho;subst ho;exact O vs hd
 refine Gv (ou M T V W fun f j=>?_);delta f;refine Gv (wpAny_entryPlaceOf fun n I=>?_);delta n;refine Gv (KU ?_ (I.sizeOk5 _ _ _ _ _))
 have k:f.get? a=Gq F:=(j.2.1 a v).trans U
 have l:=GQ (h:=f) {cls:=.type "traceback",dict:=Gs,data:=.fields ([i,.ref L,.none,H6 L,.none]++(if n.isEmpty then IL 6 I9 else n)).toArray} k
 refine Lw l hd H ?_
 have J:f.objs.size≠a:=HH (Hy k)
 have m:=JA hd (·.setIfInBounds 1 (Jg f.objs.size))
 have C:=H4 (Ir (·.setIfInBounds 1 (Jg f.objs.size))) l (JT m)
 have D:=(Hl (f.push {cls:=.type "traceback",dict:=Gs,data:=.fields ([i,.ref L,.none,H6 L,.none]++(if n.isEmpty then IL 6 I9 else n)).toArray})
  (Ir (·.setIfInBounds 1 (Jg f.objs.size))) (Hw J)).trans (Hr f rfl)
 have z:∀b o,b≠a->f.get? b=Gq o->
   ((f.push {cls:=.type "traceback",dict:=Gs,data:=.fields ([i,.ref L,.none,H6 L,.none]++(if n.isEmpty then IL 6 I9 else n)).toArray}).update a (Ir (·.setIfInBounds 1 (Jg f.objs.size)))).get? b=Gq o:=fun b o P K=>by
  rw [Hl _ _ (Hw P)];exact GQ _ K
 refine h _ f.objs.size (fun b o K R S=>z b o R ((j.2.1 b S).trans K)) (fun b K o ho=>?_) ?_ ?_
 ·obtain⟨N,e'⟩:=j.2.2 b o ho;exact⟨N,z b _ (fun q=>v (q▸K)) e'⟩
 ·rw [j.1];exact aN _
 ·refine⟨a,_,_,_,_,_,rfl,C,?_,m,rfl,J,?_,D,rfl,?_⟩
  ·rw [Obj.cls_mapFields];exact X
  ·simp [H]
  ·rcases I with rfl|⟨_,_,_,_,_,_,_,rfl⟩<;>simp
inductive jz (u:U) (c:Cx) (X:Sg->Prop) (e:Gy) (s':GA):Prop where
 |mk (G':Gh) (σ':Sg) (ps:List GS) (L:GS) (f:c.env.frame=Gq L) (i:ff c.base c.Fs (ps++c.Pv) G' σ' s'.heap) (a:gf c.Fs c.G₀ c.σ₀ c.s₀.heap G' σ' s'.heap) (g:s'.gens=c.s₀.gens) (o:s'.os=c.s₀.os)
 (x:z6 u L e ps s'.heap) (n:∀b∈ps,c.s₀.heap.get? b=Gs) (m:∃m,s'.heap.Ns c.env.locals m) (q:X σ')
theorem gP {h h':HV} {L:GS} {m:Hb->Option Gy} {Fs:List J2} {ps:List GS} (x:h.Ns L m) (hp:∀b∈ps,∃o vs,h.get? b=Gq o/\o.data=.fields vs)
  (k:∀b o,h.get? b=Gq o->b∉ps->b∉eU Fs->h'.get? b=Gq o) (t:∀b∈eU Fs,∀o,h.get? b=Gq o->∃j,h'.get? b=Gq {o with slots:=j}):h'.Ns L m:=by
 obtain⟨o,l,n,e,i,r⟩:=x
 have v:L∉ps:=fun q=>by
  obtain⟨z,vs,g,f⟩:=hp L q;rw [e] at g;cases g;rw [i] at f;cases f
 by_cases q:L∈eU Fs
 ·obtain⟨j,g⟩:=t L q o e;exact⟨_,l,n,g,i,r⟩
 ·exact⟨o,l,n,k L o e v q,i,r⟩
theorem jh (ok:aI c) (fr:A.frames=Gq c.Fs) {X:Sg->Prop} {e:Gy} {Q:Unit->GA->Prop} {E:Gy->GA->Prop} (h:a9 u c X e s) (k:∀s',jz u c X e s'->Q () s'):G0 (GO u.prog w) A (noteFrame e c.env) Q E s:=by
 revert X e Q E;delta u w A c s;delta X e Q E;obtain⟨G',n,ps,P,av,hg,ho,⟨a,oe,S,rfl,v,m,C,hc⟩,nw,⟨T,F⟩,hX⟩:=h;revert a oe S T;delta G' n ps;revert T;delta a oe S;delta T;obtain⟨e0,r,L,g,hL,j⟩:=ok.frame;delta e0 r L
 have fl:s.heap.FunFrames c.base (e0::r):=g▸P.frames
 unfold noteFrame;simp only [j]
 have U:1<S.size:=by
  rcases hc with ⟨_,H⟩ |⟨_,_,_,_,_,_,H,_⟩<;>exact(Iu.mp H).1
 have l:a∉eU c.Fs:=fun hm=>by
  obtain⟨_,o,ho,l⟩:=P.frames.mem hm;rw [v] at ho;injection ho with ho;subst ho;exact l S C
 rcases hc with ⟨rfl,H⟩ |⟨t,ot,ts,x,rfl,I,H,J,i,h3,hx⟩
 ·refine Gv (JQ v C H ?_);rw [if_neg (by decide)]
  refine gB (base:=c.base) (g▸fr) fl hL j v m C U fun h' t R V W N=>k _ ?_;delta h' t
  obtain⟨Y,gt⟩:(∃o,h'.get? a=Gq o)/\∃o,h'.get? t=Gq o:=by
   obtain⟨Z,d',e',D,f',g',e1,e2,e3,e4,e5,e6,e7,e8,e9,j'⟩:=N;cases e1;simp only [Lr,and_true,true_and] at e5;subst e5;exact⟨⟨_,e2⟩,⟨_,e8⟩⟩
  have K:h'.Ns c.env.locals T:=gP (Fs:=c.Fs) (ps:=[a]) F (fun b hb=>by
    rcases GH.mp hb with rfl|hb
    ·exact⟨_,_,v,C⟩
    ·cases hb) (fun b o e q M=>R b o e (fun z=>q (by rw [z];exact .head _)) (g▸M)) (g▸V)
  obtain⟨i',Z,n'⟩:=gE (ps':=[a,t]) P av nw ok.fpv (fun b o e q M=>R b o e (fun z=>q (by rw [z];exact .head _)) (g▸M)) (g▸V)
   (fun b hb=>by
    rcases GH.mp hb with rfl|hb
    ·exact⟨Y,.inl (.head _)⟩
    ·rcases GH.mp hb with rfl|hb
     ·exact⟨gt,.inr W⟩
     ·cases hb) (fun b hb=>by
    rcases GH.mp hb with rfl|hb
    ·exact Y
    ·cases hb)
  exact⟨G',n,_,L,j,i',Z,hg,ho,N,n',⟨_,K⟩,hX⟩
 ·delta t ot ts x
  have O:t∉eU c.Fs:=fun hm=>by
   obtain⟨_,o,ho,l⟩:=P.frames.mem hm;rw [J] at ho;injection ho with ho;subst ho;exact l ts i
  refine Gv (JQ v C H ?_);rw [if_pos (show(Jg t != I9)=Gu from by simp)]
  refine Gv (JQ J i h3 ?_)
  by_cases b':x=H6 L
  ·subst b';rw [if_pos (show(H6 L==H6 L)=Gu from by simp)]
   exact GR (k s ⟨G',n,_,L,j,P,av,hg,ho,⟨a,oe,S,t,ot,ts,rfl,v,m,C,rfl,I,H,J,i,h3⟩,nw,⟨_,F⟩,hX⟩)
  ·rw [if_neg (show¬(x==H6 L)=Gu from by simpa using b')]
   refine Gv (Lw J i (Iu.mp h3).1 ?_)
   have f:∀b,b≠t->(s.heap.update t (Ir (·.setIfInBounds 3 I9))).get? b=s.heap.get? b:=fun b hb=>Hl _ _ (Hw hb)
   refine gB (s:={s with heap:=s.heap.update t (Ir (·.setIfInBounds 3 I9))}) (base:=c.base) (g▸fr)
    (fl.of_keeps fun b o hb l=>⟨o,(f b fun q=>by rw [q,J] at hb;injection hb with hb;subst hb;exact l ts i).trans hb,rfl⟩) hL j ((f a (Hw I)).trans v) m C U fun h' D R V W N=>k _ ?_
   delta h' D
   obtain⟨Y,gt⟩:(∃o,h'.get? a=Gq o)/\∃o,h'.get? D=Gq o:=by
    obtain⟨Z,d',e',D,f',g',e1,e2,e3,e4,e5,e6,e7,e8,e9,j'⟩:=N;cases e1;simp only [Lr,and_true,true_and] at e5;subst e5;exact⟨⟨_,e2⟩,⟨_,e8⟩⟩
   have c':=H4 (Ir (·.setIfInBounds 3 I9)) J (JT (JA i _))
   have k':s.heap.get? D=Gs:=by
    by_cases q:D=t
    ·subst q;rw [c'] at W;cases W
    ·rw [<-f D q];exact W
   have gT:∃o,h'.get? t=Gq o:=⟨_,R t _ c' I (g▸O)⟩
   have K:h'.Ns c.env.locals T:=gP (Fs:=c.Fs) (ps:=[a,t]) F (fun b hb=>by
    rcases GH.mp hb with rfl|hb
    ·exact⟨_,_,v,C⟩
    ·rcases GH.mp hb with rfl|hb
     ·exact⟨_,_,J,i⟩
     ·cases hb) (fun b o e q M=>R b o ((f b fun z=>q (by rw [z];exact .tail _ (.head _))).trans e) (fun z=>q (by rw [z];exact .head _)) (g▸M))
    (fun b hb o e=>V b (g▸hb) o ((f b fun z=>O (z▸hb)).trans e))
   obtain⟨i',Z,n'⟩:=gE (ps':=[a,D]) P av nw ok.fpv (fun b o e q M=>R b o ((f b fun z=>q (by rw [z];exact .tail _ (.head _))).trans e) (fun z=>q (by rw [z];exact .head _)) (g▸M))
    (fun b hb o e=>V b (g▸hb) o ((f b fun z=>O (z▸hb)).trans e))
    (fun b hb=>by
     rcases GH.mp hb with rfl|hb
     ·exact⟨Y,.inl (.head _)⟩
     ·rcases GH.mp hb with rfl|hb
      ·exact⟨gt,.inr k'⟩
      ·cases hb) (fun b hb=>by
     rcases GH.mp hb with rfl|hb
     ·exact Y
     ·rcases GH.mp hb with rfl|hb
      ·exact gT
      ·cases hb)
   exact⟨G',n,_,L,j,i',Z,hg,ho,N,n',⟨_,K⟩,hX⟩
theorem qw {L:Option GS} {x:Gy} (f:Option GS) (e:x=f.elim .none (fun f=>H6 f)) (b:f=Gs\/f=L):x=.none\/∃l,L=Gq l/\x=H6 l:=by
 cases f with
 |none=>exact .inl e
 |some l=>
  rcases b with b|b
  ·cases b
  ·exact .inr ⟨l,b.symm,e⟩
theorem gj (W:aI c) {X:Sg->Prop} {e:Gy} {f:Option GS} {Q:Unit->GA->Prop} {E:Gy->GA->Prop} (h:jz u c X e s)
  (k:∀l r σ' ps,ff c.base c.Fs (ps++c.Pv) r σ' l.heap->gf c.Fs c.G₀ c.σ₀ c.s₀.heap r σ' l.heap->l.gens=c.s₀.gens->l.os=c.s₀.os->(∀L,(f=Gs\/f=L)->ol u L e ps l.heap)->(∀b∈ps,c.s₀.heap.get? b=Gs)->(∃m,l.heap.Ns c.env.locals m)->X σ'->Q () l):
  G0 (GO u.prog w) A (setFlight e f) Q E s:=by
 revert X e f Q E;delta u w A c s;delta X e f Q E;obtain⟨r,σ',ps,L,Y,S,Z,hg,ho,⟨a,K,M,t,T,N,rfl,H,v,O,rfl,n,U,I,j,h3⟩,nw,⟨J,P⟩,hX⟩:=h;revert a K M t T N J;delta r σ' L;revert J;delta a K M t T N;delta J;refine Gv (JQ H O U ?_);rw [if_pos (show(Jg t != I9)=Gu from by simp)]
 have C:=(Iu.mp h3).1
 refine Lw I j C ?_
 have g:∀b,b≠t->(s.heap.update t (Ir (·.setIfInBounds 3 (f.elim .none fun f=>H6 f)))).get? b=s.heap.get? b:=fun b i=>Hl _ _ (Hw i)
 have D:=H4 (Ir (·.setIfInBounds 3 (f.elim .none fun f=>H6 f))) I (JT (JA j _))
 have F:t∉eU c.Fs:=fun hm=>by
  obtain⟨_,o,ho,R⟩:=S.frames.mem hm;rw [I] at ho;injection ho with ho;subst ho;exact R N j
 have V:∀b∈[a,t],∃o,(s.heap.update t (Ir (·.setIfInBounds 3 (f.elim .none fun f=>H6 f)))).get? b=Gq o:=fun b i=>by
  rcases GH.mp i with rfl|i
  ·exact⟨_,(g _ (Hw n)).trans H⟩
  ·rcases GH.mp i with rfl|i
   ·exact⟨_,D⟩
   ·cases i
 obtain⟨i',a',n'⟩:=gE (ps':=[a,t]) (h':=s.heap.update t (Ir (·.setIfInBounds 3 (f.elim .none fun f=>H6 f)))) S Z nw W.fpv (fun b o e q q'=>(g b fun z=>q (by rw [z];exact .tail _ (.head _))).trans e)
  (fun b i o e=>⟨o.slots,(g b fun z=>F (z▸i)).trans e⟩) (fun b i=>⟨V b i,.inl i⟩) V
 exact k _ r σ' _ i' a' hg ho (fun L hL=>⟨a,K,M,rfl,(g _ (Hw n)).trans H,v,O,.inr ⟨t,_,_,_,rfl,n,U,D,JA j _,by simp [C],qw f rfl hL⟩⟩) n' ⟨J,gP (Fs:=c.Fs) (ps:=[a,t]) P (fun b i=>by
    rcases GH.mp i with rfl|i
    ·exact⟨_,_,H,O⟩
    ·rcases GH.mp i with rfl|i
     ·exact⟨_,_,I,j⟩
     ·cases i) (fun b o e q q'=>(g b fun z=>q (by rw [z];exact .tail _ (.head _))).trans e) (fun b i o e=>⟨o.slots,(g b fun z=>F (z▸i)).trans e⟩)⟩ hX
theorem uR (k:aI c) (m:A.frames=Gq c.Fs) {n:Hf} {X:Sg->Prop} {e:Gy} (h:a9 u c X e s):M8 (GO u.prog w) A c.env (cameBackBy (GO u.prog w) n c.env (a9 u c X)) e s:=by
 refine jh k m h fun K N=>?_;obtain⟨M,o,ps,L,q,O,P,Q,R,⟨a,S,T,t,U,V,rfl,r,l,v,rfl,z,C,W,D,Y⟩,Z,_,hX⟩:=id N;refine Gv (JQ r v C ?_);rw [if_neg (by simp)]
 exact gj k N fun E f b ps' F H g i x I J j=>⟨f,b,ps',F,H,g,i,x _ (.inr rfl),I,J,j⟩
theorem xX (l:aI c) (o:A.frames=Gq c.Fs) {X:Sg->Prop} {e:Gy} {Q:Unit->GA->Prop} {E:Gy->GA->Prop} (h:a9 u c X e s)
  (k:∀f m σ' ps,ff c.base c.Fs (ps++c.Pv) m σ' f.heap->gf c.Fs c.G₀ c.σ₀ c.s₀.heap m σ' f.heap->f.gens=c.s₀.gens->f.os=c.s₀.os->ol u Gs e ps f.heap->(∀b∈ps,c.s₀.heap.get? b=Gs)->X σ'->Q () f):
  G0 (GO u.prog w) A (leaving c.env e) Q E s:=by
 refine Gv (jh l o h fun f N=>gj l N fun q r n ps' t v g i x z Z j=>k _ _ _ _ t v g i (x _ (.inl rfl)) z j)
end
noncomputable def BH (G:Gh):Fl->Nb->Prop
 |.next,f=>f=.next
 |.cont,f=>f=.cont
 |.ret v,f=>∃b,f=.ret b/\VRep G v b
inductive d9 (c:Cx) (G:Gh) (Q:cU) (f:Nb) (s':GA):Prop where
 |mk (G':Gh) (σ':Sg) (ρ':List (Option V)) (fl:Fl) (a:At c ρ' G' σ' s') (l:G.Le G') (r:BH G' fl f) (q:Q fl ρ' σ')
def bB (u:U) (d:Nat) (names:List (Hb×G2)) (st:Iy) (b:S):Prop:=
 ∀(w:Hh) (A:Hf) (c:Cx),aI c->c.env.scope.names=names->Gd u w c.base->Rm A d c.Fs->c.comp=Gw->∀(e:List (Option V)) (G:Gh) (f:Sg) (s:GA) (Q:cU) (X:Sg->Prop),At c e G f s->wpS u.T (ae u d) b e Q X f->
  G0 (GO u.prog w) A (exec st c.env) (d9 c G Q) (a9 u c X) s
def cJ (u:U) (d:Nat) (names:List (Hb×G2)) (st:List Iy) (b:List S):Prop:=
 ∀(w:Hh) (A:Hf) (c:Cx),aI c->c.env.scope.names=names->Gd u w c.base->Rm A d c.Fs->c.comp=Gw->∀(e:List (Option V)) (G:Gh) (f:Sg) (s:GA) (Q:cU) (X:Sg->Prop),At c e G f s->wpSs u.T (ae u d) b e Q X f->
  G0 (GO u.prog w) A (execs st c.env) (d9 c G Q) (a9 u c X) s
section
variable {u:U} {d:Nat} {names:List (Hb×G2)} {w:Hh} {A:Hf} {c:Cx} {ρ:List (Option V)} {G:Gh} {σ:Sg} {s:GA}
theorem d9.of {Q:cU} {fl:Fl} {f:Nb} (a:At c ρ G σ s) (h:BH G fl f) (q:Q fl ρ σ):d9 c G Q f s:=⟨G,σ,ρ,fl,a,.refl _,h,q⟩
theorem d9.le {Q:cU} {f:Nb} {i:Gh} {j:GA} (l:G.Le i) (h:d9 c i Q f j):d9 c G Q f j:=by
 obtain⟨e,b,g,k,a,m,r,q⟩:=h;exact⟨e,b,g,k,a,l.trans m,r,q⟩
theorem d9.next {Q:cU} (a:At c ρ G σ s) (q:Q .next ρ σ):d9 c G Q .next s:=.of a (fl:=.next) rfl q
theorem d9.cont {Q:cU} (a:At c ρ G σ s) (q:Q .cont ρ σ):d9 c G Q .cont s:=.of a (fl:=.cont) rfl q
theorem d9.ret {Q:cU} {v:V} {b:Gy} (a:At c ρ G σ s) (r:VRep G v b) (q:Q (.ret v) ρ σ):d9 c G Q (.ret b) s:=.of a (fl:=.ret v) ⟨b,rfl,r⟩ q
theorem uC:cJ u d names [] []:=by
 intro w A c b e g f i ρ G σ s Q X a h;exact Kq (.next a h)
theorem xv {st:Iy} {n:S} {r:List Iy} {q:List S} (D:bB u d names st n) (E:cJ u d names r q):cJ u d names (st::r) (n::q):=by
 intro w A c t y g z B ρ G σ s Q X a h;refine IU (G1 (D w A c t y g z B ρ G σ s _ X a h) (fun f o F=>?_) fun Z Z x=>x);obtain⟨p,l,m,H,b,e,i,j⟩:=F
 cases H with
 |next=>
  cases i;exact G1 (E w A c t y g z B m p l o Q X b j) (fun f C k=>k.le e) fun Z Z x=>x
 |cont=>cases i;exact .le e (.cont b j)
 |ret v=>
  obtain⟨J,rfl,I⟩:=i;exact .le e (.ret b I j)
def dB (names:List (Hb×G2)) (x:Hb) (k:Nat):Prop:=names[k]? =Gq (x,.local)\/names[k]? =Gq (x,.cell)
theorem dK (b:aI c) (F:c.env.scope.names=names) (a:At c ρ G σ s) {x:Hb} {k:Nat} (e:dB names x k) (l:c.comp=Gw\/names[k]? =Gq (x,.local)) {v:V} {H:Gy} (r:VRep G v H) {Q:Unit->GA->Prop} {E:Gy->GA->Prop}
  (h:∀I,At c (ρ.set k (Gq v)) G σ I->Q () I):G0 (GO u.prog w) A (storeName c.env x H) Q E s:=by
 obtain⟨m,J,U,M⟩:=a.envr;rcases e with e|e
 ·have f:c.env.scope.names[k]? =Gq (x,.local):=by rw [F];exact e
  have N:(c.env.scope.kind==.class||(c.env.scope.kind==.module&&c.env.locals != c.env.globals))=Gw:=by rw [b.kind];rfl
  refine wpAny_storeName_local (kind_at b.nodup f) J (fun K n p=>h _ (a.store b f r (.inl ⟨rfl,fun O z=>?_,p⟩))) N;obtain⟨o,W,X,j,B,P⟩:=J;obtain⟨Y,R,S,g,i,C⟩:=z;rw [j] at g;cases g;rw [B] at i;cases i
  have D:m=O:=funext fun y=>(P.2 y).symm.trans (C.2 y)
  exact D▸n
 ·have f:c.env.scope.names[k]? =Gq (x,.cell):=by rw [F];exact e
  have l:c.comp=Gw:=by
   rcases l with h|h
   ·exact h
   ·rw [e] at h;cases h
  obtain⟨q,L,j,B⟩:=M x (GJ f);exact wpAny_storeName_cell b.kind (kind_at b.nodup f) j B fun K T p=>h {s with heap:=K} (a.store (t:=s.toks) b f r (.inr ⟨q,l,rfl,j,T,p⟩))
noncomputable abbrev cj (e:GW):Prop:=∀t n env,IV e t n env=HE Gw
theorem mn {e:GW} (h:cj e) {t:GW} {n:Nat} {env:J2}:LS [t] e n env=HE Gw:=h (Gq t) n env
theorem xi {e:GW} {k:E} {pos:HO} (S:ao u d names e k) (p:cj e):bB u d names (.Expr e pos) (.expr k):=by
 intro w A c l q g r t ρ G σ s Q X a h;exact wpAny_Expr_any (ay S l q g r a h fun v m n j x b f o i=>.le f (.next b i)) (by unfold interactive;simp [l.kind]) (p _ _ _)
theorem xn {x:Hb} {k:Nat} {e:GW} {n:E} {p pos:HO} (S:ao u d names e n) (z:cj e) (B:dB names x k):bB u d names (.Assign [.Name x p] e pos) (.assign (.loc k) n):=by
 intro w A c o q g C D ρ G σ s Q X a h;exact wpAny_Assign_Name (ay S o q g C a h fun v r t m x b f i j=>dK o q b B (.inl D) i fun y l=>.le f (.next l j)) (z _ _ _)
theorem Ck {e:GW} {l:E} {pos:HO} (S:ao u d names e l):bB u d names (.Return (Gq e) pos) (.ret l):=by
 intro w A c o p g q r ρ G σ s Q X a h;exact O5 (ay S o p g q a h fun v m n k x b f i j=>.le f (.ret b i j))
theorem xD {pos:HO}:bB u d names (.Continue pos) .cont:=by
 intro w A c b e g f i ρ G σ s Q X a h;exact wpAny_Continue (.cont a h)
theorem Di {t:GW} {y:E} {b o:List Iy} {z B:List S} {pos:HO} (D:dQ u d names t y) (F:cJ u d names b z) (H:cJ u d names o B):bB u d names (.If t b o pos) (.ite y z B):=by
 intro w A c q r g v C ρ G σ s Q X a h;refine wpAny_If (dm D q r g v a h fun t i j e l m n=>?_)
 cases t with
 |true=>exact G1 (F w A c q r g v C ρ j e i Q X l n) (fun f p k=>k.le m) fun Z Z x=>x
 |false=>exact G1 (H w A c q r g v C ρ j e i Q X l n) (fun f p k=>k.le m) fun Z Z x=>x
inductive Dv (c:Cx) (Q:cU) (f:Nb) (s':GA):Prop where
 |mk (G':Gh) (σ':Sg) (ρ':List (Option V)) (fl:Fl) (a:At c ρ' G' σ' s') (r:BH G' fl f) (q:Q fl ρ' σ')
theorem d9.t {Q:cU} {f:Nb} (h:d9 c G Q f s):Dv c Q f s:=by
 obtain⟨g,b,e,i,a,_,r,q⟩:=h;exact⟨g,b,e,i,a,r,q⟩
def f3 (u:U) (d:Nat) (names:List (Hb×G2)) (st:List Iy) (b:List S):Prop:=
 ∀(w:Hh) (A:Hf) (c:Cx),aI c->c.env.scope.names=names->Gd u w c.base->Rm A d c.Fs->c.comp=Gw->c.pins=[]->∀(ρ:List (Option V)) (G:Gh) (σ:Sg) (s:GA) (Q:cU) (X:Sg->Prop),At c ρ G σ s->wpSs u.T (ae u d) b ρ Q X σ->
  G0 (GO u.prog w) A (execs st c.env) (Dv c Q) (a9 u c X) s
theorem cJ.t {st:List Iy} {b:List S} (h:cJ u d names st b):f3 u d names st b:=fun w A c e f g i j Z ρ G σ s Q X a k=>G1 (h w A c e f g i j ρ G σ s Q X a k) (fun Z Z x=>x.t) fun Z Z x=>x
end
section
variable {u:U} {d:Nat} {names:List (Hb×G2)} {w:Hh} {A:Hf} {c:Cx} {ρ:List (Option V)} {G:Gh} {σ:Sg} {s:GA}
theorem B2 (g:aI c) (o:c.env.scope.names=names) (a:At c ρ G σ s) {x:Hb} {k:Nat} {kd:G2} {v:V} (p:names[k]? =Gq (x,kd)) (q:ρ[k]? =Gq (Gq v)) (t:(x==("__classdict__":Hb))=Gw) {Q:Gy->GA->Prop} {E:Gy->GA->Prop}
  (h:∀j,VRep G v j->Q j s):G0 (GO u.prog w) A (loadName c.env x) Q E s:=by
 obtain⟨m,z,B,_⟩:=a.envr
 have l:c.env.scope.names[k]? =Gq (x,kd):=by rw [o];exact p
 have i:=kind_at g.nodup l
 rcases B k _ v l q with ⟨e,y,C,r⟩ |⟨e,b,y,n,f,r⟩
 ·exact Lq g.kind (by rw [i];exact congrArg Gq e) z C (h y r)
 ·rcases e with e|e
  ·exact OD g.kind (by rw [i];exact congrArg Gq e) n f (h y r)
  ·exact OE g.kind (by rw [i];exact congrArg Gq e) n f (h y r) t
set_option tactic.hygienic true in
theorem Cr {x:Hb} {k:Nat} {op:Op} {e:GW} {C:E} {p pos:HO} (S:ao u d names e C) (D:dB names x k) (K:op=.add\/op=.bor) (L:(x==("__classdict__":Hb))=Gw):bB u d names (.AugAssign (.Name x p) op.m e pos) (.aug k op C):=by
 intro w A c o q g M N ρ G σ s Q X a h;obtain⟨i,O,h⟩:=h;obtain⟨F,z⟩:∃F,names[k]? =Gq (x,F):=by rcases D with h|h<;>exact⟨_,h⟩
 refine wpAny_AugAssign_Name (B2 o q a z O L fun T P=>ay S o q g M a h fun v H I B y f l m b=>?_);obtain⟨t,rfl⟩:=aE P;obtain⟨j,r,rfl,R,b⟩:=b;obtain⟨U,rfl⟩:=aE m;exact qq op R K (dK o q (f.tok _) D (.inl N) (bz r _) fun J n=>.le l (.next n b))
theorem kC {l:GS} {items:Array Gy} {n:Nat} {k:Int} {t:MY} {v:Gy} {Q:Unit->GA->Prop} {E:Gy->GA->Prop} (e:s.heap.get? l=Gq (HM items n))
  (m:0<=k) (b:k<2^63) (p:k<items.size)
  (hQ:∀f,(s.heap.update l (Hs (·.setIfInBounds k.toNat v))).get? l=Gq (HM (items.setIfInBounds k.toNat v) f)->Q () {s with heap:=s.heap.update l (Hs (·.setIfInBounds k.toNat v))}):
  G0 (GO u.prog w) A (setItem (.ref l) (.int k t) v) Q E s:=by
 have g:s.heap.IsList l items:=aY e
 unfold setItem
 try with_reducible refine Ha ?_
 first|refine Gv (GR ?_) |skip
 refine Gv (wpAny_sequenceKey g.typeIs (by decide) ?_)
 refine Gv (wpAny_callSpecial?_slot (name:=Ho "__setitem__") g.typeIs O6
  (Ld O6 g.typeIs entry_list_setitem ?_ (args_list_setitem _ _ _)))
 show G0 _ _ (PZ (.int k t) >>= _) _ _ s
 refine Gv (wpAny_listSubscript_int (fitsIndex_of m b) ?_);clear b;obtain⟨j,rfl⟩:=IM m
 have o:j<items.size:=by lia
 have i:items[j]? =Gq items[j]:=Ko o
 show G0 _ _ ((seqItemAt l j >>= fun r=>HE (r.map (j,·))) >>= _) _ _ s
 refine Gv (Gv (wpAny_seqItemAt e rfl (GR ?_)));rw [i]
 show G0 _ _ (setSeqItemAt l j v >>= _) _ _ s
 have hfin:∃f,(s.heap.update l (Hs (·.setIfInBounds j v))).get? l=Gq (HM (items.setIfInBounds j v) f):=⟨_,Lu (h:=s.heap) (l:=l) e (·.setIfInBounds j v)⟩
 obtain⟨f,hfin⟩:=hfin;refine Gv (wpAny_setSeqItemAt e rfl ?_)
 first
  |exact Gv (GR (GR ⟨.none,rfl,GR (hQ _ hfin)⟩))
  |exact wpAny_pure ⟨.none,rfl,wpAny_pure (hQ _ hfin)⟩
theorem uL (k:Int) {kvs:List (Int×V)}:∀ {b:List (Int×Gy)},DRep G kvs b->b.any (fun f=>f.1=k)=kvs.any (fun f=>f.1=k):=by
 induction kvs with
 |nil=>
  intro _ r;subst r;rfl
 |cons f _ g=>
  intro _ r;obtain⟨y,i,rfl,e,_,r⟩:=r;rw [IY,IY,g r,e]
theorem zr {k:Int} {v:V} {kvs:List (Int×V)}:(kvs.map (·.1)).Nodup->putI k v kvs=if kvs.any (fun b=>b.1=k) then kvs.map (fun b=>if b.1=k then(b.1,v) else b) else kvs++[(k,v)]:=by
 induction kvs with
 |nil=>exact fun Z=>rfl
 |cons b r i=>
  intro f
  have f:=IW.mp f
  show(if b.1=k then _ else _)=_
  by_cases q:b.1=k
  ·have j:∀x∈r,x.1≠k:=fun x g e=>f.1 (Hj.mpr ⟨x,g,e.trans q.symm⟩)
   have l:r.map (fun b=>if b.1=k then(b.1,v) else b)=r:=by
    conv=>rhs;rw [<-Ny r]
    exact Jr fun x g=>if_neg (j x g)
   rw [if_pos q,IY,decide_eq_true q,Bool.true_or,if_pos rfl,Hp,if_pos q,l,q]
  ·rw [if_neg q,i f.2,IY,decide_eq_false q,MU,Hp,if_neg q]
   by_cases z:(r.any fun b=>b.1=k)=Gu
   ·rw [if_pos z,if_pos z]
   ·rw [if_neg z,if_neg z];rfl
theorem pc {k:Int} {v:V} {g:Gy} (l:VRep G v g) {kvs:List (Int×V)} {b:List (Int×Gy)} (r:DRep G kvs b) (hd:(kvs.map (·.1)).Nodup):DRep G (putI k v kvs) (stored b k g):=by
 rw [zr hd];unfold stored;rw [uL k r]
 by_cases z:(kvs.any fun f=>f.1=k)=Gu
 ·rw [if_pos z,if_pos z];clear hd z
  induction kvs generalizing b with
  |nil=>subst r;rfl
  |cons f kvs i=>
   obtain⟨y,m,rfl,e,j,r⟩:=r;refine⟨_,_,rfl,?_,?_,i r⟩
   ·show(if y.1=k then(y.1,g) else y).1=(if f.1=k then(f.1,v) else f).1
    by_cases q:f.1=k
    ·rw [if_pos q,if_pos (e.trans q)];exact e
    ·rw [if_neg q,if_neg (fun z=>q (e.symm.trans z))];exact e
   ·show VRep G (if f.1=k then(f.1,v) else f).2 (if y.1=k then(y.1,g) else y).2
    by_cases q:f.1=k
    ·rw [if_pos q,if_pos (e.trans q)];exact l
    ·rw [if_neg q,if_neg (fun z=>q (e.symm.trans z))];exact j
 ·rw [if_neg z,if_neg z];clear hd z
  induction kvs generalizing b with
  |nil=>subst r;exact⟨_,_,rfl,rfl,l,rfl⟩
  |cons f kvs i=>
   obtain⟨y,m,rfl,e,j,r⟩:=r;exact⟨_,_,rfl,e,j,i r⟩
theorem kY {kvs:List (Int×V)}:∀ {b:List (Int×Gy)},DRep G kvs b->b.map (·.1)=kvs.map (·.1):=by
 induction kvs with
 |nil=>
  intro _ r;subst r;rfl
 |cons _ _ f=>
  intro _ r;obtain⟨y,g,rfl,e,_,r⟩:=r;simp [f r,e]
set_option tactic.hygienic true in
theorem mX (N:aI c) (a:At c ρ G σ s) {x j y:V} {O P F:Gy} {σ':Sg} (rx:VRep G x O) (rj:VRep G j P) (R:VRep G y F) (e:ji σ y x j=Gq σ') {Q:Unit->GA->Prop} {E:Gy->GA->Prop}
  (h:∀S,At c ρ G σ' S->Q () S):G0 (GO u.prog w) A (setItem O P F) Q E s:=by
 cases x with
 |ref i=>
  cases j with
  |int k=>
   obtain⟨T,rfl⟩:=aU rx;obtain⟨t,rfl⟩:=aE rj
   have b:∀ {r:HV},(∀q,q≠G.φ i->r.get? q=s.heap.get? q)->aT σ i->(∃o,r.get? (G.φ i)=Gq o)->∃o,r.get? (G.δ i)=Gq o:=fun{r} C f ⟨o,ho⟩=>by
    by_cases q:G.δ i=G.φ i
    ·rw [q];exact⟨o,ho⟩
    ·obtain⟨U,H⟩:=(a.inv.live i f).2;exact⟨U,(C _ q).trans H⟩
   unfold ji at e;dsimp only at e
   cases v:σ.cell i with
   |list l=>
    rw [v] at e;change ite _ _ _=_ at e
    split at e
    ·rename_i D;cases e;obtain⟨f,g,n,I,p⟩:=a.cell T v nofun
     have z:g.size=_:=p.length
     refine kC I D.2.2.1 (by lia) (by rw [z];exact D.2.2.2) fun n' m=>h {s with heap:=_} ?_
     have C:∀q,q≠G.φ i->(s.heap.update (G.φ i) (Hs (·.setIfInBounds k.toNat F))).get? q=s.heap.get? q:=fun q B=>Hl _ _ (Hw B)
     exact a.mut (t:=s.toks) N f (fun q o e B Z=>(C q B).trans e) ⟨_,m⟩ (b C f ⟨_,m⟩) ⟨_,_,m,by rw [Kk];exact p.set R _⟩
    ·cases e
   |dict J=>
    rw [v] at e;change ite _ _ _=_ at e
    split at e
    ·rename_i D;cases e;obtain⟨f,W,⟨o,I,X⟩,p⟩:=a.cell T v nofun
     have hd:=(bw (prog:=u.prog) (w:=w)).mpr ⟨o,I,X⟩
     obtain⟨_,_,_,_,_,_,nd⟩:=X
     have K:(J.map (·.1)).Nodup:=kY p▸nd
     refine wpAny_setItem_pairs (knd:=Ji u.prog w) (k:=k) (show HY k (.int k t)=Gu by simp [HY]) hd (fun r L Y=>?_) (by rw [mW p];exact(l1 0x1b09492949f801b090909090909180) D.2)
     obtain⟨U,m,M⟩:=bw.mp L;exact h _ (a.mut (t:=s.toks+1) N f (fun q o e B Z=>(Y.2 q B).trans e) ⟨_,m⟩ (b Y.2 f ⟨_,m⟩) ⟨_,⟨_,m,M⟩,pc R p K⟩)
    ·cases e
   |_=>rw [v] at e;cases e
  |_=>cases e
 |_=>cases e
set_option tactic.hygienic true in
theorem sA {o i e:GW} {M N O:E} {p pos:HO} (W:ao u d names o M) (Y:ao u d names i N) (Z:ao u d names e O) (nc:cj e):bB u d names (.Assign [.Subscript o i p] e pos) (.setIdx M N O):=by
 intro w A c D F g H cf ρ G σ s Q X a h;refine wpAny_Assign_Subscript (ay Z D F g H a h fun v P R I y l m n q=>ay W D F g H l q fun vo S T J x r k t z=>ay Y D F g H r z fun vi U V K j B b C f=>?_) (nc _ _ _)
 split at f
 ·rename_i L e;exact mX D B (t.mono b) C (n.mono (k.trans b)) e fun s' a'=>.le (m.trans (k.trans b)) (.next a' f)
 ·exact f.elim
set_option tactic.hygienic true in
theorem pK (B:∀w:Hh,fA u.T (u.Kf w.params)) {o e:GW} {I J:E} {x:Hb} {n:Nat} {p pos:HO} (P:ao u d names o I) (R:ao u d names e J) (S:cj e) (T:nm n=x):bB u d names (.Assign [.Attribute o x p] e pos) (.setAttr I n J):=by
 subst T;intro w A c C K g L V ρ G σ s Q X a h;refine OM (ay R C K g L a h fun v j M D y l m q r=>?_) (mn S) (by rfl)
 show G0 _ _ (JR v [Ju (.Attribute o (nm n) p) c.env]) _ _ _
 have i:G0 (GO u.prog w) A (Ju (.Attribute o (nm n) p) c.env v) (fun Z=>d9 c G Q .next) (a9 u c X) j:=by
  rw [Ph];refine Gv (Ha (ay P C K g L l r fun W N O F x t f z b=>Gv (HQ (Gv (Ha ?_)))))
  split at b
  ·rename_i H e;exact lE (B w) g C t z (q.mono f) e fun s' U=>wpAny_release (.le (m.trans f) (.next U b))
  ·exact b.elim
 first
  |exact Gv (Ha (G1 i (fun Z s' k=>wpAny_pure k) fun Z Z x=>x))
  |exact Gv (G1 i (fun Z s' k=>wpAny_pure k) fun Z Z x=>x)
  |exact i
set_option tactic.hygienic true in
theorem pk (q:∀w:Hh,fA u.T (u.Kf w.params)) {o e:GW} {I J:E} {x:Hb} {n:Nat} {op:Op} {p pos:HO} (R:ao u d names o I) (S:ao u d names e J) (T:op=.add\/op=.bor) (U:nm n=x):bB u d names (.AugAssign (.Attribute o x p) op.m e pos) (.augAttr I n op J):=by
 subst U;intro w A c C K g L cf ρ G σ s Q X a h;refine wpAny_AugAssign_AttributeAny (ay R C K g L a h fun vo M N D x k v l b=>?_);obtain⟨i,V,b⟩:=b;refine lA (q w) g k l V fun vi W=>?_;obtain⟨t,rfl⟩:=aE W;refine ay S C K g L (k.tok _) b fun ve O P F y z m B f=>?_;obtain⟨j,r,H,rfl,Y,Z,f⟩:=f;obtain⟨t',rfl⟩:=aE B;exact qq op Y T (lE (q w) g C (z.tok _) (l.mono m) (bz r _) Z fun s' a'=>.le (v.trans m) (.next a' f))
set_option tactic.hygienic true in
theorem tz {o e:GW} {R S T:E} {x:Hb} {op:Op} {p U pos:HO} (So:ao u d names o R) (Si:ao u d names (.Name x U) S) (Se:ao u d names e T) (ho:op=.add\/op=.bor):bB u d names (.AugAssign (.Subscript o (.Name x U) p) op.m e pos) (.augIdx R S op T):=by
 intro w A c J K g L cf ρ G σ s Q X a h;refine wpAny_AugAssign_Subscript (ay So J K g L a h fun vo V W M x B C n D=>ay Si J K g L B D fun vi Y Z N j q f v i=>?_);obtain⟨z,d',hi,i⟩:=i
 obtain⟨k,rfl⟩:∃k,j=.int k:=by
  cases j with
  |int k=>exact⟨k,rfl⟩
  |_=>cases hi
 refine(ur (y:=.none) q (n.mono f) v hi fun vz tk rz=>?_).1
 have F:=q.tok tk
 obtain⟨t,rfl⟩:=aE rz;refine ay Se J K g L F i fun ve b' c' O y H l I m=>?_;obtain⟨b,r,P,rfl,hr,hs,m⟩:=m;obtain⟨t',rfl⟩:=aE I;exact qq op hr ho (mX J (H.tok _) (n.mono (f.trans l)) (v.mono l) (bz r _) hs fun s' a'=>.le (C.trans (f.trans l)) (.next a' m))
end
section
variable {u:U} {d:Nat} {names:List (Hb×G2)} {w:Hh} {A:Hf} {c:Cx} {ρ:List (Option V)} {G:Gh} {σ:Sg} {s:GA}
noncomputable def TgtAt (names:List (Hb×G2)):List GW->List Nat->Prop
 |[],ks=>ks=[]
 |e::r,ks=>∃k b,ks=k::b/\(∃x p,e=.Name x p/\dB names x k)/\TgtAt names r b
inductive TgtOK (names:List (Hb×G2)):GW->kw->Prop
 |name {x:Hb} {p:HO} {k:Nat} (h:dB names x k):TgtOK names (.Name x p) (.loc k)
 |tup {elts:List GW} {c:Nat} {p:HO} {ks:List Nat} (h:TgtAt names elts ks):TgtOK names (.Tuple elts c p) (.locs ks)
theorem yo {b:List GW}:∀ {ks:List Nat},TgtAt names b ks->b.length=ks.length:=by
 induction b with
 |nil=>
  intro ks h;subst h;rfl
 |cons e r f=>
  intro ks h;obtain⟨k,g,rfl,_,h⟩:=h;simp [f h]
theorem jR {env:J2} {b:List GW}:∀ {ks:List Nat},TgtAt names b ks->assignEach b env=b.map fun t=>(Gw,Ju t env):=by
 induction b with
 |nil=>
  intro ks h;exact rfl
 |cons e r f=>
  intro ks h;obtain⟨k,g,rfl,⟨x,p,rfl,_⟩,h⟩:=h
  show(Gw,Ju (.Name x p) env)::assignEach r env=_
  rw [f h];rfl
theorem vL (o:c.comp=Gw) (q:aI c) (z:c.env.scope.names=names) {Q:Unit->GA->Prop} {E:Gy->GA->Prop} (b:List GW):∀ {ks:List Nat} {vs:List V} {items:List Gy} {ρ:List (Option V)} {s:GA},TgtAt names b ks->vs.length=ks.length->At c ρ G σ s->VReps G vs items->
  (∀j,At c ((ks.zip vs).foldl (fun ρ l=>ρ.set l.1 (Gq l.2)) ρ) G σ j->Q () j)->G0 (GO u.prog w) A (LU (b.map fun t=>Ju t c.env) items) Q E s:=by
 induction b with
 |nil=>
  intro ks vs items ρ s f i a r h;subst f
  cases vs with
  |nil=>
   subst r;exact GR (h s a)
  |cons _ _=>cases i
 |cons e b B=>
  intro ks vs items ρ s f i a r h;obtain⟨k,C,rfl,⟨x,p,rfl,D⟩,f⟩:=f
  cases vs with
  |nil=>cases i
  |cons v vs=>
   obtain⟨y,m,rfl,F,r⟩:=r
   show G0 _ _ (do KA m (Ju (.Name x p) c.env y);LU (b.map fun t=>Ju t c.env) m) _ _ _
   refine Gv (Ha (Iv (dK q z a D (.inl o) F fun n g=>?_)));exact B f (by simpa using i) g r h
set_option tactic.hygienic true in
theorem nU (B:c.comp=Gw) (C:aI c) (D:c.env.scope.names=names) (J:A.handled=Gs) (a:At c ρ G σ s) {tg:GW} {t:kw} (g:TgtOK names tg t) {v:V} {F:Gy} (r:VRep G v F) {j:List (Option V)} (e:eY ρ t v σ=Gq j) {Q:Unit->GA->Prop} {E:Gy->GA->Prop}
  (h:∀H,At c j G σ H->Q () H):G0 (GO u.prog w) A (Ju tg c.env F) Q E s:=by
 cases g with
 |@name x p k g=>
  cases e;exact Iv (dK C D a g (.inl B) r h)
 |@tup i k p N g=>
  cases v with
  |tup O=>
   change ite _ _ _=_ at e
   split at e
   ·rename_i m;cases e;obtain⟨b,f,n,rfl,z,I⟩:=fK r
    have l:f.size=_:=I.length
    have y:s.heap.IsTuple b f:=⟨_,a.inv.froz _ _ z,rfl,n,rfl⟩
    refine wpAny_assign_Tuple J y (by rw [jR g,GG,l,yo g];exact m.1) (by rw [jR g];clear g h m;induction i with|nil=>rfl|cons _ _ K=>simp [List.findIdx?_cons,K]) fun P L=>?_
    have M:=a.grow (t:=s.toks) fun q o e=>L q o (G6 (Hy e)) e
    rw [jR g,HG];exact vL B C D i g m.1.symm M I h
   ·cases e
  |_=>cases e
set_option tactic.hygienic true in
theorem AA {b:List GW} {ks:List Nat} {e:GW} {r:E} {k:Nat} {p pos:HO} (S:ao u d names e r) (D:cj e) (F:TgtAt names b ks) (H:∀env:J2,env.scope.names=names->env.scope.kind=.function->Je [.Tuple b k p] e env=HE Gs):bB u d names (.Assign [.Tuple b k p] e pos) (.assign (.locs ks) r):=by
 intro w A c n o g y I ρ G σ s Q X a h;refine Assign_Tuple (ay S n o g y a h fun v z B q x i j l f=>?_) (mn D) (H _ o n.kind)
 split at f
 ·rename_i J e;exact nU I n o y.handled i (tg:=.Tuple b k p) (t:=.locs ks) (.tup F) l e fun C m=>.le j (.next m f)
 ·exact f.elim
theorem wn {k:Nat} {v:V} {l:List (Nat×V)} (h:k∉l.map (·.1)):∀ρ:List (Option V),l.foldl (fun ρ b=>ρ.set b.1 (Gq b.2)) (ρ.set k (Gq v))=(l.foldl (fun ρ b=>ρ.set b.1 (Gq b.2)) ρ).set k (Gq v):=by
 induction l with
 |nil=>exact fun Z=>rfl
 |cons a l f=>
  have e:k≠a.1/\k∉l.map (·.1):=not_or.mp fun q=>h (GH.mpr q)
  exact fun ρ=>(congrArg (l.foldl _) (List.set_comm _ _ e.1)).trans (f e.2 _)
theorem xM {l:List (Nat×V)} (h:(l.map (·.1)).Nodup) (ρ:List (Option V)):l.reverse.foldl (fun ρ b=>ρ.set b.1 (Gq b.2)) ρ=l.foldl (fun ρ b=>ρ.set b.1 (Gq b.2)) ρ:=by
 induction l with
 |nil=>rfl
 |cons a l f=>
  have e:=IW.mp h
  rw [I2,HS,f e.2];exact(wn e.1 ρ).symm
theorem tR {ρ:List (Option V)} {ks:List Nat} {vs:List V} (f:ks.Nodup) (e:ks.length=vs.length):(ks.reverse.zip vs.reverse).foldl (fun ρ b=>ρ.set b.1 (Gq b.2)) ρ=(ks.zip vs).foldl (fun ρ b=>ρ.set b.1 (Gq b.2)) ρ:=
 (congrArg (List.foldl _ ρ) (List.reverse_zipWith e).symm).trans (xM (by rw [N9 (Kj e)];exact f) ρ)
noncomputable def SlotsAt (names:List (Hb×G2)):List Hb->List Nat->Prop
 |[],[]=>True
 |x::r,k::ks=>dB names x k/\SlotsAt names r ks
 |_,_=>False
theorem ql {xs:List Hb}:∀ {ks:List Nat} {x:Hb} {k:Nat},SlotsAt names xs ks->dB names x k->SlotsAt names (xs++[x]) (ks++[k]):=by
 induction xs with
 |nil=>
  intro ks x k h b
  cases ks with
  |nil=>exact⟨b,trivial⟩
  |cons _ _=>exact h.elim
 |cons y xs e=>
  intro ks x k h b
  cases ks with
  |nil=>exact h.elim
  |cons _ _=>exact⟨h.1,e h.2 b⟩
theorem slots_rev:∀ {xs:List Hb} {ks:List Nat},SlotsAt names xs ks->SlotsAt names xs.reverse ks.reverse
 |[],[],_=>trivial
 |_::_,_::_,h=>by
  rw [I2,I2];exact ql (slots_rev h.2) h.1
theorem slots_len:∀ {xs:List Hb} {ks:List Nat},SlotsAt names xs ks->xs.length=ks.length
 |[],[],_=>rfl
 |_::_,_::_,h=>by simp [slots_len h.2]
theorem xh (m:c.comp=Gw) (o:aI c) (p:c.env.scope.names=names) {Q:Unit->GA->Prop} {E:Gy->GA->Prop}:∀ {xs:List Hb} {ks:List Nat} {vs:List V} {items:List Gy} {ρ:List (Option V)} {s:GA},SlotsAt names xs ks->vs.length=ks.length->At c ρ G σ s->VReps G vs items->
  (∀g,At c ((ks.zip vs).foldl (fun ρ i=>ρ.set i.1 (Gq i.2)) ρ) G σ g->Q () g)->G0 (GO u.prog w) A (LU (xs.map fun n=>bindName c.env n) items) Q E s:=by
 intro xs
 induction xs with
 |nil=>
  intro ks vs items ρ s b f a r h
  cases ks with
  |cons _ _=>exact b.elim
  |nil=>
   cases vs with
   |nil=>
    subst r;exact GR (h s a)
   |cons _ _=>cases f
 |cons x xs q=>
  intro ks vs items ρ s b f a r h
  cases ks with
  |nil=>exact b.elim
  |cons k ks=>
   cases vs with
   |nil=>cases f
   |cons v vs=>
    obtain⟨y,j,rfl,t,r⟩:=r
    show G0 _ _ (do KA j (bindName c.env x y);LU (xs.map fun n=>bindName c.env n) j) _ _ _
    refine Gv (Ha (wpAny_bindName (dK o p a b.1 (.inl m) t fun l e=>?_)));exact q b.2 (Mv f) e r h
set_option tactic.hygienic true in
theorem yO {j:List GW} {xs:List Hb} {ks:List Nat} {e:GW} {K:E} {k:Nat} {p pos:HO} (S:ao u d names e K) (R:cj e) (L:SlotsAt names xs ks) (hd:ks.Nodup) (T:∀env:J2,env.scope.names=names->env.scope.kind=.function->Je [.Tuple j k p] e env=HE (Gq xs)):bB u d names (.Assign [.Tuple j k p] e pos) (.assign (.locs ks) K):=by
 intro w A c D F g M U ρ G σ s Q X a h;refine Assign_Tuple_swapped (ay S D F g M a h fun v l N H x m y B i=>?_) (mn R) (T _ F D.kind)
 split at i
 ·rename_i V e
  cases x with
  |tup Z=>
   change ite _ _ _=_ at e
   split at e
   ·rename_i I;cases e;obtain⟨b,f,n,rfl,z,O⟩:=fK B
    have C:f.size=_:=O.length
    have J:l.heap.IsTuple b f:=⟨_,m.inv.froz _ _ z,rfl,n,rfl⟩
    rw [show xs.length=f.size by rw [C,slots_len L];exact I.1]
    refine wpAny_unpackItems_tuple M.handled J fun h' W=>?_
    have Y:=m.grow (t:=l.toks) fun q o e=>W q o (G6 (Hy e)) e
    refine xh U D F (slots_rev L) (by simp [I.1]) Y O.reverse fun P r=>?_
    rw [tR hd I.1] at r;exact .le y (.next r i)
   ·cases e
  |_=>cases e
 ·exact i.elim
end
noncomputable def Cx.own (c:Cx) (I:GS):Cx:={c with Pv:=I::c.Pv}
noncomputable def Cx.pin (c:Cx) (p:GS×JH):Cx:={c with pins:=p::c.pins}
section
variable {u:U} {d:Nat} {names:List (Hb×G2)} {w:Hh} {A:Hf} {c:Cx} {ρ:List (Option V)} {G:Gh} {σ:Sg} {s:GA} {I:GS} {o:JH}
theorem ff.pv_le {base h:HV} {Fs:List J2} {g Pv':List GS} (x:ff base Fs g G σ h) (l:∀b∈Pv',b∈g) (j:∀env∈Fs,∀L,env.frame=Gq L->L∈Pv'):ff base Fs Pv' G σ h:=
 ⟨x.N,x.stays,x.frames,x.cells,x.live,fun i f b e=>⟨(x.fresh i f b e).1,(x.fresh i f b e).2.1,fun q=>(x.fresh i f b e).2.2 (l b q)⟩,x.inj,x.froz,fun b e=>x.pv b (l b e),j,x.sys⟩
structure d5 (c:Cx) (I:GS):Prop where
 pv:I∉c.Pv
 new:c.s₀.heap.get? I=Gs
theorem tZ (b:aI c) (k:d5 c I):aI (c.own I):=
 ⟨b.kind,b.nodup,.tail _ b.locPv,b.locNew,b.baseLe,fun x a e=>⟨.tail _ (b.cellPv x a e).1,(b.cellPv x a e).2⟩,b.cellNew,b.cellInj,fun p g=>⟨.tail _ (b.pins p g).1,(b.pins p g).2⟩,b.glob,b.bi,b.frame,fun f i L j=>.tail _ (b.fpv f i L j)⟩
theorem tC (b:aI c) (i:d5 c I):aI ((c.own I).pin (I,o)):=
 ⟨b.kind,b.nodup,.tail _ b.locPv,b.locNew,b.baseLe,fun x a e=>⟨.tail _ (b.cellPv x a e).1,(b.cellPv x a e).2⟩,b.cellNew,b.cellInj,fun p g=>by
  rcases GH.mp g with rfl|g
  ·refine⟨.head _,fun(e:I=c.env.locals)=>i.pv (by rw [e];exact b.locPv),fun q=>?_,fun x a e (q:I=a)=>i.pv (by rw [q];exact(b.cellPv x a e).1)⟩
   obtain⟨f,j,k⟩:=HF.mp q;exact i.pv (b.fpv f j _ k)
  ·exact⟨.tail _ (b.pins p g).1,(b.pins p g).2⟩,b.glob,b.bi,b.frame,fun f j L k=>.tail _ (b.fpv f j L k)⟩
theorem At.own (x:At c ρ G σ s) (C:aI c) {h':HV} {t:MY} (k:∀b o,s.heap.get? b=Gq o->h'.get? b=Gq o) (l:s.heap.get? I=Gs) (g:h'.get? I=Gq o):At (c.own I) ρ G σ {s with heap:=h',toks:=t}/\d5 c I:=by
 have f:=x.grow (t:=t) k
 have y:d5 c I:=by
  refine⟨fun q=>?_,?_⟩
  ·obtain⟨⟨o,e⟩,_⟩:=x.inv.pv I q;rw [l] at e;cases e
  ·cases e:c.s₀.heap.get? I with
   |none=>rfl
   |some o=>obtain⟨D,p⟩:=x.adv.there I ⟨o,e⟩;rw [l] at p;cases p
 refine⟨⟨⟨f.inv.N,f.inv.stays,f.inv.frames,f.inv.cells,f.inv.live,fun i m b j=>⟨(f.inv.fresh i m b j).1,(f.inv.fresh i m b j).2.1,fun q=>?_⟩,f.inv.inj,f.inv.froz,fun b j=>?_,fun n z L B=>.tail _ (f.inv.fpv n z L B),f.inv.sys⟩,f.envr,f.adv,f.gens,f.os,f.pins⟩,y⟩
 ·rcases GH.mp q with q|q
  ·obtain⟨⟨E,r⟩,⟨F,v⟩⟩:=x.inv.live i m;rcases j with j|j
   ·rw [<-j,q,l] at r;cases r
   ·rw [<-j,q,l] at v;cases v
  ·exact(f.inv.fresh i m b j).2.2 q
 ·rcases GH.mp j with rfl|j
  ·refine⟨⟨_,g⟩,?_,?_⟩
   ·show c.base.get? b=Gs
    cases e:c.base.get? b with
    |none=>rfl
    |some o=>have:=x.inv.stays b o e;rw [l] at this;cases this
   ·cases e:G.Z b with
    |none=>rfl
    |some o=>have:=x.inv.froz b o e;rw [l] at this;cases this
  ·exact f.inv.pv b j
theorem At.pinned (x:At (c.own I) ρ G σ s) (g:s.heap.get? I=Gq o):At ((c.own I).pin (I,o)) ρ G σ s:=
 ⟨x.inv,x.envr,x.adv,x.gens,x.os,fun p b=>by
  rcases GH.mp b with rfl|b
  ·exact g
  ·exact x.pins p b⟩
theorem At.unpin (x:At ((c.own I).pin (I,o)) ρ G σ s):At (c.own I) ρ G σ s/\s.heap.get? I=Gq o:=
 ⟨⟨x.inv,x.envr,x.adv,x.gens,x.os,fun p b=>x.pins p (.tail _ b)⟩,x.pins (I,o) (.head _)⟩
theorem At.moved (x:At (c.own I) ρ G σ s) (f:aI c) (b:d5 c I) {h':HV} {t:MY} {l:JH} (i:Io I s.heap h') (g:h'.get? I=Gq l):At (c.own I) ρ G σ {s with heap:=h',toks:=t}:=by
 have j:=tZ f b
 obtain⟨m,D,E,F⟩:=x.envr
 have n:c.env.locals≠I:=fun q=>b.pv (q▸f.locPv)
 have r:∀y a,c.env.cells.lookup y=Gq a->a≠I:=fun y a e q=>b.pv (q▸(f.cellPv y a e).1)
 refine x.priv j (.head _) b.new (fun p v q=>b.pv (q▸(f.pins p v).1)) i.2 ⟨l,g,.inr fun k z B=>b.pv (f.fpv k z _ B)⟩ (x.envr.keeps (.refl _) (fun o e=>⟨o,(i.2 _ n).trans e,rfl⟩) fun y a e o C=>⟨o,(i.2 a (r y a e)).trans C,rfl⟩)
theorem At.loose (x:At (c.own I) ρ G σ s) (m:aI c) (B:d5 c I) {h':HV} {t:MY} (k:∀b o,b≠I->s.heap.get? b=Gq o->h'.get? b=Gq o):At c ρ G σ {s with heap:=h',toks:=t}:=by
 revert h' t;delta c ρ G σ s I;delta h' t
 have F:(∃o,s.heap.get? I=Gq o)/\c.base.get? I=Gs/\G.Z I=Gs:=x.inv.pv I (.head _)
 have n:∀b∈c.Pv,∀o,s.heap.get? b=Gq o->h'.get? b=Gq o:=fun b j o e=>k b o (fun q=>B.pv (q▸j)) e
 have z:∀i,aT σ i->∀b,(b=G.φ i\/b=G.δ i)->∀o,s.heap.get? b=Gq o->h'.get? b=Gq o:=fun i g b j o e=>k b o (fun q=>(x.inv.fresh i g b j).2.2 (q▸.head _)) e
 refine⟨⟨x.inv.N,fun b o e=>k b o (fun q=>by rw [q,F.2.1] at e;cases e) (x.inv.stays b o e),dh x.inv.frames fun l C L D o e=>⟨o,n L (m.fpv l C L D) o e,rfl⟩,fun i g=>(x.inv.cells i g).keeps (z i g _ (.inl rfl)) (z i g _ (.inr rfl)),
   fun i g=>?_,fun i g b j=>⟨(x.inv.fresh i g b j).1,(x.inv.fresh i g b j).2.1,fun q=>(x.inv.fresh i g b j).2.2 (.tail _ q)⟩,x.inv.inj,fun b o e=>k b o (fun q=>by rw [q,F.2.2] at e;cases e) (x.inv.froz b o e),
   fun b j=>?_,fun l C L D=>m.fpv l C L D,x.inv.sys⟩,
  x.envr.keeps (.refl _) (fun o e=>⟨o,n _ m.locPv o e,rfl⟩) (fun y a e o J=>⟨o,n a (m.cellPv y a e).1 o J,rfl⟩),⟨x.adv.le,fun b o e f=>?_,fun b j=>?_,x.adv.newφ,x.adv.newZ,x.adv.dead⟩,x.gens,x.os,fun p H=>n _ (m.pins p H).1 _ (x.pins p H)⟩
 ·obtain⟨⟨K,M⟩,⟨N,O⟩⟩:=x.inv.live i g;exact⟨⟨K,z i g _ (.inl rfl) _ M⟩,⟨N,z i g _ (.inr rfl) _ O⟩⟩
 ·obtain⟨⟨o,e⟩,r⟩:=x.inv.pv b (.tail _ j);exact⟨⟨o,n b j _ e⟩,r⟩
 ·obtain⟨v,E,r⟩:=x.adv.keep b o e f;exact⟨v,k b v (fun q=>by rw [q,B.new] at e;cases e) E,r⟩
 ·obtain⟨o,e⟩:=j;obtain⟨v,E⟩:=x.adv.there b ⟨o,e⟩;exact⟨v,k b v (fun q=>by rw [q,B.new] at e;cases e) E⟩
theorem a9.unpin (i:aI c) {X:Sg->Prop} {e:Gy} (h:a9 u ((c.own I).pin (I,o)) X e s):a9 u c X e s:=by
 obtain⟨j,f,k,l,m,n,p,r,t,v,y⟩:=h;refine⟨j,f,k,l.pv_le (fun b z=>?_) fun g B L C=>GD.mpr (.inr (i.fpv g B L C)),m,n,p,r,t,v,y⟩;rcases GD.mp z with q|q
 ·exact GD.mpr (.inl q)
 ·exact GD.mpr (.inr (.tail _ q))
noncomputable def f6:List String:=["enumerate","zip","dict_itemiterator","dict_reverseitemiterator","odict_iterator","itertools.zip_longest","itertools.pairwise"]
structure sM (u:U) (w:Hh) (A:Hf) (G₀:Gh) (l:List V) (st:Sg->Prop) (I:GS) (sh:Nat->JH->Prop):Prop where
 plain:∀i o,sh i o->∃n vs,o.cls=.type n/\o.data=.fields vs/\f6.contains n=Gw
 item:∀ {c:Cx} {ρ:List (Option V)} {G:Gh} {σ:Sg} {s:GA} {o:JH} (i:Nat) (x:V) {Q:Option Gy->GA->Prop} {E:Gy->GA->Prop},At c ρ G σ s->G₀.Le G->st σ->I∈c.Pv->s.heap.get? I=Gq o->sh i o->l[i]? =Gq x->
  (∀vx h' tk o',h'.get? I=Gq o'->sh (i+1) o'->Io I s.heap h'->VRep G x vx->Q (Gq vx) {s with heap:=h',toks:=tk})->G0 (GO u.prog w) A (pyNext (.ref I)) Q E s
 stop:∀ {c:Cx} {ρ:List (Option V)} {G:Gh} {σ:Sg} {s:GA} {o:JH} {Q:Option Gy->GA->Prop} {E:Gy->GA->Prop},At c ρ G σ s->G₀.Le G->st σ->I∈c.Pv->s.heap.get? I=Gq o->sh l.length o->
  (∀h' tk,L3 I s.heap h'->Q Gs {s with heap:=h',toks:=tk})->G0 (GO u.prog w) A (pyNext (.ref I)) Q E s
 self:∀ {s:GA} {o:JH} (i:Nat) {Q:Gy->GA->Prop} {E:Gy->GA->Prop},s.heap.get? I=Gq o->sh i o->Q (.ref I) s->G0 (GO u.prog w) A (NZ (.ref I)) Q E s
theorem zh {b:Gh} {l:List V} {st:Sg->Prop} {e:Nat->JH->Prop} (S:sM u w A b l st I e) {tg:GW} {i:Nat} {v:Gy} (g:s.heap.get? I=Gq o) (h:e i o) {Q:Unit->GA->Prop} {E:Gy->GA->Prop} (q:Q () s):G0 (GO u.prog w) A (P0 tg (.ref I) v) Q E s:=by
 obtain⟨n,f,j,k,m⟩:=S.plain i o h;unfold P0
 cases tg with
 |Tuple _ _ _=>
  cases v with
  |ref a=>
   refine Gv (wpAny_load g ?_);rw [j,k];simp only
   rw [if_neg (by
    intro h
    have:(f6.contains n&&f[0]? ==Gq (H6 a))=Gu:=h
    rw [m,Mw] at this;cases this)]
   exact GR q
  |_=>exact GR q
 |List _ _=>
  cases v with
  |ref a=>
   refine Gv (wpAny_load g ?_);rw [j,k];simp only
   rw [if_neg (by
    intro h
    have:(f6.contains n&&f[0]? ==Gq (H6 a))=Gu:=h
    rw [m,Mw] at this;cases this)]
   exact GR q
  |_=>exact GR q
 |_=>exact GR q
theorem wa {t:GW} {N:E} {b:List Iy} {O:List S} {pos:HO} (ht:dQ u d names t N) (hb:cJ u d names b O):bB u d names (.While t b [] pos) (.while N O):=by
 revert t N b O pos;delta u d names;delta t N b O pos;intro w A c P V g R cf ρ G σ s Q X a h;revert ρ G σ s Q X;delta w A c;delta ρ G σ s Q X;obtain⟨J,⟨n,h0⟩,K⟩:=h;revert n;delta J;delta n
 have W:=R.frames
 refine wpAny_While (codeAny_whileLoop (fun n s=>∃ρ Y σ,At c ρ Y σ s/\G.Le Y/\J n ρ σ) ?_ n ⟨ρ,G,σ,a,.refl _,h0⟩)
 rintro n s ⟨ρ,L,σ,a,j,hJ⟩
 injections n s ρ L σ;intro a j hJ;refine G1 (dm ht P V g R a (K n ρ σ hJ) fun t B C p D k F=>?_) (fun Z Z x=>x) fun Z Z x=>uR P W x
 ·delta t B C p
  cases t with
  |false=>
   show G0 _ _ _ _ _ _
   exact Kq (.le (j.trans k) (.next D F))
  |true=>
   show G0 _ _ _ _ _ _
   refine G1 (hb w A c P V g R cf ρ C p B _ X D F) (fun f M hh=>?_) fun Z Z x=>uR P W x;obtain⟨l,e,i,T,q,r,y,z⟩:=hh;revert l e i T;delta f M;delta l e i T
   cases T with
   |next=>cases y;obtain⟨m,U,H⟩:=z;exact⟨m,U,i,l,e,q,j.trans (k.trans r),H⟩
   |cont=>cases y;obtain⟨m,U,H⟩:=z;exact⟨m,U,i,l,e,q,j.trans (k.trans r),H⟩
   |ret v=>obtain⟨vv,rfl,rv⟩:=y;exact .le (j.trans (k.trans r)) (.ret q rv z)
def A3 (u:U) (d:Nat) (t:kw) (e:List S) (X:Sg->Prop) (i:V) (ρ:List (Option V)) (Q:cU) (σ:Sg):Prop:=match eY ρ t i σ with
 |some b=>wpSs u.T (ae u d) e b Q X σ
 |none=>False
theorem sC {W:V->List (Option V)->cU->Sg->Prop} {st:Sg->Prop} {i:V} {r:List V} {Q:cU} (h:forW W st (i::r) ρ Q σ):st σ/\W i ρ (fun fl b σ'=>match fl with|.next|.cont=>forW W st r b Q σ'|.ret v=>Q (.ret v) b σ') σ:=h
theorem vY {W:V->List (Option V)->cU->Sg->Prop} {st:Sg->Prop} {Q:cU} (h:forW W st [] ρ Q σ):st σ/\Q .next ρ σ:=h
inductive ForI (c:Cx) (I:GS) (G:Gh) (sh:Nat->JH->Prop) (W:V->List (Option V)->cU->Sg->Prop) (st:Sg->Prop) (l:List V) (Q:cU):Nat->GA->Prop where
 |mk (i:Nat) (ρ:List (Option V)) (G':Gh) (σ:Sg) (o:JH) (s:GA) (hi:i<=l.length) (a:At (c.own I) ρ G' σ s) (le:G.Le G') (gI:s.heap.get? I=Gq o) (hsh:sh i o) (h:forW W st (l.drop i) ρ Q σ):ForI c I G sh W st l Q (l.length+1 - i) s
theorem m_for {tg:GW} {t:kw} {b:List Iy} {b':List S} (ht:TgtOK names tg t) (hb:cJ u d names b b') (ok:aI c) (hn:c.env.scope.names=names) (g:Gd u w c.base) (rm:Rm A d c.Fs) (cf:c.comp=Gw) {G₀:Gh} {l:List V} {st:Sg->Prop} {sh:Nat->JH->Prop} (S:sM u w A G₀ l st I sh) (ap:d5 c I)
  (a:At (c.own I) ρ G σ s) (le:G₀.Le G) (gI:s.heap.get? I=Gq o) (h0:sh 0 o) {Q:cU} {X:Sg->Prop} (h:forW (A3 u d t b' X) st l ρ Q σ):
  IP (GO u.prog w) A (.forLoop tg (.ref I) b [] c.env) (fun r s'=>match r with|.ok f=>d9 c G Q f s'|.error e=>cameBackBy (GO u.prog w) A c.env (a9 u c X) e s') s:=by
 revert I o tg t b b' G₀ l st sh Q X;delta u d names w A c ρ G σ s;revert G₀ l st sh Q X;delta I o tg t b b';revert Q X;delta G₀ l st sh;delta Q X
 have fr:=rm.frames
 have okI:=tZ ok ap
 refine codeAny_forLoop_any (ForI c I G sh (A3 u d t b' X) st l Q) ?_ (l.length+1) (.mk 0 ρ G σ o s (G4 _) a (.refl _) gI h0 h)
 rintro n s ⟨i,ρ,G₁,σ,o,_,hi,a,l₁,gI,hsh,h⟩
 injections s i ρ G₁ σ o;intro hi l₁ hsh h a gI
 by_cases hlt:i<l.length
 ·rw [Kt hlt] at h
  have h:=sC h
  refine S.item i l[i] a (le.trans l₁) h.1 (.head _) gI hsh (G8 hlt) fun vx h' tk o' gI' hsh' sb rx=>?_;delta vx h' tk o';refine zh S (s:={s with heap:=h',toks:=tk}) gI' hsh' ?_
  have h2:=h.2
  unfold A3 at h2
  split at h2
  ·rename_i ρ' e
   have okP:=tC (o:=o') ok ap
   refine nU (c:=(c.own I).pin (I,o')) cf okP hn rm.handled ((a.moved (t:=tk) ok ap sb gI').pinned gI') ht rx e fun s₂ a₂=>?_;refine G1 (hb w A _ okP hn g rm cf ρ' G₁ σ s₂ _ X a₂ h2) (fun f s₃ hh=>?_) fun Z Z x=>uR ok fr (a9.unpin ok x);obtain⟨G₃,σ₃,ρ₃,fl,a₃,l₃,r₃,q₃⟩:=hh;obtain⟨a₄,gI₄⟩:=a₃.unpin
   have lt:l.length+1 - (i+1) <l.length+1 - i:=Nat.sub_lt_sub_left (KG hi) (Gx i)
   cases fl with
   |next=>cases r₃;exact⟨_,lt,.mk (i+1) ρ₃ G₃ σ₃ o' _ hlt a₄ (l₁.trans l₃) gI₄ hsh' q₃⟩
   |cont=>cases r₃;exact⟨_,lt,.mk (i+1) ρ₃ G₃ σ₃ o' _ hlt a₄ (l₁.trans l₃) gI₄ hsh' q₃⟩
   |ret v=>
    obtain⟨vv,rfl,rv⟩:=r₃;exact .le (l₁.trans l₃) (.ret (a₄.loose (h':=s₃.heap) (t:=s₃.toks) ok ap fun Z Z Z e=>e) rv q₃)
  ·exact h2.elim
 ·cases IE hi (HL hlt);rw [Oa] at h
  have h:=vY h
  refine S.stop a (le.trans l₁) h.1 (.head _) gI hsh fun h' tk eb=>Kq ?_;exact .le l₁ (.next (a.loose (t:=tk) ok ap fun b o n e=>eb b o n e) h.2)
end
section
variable {u:U} {d:Nat} {names:List (Hb×G2)} {w:Hh} {A:Hf} {c:Cx} {ρ:List (Option V)} {G:Gh} {σ:Sg} {s:GA} {I:GS} {o:JH}
def uW (b:GS) (i:Nat) (o:JH):Prop:=o.cls=.type "list_iterator"/\o.data=.fields #[.ref b,.int i 0]
def z7 (b:GS) (i:Nat) (o:JH):Prop:=o.cls=.type "tuple_iterator"/\o.data=.fields #[.ref b,.int i 0]
def iY (n i:Nat) (o:JH):Prop:=o={cls:=.type "range_iterator",dict:=Gs,data:=.fields #[H6 (i:Int),H6 ((n:Int) - (i:Int)),H6 1],slots:= #[]}
def zM (f:Gh) (l:List V) (st:Sg->Prop) (b:GS):Prop:=
 ∀ {c:Cx} {ρ:List (Option V)} {G:Gh} {σ:Sg} {s:GA},At c ρ G σ s->f.Le G->st σ->∃e n,s.heap.get? b=Gq (HM e n)/\VReps G l e.toList
theorem mY {l:List V} {items:Array Gy} (r:VReps G l items.toList) {i:Nat} {x:V} (h:l[i]? =Gq x):∃b,items[i]? =Gq b/\VRep G x b:=by
 obtain⟨v,e,f⟩:=r.get h;exact⟨v,by rw [<-JM];exact e,f⟩
theorem tM {e:Gh} {l:List V} {st:Sg->Prop} {b:GS} (m:A.handled=Gs) (L:zM e l st b):sM u w A e l st I (uW b) where
 plain:=fun i o h=>⟨_,_,h.1,h.2,by decide⟩
 item:=fun{c ρ G σ s o} i x {Q E} a p f y g h z k=>by
  obtain⟨j,n,q,r⟩:=L a p f;obtain⟨B,C,D⟩:=mY r z;exact wpAny_pyNext_list_item ⟨_,g,h.1,h.2⟩ (aY q) C fun t m F=>by obtain⟨H,J,K,M⟩:=m;exact k B t _ H J ⟨K,M⟩ F D
 stop:=fun{c ρ G σ s o Q E} a p f y g h k=>by
  obtain⟨j,n,q,r⟩:=L a p f
  have v:=r.length
  simp only [Jo] at v;exact wpAny_pyNext_list_end m ⟨_,g,h.1,h.2⟩ (aY q) (by simp [v]) fun t N=>k t s.toks N
 self:=fun{s o} i {Q E} g h k=>wpAny_pyIter_listiter ⟨_,g,h.1,h.2⟩ k
theorem zE {e:Gh} {l:List V} {b:GS} {items:Array Gy} {n:Nat} (j:A.handled=Gs) (z:e.Z b=Gq {cls:=.type "tuple",data:=.seq items n}) (q:VReps e l items.toList):sM u w A e l (fun Y=>True) I (z7 b) where
 plain:=fun i o h=>⟨_,_,h.1,h.2,by decide⟩
 item:=fun{c ρ G σ s o} i x {Q E} a f m t g h v k=>by
  obtain⟨y,B,C⟩:=mY (q.mono f) v;exact wpAny_pyNext_tuple_item ⟨_,g,h.1,h.2⟩ ⟨_,a.inv.froz _ _ (f.Z _ _ z),rfl,_,rfl⟩ B fun p j D=>by obtain⟨F,H,J,K⟩:=j;exact k y p _ F H ⟨J,K⟩ D C
 stop:=fun{c ρ G σ s o Q E} a f m t g h k=>by
  have r:=q.length
  simp only [Jo] at r;exact wpAny_pyNext_tuple_end j ⟨_,g,h.1,h.2⟩ ⟨_,a.inv.froz _ _ (f.Z _ _ z),rfl,_,rfl⟩ (by simp [r]) fun p L=>k p s.toks L
 self:=fun{s o} i {Q E} g h k=>wpAny_pyIter_tupleiter ⟨_,g,h.1,h.2⟩ k
theorem jP {n:Int} {i:Nat} {x:V} (h:(aZ n)[i]? =Gq x):i<n.toNat/\x=.int (i:Int):=by
 unfold aZ at h;rw [Hd] at h;obtain⟨j,f,rfl⟩:=GV.mp h;obtain⟨b,e⟩:=HP.mp f;simp only [N0] at b;simp only [List.getElem_range] at e;exact⟨b,by rw [e]⟩
theorem sd {b:Gh} {n:Int} (j:A.handled=Gs):sM u w A b (aZ n) (fun Z=>True) I (iY n.toNat) where
 plain:=fun i o h=>by cases h;exact⟨_,_,rfl,rfl,by decide⟩
 item:=fun{c ρ G σ s o} i x {Q E} a l e m g h p k=>by
  cases h;obtain⟨v,rfl⟩:=jP p;refine wpAny_pyNext_range_item g (by lia) fun f q r=>k _ f _ _ q ?_ r (bz _ _)
  unfold iY;rw [show((i+1:Nat):Int)=(i:Int)+1 by lia,show((n.toNat:Int) - ((i:Int)+1))=(n.toNat:Int) - (i:Int) - 1 by lia]
 stop:=fun{c ρ G σ s o Q E} a l e m g h k=>by
  cases h;refine wpAny_pyNext_range_end j g ?_ fun f t=>k f s.toks t;simp [aZ]
 self:=fun{s o} i {Q E} g h k=>by
  cases h;exact wpAny_pyIter_rangeiter g k
set_option tactic.hygienic true in
theorem uD (O:aI c) (B:A.handled=Gs) (a:At c ρ G σ s) {x:V} {C:Gy} {l:List V} (H:VRep G x C) (e:aX x σ=Gq l) {Q:Gy->GA->Prop} {E:Gy->GA->Prop}
  (h:∀I q o P,s.heap.get? I=Gs->(∀b o,s.heap.get? b=Gq o->q.heap.get? b=Gq o)->q.gens=s.gens->q.os=s.os->At (c.own I) ρ G σ q->d5 c I->q.heap.get? I=Gq o->P 0 o->(∀A:Hf,A.handled=Gs->sM u w A G l (b9 x l) I P)->Q (.ref I) q):G0 (GO u.prog w) A (NZ C) Q E s:=by
 have f:=aN s.heap
 have r:∀b j n,C=.ref b->s.heap.get? b=Gq (HM j n)->zM G l (b9 x l) b->G0 (GO u.prog w) A (NZ C) Q E s:=fun b j n T J L=>by
  subst T;refine wpAny_pyIter_list (aY J) ?_
  have g:(s.heap.push {cls:=.type "list_iterator",data:=.fields #[.ref b,.int 0 0]}).get? s.heap.objs.size=Gq {cls:=.type "list_iterator",data:=.fields #[.ref b,.int 0 0]}:=Hr _ rfl
  obtain⟨m,K⟩:=a.own (t:=s.toks) O (fun Y Y e=>GQ _ e) f g;exact h _ _ _ (uW b) f (fun Y Y e=>GQ _ e) rfl rfl m K g ⟨rfl,rfl⟩ fun A B=>tM B L
 cases x with
 |ref i=>
  obtain⟨R,rfl⟩:=aU H;unfold aX at e;dsimp only at e
  cases M:σ.cell i with
  |list S=>
   rw [M] at e;rcases e with ⟨⟩
   obtain⟨Z,j,n,J,D⟩:=a.cell R M nofun
   refine r _ j n rfl J fun{c ρ U σ s} m F v=>?_
   have p:i<σ.n/\σ.cell i=.list l:=v
   obtain⟨W,k,X,y,N⟩:=m.cell (i:=i) (by rw [m.inv.N];exact p.1) p.2 nofun
   rw [(F.φ i R).1] at y;exact⟨k,X,y,N⟩
  |_=>rw [M] at e;cases e
 |lst S=>
  rcases e with ⟨⟩
  obtain⟨b,j,n,rfl,z,D⟩:=eJ H;refine r _ j n rfl (a.inv.froz _ _ z) fun{c ρ U σ s} m F v=>⟨j,n,m.inv.froz _ _ (F.Z _ _ z),D.mono F⟩
 |tup S=>
  rcases e with ⟨⟩
  obtain⟨b,j,n,rfl,z,D⟩:=fK H;refine wpAny_pyIter_tuple ⟨_,a.inv.froz _ _ z,rfl,_,rfl⟩ ?_
  have g:(s.heap.push {cls:=.type "tuple_iterator",data:=.fields #[.ref b,.int 0 0]}).get? s.heap.objs.size=Gq {cls:=.type "tuple_iterator",data:=.fields #[.ref b,.int 0 0]}:=Hr _ rfl
  obtain⟨m,K⟩:=a.own (t:=s.toks) O (fun Y Y e=>GQ _ e) f g;exact h _ _ _ (z7 b) f (fun Y Y e=>GQ _ e) rfl rfl m K g ⟨rfl,rfl⟩ fun A B=>zE B z D
 |_=>cases e
theorem mS (B:aI c) (r:A.handled=Gs) (a:At c ρ G σ s) {n:Int} {t:MY} (F:0<=n) (H:n<=1000000) {Q:Gy->GA->Prop} {E:Gy->GA->Prop}
  (h:∀I i o y,s.heap.get? I=Gs->(∀b o,s.heap.get? b=Gq o->i.heap.get? b=Gq o)->i.gens=s.gens->i.os=s.os->At (c.own I) ρ G σ i->d5 c I->i.heap.get? I=Gq o->y 0 o->(∀A:Hf,A.handled=Gs->sM u w A G (aZ n) (fun Z=>True) I y)->Q (.ref I) i):G0 (GO u.prog w) A (K5 (.type "range") [.int n t]) (fun v i=>G0 (GO u.prog w) A (NZ v) Q E i) E s:=by
 refine call_range_1 ?_;refine wpAny_pyIter_range (IsRange.new ..) (small_one (by decide) (by decide) (by lia) (by lia)) ?_
 have l:Pj 0 n 1=(n.toNat:Int):=by rw [rangeSize_one];split<;>lia
 have z:=a.push {cls:=.type "range",dict:=Gs,data:=.fields #[.int 0 s.toks,.int n t,.int 1 (s.toks+1)],slots:= #[]} (s.toks+2)
 rw [l];refine(fun(q:_)=>?_) trivial
 have m:∀ {f:HV} {k:MY},(∀b o,s.heap.get? b=Gq o->f.get? b=Gq o)->Q (.ref f.objs.size) {s with heap:=f.push {cls:=.type "range_iterator",data:=.fields #[H6 0,H6 (n.toNat:Int),H6 1]},toks:=k}:=fun{f k} p=>by
  have j:=a.grow (t:=k) p
  have g:(f.push {cls:=.type "range_iterator",data:=.fields #[H6 0,H6 (n.toNat:Int),H6 1]}).get? f.objs.size=Gq {cls:=.type "range_iterator",data:=.fields #[H6 0,H6 (n.toNat:Int),H6 1]}:=Hr _ rfl
  obtain⟨C,D⟩:=j.own (t:=k) B (fun Z Z e=>GQ _ e) (aN _) g
  exact h _ _ _ (iY n.toNat) ((by
   cases e:s.heap.get? f.objs.size with
   |none=>rfl
   |some o=>exact absurd (Hy (p _ _ e)) (HA _))) (fun Z Z e=>GQ _ (p _ _ e)) rfl rfl C D g (by unfold iY;simp) fun A r=>sd r
 exact m fun Z Z e=>GQ _ e
noncomputable abbrev fu (e:GW):Prop:=∀env x,O7 e env x=HE x
set_option tactic.hygienic true in
theorem Bo {tg z:GW} {t:kw} {j:E} {b:List Iy} {D:List S} {pos:HO} (L:TgtOK names tg t) (hi:ao u d names z j) (M:fu z) (N:cJ u d names b D):bB u d names (.For tg z b [] pos) (.for t j D):=by
 intro w A c ok F g y O ρ G σ s Q X a h;refine wpAny_For (ay hi ok F g y a h fun v H J B x m n p i=>?_) (fun x=>M _ _)
 split at i
 ·rename_i l P;refine uD ok y.handled m p P fun I K o U Z Z Z Z q R T C S=>?_;refine IJ (m_for L N ok F g y O (S A y.handled) R q (.refl _) T C i) fun r V k=>?_
  cases r with
  |ok f=>exact .le n k
  |error e=>exact k
 ·exact i.elim
set_option tactic.hygienic true in
theorem xA {x z:Hb} {k:Nat} {p O P pos:HO} {e:GW} {J:E} {b:List Iy} {K:List S} (R:dB names x k) (T:names.lookup z=Gq .globalImplicit) (U:z="range") (V:ao u d names e J) (W:noStar [e]) (Y:cJ u d names b K):
  bB u d names (.For (.Name x p) (.Call (.Name z O) [e] [] P) b [] pos) (.forR k J K):=by
 subst U;intro w A c ok B g y cf ρ G σ s Q X a h;refine wpAny_For (cP T (by decide) (by decide+kernel) (by decide+kernel) W (.inr ⟨"range",rfl⟩) ok B g a (ay V ok B g y a h fun v L M C x j l m i=>?_)) (fun x=>rfl)
 obtain⟨n,rfl,D,F,i⟩:=i;obtain⟨t,rfl⟩:=aE m;refine mS ok y.handled j D F fun I N o sh Z Z Z Z q ap gI H S=>?_;refine IJ (m_for (tg:=.Name x p) (t:=.loc k) (.name R) Y ok B g y cf (S A y.handled) ap q (.refl _) gI H i) fun r s' k=>?_
 cases r with
 |ok f=>exact .le l k
 |error e=>exact k
end
section
variable {u:U} {d:Nat} {names:List (Hb×G2)} {w:Hh} {A:Hf} {c:Cx} {ρ:List (Option V)} {G z:Gh} {σ σ':Sg} {s j:GA} {I:GS} {o:JH}
theorem gf.trans {Fs:List J2} {g:Gh} {σ₀:Sg} {k h h':HV} (x:gf Fs g σ₀ k G σ h) (y:gf Fs G σ h z σ' h'):gf Fs g σ₀ k z σ' h':=by
 revert Fs g σ₀ k h h';delta G z σ σ';delta Fs g σ₀ k h h'
 have L:∀b o,k.get? b=Gq o->(∀i,aT σ₀ i->b≠g.φ i/\b≠g.δ i)->∀i,aT σ i->b≠G.φ i/\b≠G.δ i:=fun b o e f i n=>by
  by_cases l:i<g.N
  ·have:=f i (x.dead i l n)
   rw [(x.le.φ i l).1,(x.le.φ i l).2];exact this
  ·have:=x.newφ i (HL l) n
   exact⟨fun q=>(by rw [q,this.1] at e;cases e),fun q=>(by rw [q,this.2] at e;cases e)⟩
 have p:∀b,h.get? b=Gs->k.get? b=Gs:=fun b H=>by
  cases e:k.get? b with
  |none=>rfl
  |some o=>obtain⟨M,J⟩:=x.there b ⟨o,e⟩;rw [H] at J;cases J
 refine⟨x.le.trans y.le,fun b o e f=>?_,fun b H=>y.there b (x.there b H),fun i n F=>?_,fun a o e=>?_,fun i n F=>?_⟩
 ·delta b o;obtain⟨r,B,C⟩:=x.keep b o e f;delta r;obtain⟨t,D,v⟩:=y.keep b r B (L b o e f);delta t;refine⟨t,D,?_⟩;rcases C with rfl|⟨m,K,rfl⟩
  ·exact v
  ·delta K;rcases v with rfl|⟨_,E,rfl⟩
   ·exact .inr ⟨m,K,rfl⟩
   ·delta E;exact .inr ⟨m,E,rfl⟩
 ·delta i
  by_cases l:i<G.N
  ·have:=x.newφ i n (y.dead i l F)
   rw [(y.le.φ i l).1,(y.le.φ i l).2];exact this
  ·have:=y.newφ i (HL l) F
   exact⟨p _ this.1,p _ this.2⟩
 ·delta a o;rcases y.newZ a o e with h|h|⟨i,n,h⟩
  ·exact x.newZ a o h
  ·exact .inr (.inl (p a h))
  ·injections i;intro n h
   by_cases l:i<g.N
   ·refine .inr (.inr ⟨i,x.dead i l n,?_⟩);rw [(x.le.φ i l).1,(x.le.φ i l).2] at h;exact h
   ·have:=x.newφ i (HL l) n
    rcases h with rfl|rfl
    ·exact .inr (.inl this.1)
    ·exact .inr (.inl this.2)
 ·delta i;exact x.dead i n (y.dead i (GN n x.le.N) F)
theorem At.after (x:At c ρ G σ s) (g:aI c) (i:ff c.base c.Fs c.Pv z σ' j.heap) (v:gf c.Fs G σ s.heap z σ' j.heap) (t:j.gens=s.gens) (B:j.os=s.os):At c ρ z σ' j:=by
 have n:∀b∈c.Pv,∀o,s.heap.get? b=Gq o->∃f,j.heap.get? b=Gq f/\f.data=o.data:=fun b C o e=>by
  obtain⟨f,l,r⟩:=v.keep b o e (x.inv.pv_ne C);refine⟨f,l,?_⟩;rcases r with rfl|⟨_,D,rfl⟩<;>rfl
 refine⟨i,x.envr.keeps v.le (n _ g.locPv) fun y a e=>n a (g.cellPv y a e).1,x.adv.trans v,t.trans x.gens,B.trans x.os,fun p q=>?_⟩
 have k:=g.pins p q
 obtain⟨f,l,r⟩:=v.keep _ _ (x.pins p q) (x.inv.pv_ne k.1);rcases r with rfl|⟨m,_⟩
 ·exact l
 ·exact absurd m k.2.2.1
theorem At.ns_after (x:At c ρ G σ s) (b:aI c) (v:gf c.Fs G σ s.heap z σ' j.heap):∃m,j.heap.Ns c.env.locals m:=by
 obtain⟨m,f,_⟩:=x.envr;refine⟨m,jQ f fun o e=>?_⟩;obtain⟨g,i,r⟩:=v.keep _ o e (x.inv.pv_ne b.locPv);refine⟨g,i,?_⟩;rcases r with rfl|⟨_,k,rfl⟩<;>rfl
theorem zV (B:aI c) (a:At c ρ G σ s) {Q:V->Sg->Prop} {X:Sg->Prop}:(∀v j,eE c.base c.Fs c.Pv u G σ s Q X (.ok (.ret v)) j->hG c ρ G Q v j)/\∀e j,eE c.base c.Fs c.Pv u G σ s Q X (.error e) j->a9 u c X e j:=by
 revert Q X;delta u c ρ G σ s;delta Q X;refine⟨fun v j k=>?_,fun e j k=>?_⟩
 ·obtain⟨z,σ',x,i,f,g,m,E,q⟩:=k;exact⟨z,σ',x,a.after B i f g m,f.le,E,q⟩
 ·delta e j;obtain⟨z,σ',C,i,f,g,m,⟨b,n,p,F,H,J,K,r⟩,L,M⟩:=k;revert b n p;delta z σ' C;delta b n p;refine⟨z,σ',C,i,a.adv.trans f,g.trans a.gens,m.trans a.os,⟨b,n,p,F,H,J,K,?_⟩,fun q N=>?_,a.ns_after B f,M⟩
  ·rcases r with r|⟨t,O,P,x,R,S,T,U,W,Y,y⟩
   ·exact .inl r
   ·refine .inr ⟨t,O,P,x,R,S,T,U,W,Y,?_⟩;rcases y with y|⟨l,Z,_⟩
    ·exact .inl y
    ·cases Z
  ·cases e:c.s₀.heap.get? q with
   |none=>rfl
   |some o=>obtain⟨o',D⟩:=a.adv.there q ⟨o,e⟩;rw [L q N] at D;cases D
theorem At.base (b:aI c) (a:At c ρ G σ s): @Oo Nat instLENat c.base.objs.size s.heap.objs.size:=by
 obtain⟨⟨o,e⟩,_⟩:=a.inv.pv _ b.locPv;exact Gz b.baseLe (Ia (Hy e))
theorem pN (ok:aI c) (g:Gd u w c.base) (l:Rm A d c.Fs) (a:At c ρ G σ s) {f:GS} {i:List V} {b:List Gy} (r:VReps G i b) {Q:V->Sg->Prop} {X:Sg->Prop} (h:ae u d f i Q X σ):
  G0 (GO u.prog w) A (K5 (.ref f) b) (hG c ρ G Q) (a9 u c X) s:=by
 have e:=zV (u:=u) ok a (Q:=Q) (X:=X)
 refine J8 (IJ (h w A c.base c.Fs c.Pv G s b g l.toC a.inv (At.base ok a) r) fun r j k=>?_)
 cases r with
 |ok m=>
  cases m with
  |ret v=>exact e.1 v j k
  |_=>exact k.elim
 |error x=>exact e.2 x j k
theorem nA {K:I0} {f:Gy} (e:K3 K f=Gu):∀h:HV,K.In h->∃k,(k=MS\/k=Ma\/k=Lm)/\Ls (GO u.prog w) h (keeperOf f) k:=fun h X=>by
 obtain⟨k,b,l⟩:=looks_keep (M:=GO u.prog w) e X;exact⟨k,by rcases b with h|h;exact .inl h;exact .inr (.inl h),l⟩
theorem mu {first:List Gy} {D:Gy} {pos:HO} (K:K3 (u.Kf w.params) D=Gu) (L:aI c) (M:c.env.scope.names=names) (g:Gd u w c.base) (N:Rm A d c.Fs) {i:List GW} {l:List E} (S:SndEs u d names i l) (t:noStar i) (a:At c ρ G σ s) {Q:List V->Sg->Prop} {X:Sg->Prop} {P:Gy->GA->Prop}
  (h:wpEs u.T (ae u d) ρ l Q X σ) (k:∀vs j z σ' rs,At c ρ z σ' j->G.Le z->VReps z rs vs->Q rs σ'->G0 (GO u.prog w) A (K5 D (first++vs)) P (a9 u c X) j):
  G0 (GO u.prog w) A (callWith pos D first (K4 pos (II i c.env)) (Mj pos (KW [] c.env))) P (a9 u c X) s:=by
 have n:∀ {i:List GW},noStar i->(K4 pos (II i c.env)).any (·.1)=Gw:=by
  intro i
  induction i with
  |nil=>intro _;rfl
  |cons e r O=>
   intro F;obtain⟨H,J⟩:=aL (env:=c.env) F;rw [H]
   show(Gw||(K4 pos (II r c.env)).any (·.1))=Gw
   rw [O J];rfl
 refine KV (P:=(u.Kf w.params).In) (by rw [n t];rfl) (nA K) ?_
 have p:=f4 (pos:=pos) L M g N S t a h
 have b:G0 (GO u.prog w) A (spliced (K4 pos (II i c.env))) (fun vs f=>(u.Kf w.params).In f.heap/\G0 (GO u.prog w) A (K5 D (first++vs)) P (a9 u c X) f) (a9 u c X) s:=
  G1 p (fun vs f R=>by obtain⟨v,q,rs,m,y,B,C⟩:=R;exact⟨g.inK.keeps m.inv.stays,k vs f v q rs m y B C⟩) fun Z Z x=>x
 match i,l,S,t,h,p,b with
 |[],[],_,_,h,_,b=>
  refine PySem.evalArgs_none ?_;exact⟨g.inK.keeps a.inv.stays,by simpa using k [] s G σ [] a (.refl _) .nil h⟩
 |e::r,l,S,t,h,p,b=>
  obtain⟨H,J⟩:=aL (env:=c.env) t;rw [H] at b ⊢;exact JZ b
 |[],_::_,S,_,_,_,_=>exact S.elim
theorem sS {x:Hb} {f:GS} {p pos:HO} {l:List GW} {b:List E} (q:names.lookup x=Gq .globalImplicit) (e:lookS x u.gl=Gq (.ref f)) (hd:(x==("__debug__":Hb))=Gw) (r:∀w:Hh,K3 (u.Kf w.params) (.ref f)=Gu)
  (S:SndEs u d names l b) (t:noStar l):ao u d names (.Call (.Name x p) l [] pos) (.callF f b):=by
 intro w A c i m g n ρ G σ s Q X a h;obtain⟨y,B,C,_⟩:=g.globals
 have D:s.heap.Ns c.env.globals y:=by rw [i.glob];exact B.keeps a.inv.stays
 refine Jl (HW i.kind (by unfold Ik;rw [m];exact q) (Jk D (C x _ e) ?_) hd)
 refine mu (r w) i m g n S t a h fun M j z σ' N F H J K=>?_;exact G1 (pN i g n F J K) (fun v L k=>k.le H) fun Z Z x=>x
theorem nu {env:J2} {pos:HO} {b:List GW}:noStar b->(K4 pos (II b env)).all (fun x=>!x.1)=Gu:=by
 induction b with
 |nil=>exact fun Z=>rfl
 |cons e r g=>
  intro f;obtain⟨i,k⟩:=aL (env:=env) f;rw [i];exact g k
theorem tw {T:lU} {n:Nat} {σ:Sg} {v:V} {f:GS} (h:d6 T n σ v=Gq f):∃c,lookT c n T.meths=Gq f:=by
 unfold d6 at h
 cases e:ny σ v with
 |none=>rw [e] at h;cases h
 |some r=>
  rw [e] at h;change ite _ _ _=_ at h
  split at h
  ·cases h
  ·exact⟨_,h⟩
set_option tactic.hygienic true in
theorem sF (q:∀w:Hh,fA u.T (u.Kf w.params)) {o:GW} {L:E} {n:Nat} {x:Hb} {b pos:HO} {i:List GW} {r:List E} (T:ao u d names o L) (U:cX o) (V:nm n=x) (S:SndEs u d names i r) (M:noStar i)
  (F:(GI (i.length+([]:List J0).length+(if([]:List J0).isEmpty then 0 else 1) <30))=Gu) (W:(b.endLine==pos.line)=Gu):ao u d names (.Call (.Attribute o x b) i [] pos) (.callM n L r):=by
 subst V;intro w A c H N g J ρ G σ s Q X a h;rw [ND,U];refine Gv (ay T H N g J a h fun v O P K y l t m e=>?_);refine Gv (HQ ?_)
 split at e
 ·rename_i f D
  have p:No (i.length+([]:List J0).length) (K4 pos (II i c.env)) (Mj pos (KW [] c.env))=Gu:=by
   show((K4 pos (II i c.env)).all (fun x=>!x.1)&&(Mj pos (KW [] c.env)).all (fun x=>x.1.isSome)&&GI (i.length+([]:List J0).length+(if([]:List J0).isEmpty then 0 else 1) <30))=Gu
   rw [nu M,F];rfl
  have B:Kg Gu o c.env b pos=HE pos:=by unfold Kg;simp [W]
  have Y:K3 (u.Kf w.params) (.ref f)=Gu:=by
   obtain⟨C,D⟩:=tw D;exact(GX.mp (Hg.mp (q w).meths _ (im D))).2
  unfold methodCall;rw [p];refine Gv (Ha (nN (q w) g l m D ?_));refine Gv (MV B ?_);refine mu (first:=[v]) Y H N g J S M l e fun vs j z σ' rs a' R r' q'=>?_;exact G1 (pN H g J a' (.cons (m.mono R) r') q') (fun v b' k=>k.le (t.trans R)) fun Z Z x=>x
 ·exact e.elim
end
section
variable {base h:HV} {Fs:List J2} {m:List GS} {G d:Gh} {σ σ₁:Sg}
theorem gf.same (c:ff base Fs m G σ h):gf Fs G σ h G σ h:=
 ⟨.refl _,fun b o e Z=>⟨o,e,.inl rfl⟩,fun Z x=>x,fun i f a=>absurd a.1 (by rw [<-c.N];exact(l2 454041345) f),fun a o e=>.inl e,fun Z Z a=>a⟩
theorem bq {i j:Nat} (a:aT (σ.set i .dead) j):aT σ j/\j≠i:=by
 have b:j≠i:=fun e=>a.2 (by rw [Sg.set_cell,if_pos e])
 exact⟨⟨a.1,fun e=>a.2 (by rw [Sg.set_cell,if_neg b];exact e)⟩,b⟩
theorem gR (c:ff base Fs m G σ h) (i:Nat):ff base Fs m G (σ.set i .dead) h/\gf Fs G σ h G (σ.set i .dead) h:=by
 refine⟨⟨c.N,c.stays,c.frames,fun j f=>?_,fun j f=>c.live j (bq f).1,fun j f=>c.fresh j (bq f).1,fun a b g k=>c.inj a b (bq g).1 (bq k).1,c.froz,c.pv,c.fpv,c.sys⟩,
  ⟨.refl _,fun b o e Z=>⟨o,e,.inl rfl⟩,fun Z x=>x,fun j f a=>absurd (bq a).1.1 (by rw [<-c.N];exact(l2 454041345) f),fun a o e=>.inl e,fun j Z a=>(bq a).1⟩⟩
 rw [Sg.set_cell,if_neg (bq f).2];exact c.cells j (bq f).1
theorem nB {σ₀:Sg} {c:Gh} {a:GS} {o:JH} (g:ff base Fs m G σ h) (l:gf Fs c σ₀ h G σ h) (v:h.get? a=Gq o) (k:base.get? a=Gs) (y:G.Z a=Gs) (hp:a∉m) (s:∀j,aT σ j->G.φ j≠a/\G.δ j≠a)
  (z:∃i,aT σ₀ i/\(a=c.φ i\/a=c.δ i)):ff base Fs m (G.frz a o) σ h/\gf Fs c σ₀ h (G.frz a o) σ h:=by
 have t:=Gh.frz_le G a o y
 have p:∀b,b≠a->(G.frz a o).Z b=G.Z b:=fun b k=>if_neg k
 refine⟨⟨g.N,g.stays,g.frames,fun j n=>(g.cells j n).mono t (g.N▸n.1),g.live,fun j n b k=>?_,g.inj,fun b r e=>?_,fun b k=>?_,g.fpv,g.sys.1,?_⟩,
  ⟨l.le.trans t,l.keep,l.there,l.newφ,fun b r e=>?_,l.dead⟩⟩
 ·have f:=g.fresh j n b k
  refine⟨f.1,?_,f.2.2⟩;rw [p b];exact f.2.1;rcases k with rfl|rfl
  ·exact(s j n).1
  ·exact(s j n).2
 ·by_cases q:b=a
  ·subst q;rw [show(G.frz b o).Z b=Gq o from if_pos rfl] at e
   cases e;exact v
  ·rw [p b q] at e;exact g.froz b r e
 ·obtain⟨A,B,C⟩:=g.pv b k;exact⟨A,B,by rw [p b (fun e=>hp (e▸k))];exact C⟩
 ·obtain⟨r,u⟩:=g.sys.1;rw [p _ (fun e=>by rw [e,k] at u;cases u)];exact g.sys.2
 ·by_cases q:b=a
  ·subst q;exact .inr (.inr z)
  ·rw [p b q] at e;exact l.newZ b r e
theorem oX {i:Nat} (l:ff base Fs m G σ h) (p:aT σ i) (c:ff base Fs m d σ₁ h) (g:gf Fs G (σ.set i .dead) h d σ₁ h) {b:GS} (r:b=G.φ i\/b=G.δ i):
  base.get? b=Gs/\b∉m/\(∀j,aT σ₁ j->d.φ j≠b/\d.δ j≠b)/\d.Z b=Gs:=by
 have f:=l.fresh i p b r
 refine⟨f.1,f.2.2,fun j k=>?_,?_⟩
 ·by_cases s:j<G.N
  ·obtain⟨t,u⟩:=bq (g.dead j s k)
   have:=l.inj i j p t (Hw u) b r
   rw [(g.le.φ j s).1,(g.le.φ j s).2];exact⟨this.1.symm,this.2.symm⟩
  ·have n:=g.newφ j (HL s) k
   obtain⟨⟨o,e⟩,_⟩:=c.live j k;rw [n.1] at e;cases e
 ·cases e:d.Z b with
  |none=>rfl
  |some o=>
   rcases g.newZ b o e with q|q|⟨j,k,q⟩
   ·rw [f.2.1] at q;cases q
   ·obtain⟨⟨z,v⟩,⟨A,y⟩⟩:=l.live i p;rcases r with rfl|rfl
    ·rw [q] at v;cases v
    ·rw [q] at y;cases y
   ·obtain⟨t,u⟩:=bq k
    have:=l.inj i j p t (Hw u) b r
    rcases q with q|q
    ·exact absurd q this.1
    ·exact absurd q this.2
theorem pL {c:List (Nat×V)}:∀ {f:List IH},ARep G c f->EKeys (c.map (·.1)) f/\VReps G (c.map (·.2)) (f.map (·.val)):=by
 induction c with
 |nil=>
  intro f r;subst r;exact⟨rfl,.nil⟩
 |cons n c i=>
  intro f r;obtain⟨e,g,rfl,k,j,l⟩:=r;obtain⟨a,b⟩:=i l;exact⟨⟨e,g,rfl,k,a⟩,.cons j b⟩
theorem qE {b:List (Int×V)}:∀ {c:List (Int×Gy)},DRep G b c->VReps G (b.map (·.2)) (c.map (·.2)):=by
 induction b with
 |nil=>
  intro c r;subst r;exact .nil
 |cons l b f=>
  intro c r;obtain⟨e,g,rfl,k,i,j⟩:=r;exact .cons i (f j)
theorem lR {i:Nat} (j:ff base Fs m G σ h) (k:aT σ i) (c:ff base Fs m d σ₁ h) (l:gf Fs G (σ.set i .dead) h d σ₁ h) {b:GS} {o:JH} (n:b=G.φ i\/b=G.δ i) (g:h.get? b=Gq o):
  ff base Fs m (d.frz b o) σ₁ h/\gf Fs G σ h (d.frz b o) σ₁ h/\d.Le (d.frz b o):=by
 obtain⟨q,r,s,p⟩:=oX j k c l n;obtain⟨e,f⟩:=nB c ((gR j i).2.trans l) g q p r s ⟨i,k,n⟩;exact⟨e,f,Gh.frz_le _ _ _ p⟩
theorem j8 {i:Nat} {c:Cell} (b:σ.cell i=c) (hi:i<σ.n) (hd:c≠.dead):aT σ i:=⟨hi,fun q=>hd (b.symm.trans q)⟩
theorem mi {vs K:List V} {σ':Sg} (f:FrzL σ vs K σ'):∀ {G:Gh} {A:List Gy},ff base Fs m G σ h->VReps G vs A->∃U,ff base Fs m U σ' h/\gf Fs G σ h U σ' h/\VReps U K A:=by
 induction f with
 |nil=>exact fun s r=>⟨_,s,.same s,r⟩
 |keep _ H=>
  intro G A s r;obtain⟨u,A,rfl,ru,I⟩:=r;obtain⟨d,e,b,n⟩:=H s I;exact⟨d,e,b,.cons (ru.mono b.le) n⟩
 |tup _ _ H v=>
  intro G A s r;obtain⟨u,A,rfl,⟨a,y,k,rfl,z,E⟩,I⟩:=r;obtain⟨d,e,b,n⟩:=H s E;obtain⟨M,j,c,N⟩:=v e (I.mono b.le);exact⟨M,j,b.trans c,.cons ⟨a,y,k,rfl,(b.trans c).le.Z _ _ z,n.mono c.le⟩ N⟩
 |list J O _ _ H v=>
  intro G A s r;obtain⟨u,A,rfl,⟨W,rfl⟩,I⟩:=r
  have F:=j8 J O nofun
  have C:=s.cells _ F
  rw [J] at C;obtain⟨y,k,g,E⟩:=C;obtain⟨d,e,b,n⟩:=H (gR s _).1 E;obtain⟨j,c,P⟩:=lR s F e b (.inl rfl) g;obtain⟨B,p,i,D⟩:=v j (I.mono c.le);exact⟨B,p,c.trans i,.cons ⟨_,y,k,rfl,i.le.Z _ _ (if_pos rfl),n.mono (P.trans i.le)⟩ D⟩
 |dict J O _ _ H v=>
  intro G A s r;obtain⟨u,A,rfl,⟨W,rfl⟩,I⟩:=r
  have F:=j8 J O nofun
  have C:=s.cells _ F
  rw [J] at C;obtain⟨Q,⟨o,g,dd⟩,E⟩:=C;obtain⟨d,e,b,n⟩:=H (gR s _).1 (qE E);obtain⟨j,c,P⟩:=lR s F e b (.inl rfl) g;obtain⟨B,p,i,D⟩:=v j (I.mono c.le);exact⟨B,p,c.trans i,.cons ⟨_,Q,rfl,⟨o,i.le.Z _ _ (if_pos rfl),dd⟩,kY E,n.mono (P.trans i.le)⟩ D⟩
 |@inst σ σ₁ σ' a C as K l l' J O _ _ H v=>
  intro G A s r;obtain⟨u,A,rfl,⟨W,rfl⟩,I⟩:=r
  have F:=j8 J O nofun
  have X:=s.cells _ F
  rw [J] at X;obtain⟨g,Y,k,Z,E⟩:=X;obtain⟨ek,E⟩:=pL E;obtain⟨d,e,b,n⟩:=H (gR s _).1 E;obtain⟨j,c,P⟩:=lR s F e b (.inr rfl) Z;obtain⟨m1,m2,m3,m4⟩:=oX s F e b (.inl rfl)
  have ne:G.φ a≠G.δ a:=fun q=>by
   have:=congrArg Obj.data (JI (g.symm.trans ((congrArg h.get? q).trans Z)))
   cases this
  have z2:(d.frz (G.δ a) (Ng Y k)).Z (G.φ a)=Gs:=(if_neg ne).trans m4
  obtain⟨p,i⟩:=nB j c g m1 z2 m2 m3 ⟨a,F,.inl rfl⟩
  have R:=Gh.frz_le _ _ (JX C (G.δ a)) z2
  obtain⟨S,L,t,T⟩:=v p (I.mono i.le);exact⟨S,L,i.trans t,.cons ⟨_,_,Y,k,rfl,t.le.Z _ _ (if_pos rfl),(R.trans t.le).Z _ _ (if_pos rfl),ek,n.mono ((P.trans R).trans t.le)⟩ T⟩
end
section
variable {u:U} {d:Nat}
theorem mcall_frz {f:GS} {i:List V} {Q Q':V->Sg->Prop} {X:Sg->Prop} {σ:Sg} (m:ae u d f i Q' X σ) (k:∀v σ',Q' v σ'->∃t b,FrzL σ' [v] [t] b/\Q t b):ae u d f i Q X σ:=by
 intro w A n B C G s o g D E F H;refine IJ (m w A n B C G s o g D E F H) fun r M h=>?_;unfold eE at h ⊢
 split at h
 ·obtain⟨N,σ',x,y,z,I,J,K,q⟩:=h;obtain⟨t,b,e,L⟩:=k _ _ q;obtain⟨p,j,l,c⟩:=mi e y (.cons K .nil);obtain⟨_,_,e,c,_⟩:=c;cases e;exact⟨p,b,t,j,z.trans l,I,J,c,L⟩
 ·exact h
 ·exact h
theorem kB {f:GS} {i b:List V} {Q:V->Sg->Prop} {X:Sg->Prop} {σ σ':Sg} (e:FrzL σ i b σ') (m:ae u d f b Q X σ'):ae u d f i Q X σ:=by
 intro w A n B C G s o g D E F H;obtain⟨p,j,c,t⟩:=mi e E H;refine IJ (m w A n B C p s o g D j F t) fun r N h=>?_;unfold eE at h ⊢
 split at h
 ·obtain⟨v,σ',x,k,l,y,z,I,q⟩:=h;exact⟨v,σ',x,k,c.trans l,y,z,I,q⟩
 ·exact h
 ·obtain⟨v,σ',J,k,l,y,z,K,L,M⟩:=h;exact⟨v,σ',J,k,c.trans l,y,z,K,L,M⟩
end
section
variable {c:Cx} {ρ:List (Option V)} {G:Gh} {σ:Sg} {s:GA} {u:U} {d:Nat} {names:List (Hb×G2)}
theorem At.frz (a:At c ρ G σ s) (J:aI c) {k:Nat} {y:Hb×G2} {v n:V} {σ':Sg} (H:c.env.scope.names[k]? =Gq y) (K:ρ[k]? =Gq (Gq v)) (e:FrzL σ [v] [n] σ'):∃f,At c (ρ.set k (Gq n)) f σ' s/\G.Le f:=by
 obtain⟨m,L,I,M⟩:=a.envr
 have t:∀(f:Gh) (u:Gy),G.Le f->VRep f n u->(∀j x g,j≠k->c.env.scope.names[j]? =Gq x->ρ[j]? =Gq (Gq g)->fZ c.env f s.heap m x g)->fZ c.env f s.heap m y n->pY c.env (ρ.set k (Gq n)) f s.heap:=fun f u T r N O=>by
  refine⟨m,L,fun j x g z i=>?_,M⟩
  by_cases q:j=k
  ·subst q;rw [H] at z;cases z;rw [Ih] at i;simp only [if_true] at i
   split at i
   ·cases i;exact O
   ·cases i
  ·rw [Ih,if_neg (Hw q)] at i;exact N j x g q z i
 have p:∀u,VRep G v u->(∀f,VRep f n u->fZ c.env f s.heap m y n)->∃f,At c (ρ.set k (Gq n)) f σ' s/\G.Le f:=fun u P Q=>by
  obtain⟨f,C,l,B⟩:=mi e a.inv (.cons P .nil);obtain⟨_,_,R,B,_⟩:=B;cases R
  have A:=a.after J C l rfl rfl
  exact⟨f,⟨A.inv,t f u l.le B (fun j x g Z z i=>(I j x g z i).keeps l.le fun Z Z Z o e=>⟨o,e,rfl⟩) (Q f B),A.adv,A.gens,A.os,A.pins⟩,l.le⟩
 rcases I k y v H K with ⟨D,u,E,F⟩ |⟨D,b,u,E,F,S⟩
 ·exact p u F fun f r=>.inl ⟨D,u,E,r⟩
 ·exact p u S fun f r=>.inr ⟨D,b,u,E,F,r⟩
end
noncomputable def allL:Nat->(List Gy->Prop)->Prop
 |0,P=>P []
 |n+1,P=>∀v,allL n fun l=>P (v::l)
theorem xz {l:List Gy}:∀ {P:List Gy->Prop},allL l.length P->P l:=by
 induction l with
 |nil=>exact fun h=>h
 |cons v l b=>exact fun{P} h=>b (P:=fun l=>P (v::l)) (h v)
def iC (K:I0) (c:Kl) (xs:List Hb) (n:Nat) (ds:List Gy):Prop:=allL n fun b=>∀S,peek K S (bindArgs c ⟨b,[]⟩)=Gq (xs.zip (b++ds))
theorem nS {K:I0} {s:GA} {c:Kl} {xs:List Hb} {b ds:List Gy} (X:K.In s.heap) (h:iC K c xs b.length ds):BindsTo s c ⟨b,[]⟩ (xs.zip (b++ds)):=
 fun M Z Z Z q=>(Looks.of_peek (M:=M) X (xz h _)).here q
theorem nH {xs:List Hb} {vs:List Gy} {n:Hb} (h:n∉xs):(xs.zip vs).lookup n=Gs:=by
 induction xs generalizing vs with
 |nil=>rfl
 |cons x xs b=>
  cases vs with
  |nil=>rfl
  |cons v vs=>
   rw [List.zip_cons_cons,IK]
   have:(n==x)=Gw:=by simpa using fun e:n=x=>h (e▸.head _)
   rw [this];exact b fun q=>h (.tail _ q)
theorem pE {kd:Hb->Option G2} {b:List (Hb×Gy)}:∀ {m:Hb->Option Gy} {y:Hb},b.lookup y=Gs->bindL kd b m y=m y:=by
 induction b with
 |nil=>exact fun Z=>rfl
 |cons e r c=>
  intro m y h;rw [IK] at h
  cases q:y==e.1 with
  |true=>rw [q] at h;cases h
  |false=>
   rw [q] at h;refine(c h).trans ?_
   split
   ·exact if_neg (by simpa using q)
   ·rfl
theorem qB {kd:Hb->Option G2} {b:List (Hb×Gy)}:∀ {m:Hb->Option Gy} {y:Hb},b.lookup y=Gs->bindC kd b m y=m y:=by
 induction b with
 |nil=>exact fun Z=>rfl
 |cons e r c=>
  intro m y h;rw [IK] at h
  cases q:y==e.1 with
  |true=>rw [q] at h;cases h
  |false=>
   rw [q] at h;refine(c h).trans ?_
   split
   ·rfl
   ·exact if_neg (by simpa using q)
theorem nv {kd:Hb->Option G2} {xs:List Hb}:∀ {vs:List Gy} {m:Hb->Option Gy} {i:Nat} {y:Hb} {v:Gy},xs.Nodup->xs[i]? =Gq y->vs[i]? =Gq v->kd y=Gq .local->bindL kd (xs.zip vs) m y=Gq v:=by
 induction xs with
 |nil=>intro _ _ _ _ _ _ h;cases h
 |cons x xs f=>
  intro vs m i y v b d c e
  cases vs with
  |nil=>cases c
  |cons g vs=>
   rw [IW] at b
   cases i with
   |zero=>
    cases d;cases c;refine(pE (nH b.1)).trans ?_;rw [if_pos e];exact if_pos rfl
   |succ i=>exact f b.2 d c e
theorem ww {kd:Hb->Option G2} {xs:List Hb}:∀ {vs:List Gy} {m:Hb->Option Gy} {i:Nat} {y:Hb} {v:Gy},xs.Nodup->xs[i]? =Gq y->vs[i]? =Gq v->kd y≠Gq .local->bindC kd (xs.zip vs) m y=Gq v:=by
 induction xs with
 |nil=>intro _ _ _ _ _ _ h;cases h
 |cons x xs f=>
  intro vs m i y v b d c e
  cases vs with
  |nil=>cases c
  |cons g vs=>
   rw [IW] at b
   cases i with
   |zero=>
    cases d;cases c;refine(qB (nH b.1)).trans ?_;rw [if_neg e];exact if_pos rfl
   |succ i=>exact f b.2 d c e
theorem xJ {ks:List Nat}:∀ {b:List V} {ρ:List (Option V)} {k:Nat} {v:V},((ks.zip b).foldl (fun ρ c=>ρ.set c.1 (Gq c.2)) ρ)[k]? =Gq (Gq v)->(∃i:Nat,ks[i]? =Gq k/\b[i]? =Gq v)\/ρ[k]? =Gq (Gq v):=by
 induction ks with
 |nil=>exact .inr
 |cons g ks d=>
  intro b ρ k v h
  cases b with
  |nil=>exact .inr h
  |cons a b=>
   rcases d h with h|h
   ·obtain⟨i,e,f⟩:=h;exact .inl ⟨i+1,e,f⟩
   ·rw [Ih] at h
    split at h
    ·rename_i q
     split at h
     ·cases h;exact .inl ⟨0,congrArg Gq q,rfl⟩
     ·cases h
    ·exact .inr h
theorem sX {names:List (Hb×G2)} {xs:List Hb}:∀ {ks:List Nat} {i k:Nat},SlotsAt names xs ks->ks[i]? =Gq k->∃x,xs[i]? =Gq x/\dB names x k:=by
 induction xs with
 |nil=>
  intro ks i k b h
  cases ks with
  |nil=>cases h
  |cons _ _=>exact b.elim
 |cons x xs c=>
  intro ks i k b h
  cases ks with
  |nil=>exact b.elim
  |cons d ks=>
   cases i with
   |zero=>cases h;exact⟨x,rfl,b.1⟩
   |succ i=>exact c b.2 h
theorem sL {names:List (Hb×G2)} {xs:List Hb}:∀ {ks:List Nat} {x:Hb},SlotsAt names xs ks->x∈xs->∃k,dB names x k:=by
 induction xs with
 |nil=>intro _ _ _ h;cases h
 |cons y xs c=>
  intro ks x b h
  cases ks with
  |nil=>exact b.elim
  |cons d ks=>
   cases h with
   |head=>exact⟨d,b.1⟩
   |tail _ h=>exact c b.2 h
theorem mE {names:List (Hb×G2)} (hd:(names.map (·.1)).Nodup) {k:Nat} {x:Hb×G2} (h:names[k]? =Gq x):names.lookup x.1=Gq x.2:=
 kind_at (env:={scope:={kind:=.function,names:=names,isGenerator:=Gw,isCoroutine:=Gw},locals:=0,globals:=0,cells:=[]}) hd h
theorem se {names:List (Hb×G2)}:∀ {n:Nat} {acc:List (Hb×GS)} {x:Hb},(acc.lookup x).isSome=Gu->((MH n names acc).lookup x).isSome=Gu:=by
 induction names with
 |nil=>exact fun h=>h
 |cons e r b=>
  intro n acc x h;unfold MH
  split
  ·refine b ?_;rw [IK]
   split
   ·rfl
   ·exact h
  ·exact b h
theorem h9 {names:List (Hb×G2)}:∀ {n:Nat} {acc:List (Hb×GS)} {x:Hb},(x,Jj)∈names->((MH n names acc).lookup x).isSome=Gu:=by
 induction names with
 |nil=>intro _ _ _ h;cases h
 |cons e r b=>
  intro n acc x h;unfold MH;rcases GH.mp h with h|h
  ·subst h;rw [if_pos (by rfl)]
   exact se (by simp)
  ·split<;>exact b h
structure CN (K:I0) (fd:Kl) (body:List Iy):Prop where
 kind:fd.scope.kind=.function
 co:fd.scope.isCoroutine=Gw
 gen:fd.scope.isGenerator=Gw
 glob:fd.globals=Iz
 bi:fd.builtins=KM
 clo:fd.closure=[]
 body:fd.body=.stmts body
 code:codeIn K fd.code fd.qualname=Gu
inductive vI (u:U) (d:Nat) (K:I0) (f:GS) (k n:Nat) (ks:List Nat) (body':List S) (ds:List V):Prop where
 |mk (xs:List Hb) (body:List Iy) (fo:JH) (fd:Kl) (dsv:List Gy) (hf:K.lookup f=Gq fo) (hfd:fo.data=.func fd) (FN:CN K fd body) (nd:(fd.scope.names.map (·.1)).Nodup) (xd:xs.Nodup) (sl:SlotsAt fd.scope.names xs ks) (B:f3 u d fd.scope.names body body')
  (len:fd.scope.names.length=n) (bd:iC K fd xs k dsv) (rds:∀G,VReps G ds dsv)
noncomputable def bh (base:HV) (Fs:List J2) (Pv:List GS) (G:Gh) (σ:Sg) (s:GA) (env:J2):Cx:={base:=base,Fs:=env::Fs,env:=env,Pv:=env.locals::(env.cells.filterMap (fun p=>env.cells.lookup p.1)++Pv),pins:=[],G₀:=G,σ₀:=σ,s₀:=s,comp:=Gw}
noncomputable def dR (n:Nat) (ks:List Nat) (b:List V):List (Option V):=(ks.zip b).foldl (fun d c=>d.set c.1 (Gq c.2)) (IL n Gs)
section
variable {u:U} {d:Nat}
theorem nE {f:GS} {n:Nat} {ks:List Nat} {J:List S} {ds F:List V} {Q:V->Sg->Prop} {X:Sg->Prop} {σ:Sg} (hK:∀w:Hh,vI u d (u.Kf w.params) f F.length n ks J ds)
  (h:wpSs u.T (ae u d) J (dR n ks (F++ds)) (fun fl Y σ'=>match fl with|.next=>Q .none σ'|.ret v=>Q v σ'|.cont=>False) X σ):ae u (d+1) f F Q X σ:=by
 revert f n ks J ds F Q X σ;delta u d;delta f n ks J ds F Q X σ;intro w A l D E G s q' g rm I hb rv;delta w A l D E G s q';obtain⟨xs,r',fo,fd,C',hf,D',FN,nd,xd,sl,B,rfl,bd,E'⟩:=hK w;delta xs r' fo fd C'
 have K:(u.Kf w.params).In s.heap:=g.inK.keeps I.stays
 have ho:s.heap.get? f=Gq fo:=K f fo hf
 have t':=rv.append (E' G)
 rw [<-rv.length] at bd
 have u':s.heap.NoLimit:=g.lim.keeps I.stays
 refine Ob (by have u1:=rm.depth;have u2:KP=1000:=rfl;exact(l3 0x1b4989387a87209d89e93811c10) u1 u2) ho D' FN.co FN.gen FN.body (codeRec_of K FN.code) (nS K bd _ _ _ _ ?_)
 rw [FN.clo];refine Np FN.kind (fun b hb=>?_) fun c he s' x=>?_
 ·obtain⟨hx,_⟩:=List.of_mem_zip (show(b.1,b.2)∈_ from hb)
  obtain⟨k,hk⟩:=sL sl hx;rcases hk with hk|hk
  ·exact .inl (mE nd hk)
  ·exact .inr ⟨mE nd hk,h9 (GJ hk)⟩
 revert s';delta c;delta s'
 have U:c.locals=s.heap.objs.size:=by rw [he];rfl
 have N:c.cells=MH (s.heap.objs.size+1) fd.scope.names []:=by rw [he];rfl
 have R:c.scope=fd.scope:=by rw [he];rfl
 have W:c.frame=Gq c.locals:=by rw [he];rfl
 have F':c.globals=Iz:=by rw [he];exact FN.glob
 have H':c.builtins=KM:=by rw [he];exact FN.bi
 obtain⟨h',tk,rfl⟩:=x.toInCall.same;delta h' tk
 have C:=x.toInCall.keep
 have O:s.heap.get? c.locals=Gs:=by rw [U];exact aN _
 have j':∀y a,c.cells.lookup y=Gq a->s.heap.get? a=Gs:=fun y a e=>by
  have u3:=x.above y a (K6 e)
  cases q:s.heap.get? a with
  |none=>rfl
  |some o=>
   have h1:=Hy q
   rw [U] at u3;exact absurd (JJ u3 h1) (HA _)
 have I':∀y a,c.cells.lookup y=Gq a->a≠c.locals:=fun y a e=>HH (x.above y a (K6 e))
 have i': @Oo Nat instLENat l.objs.size s.heap.objs.size:=hb
 have J':∀y a,c.cells.lookup y=Gq a->a∈(bh l D E G σ s c).Pv:=fun y a e=>.tail _ (GD.mpr (.inl (HF.mpr ⟨(y,a),K6 e,e⟩)))
 have ok:aI (bh l D E G σ s c):=⟨by show c.scope.kind=_;rw [R];exact FN.kind,by show(c.scope.names.map _).Nodup;rw [R];exact nd,.head _,O,by show @Oo Nat instLENat l.objs.size c.locals;rw [U];exact i',
  fun y a e=>⟨J' y a e,I' y a e⟩,fun Y y a Y e=>j' y a e,fun y z a b e1 e2 ne q=>ne (name_of_addr x.apart (K6 e1) (by rw [q];exact K6 e2)),fun p hp=>(by cases hp),F',H',⟨c,D,c.locals,rfl,W,W⟩,
  fun e M L hL=>by
   rcases GH.mp M with rfl|M
   ·rw [W] at hL;cases hL;exact .head _
   ·exact .tail _ (GD.mpr (.inr (I.fpv e M L hL)))⟩
 have Z:∀b∈c.locals::c.cells.filterMap (fun p=>c.cells.lookup p.1),s.heap.get? b=Gs/\∃o,h'.get? b=Gq o:=fun b t=>by
  rcases GH.mp t with rfl|t
  ·obtain⟨o,_,_,e,_⟩:=x.toInCall.ns;exact⟨O,o,e⟩
  ·obtain⟨p,hm,hl⟩:=HF.mp t;obtain⟨o,e,_⟩:=x.cell _ _ hl;exact⟨j' _ _ hl,o,e⟩
 have split:∀b∈(bh l D E G σ s c).Pv,(s.heap.get? b=Gs/\∃o,h'.get? b=Gq o)\/b∈E:=fun b t=>by
  rcases GH.mp t with rfl|t
  ·exact .inl (Z _ (.head _))
  ·rcases GD.mp t with t|t
   ·exact .inl (Z _ (.tail _ t))
   ·exact .inr t
 have b':∀b,s.heap.get? b=Gs->l.get? b=Gs/\G.Z b=Gs:=fun b t=>by
  constructor
  ·cases e:l.get? b with
   |none=>rfl
   |some o=>have u4:=I.stays b o e;rw [t] at u4;cases u4
  ·cases e:G.Z b with
   |none=>rfl
   |some o=>have u5:=I.froz b o e;rw [t] at u5;cases u5
 have K':ff (bh l D E G σ s c).base (bh l D E G σ s c).Fs (bh l D E G σ s c).Pv G σ h':=by
  refine⟨I.N,fun b o e=>C b o (I.stays b o e),?_,fun i hi=>(I.cells i hi).keeps (C _) (C _),fun i hi=>?_,fun i hi b t=>⟨(I.fresh i hi b t).1,(I.fresh i hi b t).2.1,fun q=>?_⟩,I.inj,fun b o e=>C b o (I.froz b o e),fun b t=>?_,ok.fpv,⟨I.sys.1,I.sys.2⟩⟩
  ·exact O8 (by rw [R,FN.kind];decide) W x.toInCall.ns (b' _ O).1 (I.frames.of_keeps fun b o e Y=>⟨o,C b o e,rfl⟩)
  ·obtain⟨⟨o1,e1⟩,⟨o2,e2⟩⟩:=I.live i hi;exact⟨⟨o1,C _ _ e1⟩,⟨o2,C _ _ e2⟩⟩
  ·rcases split b q with ⟨q1,_⟩ |q1
   ·obtain⟨⟨o1,e1⟩,⟨o2,e2⟩⟩:=I.live i hi;rcases t with rfl|rfl
    ·rw [q1] at e1;cases e1
    ·rw [q1] at e2;cases e2
   ·exact(I.fresh i hi b t).2.2 q1
  ·rcases split b t with ⟨q1,q2⟩ |q1
   ·exact⟨q2,b' b q1⟩
   ·obtain⟨⟨o,e⟩,r⟩:=I.pv b q1;exact⟨⟨o,C _ _ e⟩,r⟩
 have v':pY (bh l D E G σ s c).env (dR fd.scope.names.length ks (F++ds)) G h':=by
  refine⟨_,x.toInCall.ns,fun k y v e1 e2=>?_,fun y hy=>?_⟩
  ·have T:fd.scope.names[k]? =Gq y:=by rw [<-R];exact e1
   rcases xJ e2 with ⟨i,h1,h2⟩ |h3
   ·obtain⟨z,h3,h4⟩:=sX sl h1;obtain⟨vv,h5,h6⟩:=t'.get h2
    have hy:y.1=z:=by
     rcases h4 with h4|h4<;> · rw [h4] at T;cases T;rfl
    have y':c.kindOf y.1=Gq y.2:=kind_at ok.nodup e1
    rcases h4 with h4|h4
    ·rw [h4] at T;cases T;exact .inl ⟨rfl,vv,nv xd h3 h5 y',h6⟩
    ·rw [h4] at T;cases T
     have c':(z,Jj)∈fd.scope.names:=GJ h4
     obtain⟨a,ha⟩:=HT.mp (h9 (n:=s.heap.objs.size+1) (acc:=[]) c');rw [<-N] at ha
     have hc:=x.cell z a ha
     rw [ww xd h3 h5 (by rw [y'];simp)] at hc
     exact .inr ⟨.inl rfl,a,vv,ha,hc,h6⟩
   ·rw [M1] at h3
    split at h3<;>cases h3
  ·have c':(y,Jj)∈fd.scope.names:=by rw [<-R];exact hy
   obtain⟨a,ha⟩:=HT.mp (h9 (n:=s.heap.objs.size+1) (acc:=[]) c');rw [<-N] at ha;exact⟨a,_,ha,x.cell y a ha⟩
 have L':gf (bh l D E G σ s c).Fs (bh l D E G σ s c).G₀ (bh l D E G σ s c).σ₀ (bh l D E G σ s c).s₀.heap G σ h':=
  ⟨.refl _,fun b o e Y=>⟨o,C b o e,.inl rfl⟩,fun b hh=>by obtain⟨o,e⟩:=hh;exact⟨o,C b o e⟩,fun i hi ai=>absurd ai.1 (by rw [<-I.N];exact HN.mpr hi),fun a o e=>.inl e,fun Y Y h=>h⟩
 have M':At (bh l D E G σ s c) (dR fd.scope.names.length ks (F++ds)) G σ {s with heap:=h',toks:=tk}:=⟨K',v',L',rfl,rfl,fun p hp=>(by cases hp)⟩
 have N':Rm (A.deeper c) d (bh l D E G σ s c).Fs:=⟨rm.handled,by have u6:=rm.depth;show A.depth+1+20 * d+20<=900;exact(l2 0x1b4989387a87a7181491801b498938749187a149187180) u6,by have u7:=rm.units;show A.units+3+100 * d+100<=9000;exact(l2 0x1b89293928729387a7181496801b89293928749687a149687380) u7,M9 rm.frames⟩
 have k':∀ {G':Gh} {σ':Sg} {ps:List GS} {H:HV},ff (bh l D E G σ s c).base (bh l D E G σ s c).Fs (ps++(bh l D E G σ s c).Pv) G' σ' H->ff l D (ps++E) G' σ' H:=fun{G' σ' ps H} i=>by
  have i1:=i.pv_le (Pv':=ps++(bh l D E G σ s c).Pv) (fun b hb=>hb) i.fpv
  refine⟨i.N,i.stays,i.frames.2.2,i.cells,i.live,fun j hj b t=>⟨(i.fresh j hj b t).1,(i.fresh j hj b t).2.1,fun q=>(i.fresh j hj b t).2.2 ?_⟩,i.inj,i.froz,fun b t=>i.pv b ?_,fun e M L hL=>GD.mpr (.inr (I.fpv e M L hL)),i.sys⟩
  ·rcases GD.mp q with q|q
   ·exact GD.mpr (.inl q)
   ·exact GD.mpr (.inr (.tail _ (GD.mpr (.inr q))))
  ·rcases GD.mp t with q|q
   ·exact GD.mpr (.inl q)
   ·exact GD.mpr (.inr (.tail _ (GD.mpr (.inr q))))
 have d':∀ {G':Gh} {σ':Sg} {H:HV},gf (bh l D E G σ s c).Fs (bh l D E G σ s c).G₀ (bh l D E G σ s c).σ₀ (bh l D E G σ s c).s₀.heap G' σ' H->gf D G σ s.heap G' σ' H:=fun{G' σ' H} v=>
  ⟨v.le,fun b o e f=>by
   obtain⟨o',e',r⟩:=v.keep b o e f;refine⟨o',e',?_⟩;rcases r with rfl|⟨m,r⟩
   ·exact .inl rfl
   ·refine .inr ⟨?_,r⟩;obtain⟨z',M,hL⟩:=HF.mp m;rcases GH.mp M with rfl|M
    ·rw [W] at hL;cases hL;rw [O] at e;cases e
    ·exact HF.mpr ⟨z',M,hL⟩,v.there,v.newφ,v.newZ,v.dead⟩
 have hn:(bh l D E G σ s c).env.scope.names=fd.scope.names:=by show c.scope.names=_;rw [R]
 refine⟨u'.keeps C,codeAny_func (G1 (B w (A.deeper c) (bh l D E G σ s c) ok hn g N' rfl rfl _ G σ _ _ X M' h) (fun f l' ⟨m',f',O',fl,P,n',g'⟩=>?_) fun e l' hx=>?_)⟩
 ·have A':∀v x,VRep m' x v->Q x f'->eE l D E u G σ s Q X (.ok (.ret v)) l':=fun v x rx qx=>by
   have i:=k' (ps:=[]) P.inv
   exact⟨m',f',x,i,d' P.adv,P.gens,P.os,rx,qx⟩
  cases fl with
  |next=>cases n';exact A' _ _ iP g'
  |cont=>exact g'.elim
  |ret v=>obtain⟨vv,rfl,P'⟩:=n';exact A' _ _ P' g'
 ·exact xX ok (M9 rm.frames) hx fun R' B' p' ps i v hg ho Q' nw hX=>⟨B',p',ps,k' i,d' v,hg,ho,Q',nw,hX⟩
end
section
variable {u:U} {d:Nat} {names:List (Hb×G2)} {w:Hh} {A:Hf} {c:Cx} {ρ:List (Option V)} {G:Gh} {σ:Sg} {s:GA}
theorem wN (b:Bool):(if b=Gu then 1 else 0:Nat)<=1:=by cases b<;>decide
theorem tI (a:At c ρ G σ s) (C:GS):∃b,At c ρ b (σ.alloc (.inst C [])) {s with heap:=(s.heap.push J9).push (JX C s.heap.objs.size)}/\G.Le b/\VRep b (.ref σ.n) (.ref (s.heap.objs.size+1)):=by
 have f:(s.heap.push J9).objs.size=s.heap.objs.size+1:=JF ..
 have j:s.heap.get? (s.heap.objs.size+1)=Gs:=by
  cases e:s.heap.get? (s.heap.objs.size+1) with
  |none=>rfl
  |some o=>exact absurd (Hy e) (HN.mpr (Hk _))
 have g:((s.heap.push J9).push (JX C s.heap.objs.size)).get? s.heap.objs.size=Gq J9:=GQ _ (Hr _ rfl)
 have i:((s.heap.push J9).push (JX C s.heap.objs.size)).get? (s.heap.objs.size+1)=Gq (JX C s.heap.objs.size):=by
  have:=Hr (s.heap.push J9) (o:=JX C s.heap.objs.size) rfl
  rwa [f] at this
 refine⟨G.add (s.heap.objs.size+1) s.heap.objs.size,a.track (t:=s.toks) (cl:=.inst C []) (fun Z Z e=>GQ _ (GQ _ e)) j (aN _) ⟨_,i⟩ ⟨_,g⟩ ?_ (by simp),Gh.add_le _ _ _,iU a⟩
 exact⟨by rw [dC.1,dC.2];exact i,[],0,by rw [dC.2];exact g,rfl⟩
def zX (T:lU) (M:aC) (C:GS) (b:List V) (Q:V->Sg->Prop) (X:Sg->Prop) (σ:Sg):Prop:=match lookC C T.inits with
 |some (Gq f)=>M f (.ref σ.n::b) (fun r e=>r=.none/\Q (.ref σ.n) e) X (σ.alloc (.inst C []))
 |some Gs=>match b with
  |[]=>Q (.ref σ.n) (σ.alloc (.inst C []))
  |_=>False
 |none=>False
set_option tactic.hygienic true in
theorem AT (B:fA u.T (u.Kf w.params)) (ok:aI c) (g:Gd u w c.base) (E:Rm A d c.Fs) (a:At c ρ G σ s) {C:GS} {j:List V} {i:List Gy} (r:VReps G j i) {Q:V->Sg->Prop} {X:Sg->Prop}
  (h:zX u.T (ae u d) C j Q X σ):G0 (GO u.prog w) A (K5 (.ref C) i) (hG c ρ G Q) (a9 u c X) s:=by
 revert C j i Q X;delta u d w A c ρ G σ s;revert Q X;delta C j i;delta Q X
 have K:(u.Kf w.params).In s.heap:=g.inK.keeps a.inv.stays
 obtain⟨p,l,H,I⟩:=tI a C;delta p;unfold zX at h
 split at h
 ·rename_i f J;delta f
  have z:=Hg.mp B.inits _ (b7 J)
  simp only [kq,HJ,beq_iff_eq] at z;refine J8 ?_;obtain⟨n,L,O,t,P⟩:=s;delta n L O t P;refine make_core (makes_of K z.1.1) (KD K z.2.1) (fun y=>bind_fn K y (beq_iff_eq.mp z.2.2)) (.inl rfl) ?_
  have R:D3 (A.under (.builtin "type.__call__" ⟨.ref C::i,[]⟩)) d c.Fs:=by
   have h1:=E.depth
   have h2:=E.units
   refine⟨E.handled,?_,?_,?_⟩
   ·have S:(Ip "type.__call__" ⟨.ref C::i,[]⟩).weight<=4:=by
     unfold Code.weight
     have:(Ip "type.__call__" ⟨.ref C::i,[]⟩).frames<=1:=by unfold Pk;exact wN _
     have hg:(Ip "type.__call__" ⟨.ref C::i,[]⟩).isGuard=Gw:=by rfl
     have hc:(Ip "type.__call__" ⟨.ref C::i,[]⟩).isCaller=Gw:=by rfl
     have hk:(Ip "type.__call__" ⟨.ref C::i,[]⟩).isCreation=Gu:=by rfl
     rw [hg,hc,hk];simp only [if_true,Hz,if_false];exact(l1 0x1b1801b487087087180) this
    show A.depth+(Ip "type.__call__" ⟨.ref C::i,[]⟩).weight+20 * d+10<=900
    exact(l3 0x1b498938749187101b4821b4989387a871720) h1 S
   ·have S:(Ip "type.__call__" ⟨.ref C::i,[]⟩).cUnits<=4:=by
     have:(Ip "type.__call__" ⟨.ref C::i,[]⟩).frames<=1:=by unfold Pk;exact wN _
     show 1+3 * (Ip "type.__call__" ⟨.ref C::i,[]⟩).frames<=4
     exact(l1 0x3b1801b487a03818) this
    show A.units+(Ip "type.__call__" ⟨.ref C::i,[]⟩).cUnits+100 * d+50<=9000
    exact(l3 0x1b89293928749687101b4821b892939287293871720) h2 S
   ·show pushEnvs (Ip "type.__call__" ⟨.ref C::i,[]⟩).envs A.frames=_
    rw [E.frames];rfl
  have e:=zV (u:=u) ok l (Q:=fun r D=>r=.none/\Q (.ref σ.n) D) (X:=X)
  refine IJ (h w _ c.base c.Fs c.Pv p _ _ g R l.inv (At.base ok l) (.cons I (r.mono H))) fun r U k=>?_
  cases r with
  |ok fl=>
   cases fl with
   |ret v=>
    obtain⟨G',T,x,a',W,rx,⟨rfl,q⟩⟩:=e.1 v U k;exact⟨vH rx,G',T,_,a',H.trans W,I.mono W,q⟩
   |_=>exact k.elim
  |error x=>exact e.2 x U k
 ·rename_i J
  have z:=Hg.mp B.inits _ (b7 J)
  simp only [kq,HJ,beq_iff_eq] at z
  split at h
  ·subst r;obtain⟨m,F,N,k'⟩:=a.fr ok;delta m;refine J8 ?_
   have Y:=makes_of (M:=GO u.prog w) K z.1.1
   obtain⟨n,L,O,t,P⟩:=s;delta n L O t P
   have Z:=(N.push F J9).push (F.push _) (JX C n.objs.size)
   rw [JF] at Z;refine make_core Y (KD K z.2) (fun y=>MI (oi_bind y)) (.inr ⟨rfl,rfl⟩) ?_
   have t1:Ls (GO u.prog w) ((n.push J9).push (JX C n.objs.size)) (OW (.ref (n.objs.size+1))) (.ref C):=(Mk (Z _ (.head _)).1).andThen .now
   have t2:Ls (GO u.prog w) ((n.push J9).push (JX C n.objs.size)) (OX (.ref (n.objs.size+1)) (.type "object")) Gu:=t1.andThen (Y.top.keeps fun b o e=>GQ _ (GQ _ e))
   refine Lx oi_plain entry_oi (@check_slot (GO u.prog w) _ _ _ "object.__init__" "object" "__init__" (.ref (n.objs.size+1)) [] [] _ oi_kind oi_split t2 (oi_args (.ref (n.objs.size+1))) ?_);rw [oi_run];exact GR (Oy rfl ⟨p,_,_,l,H,I,h⟩)
  ·exact h.elim
 ·exact h.elim
theorem rZ (b:∀w:Hh,fA u.T (u.Kf w.params)) {x:Hb} {C:GS} {p pos:HO} {l:List GW} {f:List E} (q:names.lookup x=Gq .globalImplicit) (e:lookS x u.gl=Gq (.ref C)) (hd:(x==("__debug__":Hb))=Gw)
  {i:Option GS} (r:lookC C u.T.inits=Gq i) (S:SndEs u d names l f) (t:noStar l):ao u d names (.Call (.Name x p) l [] pos) (.callC C f):=by
 intro w A c j m g n ρ G σ s Q X a h;obtain⟨y,z,B,_⟩:=g.globals
 have D:s.heap.Ns c.env.globals y:=by rw [j.glob];exact z.keeps a.inv.stays
 refine Jl (HW j.kind (by unfold Ik;rw [m];exact q) (Jk D (B x _ e) ?_) hd)
 have o:=Hg.mp (b w).inits _ (b7 r)
 simp only [kq,HJ] at o;refine mu o.1.2 j m g n S t a h fun M N O F P H I J K=>?_;exact G1 (AT (b w) j g n H J K) (fun v L k=>k.le I) fun Z Z x=>x
end
inductive ClsG (K:I0) (C:GS) (x:Hb) (f:GS):Prop
 |val (h1:Pd K (.ref C) "__getattribute__"=Gq (Gq (.builtin "type.__getattribute__"))) (h2:readsIn K C (.type "type")=Gu) (h3:K3 K (.ref f)=Gu) (h:findCls K (.ref C) (.type "type") x=Gq (.val (.ref f))):ClsG K C x f
 |get (h1:Pd K (.ref C) "__getattribute__"=Gq (Gq (.builtin "type.__getattribute__"))) (h2:readsIn K C (.type "type")=Gu) (h3:K3 K (.ref f)=Gu) (p:GS) {r:List Gy} (h:findCls K (.ref C) (.type "type") x=Gq (.get (.builtin "staticmethod.__get__") (.ref p) .none (.ref C))) (h5:recIn K p "staticmethod"=Gq (.ref f::r)):ClsG K C x f
section
variable {u:U} {d:Nat} {names:List (Hb×G2)} {w:Hh} {A:Hf} {c:Cx} {ρ:List (Option V)} {G:Gh} {σ:Sg} {s:GA}
set_option tactic.hygienic true in
theorem yw {C f:GS} {x:Hb} {pl:Kw Bool} (X:(u.Kf w.params).In s.heap) (h:ClsG (u.Kf w.params) C x f) {Q:Gy×List Gy->GA->Prop} {E:Gy->GA->Prop} (k:∀tk,Q (.ref f,[]) {s with toks:=tk}):
  G0 (GO u.prog w) A (NO (.ref C) x pl) Q E s:=by
 revert C f x pl Q E;delta u w A s;revert Q E;delta C f x pl;delta Q E
 cases h with
 |val b g _ e=>exact method_cls X b (cls_value X g e rfl (k _))
 |get b g _ p e i=>exact method_cls X b (cls_bind X g e (J8 (sm_get (s:={s with toks:=s.toks+1}) X i (handed_on rfl (k _)))))
theorem sP {y x:Hb} {C f:GS} {B b pos:HO} {i:List GW} {l:List E} (J:names.lookup y=Gq .globalImplicit) (e:lookS y u.gl=Gq (.ref C)) (hd:(y==("__debug__":Hb))=Gw) (D:∀w:Hh,ClsG (u.Kf w.params) C x f)
  (S:SndEs u d names i l) (F:noStar i)
  (p:(GI (i.length+([]:List J0).length+(if([]:List J0).isEmpty then 0 else 1) <30))=Gu) (K:(b.endLine==pos.line)=Gu):ao u d names (.Call (.Attribute (.Name y B) x b) i [] pos) (.callF f l):=by
 intro w A c o H g I ρ G σ s Q X a h;obtain⟨L,M,N,_⟩:=g.globals
 have O:s.heap.Ns c.env.globals L:=by rw [o.glob];exact M.keeps a.inv.stays
 have P:K3 (u.Kf w.params) (.ref f)=Gu:=by
  cases D w with
  |val _ _ q _=>exact q
  |get _ _ q _ _ _=>exact q
 rw [ND,show∀m r (t:Kw Gy),LQ _ m r t=t from fun Z Z Z=>rfl]
 refine Gv (HW o.kind (by unfold Ik;rw [H];exact J) (Jk O (N y _ e) ?_) hd)
 refine Gv (HQ ?_)
 have j:No (i.length+([]:List J0).length) (K4 pos (II i c.env)) (Mj pos (KW [] c.env))=Gu:=by
  show((K4 pos (II i c.env)).all (fun x=>!x.1)&&(Mj pos (KW [] c.env)).all (fun x=>x.1.isSome)&&GI (i.length+([]:List J0).length+(if([]:List J0).isEmpty then 0 else 1) <30))=Gu
  rw [nu F,p];rfl
 have n:Kg Gu (.Name y B) c.env b pos=HE pos:=by unfold Kg;simp [K]
 unfold methodCall;rw [j];refine Gv (Ha (yw (g.inK.keeps a.inv.stays) (D w) fun R=>?_));refine Gv (MV n ?_)
 have z:=a.tok R
 refine mu (first:=[]) P o H g I S F z h fun vs s' G' T rs z U V W=>?_;exact G1 (pN o g I z V W) (fun v Y k=>k.le U) fun Z Z x=>x
end
section
variable {M:Model} {A:Hf} {E:Gy->GA->Prop} {s:GA} {env:J2}
def br (M:Model) (A:Hf) (E:Gy->GA->Prop) (use:Option (Gy->Kw Unit)) (Q:Gy->GA->Prop) (acc:Gy) (cenv:J2) (r:ME) (c:GA):Prop:=
 match r,use with
 |.ok _,Gs=>∃m,c.heap.Ns cenv.locals m/\∀b,Io cenv.locals c.heap b->Q acc {c with heap:=b}
 |.ok _,Gq u=>G0 M A (u acc) (fun Z d=>∃m,d.heap.Ns cenv.locals m/\∀b,Io cenv.locals d.heap b->Q .none {d with heap:=b}) E c
 |.error x,_=>∃m,c.heap.Ns cenv.locals m/\∀b e,b.Ns cenv.locals e->Io cenv.locals c.heap b->G0 M A (passOn "comprehension.variables-let-go" x cenv:Kw Gy) (fun Z Z=>False) E {c with heap:=b}
theorem bk {e:GW} {scope:IN} {pos:HO} {b first:Kw Gy} {g:JD} {K:List JD} {cl:List (Hb×GS)} {use:Option (Gy->Kw Unit)}
  {Q:Gy->GA->Prop}
  (L:clausesOf e=g::K) (U:∀x,O7 g.iter env x=HE x) (t:∀(V:Gy->GA->Prop) (p:GA) (P:List (Hb×GS)->GA->Prop),P cl p->G0 M A (closureFor scope env) P V p)
  (j:scope.kind=.function) (q:∀x∈scope.names,x.2=.local->scope.names.lookup x.1=Gq .local)
  (h:G0 M A first (fun x l=>G0 M A (NZ x) (fun H k=>G0 M A b (fun acc i=>
   G0 M A (Ly scope env.globals cl [] env.qual Gs .none (Gq env)) (fun cenv c=>
    IP M A (.compStart e 0 H acc {cenv with scope:=I5 scope env}) (br M A E use Q acc {cenv with scope:=I5 scope env}) c) E i) E k) E l) E s):
  G0 M A (K7 e scope env pos b Gw first use) Q E s:=by
 revert e scope pos b first g K cl use Q;delta M A E s env;delta e scope pos b first g K cl use Q;unfold K7;rw [L]
 refine Gv (G1 h (fun x l z=>Gv (HQ (Gv (MV (U x) (Gv (Ha (G1 z (fun H k B=>
  wpAny_standIf (Gv (G1 B (fun acc i C=>Gv (t _ _ _ (Gv (G1 C (fun cenv c D=>?_) fun Z Z d=>d)))) fun Z Z d=>d)))
   fun Z Z d=>d))))))) fun Z Z d=>d)
 revert H k acc i cenv c;delta x l;revert acc i cenv c;delta H k;revert cenv c;delta acc i;delta cenv c;dsimp only
 have I:∀x∈(scope.names.filter fun x=>(x.2==.local||x.2==.cell)&&x.1 != (".0":Hb)).reverse,x.2=.local->
   Ik {cenv with scope:=I5 scope env} x.1=Gq .local:=fun x N J=>lookup_relabel_local (q x (HZ.mp (Oc.mp N)).1 J)
 have O:∀x∈(scope.names.filter fun x=>(x.2==.local||x.2==.cell)&&x.1 != (".0":Hb)).reverse.drop 1++(scope.names.filter fun x=>(x.2==.local||x.2==.cell)&&x.1 != (".0":Hb)).reverse.take 1,
   x.2=.local->Ik {cenv with scope:=I5 scope env} x.1=Gq .local:=fun x N J=>by
  rcases GD.mp N with R|R
  ·exact I x (List.mem_of_mem_drop R) J
  ·exact I x (List.mem_of_mem_take R) J
 refine Ha (Gv (wpAny_attempt (Ha (wpAny_run (IJ D fun r p v=>?_)))));delta r p
 cases r with
 |ok f=>
  cases use with
  |none=>
   obtain⟨m,F,v⟩:=v;exact Gv (Ha (MJ (cenv:={cenv with scope:=I5 scope env}) j _ p m I F fun d G Z n=>GR (v d n)))
  |some u=>
   refine Gv (KJ (Gv (Ha (G1 v (fun Z S o=>?_) fun Z Z d=>d))));obtain⟨m,F,o⟩:=o;exact Gv (MJ (cenv:={cenv with scope:=I5 scope env}) j _ S m O F fun d G Z n=>GR (o d n))
 |error x=>
  have o:∃m,p.heap.Ns cenv.locals m/\∀d G,d.Ns cenv.locals G->Io cenv.locals p.heap d->G0 M A (passOn "comprehension.variables-let-go" x {cenv with scope:=I5 scope env}:Kw Gy) (fun Z Z=>False) E {p with heap:=d}:=by cases use<;>exact v
  obtain⟨m,F,v⟩:=o;exact Gv (Ha (MJ (cenv:={cenv with scope:=I5 scope env}) j _ p m I F fun d G T n=>G1 (v d G T n) (fun Z Z f=>f.elim) fun Z Z y=>y))
theorem cQ {c:IN} (D:∀x,(x,HU)∈c.names->∃a,env.cells.lookup x=Gq a):
  ∃cl:List (Hb×GS),(∀(i:Gy->GA->Prop) (f:GA) (P:List (Hb×GS)->GA->Prop),P cl f->G0 M A (closureFor c env) P i f)/\
   (∀x a,cl.lookup x=Gq a->env.cells.lookup x=Gq a)/\∀x,(x,HU)∈c.names->∃a,cl.lookup x=Gq a:=by
 revert c;delta M A env;delta c
 have t:∀(l:List (Hb×G2)) (d:List (Hb×GS)),(∀x,(x,HU)∈l->∃a,env.cells.lookup x=Gq a)->(∀x a,d.lookup x=Gq a->env.cells.lookup x=Gq a)->
   ∃cl:List (Hb×GS),(∀(i:Gy->GA->Prop) (f:GA) (P:List (Hb×GS)->GA->Prop),P cl f->G0 M A (Oj l d fun x B=>do
    if x.2==.free then HE (.yield ((x.1, <-cellOf env x.1)::B)) else HE (.yield B)) P i f)/\
    (∀x a,cl.lookup x=Gq a->env.cells.lookup x=Gq a)/\(∀x,(d.lookup x).isSome=Gu->(cl.lookup x).isSome=Gu)/\∀x,(x,HU)∈l->(cl.lookup x).isSome=Gu:=by
  intro l
  induction l with
  |nil=>intro d _ r;exact⟨d,fun i f P h=>by rw [Mx];exact GR h,r,fun Z h=>h,fun x h=>(by cases h)⟩
  |cons y l C=>
   intro d u r;obtain⟨n,k⟩:=y
   by_cases v:k=.free
   ·subst v;obtain⟨a,e⟩:=u n (.head _)
    have z:∀x b,Pc x ((n,a)::d)=Gq b->env.cells.lookup x=Gq b:=fun x b h=>by
     rw [IK] at h
     cases q:x==n with
     |true=>rw [q] at h;cases h;rw [beq_iff_eq.mp q];exact e
     |false=>rw [q] at h;exact r x b h
    obtain⟨cl,j,m,o,p⟩:=C ((n,a)::d) (fun x g=>u x (.tail _ g)) z;refine⟨cl,fun i f P h=>?_,m,fun x g=>o x ?_,fun x g=>?_⟩
    ·rw [Mb];simp only [beq_self_eq_true,if_true];exact Gv (Gv (wpAny_cellOf e (GR (j i f P h))))
    ·rw [IK]
     split
     ·rfl
     ·exact g
    ·rcases GH.mp g with q|q
     ·cases q;exact o _ (by simp)
     ·exact p x q
   ·obtain⟨cl,j,m,o,p⟩:=C d (fun x g=>u x (.tail _ g)) r;refine⟨cl,fun i f P h=>?_,m,o,fun x g=>?_⟩
    ·rw [Mb]
     have:(k==HU)=Gw:=by simpa using v
     simp only [this,Hz,if_false];exact Gv (GR (j i f P h))
    ·rcases GH.mp g with q|q
     ·cases q;exact absurd rfl v
     ·exact p x q
 obtain⟨cl,j,m,o,p⟩:=t c.names [] D (fun Z Z h=>by cases h)
 refine⟨cl,fun i f P h=>?_,m,fun x g=>HT.mp (p x g)⟩
 have:=j i f P h
 exact Gv (G1 this (fun Z Z x=>GR x) fun Z Z x=>x)
end
structure bQ (names:List (Hb×G2)) (scope:IN) (vars:List (Option Nat)) (t:Nat) (x:Hb):Prop where
 kind:scope.kind=.function
 nd:(scope.names.map (·.1)).Nodup
 cell:∀y∈scope.names,y.2≠.cell
 vars:∀(k:Nat) y,scope.names[k]? =Gq y->(y.2≠.free/\(vars[k]?).join=Gs)\/(y.2=.free/\∃j,vars[k]? =Gq (Gq j)/\names[j]? =Gq (y.1,.cell))
 tgt:scope.names[t]? =Gq (x,.local)
noncomputable def dq (b:IN):List (Hb×G2):=b.names.map fun(n,k)=>if k==.free then(n,.cell) else(n,k)
noncomputable def og (b:List (Option Nat)) (ρ:List (Option V)):List (Option V):=b.map fun
 |none=>Gs
 |some k=>(ρ[k]?).join
section
variable {u:U} {d:Nat} {names:List (Hb×G2)} {w:Hh} {A:Hf} {c:Cx} {ρ:List (Option V)} {G F:Gh} {σ σ':Sg} {s H B:GA} {I D C:GS} {o:JH} {l:IN} {E:List (Option Nat)} {t:Nat} {x:Hb}
theorem cI (st:bQ names l E t x) (b:aI c) (f:c.env.scope.names=names):(I5 l c.env).names=dq l:=by
 delta names c l E t x;refine Jr fun y g=>?_;delta y;obtain⟨n,k⟩:=y;delta n k;obtain⟨i,m⟩:=IF g;delta i
 by_cases e:k=.free
 ·subst e;rcases st.vars i _ m with ⟨h,_⟩ |⟨_,j,_,p⟩
  ·exact absurd rfl h
  ·have:=kind_at b.nodup (k:=j) (x:=(n,.cell)) (by rw [f];exact p)
   simp only [this,b.kind,beq_self_eq_true,Bool.and_self,if_true]
 ·have:(k==HU)=Gw:=by simpa using e
  simp only [this,Mw,Hz,if_false]
theorem At.weaken {b:List (Option V)} (a:At c ρ G σ s) (h:∀(k:Nat) v,b[k]? =Gq (Gq v)->ρ[k]? =Gq (Gq v)):At c b G σ s:=by
 obtain⟨m,e,f,g⟩:=a.envr;exact⟨a.inv,⟨m,e,fun k y v i j=>f k y v i (h k v j),g⟩,a.adv,a.gens,a.os,a.pins⟩
theorem At.toOwn (a:At c ρ G σ s) (k:∃o,s.heap.get? I=Gq o) (m:c.base.get? I=Gs/\G.Z I=Gs) (n:∀j,aT σ j->∀b,(b=G.φ j\/b=G.δ j)->b≠I):At (c.own I) ρ G σ s:=
 ⟨⟨a.inv.N,a.inv.stays,a.inv.frames,a.inv.cells,a.inv.live,fun i f b e=>⟨(a.inv.fresh i f b e).1,(a.inv.fresh i f b e).2.1,fun q=>by
  rcases GH.mp q with q|q
  ·exact n i f b e q
  ·exact(a.inv.fresh i f b e).2.2 q⟩,a.inv.inj,a.inv.froz,fun b e=>by
  rcases GH.mp e with rfl|e
  ·exact⟨k,m⟩
  ·exact a.inv.pv b e,fun g p L r=>.tail _ (a.inv.fpv g p L r),a.inv.sys⟩,a.envr,a.adv,a.gens,a.os,a.pins⟩
noncomputable def Cx.cmp (c:Cx) (l:IN) (cl:List (Hb×GS)) (I D C:GS) (G:Gh) (σ:Sg) (s:GA):Cx:=
 {base:=c.base,Fs:=c.Fs,env:=Jb l cl C c.env,Pv:=C::D::I::c.Pv,pins:=[],G₀:=G,σ₀:=σ,s₀:=s,comp:=Gu}
theorem kP (J:aI c) (a:At c ρ G σ B) {cl:List (Hb×GS)} {K:List (Option V)} (Q:B.heap.get? I=Gs) (R:B.heap.get? D=Gs) (S:B.heap.get? C=Gs) (L:D≠C) (M:D≠I) (N:C≠I)
  (g:At (c.cmp l cl I D C G σ B) K F σ' H) {f:HV} {ce:Cell} {tk:MY} {O:JH} (P:L3 I H.heap f) (Z:H.heap.get? D=Gq O) (rr:f.get? D=Gq O->io (F.add D D) f F.N ce) (hd:ce≠.dead):
  At (c.own C) ρ (F.add D D) (σ'.alloc ce) {H with heap:=f,toks:=tk}/\d5 c C:=by
 have i:ff c.base c.Fs c.Pv F σ' H.heap:=g.inv.pv_le (fun b p=>.tail _ (.tail _ (.tail _ p))) J.fpv
 have r:=a.after J i g.adv g.gens g.os
 have m:∀q,B.heap.get? q=Gs->q∉c.Pv/\c.s₀.heap.get? q=Gs:=fun q T=>⟨(a.free T).1.2.2,(a.free T).2.2⟩
 have U:=g.inv.pv C (.head _)
 have W:=g.inv.pv D (.tail _ (.head _))
 have X:=g.inv.pv I (.tail _ (.tail _ (.head _)))
 have v:=r.toOwn X.1 X.2 fun j n b p q=>(g.inv.fresh j n b p).2.2 (q▸.tail _ (.tail _ (.head _)))
 have y:=v.loose (h':=f) (t:=tk) J ⟨(m I Q).1,(m I Q).2⟩ fun b o nb e=>P b o nb e
 have z:=y.toOwn (by obtain⟨o,e⟩:=U.1;exact⟨o,P C o N e⟩) U.2 fun j n b p q=>(g.inv.fresh j n b p).2.2 (q▸.head _)
 have k:f.get? D=Gq O:=P D _ M Z
 have Y:qF (c.own C) F σ' D:=⟨⟨W.2.1,W.2.2,fun q=>by
  rcases GH.mp q with q|q
  ·exact L q
  ·exact(m D R).1 q⟩,fun j n=>⟨fun q=>(g.inv.fresh j n _ (.inl rfl)).2.2 (by rw [q];exact .tail _ (.head _)),fun q=>(g.inv.fresh j n _ (.inr rfl)).2.2 (by rw [q];exact .tail _ (.head _))⟩,(m D R).2⟩
 exact⟨z.adopt' Y Y ⟨_,k⟩ ⟨_,k⟩ (rr k) hd,(m C S).1,(m C S).2⟩
theorem Bi (st:bQ names l E t x) (i:aI c) (P:c.env.scope.names=names) (a:At c ρ G σ B) {cl:List (Hb×GS)} (f:∀x a,cl.lookup x=Gq a->c.env.cells.lookup x=Gq a) (r:B.heap.get? C=Gs)
  (k: @Oo Nat instLENat c.base.objs.size C):aI (c.cmp l cl I D C G σ B):=by
 have j:∀b∈c.Pv,b≠C:=fun b m q=>by
  obtain⟨⟨o,e⟩,_⟩:=a.inv.pv b m;rw [q,r] at e;cases e
 have g:∀b∈c.Pv,b∈(c.cmp l cl I D C G σ B).Pv:=fun b m=>.tail _ (.tail _ (.tail _ m))
 refine⟨st.kind,?_,.head _,r,?_,fun y b e=>⟨g b (i.cellPv y b (f y b e)).1,j b (i.cellPv y b (f y b e)).1⟩,fun h=>(by cases h),fun y z b v J K=>i.cellInj y z b v (f y b J) (f z v K),fun p M=>(by cases M),i.glob,i.bi,i.frame,fun n N L O=>g L (i.fpv n N L O)⟩
 ·show((I5 l c.env).names.map (·.1)).Nodup
  have:(I5 l c.env).names.map (·.1)=l.names.map (·.1):=by
   rw [HG];refine Jr fun y Z=>?_
   show(if _ then _ else _:Hb×G2).1=_
   split<;>rfl
  rw [this];exact st.nd
 ·exact k
theorem BG (st:bQ names l E t x) (ok:aI c) (hn:c.env.scope.names=names) (a:At c ρ G σ B) {cl:List (Hb×GS)} (W:∀x a,cl.lookup x=Gq a->c.env.cells.lookup x=Gq a) (L:∀x,(x,HU)∈l.names->∃a,cl.lookup x=Gq a)
  (hI:B.heap.get? I=Gs) (hD:B.heap.get? D=Gs) (hC:B.heap.get? C=Gs) (n:∀b o,B.heap.get? b=Gq o->s.heap.get? b=Gq o) (gI:∃o,s.heap.get? I=Gq o) (gD:∃o,s.heap.get? D=Gq o) (ns:∃m,s.heap.Ns C m)
  (hg:s.gens=B.gens) (ho:s.os=B.os):At (c.cmp l cl I D C G σ B) (og E ρ) G σ s:=by
 revert l E t x cl;delta names c ρ G σ s B I D C;revert cl;delta l E t x;delta cl
 have g:=a.grow (t:=s.toks) n
 have gC:∃o,s.heap.get? C=Gq o:=by obtain⟨m,o,_,_,e,_⟩:=ns;exact⟨o,e⟩
 have S:∀q,B.heap.get? q=Gs->(c.base.get? q=Gs/\G.Z q=Gs)/\∀j,aT σ j->∀b,(b=G.φ j\/b=G.δ j)->b≠q:=fun q hq=>by
  have f:=a.free hq
  refine⟨⟨f.1.1,f.1.2.1⟩,fun j hj b M=>?_⟩;rcases M with rfl|rfl
  ·exact(f.2.1 j hj).1
  ·exact(f.2.1 j hj).2
 have g1:=g.toOwn gI (S I hI).1 (S I hI).2
 have g2:=g1.toOwn gD (S D hD).1 (S D hD).2
 have g3:=g2.toOwn gC (S C hC).1 (S C hC).2
 obtain⟨m,hm⟩:=ns;delta m;obtain⟨mp,e',sl,cc⟩:=g.envr;delta mp;refine⟨g3.inv,⟨m,hm,fun k y v e1 N=>?_,fun y hy=>?_⟩,⟨.refl _,fun b o e Y=>⟨o,n b o e,.inl rfl⟩,fun b hh=>by obtain⟨o,e⟩:=hh;exact⟨o,n b o e⟩,fun i hi ai=>absurd ai.1 (by rw [<-a.inv.N];exact HN.mpr hi),fun a o e=>.inl e,fun Y Y h=>h⟩,hg,ho,fun p hp=>(by cases hp)⟩
 ·delta k y v
  have O:(dq l)[k]? =Gq y:=by rw [<-cI st ok hn];exact e1
  unfold dq at O;rw [Hd] at O;obtain⟨z,T,rfl⟩:=GV.mp O;delta z;unfold og at N;rw [Hd] at N;delta z;obtain⟨vj,P,N⟩:=GV.mp N;injections vj;intro P N;rcases st.vars k z T with ⟨h1,U⟩ |⟨h1,j,U,h3⟩
  ·rw [P] at U;subst U;cases N
  ·delta j;rw [P] at U;simp only [MR] at U;subst U
   have J:(ρ[j]?).join=Gq v:=N
   have e3:ρ[j]? =Gq (Gq v):=by
    cases q:ρ[j]? with
    |none=>rw [q] at J;cases J
    |some r=>rw [q] at J;simp only [Option.join_some] at J;rw [J]
   obtain⟨V,X⟩:=z;delta V X;subst h1
   have Z:=GJ T
   obtain⟨b,M⟩:=L V Z;rcases sl j _ v (by rw [hn];exact h3) e3 with ⟨q,_⟩ |⟨_,b',uu,Q,R,r⟩
   ·cases q
   ·refine .inr ⟨.inl rfl,b,uu,M,?_,r⟩
    have:=W _ _ M
    simp only at Q;rw [this] at Q;cases Q;exact R
 ·delta y
  have d':(y,Jj)∈dq l:=by rw [<-cI st ok hn];exact hy
  obtain⟨z,T,K⟩:=Hj.mp d';delta z;obtain⟨V,X⟩:=z;delta V X
  by_cases q:X=.free
  ·subst q;simp only [beq_self_eq_true,if_true,Ml,and_true] at K;subst K;obtain⟨b,M⟩:=L V T;obtain⟨k,hk⟩:=IF T;rcases st.vars k _ hk with ⟨h,_⟩ |⟨_,j,_,h3⟩
   ·exact absurd rfl h
   ·obtain⟨b',c',h4,h5⟩:=cc V (by rw [hn];exact GJ h3)
    have:=W _ _ M
    rw [h4] at this;cases this;exact⟨_,c',M,h5⟩
  ·have:(X==HU)=Gw:=by simpa using q
   simp only [this,Hz,if_false,Ml] at K;exact absurd K.2 (st.cell _ T)
end
section
variable {u:U} {d:Nat} {names:List (Hb×G2)} {w:Hh} {A:Hf} {c:Cx} {ρ:List (Option V)} {G j:Gh} {σ σ':Sg} {s B H:GA} {I D C:GS} {o:JH} {f:IN} {t:Nat} {x:Hb}
theorem At.priv2 (a:At c ρ G σ s) (l:aI c) {q:GS} (m:q∈c.Pv) (n:c.s₀.heap.get? q=Gs) (hp:∀p∈c.pins,p.1≠q) (r:∀env∈c.Fs,env.frame≠Gq q) (v:c.env.locals≠q) (z:∀y b,c.env.cells.lookup y=Gq b->b≠q) {h':HV} {tk:MY} {k:JH}
  (i:Io q s.heap h') (g:h'.get? q=Gq k):At c ρ G σ {s with heap:=h',toks:=tk}:=
 a.priv l m n hp i.2 ⟨k,g,.inr r⟩ (a.envr.keeps (.refl _) (fun o e=>⟨o,(i.2 _ v).trans e,rfl⟩) fun y b e o E=>⟨o,(i.2 b (z y b e)).trans E,rfl⟩)
structure w5 (c:Cx) (q:GS):Prop where
 pv:q∈c.Pv
 new:c.s₀.heap.get? q=Gs
 fr:∀env∈c.Fs,env.frame≠Gq q
 loc:c.env.locals≠q
 cells:∀y b,c.env.cells.lookup y=Gq b->b≠q
noncomputable def Cx.pins2 (c:Cx) (p q:GS×JH):Cx:={c with pins:=[p,q]}
theorem jz.pins2 {u:U} {c:Cx} {p q:GS×JH} {X:Sg->Prop} {e:Gy} {s:GA} (h:jz u (c.pins2 p q) X e s):jz u c X e s:=by
 obtain⟨j,σ',b,L,g,i,k,l,m,n,r,v,y⟩:=h;exact⟨j,σ',b,L,g,i,k,l,m,n,r,v,y⟩
theorem nG (g:aI c) {p q:GS×JH} (hp:w5 c p.1) (m:w5 c q.1):aI (c.pins2 p q):=
 ⟨g.kind,g.nodup,g.locPv,g.locNew,g.baseLe,g.cellPv,g.cellNew,g.cellInj,fun r k=>by
  have i:w5 c r.1:=by
   rcases GH.mp k with rfl|k
   ·exact hp
   ·rcases GH.mp k with rfl|k
    ·exact m
    ·cases k
  refine⟨i.pv,fun e=>i.loc e.symm,fun z=>?_,fun y b e z=>i.cells y b e z.symm⟩;obtain⟨l,n,v⟩:=HF.mp z;exact i.fr l n v,g.glob,g.bi,g.frame,g.fpv⟩
theorem pu {g' c':GW} {J:E} {px pos:HO} (he:ao u d names g' J) (ok:aI c) (j':c.pins=[]) (hn:c.env.scope.names=names) (g:Gd u w c.base) (rm:Rm A d c.Fs) {L:Gh} {l:List V} {st:Sg->Prop} {sh:Nat->JH->Prop} (S:sM u w A L l st I sh)
  (oI:w5 c I) (oD:w5 c D) (q':I≠D) (r':names[t]? =Gq (x,.local)) (F':∀v,ρ[t]? ≠Gq (Gq v)) (hl:l.length<=1000000)
  (a:At c ρ G σ s) (le:L.Le G) (gI:s.heap.get? I=Gq o) (h0:sh 0 o) {n0:Nat} (gD:s.heap.get? D=Gq (HM #[] n0)) {Q:List V->Sg->Prop} {X:Sg->Prop} {R:ME->GA->Prop}
  (h:compW (fun i Q' X' M=>wpE u.T (ae u d) (ρ.set t (Gq i)) J Q' X' M) st X l [] Q σ)
  (H':∀B j σ' W items n h' tk,At c ρ j σ' B->G.Le j->B.heap.get? D=Gq (HM items n)->VReps j W items.toList->Q W σ'->L3 I B.heap h'->R (.ok .next) {B with heap:=h',toks:=tk})
  (I':∀e B,jz u c X e B->R (.error e) B):
  IP (GO u.prog w) A (.compLoop (.ListComp g' [⟨.Name x px,c',[],0⟩] f pos) 0 (.ref I) (.ref D) c.env) R s:=by
 revert I D o f t x g' c' J px pos L l st sh n0 Q X R;delta u d names w A c ρ G σ s;revert pos L l st sh n0 Q X R;delta I D o f t x g' c' J px;revert n0 Q X R;delta pos L l st sh;revert Q X R;delta n0;delta Q X R
 have fr:=rm.frames
 refine codeAny_compLoop_list (fun n s=>∃i W items Y j σ o,n=l.length+1 - i/\i<=l.length/\W.length=i/\At c ρ j σ s/\G.Le j/\s.heap.get? I=Gq o/\sh i o/\s.heap.get? D=Gq (HM items Y)/\VReps j W items.toList/\
   compW (fun i Q' X' M=>wpE u.T (ae u d) (ρ.set t (Gq i)) J Q' X' M) st X (l.drop i) W Q σ) ?_ (l.length+1) ⟨0,[], #[],n0,G,σ,o,rfl,G4 _,rfl,a,.refl _,gI,h0,gD,.nil,h⟩
 rintro n s ⟨i,W,items,Y,d',σ,o,rfl,hi,k',a,O,gI,l',gD,rr,h⟩
 injections s i W items Y d' σ o;intro hi k' a O gI l' gD rr h
 by_cases e':i<l.length
 ·have hd:l.drop i=l[i]::l.drop (i+1):=Kt e'
  rw [hd] at h;refine S.item i l[i] a (le.trans O) h.1 oI.pv gI l' (G8 e') fun vx h' tk o' t' u' sb rx=>?_;delta vx h' tk o'
  have J':h'.get? D=Gq (HM items Y):=(sb.2 D (Hw q')).trans gD
  have T:=a.priv2 (tk:=tk) ok oI.pv oI.new (fun p hp=>by rw [j'] at hp;cases hp) oI.fr oI.loc oI.cells sb t'
  have m':=nG (p:=(I,o')) (q:=(D,HM items Y)) ok oI oD
  have aP:At (c.pins2 (I,o') (D,HM items Y)) ρ d' σ {s with heap:=h',toks:=tk}:=⟨T.inv,T.envr,T.adv,T.gens,T.os,fun r hr=>by
   rcases GH.mp hr with rfl|hr
   ·exact t'
   ·rcases GH.mp hr with rfl|hr
    ·exact J'
    ·cases hr⟩
  have v':(c.pins2 (I,o') (D,HM items Y)).env.scope.names=names:=hn
  refine Iv (dK (c:=c.pins2 (I,o') (D,HM items Y)) m' v' aP (.inl r') (.inr r') rx fun y' z'=>?_);delta y'
  refine G1 (ay he m' v' g rm z' h.2 (P:=fun v b=>G0 (GO u.prog w) A (K5 (.builtin "list.append") [.ref D,v]) (fun Z f'=>∃m,m<l.length+1 - i/\∃i W items Y j σ o,m=l.length+1 - i/\i<=l.length/\W.length=i/\At c ρ j σ f'/\G.Le j/\f'.heap.get? I=Gq o/\sh i o/\f'.heap.get? D=Gq (HM items Y)/\VReps j W items.toList/\
   compW (fun i Q' X' M=>wpE u.T (ae u d) (ρ.set t (Gq i)) J Q' X' M) st X (l.drop i) W Q σ) (M8 (GO u.prog w) A c.env fun e B=>R (.error e) B) b) fun v b b' K y z i' A' B'=>?_) (fun Z Z x=>x) fun e B hx=>?_
  ·delta v b b' K y
   have p':b.heap.get? I=Gq o':=z.pins (I,o') (.head _)
   have U:b.heap.get? D=Gq (HM items Y):=z.pins (D,HM items Y) (.tail _ (.head _))
   have C':Ja _=_:=rr.length
   have D':At c ρ b' K b:=(show At c _ b' K b from⟨z.inv,z.envr,z.adv,z.gens,z.os,fun p hp=>by rw [j'] at hp;cases hp⟩).weaken fun k v e=>by
    by_cases q:k=t
    ·subst q;exact absurd e (F' v)
    ·rw [Ih,if_neg (Hw q)];exact e
   refine call_meets Ox (cA U).1 F.entry_list_append (F.args_list_append_2 _ _) (PySem.list_append D items Y v (by rw [C',k'];exact(l2 0x1b09492949f811c101b090909090909180) hl e')) ⟨U,?_⟩
   obtain⟨n',g2⟩:∃n',(b.heap.update D (Hs fun xs=>xs.push v)).get? D=Gq (HM (items.push v) n'):=⟨_,Lu (h:=b.heap) (l:=D) U (fun xs=>xs.push v)⟩
   have E':=D'.priv2 (tk:=b.toks) (h':=b.heap.update D (Hs fun xs=>xs.push v)) ok oD.pv oD.new (fun p hp=>by rw [j'] at hp;cases hp) oD.fr oD.loc oD.cells (P1 ..) g2
   exact⟨l.length+1 - (i+1),by lia,i+1,W++[y],items.push v,n',b',K,o',rfl,e',by simp [k'],E',O.trans i',(Hl _ _ (Hw q')).trans p',u',g2,by rw [IC];exact(rr.mono i').append (.cons A' .nil),B'⟩
  ·exact jh m' fr hx fun K' N=>I' e K' N.pins2
 ·have L':i=l.length:=IE ((l2 454040336) hi) ((l2 520166160) e')
  subst L';rw [Oa] at h;refine S.stop a (le.trans O) h.1 oI.pv gI l' fun h' tk eb=>?_;exact H' s d' σ W items Y h' tk a O gD rr h.2 eb
end
section
variable {u:U} {d:Nat} {names:List (Hb×G2)} {w:Hh} {A:Hf} {c:Cx} {ρ:List (Option V)} {G B:Gh} {σ σ':Sg} {s p f:GA} {I D C:GS} {o:JH} {scope:IN} {j:List (Option Nat)} {t:Nat} {x:Hb}
theorem tW (l:aI c) (a:At c ρ G σ f) {cl:List (Hb×GS)} (hC:f.heap.get? C=Gs) {X:Sg->Prop} {e:Gy} (N:jz u (c.cmp scope cl I D C G σ f) X e p) {h':HV} (n:Io C p.heap h') (ex:∃o,h'.get? C=Gq o):
  jz u c X e {p with heap:=h'}:=by
 revert scope cl X e h';delta u c ρ G σ p f I D C;revert h';delta scope cl X e;delta h';obtain⟨B,σ',O,L,hf,iv,av,hg,ho,nt,nw,⟨m,hm⟩,hX⟩:=N;revert m;delta B σ' O L;delta m
 have P:gf c.Fs c.G₀ c.σ₀ c.s₀.heap B σ' p.heap:=a.adv.trans av
 have i:∀b,f.heap.get? b=Gs->c.s₀.heap.get? b=Gs:=fun b g=>(a.free g).2.2
 have Q:ff c.base c.Fs ((C::O)++c.Pv) B σ' p.heap:=iv.pv_le (fun b g=>by
  rcases GH.mp g with rfl|g
  ·exact GD.mpr (.inr (.head _))
  ·rcases GD.mp g with q|q
   ·exact GD.mpr (.inl q)
   ·exact GD.mpr (.inr (.tail _ (.tail _ (.tail _ q))))) fun k R L S=>GD.mpr (.inr (l.fpv k R L S))
 have T:∀b∈C::O,c.s₀.heap.get? b=Gs:=fun b g=>by
  rcases GH.mp g with rfl|g
  ·exact i _ hC
  ·exact i _ (nw b g)
 have v:C∉c.Pv:=(a.free hC).1.2.2
 have cF:C∉eU c.Fs:=fun q=>by
  obtain⟨k,R,S⟩:=HF.mp q;exact v (l.fpv k R C S)
 obtain⟨y,oe,E,F,ot,ts,rfl,ha,H,J,rfl,U,h1,ht,K,h3⟩:=nt;delta y oe E F ot ts
 have V:p.heap.Ns C m:=hm
 have M:∀q o E,p.heap.get? q=Gq o->o.data=.fields E->q≠C:=fun q o E e J z=>by
  obtain⟨o',_,_,W,Y,_⟩:=V;rw [z,W] at e;cases e;rw [Y] at J;cases J
 have ga:=(n.2 _ (M y _ _ ha J)).trans ha
 have gt:=(n.2 _ (M F _ _ ht K)).trans ht
 have gg:∀b∈[y,F],∃o,h'.get? b=Gq o:=fun b g=>by
  rcases GH.mp g with rfl|g
  ·exact⟨_,ga⟩
  ·rcases GH.mp g with rfl|g
   ·exact⟨_,gt⟩
   ·cases g
 obtain⟨i',a',n'⟩:=gE (ps':=[y,F]) (h':=h') Q P T l.fpv (fun b o e q Z=>(n.2 b fun z=>q (z▸.head _)).trans e) (fun b g o e=>⟨o.slots,(n.2 b fun z=>cF (z▸g)).trans e⟩) (fun b g=>⟨gg b g,.inl (.tail _ g)⟩) (fun b g=>by
   rcases GH.mp g with rfl|g
   ·exact ex
   ·exact gg b g)
 refine⟨B,σ',_,L,hf,i',a',hg.trans a.gens,ho.trans a.os,⟨y,oe,E,F,ot,ts,rfl,ga,H,J,rfl,U,h1,gt,K,h3⟩,n',?_,hX⟩;obtain⟨mp,b'⟩:=a.ns_after l av;obtain⟨o',es,ep,W,r⟩:=b';exact⟨mp,o',es,ep,(n.2 _ fun z=>v (by rw [<-z];exact l.locPv)).trans W,r⟩
theorem qm (v:aI c) {X:Sg->Prop} {e:Gy} {b:String} {env:J2} (y:env.frame=c.env.frame) (N:jz u c X e s) {q:Type} {Q:q->GA->Prop}:G0 (GO u.prog w) A (PySem.passOn b e env:Kw q) Q (a9 u c X) s:=by
 obtain⟨B,σ',T,L,z,U,V,W,Y,⟨a,Z,vs,t,ot,ts,rfl,E,r,F,rfl,H,J,ht,K,h3⟩,nw,_,hX⟩:=id N;refine Gv (JQ E F J ?_);rw [if_neg (by simp)]
 refine Gv (gj v N fun M i g k O P l m x R S n=>wpAny_throw ?_);exact⟨i,g,k,O,P,l,m,x _ (.inr y),R,S,n⟩
theorem lu (st:bQ names scope j t x):(dq scope)[t]? =Gq (x,.local):=by
 rw [Hd,st.tgt];rfl
theorem qU (st:bQ names scope j t x) (v:V):(og j ρ)[t]? ≠Gq (Gq v):=fun e=>by
 unfold og at e;rw [Hd] at e;obtain⟨k,b,e⟩:=GV.mp e;rcases st.vars t _ st.tgt with ⟨_,g⟩ |⟨i,_⟩
 ·rw [b] at g;subst g;cases e
 ·cases i
structure CM (c:Cx) (scope:IN) (cl:List (Hb×GS)) (j:List (Option Nat)) (ρ:List (Option V)) (G:Gh) (σ:Sg) (f:GA) (I D C:GS) (o ob:JH) (s₃:GA):Prop where
 nI:f.heap.get? I=Gs
 nD:f.heap.get? D=Gs
 nC:f.heap.get? C=Gs
 DC:D≠C
 DI:D≠I
 CI:C≠I
 ok:aI (c.cmp scope cl I D C G σ f)
 oI:w5 (c.cmp scope cl I D C G σ f) I
 oD:w5 (c.cmp scope cl I D C G σ f) D
 at':At (c.cmp scope cl I D C G σ f) (og j ρ) G σ s₃
 gI:s₃.heap.get? I=Gq o
 gD:s₃.heap.get? D=Gq ob
theorem rU (g:aI c) (a:At c ρ G σ f) {cl:List (Hb×GS)} (i:f.heap.get? C=Gs) {X:Sg->Prop} {e:Gy} (N:jz u (c.cmp scope cl I D C G σ f) X e p) {use:Option (Gy->Kw Unit)} {P:Gy->GA->Prop}:
  br (GO u.prog w) A (a9 u c X) use P (.ref D) (Jb scope cl C c.env) (.error e) p:=by
 obtain⟨_,_,_,_,_,_,_,_,_,_,_,⟨m,k⟩,_⟩:=id N;refine⟨m,k,fun q r b l=>?_⟩;obtain⟨v,_,_,n,_⟩:=b;exact qm (env:=Jb scope cl C c.env) g rfl (tW g a i N l ⟨_,n⟩)
theorem rD {use:Option (Gy->Kw Unit)} {e:GW} {S:String} {Q:Data} (b':sizeOk Q) (c':Obj.isFreed {cls:=.type S,dict:=Gs,data:=Q}=Gw) (Z:bQ names scope j t x) (R:aI c) (hn:c.env.scope.names=names)
  (a:At c ρ G σ f) {v:List (Hb×GS)} (J:∀x a,v.lookup x=Gq a->c.env.cells.lookup x=Gq a) (T:∀x,(x,HU)∈scope.names->∃a,v.lookup x=Gq a)
  (hI:f.heap.get? I=Gs) (l:∀b o,f.heap.get? b=Gq o->s.heap.get? b=Gq o) (hg:s.gens=f.gens) (ho:s.os=f.os) (gI:s.heap.get? I=Gq o)
  {P:Gy->GA->Prop} {X:Sg->Prop} {E':Gy->GA->Prop}
  (h:∀D C i,CM c scope v j ρ G σ f I D C o {cls:=.type S,dict:=Gs,data:=Q} i->
   IP (GO u.prog w) A (.compStart e 0 (.ref I) (.ref D) (Jb scope v C c.env)) (br (GO u.prog w) A (a9 u c X) use P (.ref D) (Jb scope v C c.env)) i):
  G0 (GO u.prog w) A (newObj (.type S) Q) (fun U i=>G0 (GO u.prog w) A (Ly scope c.env.globals v [] c.env.qual Gs .none (Gq c.env)) (fun H V=>
   IP (GO u.prog w) A (.compStart e 0 (.ref I) U {H with scope:=I5 scope c.env}) (br (GO u.prog w) A (a9 u c X) use P U {H with scope:=I5 scope c.env}) V) E' i) E' s:=by
 refine KU (hd:=b') (wpAny_newFunctionEnv Z.cell (by intro y hy;simp at hy) (fun m k g=>?_) Z.kind)
 generalize K:s.heap.push {cls:=.type S,dict:=Gs,data:=Q}=E at k g ⊢
 have hC:E.objs.size=s.heap.objs.size+1:=by rw [<-K,JF]
 have F:∀b,@LT.lt Nat instLTNat b s.heap.objs.size->b≠E.objs.size/\b≠s.heap.objs.size:=fun b hb=>⟨by rw [hC];exact G6 (GB hb),G6 hb⟩
 have L:s.heap.objs.size≠E.objs.size:=by rw [hC];exact G6 (Gx _)
 have M:∀b o,s.heap.get? b=Gq o->m.get? b=Gq o:=fun b o e=>g.extBut b o (F b (Hy e)).1 (GQ _ (K▸GQ _ e))
 have gD:m.get? s.heap.objs.size=Gq {cls:=.type S,dict:=Gs,data:=Q}:=g.extBut _ _ L (GQ _ (K▸Hr _ c'))
 have n:∀q,@Oo Nat instLENat s.heap.objs.size q->f.heap.get? q=Gs:=fun q W=>by
  cases e:f.heap.get? q with
  |none=>rfl
  |some o'=>exact absurd (Hy (l _ _ e)) (HN.mpr W)
 have hD:=n _ (GL _)
 have N:=n E.objs.size (by rw [hC];exact Hk _)
 have d':aI (c.cmp scope v I s.heap.objs.size E.objs.size G σ f):=Bi Z R hn a J N (by
  rw [hC];obtain⟨⟨o',e⟩,_⟩:=a.inv.pv _ R.locPv;exact Gz R.baseLe (Gz (Ia (Hy (l _ _ e))) (Hk _)))
 have a':At (c.cmp scope v I s.heap.objs.size E.objs.size G σ f) (og j ρ) G σ {s with heap:=m,toks:=s.toks+([]:List (Hb×Gy)).length}:=
  BG Z R hn a J T hI hD N (fun b o e=>M b o (l b o e)) ⟨_,M _ _ gI⟩ ⟨_,gD⟩ ⟨_,k⟩ hg ho
 have Y:∀b∈c.Pv,∃o,f.heap.get? b=Gq o:=fun b hb=>(a.inv.pv b hb).1
 have r:∀q,f.heap.get? q=Gs->q∈(c.cmp scope v I s.heap.objs.size E.objs.size G σ f).Pv->E.objs.size≠q->w5 (c.cmp scope v I s.heap.objs.size E.objs.size G σ f) q:=fun q W hp f'=>
  ⟨hp,W,fun g' he hL=>(by obtain⟨o',e⟩:=Y q (R.fpv g' he q hL);rw [W] at e;cases e),f',fun y b e z=>(by obtain⟨o',e'⟩:=Y b (R.cellPv y b (J y b e)).1;rw [z,W] at e';cases e')⟩
 have O:=Hy gI
 exact h _ _ _ ⟨hI,hD,N,L,Hw (F I O).2,Hw (F I O).1,d',r I hI (.tail _ (.tail _ (.head _))) (Hw (F I O).1),r _ hD (.tail _ (.head _)) (Hw L),a',M _ _ gI,gD⟩
theorem lJ {use:Option (Gy->Kw Unit)} {K z:GW} {F:E} {px pos:HO} (st:bQ names scope j t x) (he:ao u d (dq scope) K F) (ok:aI c) (hn:c.env.scope.names=names) (g:Gd u w c.base) (rm:Rm A d c.Fs) {l:List V} {T:Sg->Prop} {sh:Nat->JH->Prop} (S:sM u w A G l T I sh)
  (a:At c ρ G σ f) {cl:List (Hb×GS)} (f':∀x a,cl.lookup x=Gq a->c.env.cells.lookup x=Gq a) (U:∀x,(x,HU)∈scope.names->∃a,cl.lookup x=Gq a)
  (hI:f.heap.get? I=Gs) (W:∀b o,f.heap.get? b=Gq o->s.heap.get? b=Gq o) (hg:s.gens=f.gens) (ho:s.os=f.os) (gI:s.heap.get? I=Gq o) (h0:sh 0 o) (hl:l.length<=1000000)
  {Q:List V->Sg->Prop} {P:Gy->GA->Prop} {X:Sg->Prop} {E':Gy->GA->Prop}
  (h:compW (fun i Q' X' Y=>wpE u.T (ae u d) ((og j ρ).set t (Gq i)) F Q' X' Y) T X l [] Q σ)
  (hP:∀(D C:GS) (p:GA) (B:Gh) (σ':Sg) (Z:List V) (m:Hb->Option Gy),(∃L,At (c.own C) ρ L (σ'.alloc (.list Z)) p/\d5 c C/\G.Le L/\VRep L (.ref σ'.n) (.ref D))->p.heap.Ns C m->Q Z σ'->
   br (GO u.prog w) A (a9 u c X) use P (.ref D) (Jb scope cl C c.env) (.ok .next) p):
  G0 (GO u.prog w) A (newList []) (fun acc y=>G0 (GO u.prog w) A (Ly scope c.env.globals cl [] c.env.qual Gs .none (Gq c.env)) (fun cenv b'=>
   IP (GO u.prog w) A (.compStart (.ListComp K [⟨.Name x px,z,[],0⟩] scope pos) 0 (.ref I) acc {cenv with scope:=I5 scope c.env}) (br (GO u.prog w) A (a9 u c X) use P acc {cenv with scope:=I5 scope c.env}) b') E' y) E' s:=by
 refine rD (by size_fits) rfl st ok hn a f' U hI W hg ho gI fun D C y k=>?_
 have g':Rm A d (c.cmp scope cl I D C G σ f).Fs:=rm
 have H:IP (GO u.prog w) A (.compLoop (.ListComp K [⟨.Name x px,z,[],0⟩] scope pos) 0 (.ref I) (.ref D) (Jb scope cl C c.env))
   (br (GO u.prog w) A (a9 u c X) use P (.ref D) (Jb scope cl C c.env)) y:=by
  refine pu (c:=c.cmp scope cl I D C G σ f) he k.ok rfl (cI st ok hn) g g' S k.oI k.oD (Hw k.DI) (lu st) (qU st) hl k.at' (.refl _) k.gI h0 k.gD h
   (fun J c' M Z O n d' tk v e' R rr q eb=>?_) fun e J N=>rU ok a k.nC N
  obtain⟨m,⟨oL,es,ep,eL,rL⟩,_⟩:=v.envr;refine hP D C {J with heap:=d',toks:=tk} c' M Z m ?_ ⟨oL,es,ep,eb _ _ k.CI eL,rL⟩ q
  have r:=kP (tk:=tk) (ce:=.list Z) ok a k.nI k.nD k.nC k.DC k.DI k.CI v eb R (fun i'=>⟨O,n,by rw [dC.1];exact i',rr.mono (Gh.add_le _ _ _)⟩) (by simp)
  refine⟨_,r.1,r.2,e'.trans (Gh.add_le _ _ _),?_⟩;refine⟨by rw [<-v.inv.N];exact Gx _,?_⟩
  rw [<-v.inv.N,dC.1]
 exact codeAny_compStart_list H (S.self 0 k.gI h0 H)
end
section
variable {u:U} {d:Nat} {names:List (Hb×G2)} {w:Hh} {A:Hf} {c:Cx} {ρ:List (Option V)} {G F:Gh} {σ σ':Sg} {s s' B:GA} {I D C:GS} {o:JH} {f:IN} {n:List (Option Nat)} {t:Nat} {x:Hb}
def Ab (k:Nat) (tk:MY) (i:Nat) (o:JH):Prop:=o.cls=.type "str_ascii_iterator"/\o.data=.fields #[.str (nm k) tk,.int i 0]
theorem kh {k:Nat} (h:(mc k).isSome=Gu):∃c,nm k=⟨#[c]⟩/\(nm k).cps.all (· <128)=Gu:=by
 unfold mc at h
 split at h
 ·exact⟨97,by decide+kernel,by decide+kernel⟩
 ·exact⟨98,by decide+kernel,by decide+kernel⟩
 ·cases h
theorem zy {b:Gh} {k:Nat} {tk:MY} (p:(mc k).isSome=Gu) (v:A.handled=Gs):sM u w A b [.str k] (fun Z=>True) I (Ab k tk) where
 plain:=fun i o h=>⟨_,_,h.1,h.2,by decide⟩
 item:=fun{c ρ G σ s o} i x {Q E} a y j z g h l q=>by
  obtain⟨r,e,_⟩:=kh p
  cases i with
  |zero=>
   simp at l;subst l;refine wpAny_pyNext_ascii_item ⟨_,g,h.1,h.2⟩ (c:=r) (by rw [e];rfl) fun m ⟨H,J,K,L⟩ M=>q _ m _ H J ⟨K,L⟩ M ?_
   exact⟨_,by rw [e]⟩
  |succ i=>simp at l
 stop:=fun{c ρ G σ s o Q E} a y j z g h q=>by
  obtain⟨r,e,_⟩:=kh p;exact wpAny_pyNext_ascii_end v ⟨_,g,h.1,h.2⟩ (by rw [e];rfl) fun m N=>q m s.toks N
 self:=fun{s o} i {Q E} g h q=>wpAny_pyIter_striter_ascii ⟨_,g,h.1,h.2⟩ q
set_option tactic.hygienic true in
theorem mw (H:aI c) (m:A.handled=Gs) (a:At c ρ G σ s) {x:V} {r:Gy} {l:List V} (v:VRep G x r) (e:fE x σ=Gq l) {Q:Gy->GA->Prop} {E:Gy->GA->Prop}
  (h:∀I s' o j,s.heap.get? I=Gs->(∀b o,s.heap.get? b=Gq o->s'.heap.get? b=Gq o)->s'.gens=s.gens->s'.os=s.os->s'.heap.get? I=Gq o->j 0 o->(∀A:Hf,A.handled=Gs->sM u w A G l (b9 x l) I j)->l.length<=1000000->Q (.ref I) s'):G0 (GO u.prog w) A (NZ r) Q E s:=by
 unfold fE at e
 split at e
 ·rename_i k
  split at e
  ·rename_i y;cases e;obtain⟨J,rfl⟩:=fT v;obtain⟨R,T,g⟩:=kh y;refine wpAny_pyIter_ascii g ?_;exact h _ _ _ (Ab k J) (aN _) (fun Z Z e=>GQ _ e) rfl rfl (Hr _ rfl) ⟨rfl,rfl⟩ (fun A m=>zy y m) (by simp)
  ·cases e
 ·split at e
  ·rename_i U p
   split at e
   ·rename_i K;cases e;exact uD H m a v p fun I i o j L M N O z W P q S=>h I i o j L M N O P q S K
   ·cases e
  ·cases e
theorem d1 (st:bQ names f n t x) (a:At c ρ G σ s) (g:c.env.scope.names=names):∀x,(x,HU)∈f.names->∃a,c.env.cells.lookup x=Gq a:=fun y i=>by
 obtain⟨_,_,_,l⟩:=a.envr;obtain⟨k,m⟩:=IF i;rcases st.vars k _ m with ⟨h,_⟩ |⟨_,j,_,p⟩
 ·exact absurd rfl h
 ·obtain⟨b,e,q,_⟩:=l y (by rw [g];exact GJ p)
  exact⟨b,q⟩
theorem dA (st:bQ names f n t x):∀y∈f.names,y.2=.local->f.names.lookup y.1=Gq .local:=fun y b e=>by
 obtain⟨k,g⟩:=IF b;rw [mE st.nd g,e]
set_option tactic.hygienic true in
theorem snd_comp {q N:GW} {j r:E} {px pos:HO} (st:bQ names f n t x) (he:ao u d (dq f) q j) (hi:ao u d names N r) (oi:fu N):
  ao u d names (.ListComp q [⟨.Name x px,N,[],0⟩] f pos) (.comp n t j r):=by
 intro w A c K O g L ρ G σ s Q X a h;rw [eval_ListComp];obtain⟨cl,p,P,z⟩:=cQ (M:=GO u.prog w) (A:=A) (d1 st a O);refine bk (use:=Gs) rfl (fun x=>oi _ _) p st.kind (dA st) (ay hi K O g L a h fun v B Z R y k H J i=>?_)
 split at i
 ·rename_i l hl;refine mw K L.handled k J hl fun I b' o sh n1 k1 g1 o1 gI T S hz=>?_;refine lJ (use:=Gs) st he K O g L (S A L.handled) k P z n1 k1 g1 o1 gI T hz i fun D C s' F σ' us m hk hm hq=>⟨m,hm,fun h' sb=>?_⟩;obtain⟨U,V,ap,W,Y⟩:=hk;exact⟨U,_,_,V.loose (h':=h') (t:=s'.toks) K ap fun b o nb e=>(sb.2 b nb).trans e,H.trans W,Y,hq⟩
 ·exact i.elim
theorem jO (K:aI c) (M:c.comp=Gw) (N:c.env.scope.names=names) {y:Hb} {k:Nat} {p:HO} (O:dB names y k) {cl:List (Hb×GS)} {ce:Cell} {m:Hb->Option Gy} {P:Gy->GA->Prop} {X:Sg->Prop}
  (h:∃g,At (c.own C) ρ g (σ'.alloc ce) s'/\d5 c C/\G.Le g/\VRep g (.ref σ'.n) (.ref D)) (Q:s'.heap.Ns C m) (q:∀g i,At c (ρ.set k (Gq (.ref σ'.n))) g (σ'.alloc ce) i->G.Le g->P .none i):
  br (GO u.prog w) A (a9 u c X) (Gq fun v=>JR v [Ju (.Name y p) c.env]) P (.ref D) (Jb f cl C c.env) (.ok .next) s':=by
 obtain⟨g,a,L,R,r⟩:=h;obtain⟨H,S,T,U,V⟩:=Q
 have W:=a.pinned U
 have J:=tC (o:=H) K L
 show G0 _ _ (JR _ [Ju (.Name y p) c.env]) _ _ _
 have key:G0 (GO u.prog w) A (Ju (.Name y p) c.env (.ref D)) (fun Z i=>∃m,i.heap.Ns (Jb f cl C c.env).locals m/\∀h',Io (Jb f cl C c.env).locals i.heap h'->P .none {i with heap:=h'}) (a9 u c X) s':=by
  refine Iv (dK (c:=(c.own C).pin (C,H)) J N W O (.inl M) r fun j l=>?_);obtain⟨z,E⟩:=l.unpin;exact⟨m,⟨H,S,T,E,V⟩,fun h' Y=>q g _ (z.loose (h':=h') (t:=j.toks) K L fun b o nb e=>(Y.2 b nb).trans e) R⟩
 first
  |exact key
  |exact wpAny_bind (wpAny_holding (wpAny_mono key (fun Z s' k=>wpAny_pure k) fun Z Z x=>x))
  |exact wpAny_bind (wpAny_mono key (fun Z s' k=>wpAny_pure k) fun Z Z x=>x)
theorem ss_comp {b r:GW} {e H:E} {T pos p i:HO} {y:Hb} {k:Nat} (st:bQ names f n t x) (he:ao u d (dq f) b e) (hi:ao u d names r H) (oi:fu r) (hk:dB names y k)
  (hw:∀env:J2,env.scope.names=names->env.scope.kind=.function->IV (.ListComp b [⟨.Name x T,r,[],0⟩] f pos) (Gq (.Name y p)) i.line env=HE Gu):
  bB u d names (.Assign [.Name y p] (.ListComp b [⟨.Name x T,r,[],0⟩] f pos) i) (.assign (.loc k) (.comp n t e H)):=by
 intro w A c K L g U cf ρ G σ s Q X a h
 have h:wpE u.T (ae u d) ρ (.comp n t e H) (fun v σ'=>Q .next (ρ.set k (Gq v)) σ') X σ:=h
 rw [M2];refine Gv (HQ ?_);rw [show LS [LV y p] (.ListComp b [⟨.Name x T,r,[],0⟩] f pos) i.line c.env=HE Gu from hw _ L K.kind]
 refine Gv (GR ?_);rw [if_pos rfl];obtain⟨cl,J,V,N⟩:=cQ (M:=GO u.prog w) (A:=A) (d1 st a L);refine Gv ?_
 show G0 _ _ (do let _<-K7 (.ListComp b [⟨.Name x T,r,[],0⟩] f pos) f c.env _ (newList []) _ (J3 r c.env) (Gq fun v=>JR v [Ju (.Name y p) c.env])) _ _ _
 refine Gv (bk (use:=Gq fun v=>JR v [Ju (.Name y p) c.env]) (Q:=fun Z s'=>G0 (GO u.prog w) A (HE NE) (fun Z O=>G0 (GO u.prog w) A (HE Od) (d9 c G Q) (a9 u c X) O) (a9 u c X) s') rfl (fun x=>oi _ _) J st.kind (dA st) (ay hi K L g U a h fun v B e' W z q P R j=>?_))
 split at j
 ·rename_i l hl;refine mw K U.handled q R hl fun I f' o sh n1 k1 g1 o1 gI Y S hz=>?_;refine lJ st he K L g U (S A U.handled) q V N n1 k1 g1 o1 gI Y hz j fun D C s' F σ' us m b' hm hq=>?_;refine jO K cf L hk b' hm fun g' O c' d'=>GR (GR ?_);exact .le (P.trans d') (.next c' hq)
 ·exact j.elim
end
section
variable {u:U} {d:Nat} {names:List (Hb×G2)} {w:Hh} {A:Hf} {c:Cx} {ρ:List (Option V)} {G q:Gh} {σ σ':Sg} {s l j:GA} {f:IN} {i:List (Option Nat)} {t:Nat} {x:Hb}
theorem jo {n:Int} (h:n<=1000000):(aZ n).length<=1000000:=by
 rw [GG,N0];lia
set_option tactic.hygienic true in
theorem tn {B R:GW} {p F:E} {px pos np cp:HO} {T:Hb} (st:bQ names f i t x) (he:ao u d (dq f) B p) (hi:ao u d names R F) (hr:names.lookup T=Gq .globalImplicit) (hx:T="range") (ns:noStar [R]):
  ao u d names (.ListComp B [⟨.Name x px,.Call (.Name T np) [R] [] cp,[],0⟩] f pos) (.compR i t p F):=by
 subst hx;intro w A c H O g P ρ G σ s Q X a h;rw [eval_ListComp];obtain⟨cl,z,U,J⟩:=cQ (M:=GO u.prog w) (A:=A) (d1 st a O);refine bk (use:=Gs) rfl (fun x=>rfl) z st.kind (dA st) (cP hr (by decide) (by decide+kernel) (by decide+kernel) ns (.inr ⟨"range",rfl⟩) H O g a (ay hi H O g P a h fun v j e' V y r K L k=>?_))
 obtain⟨n,rfl,W,N,k⟩:=k;obtain⟨tk,rfl⟩:=aE L;refine mS H P.handled r W N fun I f' o sh n1 k1 g1 o1 g' ap gI Y S=>?_;refine lJ (use:=Gs) st he H O g P (S A P.handled) r U J n1 k1 g1 o1 gI Y (jo N) k fun D C l q σ' us m hk hm hq=>⟨m,hm,fun h' sb=>?_⟩;obtain⟨Z,b',ap,c',d'⟩:=hk;exact⟨Z,_,_,b'.loose (h':=h') (t:=l.toks) H ap fun b o nb e=>(sb.2 b nb).trans e,K.trans c',d',hq⟩
theorem tG {r H:GW} {b B:E} {P pos K L p e:HO} {N y:Hb} {k:Nat} (st:bQ names f i t x) (he:ao u d (dq f) r b) (hi:ao u d names H B) (hr:names.lookup N=Gq .globalImplicit) (hx:N="range") (ns:noStar [H]) (hk:dB names y k)
  (hw:∀env:J2,env.scope.names=names->env.scope.kind=.function->IV (.ListComp r [⟨.Name x P,.Call (.Name N K) [H] [] L,[],0⟩] f pos) (Gq (.Name y p)) e.line env=HE Gu):
  bB u d names (.Assign [.Name y p] (.ListComp r [⟨.Name x P,.Call (.Name N K) [H] [] L,[],0⟩] f pos) e) (.assign (.loc k) (.compR i t b B)):=by
 revert r H b B P pos K L p e N y k;delta u d names f i t x;revert N y k;delta r H b B P pos K L p e;delta N y k;subst hx;intro w A c R T g rm cf ρ G σ s Q X a h;revert ρ G σ s Q X;delta w A c;delta ρ G σ s Q X
 have h:wpE u.T (ae u d) ρ (.compR i t b B) (fun v σ'=>Q .next (ρ.set k (Gq v)) σ') X σ:=h
 rw [M2];refine Gv (HQ ?_);rw [show LS [LV y p] (.ListComp r [⟨.Name x P,.Call (.Name (Ho "range") K) [H] [] L,[],0⟩] f pos) e.line c.env=HE Gu from hw _ T R.kind]
 refine Gv (GR ?_);rw [if_pos rfl];obtain⟨cl,O,c',U⟩:=cQ (M:=GO u.prog w) (A:=A) (d1 st a T);delta cl;refine Gv ?_
 show G0 _ _ (do let _<-K7 (.ListComp r [⟨.Name x P,.Call (.Name (Ho "range") K) [H] [] L,[],0⟩] f pos) f c.env _ (newList []) _ (J3 (.Call (.Name (Ho "range") K) [H] [] L) c.env) (Gq fun v=>JR v [Ju (.Name y p) c.env])) _ _ _
 refine Gv (bk (use:=Gq fun v=>JR v [Ju (.Name y p) c.env]) (Q:=fun Z l=>G0 (GO u.prog w) A (HE NE) (fun Z V=>G0 (GO u.prog w) A (HE Od) (d9 c G Q) (a9 u c X) V) (a9 u c X) l) rfl (fun x=>rfl) O st.kind (dA st) (cP hr (by decide) (by decide+kernel) (by decide+kernel) ns (.inr ⟨"range",rfl⟩) R T g a (ay hi R T g rm a h fun v j k' d' z J W Y F=>?_)))
 obtain⟨n,rfl,e',b',F⟩:=F;obtain⟨tk,rfl⟩:=aE Y;refine mS R rm.handled J e' b' fun I l' o sh n1 k1 g1 o1 m' ap gI f' S=>?_;refine lJ st he R T g rm (S A rm.handled) J c' U n1 k1 g1 o1 gI f' (jo b') F fun D C l q σ' us m g' hm hq=>?_;refine jO R cf T hk g' hm fun n' V i' j'=>GR (GR ?_);exact .le (W.trans j') (.next i' hq)
end
inductive ExcOK (K:I0) (te:GS):Prop
 |mk (k1:instIn K (.ref te) (.type "tuple")=Gq Gw) {c:Gy} {d:Option GS} {x:ClassData} {sl:Array (Option Gy)} (hk:K.lookup te=Gq ⟨c,d,.cls x,sl⟩) (k3:subIn K (.ref te) (.type "BaseException")=Gq Gu) (k4:subIn K (.ref te) (.ref te)=Gq Gu):ExcOK K te
section
variable {u:U} {d:Nat} {names:List (Hb×G2)} {w:Hh} {A:Hf} {c:Cx} {ρ:List (Option V)} {G i:Gh} {σ σ':Sg} {s j:GA}
set_option tactic.hygienic true in
theorem mP {e:GS} {f:JH} (X:(u.Kf w.params).In s.heap) (k:ExcOK (u.Kf w.params) u.te) (g:s.heap.get? e=Gq f) (l:f.cls=.ref u.te) {Q:Bool->GA->Prop} {E:Gy->GA->Prop} (q:Q Gu s):
  G0 (GO u.prog w) A (excMatches (.ref e) (.ref u.te)) Q E s:=by
 cases k with|mk m n o p=>
 refine Gv ((looks_instIn X m).here ?_);simp only [Hz,if_false];refine Gv (GR ?_);simp only [Mb,Mx,bind_assoc,Pl]
 have r:G0 (GO u.prog w) A (isExcClass (.ref u.te)) (fun b j=>b=Gu/\j=s) E s:=by
  refine Gv (Pe (E:=E) ((Mk (M:=GO u.prog w) (part:=Gs) (X _ _ n)).andThen .now) ?_);simp only [if_true];exact(looks_subIn X o).here ⟨rfl,rfl⟩
 refine Gv (G1 r (fun b j t=>?_) fun Z Z x=>x);obtain⟨v,y⟩:=t;subst v;subst y;simp only [OR,Hz,if_false,Pl];refine Gv ?_
 have z:Ls (GO u.prog w) j.heap (OW (.ref e)) (.ref u.te):=by
  have:=(Mk (M:=GO u.prog w) (part:=Gs) g)
  refine this.andThen ?_;rw [l];exact .now
 refine z.here ?_;refine Gv ((looks_subIn X p).here ?_);simp only [if_true,Pl];exact GR q
theorem yb {st:Iy} {o:S} {r:List Iy} {q:List S} (D:bB u d names st o) (E:f3 u d names r q):f3 u d names (st::r) (o::q):=by
 intro w A c t y g z B F ρ G σ s Q X a h;refine IU (G1 (D w A c t y g z B ρ G σ s _ X a h) (fun f p H=>?_) fun Z Z x=>x);obtain⟨k,b,e,I,l,C,m,n⟩:=H
 cases I with
 |next=>
  cases m;exact E w A c t y g z B F e k b p Q X l n
 |cont=>cases m;exact⟨k,b,e,.cont,l,rfl,n⟩
 |ret v=>
  obtain⟨J,rfl,K⟩:=m;exact⟨k,b,e,.ret v,l,⟨J,rfl,K⟩,n⟩
theorem Cj (g:aI c) (l:c.pins=[]) (n:∀x∈c.env.scope.names,x.2≠.cell) {ps:List GS} (o:ff c.base c.Fs (ps++c.Pv) i σ' s.heap) (q:gf c.Fs c.G₀ c.σ₀ c.s₀.heap i σ' s.heap) (r:s.gens=c.s₀.gens) (t:s.os=c.s₀.os) (y:∃m,s.heap.Ns c.env.locals m):
  At c (ρ.map fun Z=>Gs) i σ' s:=by
 obtain⟨m,z⟩:=y;refine⟨o.pv_le (fun b B=>GD.mpr (.inr B)) g.fpv,⟨m,z,fun k x v D e=>?_,fun x C=>absurd rfl (n _ C)⟩,q,r,t,fun p f=>by rw [l] at f;cases f⟩
 rw [Hd] at e;obtain⟨_,_,h⟩:=GV.mp e;cases h
theorem sN (T:aI c) {e:Gy} {ps:List GS} {Q:Unit->GA->Prop} {E:Gy->GA->Prop} (y:ff c.base c.Fs (ps++c.Pv) i σ' s.heap) (L:gf c.Fs c.G₀ c.σ₀ c.s₀.heap i σ' s.heap) (xs:ol u Gs e ps s.heap) (U:∀b∈ps,c.s₀.heap.get? b=Gs) (M:∃m,s.heap.Ns c.env.locals m)
  (k:∀h' ps',ff c.base c.Fs (ps'++c.Pv) i σ' h'->gf c.Fs c.G₀ c.σ₀ c.s₀.heap i σ' h'->(∃m,h'.Ns c.env.locals m)->Q () {s with heap:=h'}):
  G0 (GO u.prog w) A (setFlight e Gs) Q E s:=by
 revert e ps Q E;delta u w A c i σ' s;delta e ps Q E;obtain⟨a,V,W,rfl,r,N,B,X⟩:=xs;delta a V W;rcases X with ⟨rfl,C⟩ |⟨t,Y,O,x,rfl,D,C,v,l,h3,hx⟩
 ·refine Gv (JQ r B C ?_);rw [if_neg (by decide)]
  exact GR (k s.heap _ y L M)
 ·delta t Y O x;refine Gv (JQ r B C ?_);rw [if_pos (show(Jg t != I9)=Gu from by simp)]
  have F:=(Iu.mp h3).1
  refine Lw v l F ?_;generalize p:s.heap.update t _=n;delta n
  have g:∀b,b≠t->n.get? b=s.heap.get? b:=fun b f=>by rw [<-p];exact Hl _ _ (Hw f)
  have H:∃o,n.get? t=Gq o:=by rw [<-p];exact⟨_,H4 _ v (JT (JA l _))⟩
  have I:t∉eU c.Fs:=fun J=>by
   obtain⟨_,o,ho,K⟩:=y.frames.mem J;rw [v] at ho;injection ho with ho;subst ho;exact K O l
  have P:∀b∈[a,t],∃o,n.get? b=Gq o:=fun b f=>by
   rcases GH.mp f with rfl|f
   ·exact⟨_,(g _ (Hw D)).trans r⟩
   ·rcases GH.mp f with rfl|f
    ·exact H
    ·cases f
  have R:∀b o,s.heap.get? b=Gq o->b∉ [a,t]->b∉eU c.Fs->n.get? b=Gq o:=fun b o e q Z=>(g b fun z=>q (by rw [z];exact .tail _ (.head _))).trans e
  have S:∀b∈eU c.Fs,∀o,s.heap.get? b=Gq o->∃sl,n.get? b=Gq {o with slots:=sl}:=fun b f o e=>⟨o.slots,(g b fun z=>I (z▸f)).trans e⟩
  obtain⟨i',a',n'⟩:=gE (ps':=[a,t]) (h':=n) y L U T.fpv R S (fun b f=>⟨P b f,.inl f⟩) P;obtain⟨m,J⟩:=M
  exact k n _ i' a' ⟨m,gP (Fs:=c.Fs) (ps:=[a,t]) J (fun b f=>by
   rcases GH.mp f with rfl|f
   ·exact⟨_,_,r,B⟩
   ·rcases GH.mp f with rfl|f
    ·exact⟨_,_,v,l⟩
    ·cases f) R S⟩
theorem Ar {b r:List Iy} {H I:List S} {y:Hb} {P R T pos n:HO} {k:Nat} (kx:∀w:Hh,ExcOK (u.Kf w.params) u.te) (hk:names.lookup y=Gq .globalImplicit) (e:lookS y u.gl=Gq (.ref u.te)) (hd:(y==("__debug__":Hb))=Gw)
  (nc:∀x∈names,x.2≠.cell) (hb:cJ u d names b H) (hr:f3 u d names r I):
  f3 u d names (.Try b [.ExceptHandler (Gq (.Name y P)) Gs [.Return (Gq (.Constant .none k R)) T] pos] [] [] n::r) (.try H [.ret (.const .none)]::I):=by
 revert b r H I y P R T pos n k;delta u d names;revert k;delta b r H I y P R T pos n;delta k;intro w A c E O g U cf cp ρ G σ s Q X a h;revert ρ G σ s Q X;delta w A c;delta ρ G σ s Q X
 have h:wpSs u.T (ae u d) H ρ (fun J L σ'=>match J with|.next=>wpSs u.T (ae u d) I L Q X σ'|J=>Q J L σ') (fun σ'=>Q (.ret .none) (ρ.map fun Z=>Gs) σ') σ:=h
 have fr:=U.frames
 refine IU (wpAny_Try_except (G1 (hb w A c E O g U cf ρ G σ s _ _ a h) (fun f o ⟨p,l,m,J,t,f',z,B⟩=>?_) fun x o hx=>?_))
 ·cases J with
  |next=>
   cases z;exact Kq (hr w A c E O g U cf cp m p l o Q X t B)
  |cont=>cases z;exact⟨p,l,m,.cont,t,rfl,B⟩
  |ret v=>
   obtain⟨vv,rfl,rv⟩:=z;exact⟨p,l,m,.ret v,t,⟨vv,rfl,rv⟩,B⟩
 ·delta x o;refine jh E fr hx fun g' N=>gj E N fun C F D ps V av hg ho xs nw nl hX=>?_;obtain⟨e0,oe,vs,rfl,ha,M,i',j'⟩:=id (xs Gs (.inl rfl))
  have K:(u.Kf w.params).In C.heap:=g.inK.keeps V.stays
  obtain⟨mg,W,hv,_⟩:=g.globals
  have h1:C.heap.Ns c.env.globals mg:=by rw [E.glob];exact W.keeps V.stays
  refine wpAny_handleBy_cons (codeAny_handlers_test (HW E.kind (by unfold Ik;rw [O];exact hk) (Jk h1 (hv y _ e) ?_) hd)) (by intro q;cases q)
  refine mP K (kx w) ha M ?_;simp only [if_true];refine codeAny_handlers_suite (sN E V av (xs Gs (.inl rfl)) nw nl fun h' k' Y c' d'=>?_)
  have e':At c (ρ.map fun Z=>Gs) F D {C with heap:=h'}:=Cj E cp (by rw [O];exact nc) Y c' hg ho d'
  refine IU (O5 (Ku ?_));exact⟨F,D,_,.ret .none,e',⟨_,rfl,iP⟩,hX⟩
end
theorem BY {u:U}:uE u:=by
 intro w A c m G n s x y o p Q E e a f g h k;obtain⟨d,b,i⟩:=@of_decide_eq_true _ (Kp _) h;obtain⟨q,j⟩:=b.rd a f;obtain⟨r,l⟩:=i.rd a g;refine SeqAt.compareNe_reads j l b.lay b.lay (by have:=b.dep;exact(l4 0x1c27c93801b8831b311c2710) e this (K9 _ _)) ?_
 rw [SeqAt.eqv_refl _ b.lay];exact k s.toks
noncomputable abbrev Ns:=List (Hb×G2)
theorem kE {b:Bool} (h:(!b)=Gu):b=Gw:=by cases b<;>first|rfl|cases h
noncomputable def D4 (names:Ns) (x:Hb):Bool:=GI (names.lookup x=Gq .globalImplicit)&& !(x==("__debug__":Hb))
theorem my {names:Ns} {x:Hb} (h:D4 names x=Gu):names.lookup x=Gq .globalImplicit/\(x==("__debug__":Hb))=Gw:=by
 obtain⟨a,b⟩:=GX.mp h;exact⟨of_decide_eq_true a,kE b⟩
noncomputable def slot (names:Ns) (x:Hb) (k:Nat):Bool:=GI (names[k]? =Gq (x,.local)) ||decide (names[k]? =Gq (x,.cell))
theorem df {names:Ns} {x:Hb} {k:Nat} (h:slot names x k=Gu):dB names x k:=(Bool.or_eq_true_iff.mp h).imp of_decide_eq_true of_decide_eq_true
noncomputable def slots (names:Ns):List Hb->List Nat->Bool
 |[],[]=>Gu
 |x::r,k::ks=>slot names x k&&slots names r ks
 |_,_=>Gw
theorem oh {names:Ns} {xs:List Hb}:∀ {ks:List Nat},slots names xs ks=Gu->SlotsAt names xs ks:=by
 induction xs with
 |nil=>
  intro ks h
  cases ks with
  |nil=>trivial
  |cons _ _=>cases h
 |cons x xs b=>
  intro ks h
  cases ks with
  |nil=>cases h
  |cons k ks=>exact⟨df (GX.mp h).1,b (GX.mp h).2⟩
noncomputable def uN (names:Ns) (y:Hb×G2) (o:Option (Option Nat)):Bool:=if y.2=.free then(match o with
 |some (Gq j)=>GI (names[j]? =Gq (y.1,.cell))
 |_=>Gw) else o.join.isNone&& !(GI (y.2=.cell))
noncomputable def fw (names:Ns) (b:IN) (c:List (Option Nat)) (t:Nat) (x:Hb):Bool:=GI (b.kind=.function)&&(GI (b.names.map (·.1)).Nodup&&(GI (b.names[t]? =Gq (x,.local))&&
 (Jz b.names.length).all fun k=>match b.names[k]? with
  |some y=>uN names y c[k]?
  |none=>Gu))
theorem nZ {names:Ns} {y:Hb×G2} {o:Option (Option Nat)} (h:uN names y o=Gu):y.2≠.cell/\((y.2≠.free/\o.join=Gs)\/(y.2=.free/\∃j,o=Gq (Gq j)/\names[j]? =Gq (y.1,.cell))):=by
 change ite _ _ _=_ at h
 by_cases q:y.2=.free
 ·rw [if_pos q] at h;refine⟨fun z=>(by rw [z] at q;cases q),.inr ⟨q,?_⟩⟩
  match o,h with
  |some (Gq j),h=>exact⟨j,rfl,of_decide_eq_true h⟩
 ·rw [if_neg q] at h;obtain⟨a,b⟩:=GX.mp h;exact⟨of_decide_eq_false (kE b),.inl ⟨q,Mm.mp a⟩⟩
theorem gy {names:Ns} {d:IN} {b:List (Option Nat)} {t:Nat} {x:Hb} (h:fw names d b t x=Gu):bQ names d b t x:=by
 delta names d b t x;obtain⟨f,h⟩:=GX.mp h;obtain⟨g,h⟩:=GX.mp h;obtain⟨i,j⟩:=GX.mp h
 have c:∀(k:Nat) y,d.names[k]? =Gq y->uN names y b[k]? =Gu:=fun k y e=>by
  have:=Hg.mp j k (JE.mpr (HP.mp e).1)
  rw [e] at this;exact this
 refine⟨of_decide_eq_true f,of_decide_eq_true g,fun y l=>?_,fun k y e=>(nZ (c k y e)).2,of_decide_eq_true i⟩;obtain⟨k,m⟩:=IF l;exact(nZ (c k y m)).1
noncomputable def jX:E->Bool
 |.and .. =>Gw
 |.or .. =>Gw
 |.chain .. =>Gw
 |_=>Gu
theorem iw {b:E} (h:jX b=Gu):∀T C ρ Q X σ,wpB T C ρ b Q X σ=wpE T C ρ b (fun v σ'=>match b6 σ' v with|some t=>Q t σ'|none=>False) X σ:=by
 cases b<;>first|(intros;rfl) |cases h
theorem jl {b:Type} {F:J2->b} {r:b} {names:Ns} (h:∀(c:IN) (env:J2),F {env with scope:={c with kind:=.function,names:=names}}=r) (env:J2) (d:env.scope.names=names) (e:env.scope.kind=.function):F env=r:=by
 subst d
 have:=h env.scope env
 rw [<-e] at this;exact this
def xf (u:U):Prop:=∀(d:Nat) (b:Ns) (l:IN) (f:List (Option Nat)) (t:Nat) (x y:Hb) (j:GW) (g:E) (k m:Nat) (p n o q i c:HO),bQ b l f t x->ao u d b j g->fu j->dB b y k->(x==("__debug__":Hb))=Gw->(x==("__classdict__":Hb))=Gw->
 (∀e:J2,e.scope.names=b->e.scope.kind=.function->IV (.DictComp (.Name x o) (.Constant (.bool Gu) m q) [⟨.Name x n,j,[],0⟩] l i) (Gq (.Name y p)) c.line e=HE Gu)->
 bB u d b (.Assign [.Name y p] (.DictComp (.Name x o) (.Constant (.bool Gu) m q) [⟨.Name x n,j,[],0⟩] l i) c) (.assign (.loc k) (.dtrue t g))
def rI (u:U):Prop:=∀(d:Nat) (b:Ns) (x y c f:Hb) (i j:Nat) (k l m n o p q r s:HO) (e:GW) (g:E),b.lookup x=Gq .globalImplicit->(x==("__debug__":Hb))=Gw->lookS x u.gl=Gq (.ref u.te)->b.lookup y=Gq .globalImplicit->y="str"->ao u d b e g->noStar [e]->c.cps.size+f.cps.size<=1000->
 bB u d b (.Raise (Gq (.Call (.Name x k) [.BinOp (.BinOp (.Constant (.str c) i l) .Add (.Call (.Name y m) [e] [] n) o) .Add (.Constant (.str f) j p) q] [] r)) Gs s) (.raise g)
section
variable {u:U} {d:Nat} {names:Ns}
theorem ut {st:Iy}:bB u d names st .stuck:=by
 intro w A c b e g f i j G k s Q X a h;exact h.elim
theorem AN {k:Nat} {y:Hb×G2} {l:List Iy} {i:List S} (p:names[k]? =Gq y) (h:f3 u d names l i):f3 u d names l (.frz k::i):=by
 intro w A c m n g r t z o G B s Q X a f
 have f:(match o[k]? with|some (Gq v)=>∃j b,FrzL B [v] [j] b/\wpSs u.T (ae u d) i (o.set k (Gq j)) Q X b|_=>False):=f
 split at f
 ·rename_i v C;obtain⟨j,b,e,q⟩:=f;obtain⟨D,E,F⟩:=a.frz m (by rw [n];exact p) C e
  exact h w A c m n g r t z _ D b s Q X E q
 ·exact f.elim
theorem Av:f3 u d names [] []:=uC.t
end
section
variable {u:U} {d:Nat} {names:List (Hb×G2)} {w:Hh} {A:Hf} {c:Cx} {ρ:List (Option V)} {G E:Gh} {σ σ':Sg} {s f B:GA} {I D C:GS} {o:JH} {scope:IN} {F:List (Option Nat)} {t:Nat} {x:Hb}
theorem xk {T:GW} {px xp pos cp:HO} {kk:Nat} (I':(x==("__debug__":Hb))=Gw) (J':(x==("__classdict__":Hb))=Gw) (ok:aI c) (d':c.pins=[]) (hn:c.env.scope.names=names) (g:Gd u w c.base) (rm:Rm A d c.Fs) {L:Gh} {i:Int} {st:Sg->Prop} {U:Nat->JH->Prop} (S:sM u w A L [.int i] st I U)
  (oI:w5 c I) (oD:w5 c D) (i':I≠D) (e':names[t]? =Gq (x,.local)) (K':∀v,ρ[t]? ≠Gq (Gq v)) (L':t<ρ.length) (j':st σ)
  (a:At c ρ G σ s) (le:L.Le G) (gI:s.heap.get? I=Gq o) (h0:U 0 o) (gD:∃o,s.heap.get? D=Gq o/\iL o []) {X:Sg->Prop} {R:ME->GA->Prop}
  (M':∀f E o v h' tk,At c ρ E σ f->G.Le E->f.heap.get? D=Gq o->iL o [(i,v)]->VRep E (.bool Gu) v->L3 I f.heap h'->R (.ok .next) {f with heap:=h',toks:=tk})
  (N':∀e f,jz u c X e f->R (.error e) f):
  IP (GO u.prog w) A (.compLoop (.DictComp (.Name x xp) (.Constant (.bool Gu) kk cp) [⟨.Name x px,T,[],0⟩] scope pos) 0 (.ref I) (.ref D) c.env) R s:=by
 revert I D o scope t x T px xp pos cp kk L i st U X R;delta u d names w A c ρ G σ s;revert cp kk L i st U X R;delta I D o scope t x T px xp pos;revert X R;delta cp kk L i st U;delta X R
 have fr:=rm.frames
 refine codeAny_compLoop_testsD (fun n s=>(n=2/\At c ρ G σ s/\(∃o,s.heap.get? I=Gq o/\U 0 o)/\∃o,s.heap.get? D=Gq o/\iL o [])\/(n=1/\∃E,At c ρ E σ s/\G.Le E/\(∃o,s.heap.get? I=Gq o/\U 1 o)/\∃o v,s.heap.get? D=Gq o/\iL o [(i,v)]/\VRep E (.bool Gu) v)) ?_ 2 (.inl ⟨rfl,a,⟨o,gI,h0⟩,gD⟩)
 rintro n s (⟨rfl,a,⟨o,gI,W⟩,l,gD,dD⟩ |⟨rfl,E,a,lG,⟨o,gI,W⟩,l,v,gD,dD,rv⟩)
 ·revert o l;injections s;intro a o gI W l gD dD;revert l;injections o;intro gI W l gD dD;injections l;intro gD dD;refine S.item 0 (.int i) a le j' oI.pv gI W rfl fun vx h' tk o' k' l' sb rx=>?_;delta vx h' tk o';obtain⟨tx,rfl⟩:=aE rx;delta tx
  have O':h'.get? D=Gq l:=(sb.2 D (Hw i')).trans gD
  have M:=a.priv2 (tk:=tk) ok oI.pv oI.new (fun p hp=>by rw [d'] at hp;cases hp) oI.fr oI.loc oI.cells sb k'
  have b':=nG (p:=(I,o')) (q:=(D,l)) ok oI oD
  have aP:At (c.pins2 (I,o') (D,l)) ρ G σ {s with heap:=h',toks:=tk}:=⟨M.inv,M.envr,M.adv,M.gens,M.os,fun r hr=>by
   rcases GH.mp hr with rfl|hr
   ·exact k'
   ·rcases GH.mp hr with rfl|hr
    ·exact O'
    ·cases hr⟩
  refine Iv (dK (c:=c.pins2 (I,o') (D,l)) b' hn aP (.inl e') (.inr e') rx fun m' n'=>?_);delta m';rw [Mx];refine GR ?_;rw [if_pos rfl]
  have p':(c.pins2 (I,o') (D,l)).env.scope.names=names:=hn
  have tl:(ρ.set t (Gq (.int i)))[t]? =Gq (Gq (.int i)):=List.getElem?_set_self L'
  have nx:∀ {k:Nat} {v:V},(ρ.set t (Gq (.int i)))[k]? =Gq (Gq v)->k≠t->ρ[k]? =Gq (Gq v):=fun e q=>by rw [Ih,if_neg (Hw q)] at e;exact e
  have nt:∀e f,a9 u (c.pins2 (I,o') (D,l)) X e f->M8 (GO u.prog w) A c.env (fun e f=>R (.error e) f) e f:=fun e f hx=>jh b' fr hx fun P' N=>N' e P' N.pins2
  refine G1 (ay (qP (x:=x) e' I' J') b' p' g rm (X:=X) (Q:=fun y z=>y=.int i/\z=σ) n' (xa tl ⟨rfl,rfl⟩) (P:=fun kv H=>G0 (GO u.prog w) A (J3 (.Constant (.bool Gu) kk cp) c.env) (fun vv Y=>G0 (GO u.prog w) A (dictSet D kv vv) (fun Z j=>∃m,m<2/\((m=2/\At c ρ G σ j/\(∃o,j.heap.get? I=Gq o/\U 0 o)/\∃o,j.heap.get? D=Gq o/\iL o [])\/(m=1/\∃E,At c ρ E σ j/\G.Le E/\(∃o,j.heap.get? I=Gq o/\U 1 o)/\∃o v,j.heap.get? D=Gq o/\iL o [(i,v)]/\VRep E (.bool Gu) v))) (M8 (GO u.prog w) A c.env fun e f=>R (.error e) f) Y) (M8 (GO u.prog w) A c.env fun e f=>R (.error e) f) H) fun kv q' r' z y t' u' v' y'=>?_) (fun Z Z x=>x) nt;delta kv q' r' z y;obtain⟨rfl,rfl⟩:=y';refine G1 (ay (oE (b:=Gu)) b' p' g rm (X:=X) (Q:=fun y J=>y=.bool Gu/\J=z) t' ⟨rfl,rfl⟩ (P:=fun vv Y=>G0 (GO u.prog w) A (dictSet D kv vv) (fun Z j=>∃m,m<2/\((m=2/\At c ρ G z j/\(∃o,j.heap.get? I=Gq o/\U 0 o)/\∃o,j.heap.get? D=Gq o/\iL o [])\/(m=1/\∃E,At c ρ E z j/\G.Le E/\(∃o,j.heap.get? I=Gq o/\U 1 o)/\∃o v,j.heap.get? D=Gq o/\iL o [(i,v)]/\VRep E (.bool Gu) v))) (M8 (GO u.prog w) A c.env fun e f=>R (.error e) f) Y) fun vv H O J y K z' A' B'=>?_) (fun Z Z x=>x) nt;delta vv H O J y;obtain⟨rfl,rfl⟩:=B'
  have f':H.heap.get? I=Gq o':=K.pins (I,o') (.head _)
  have g':H.heap.get? D=Gq l:=K.pins (D,l) (.tail _ (.head _))
  obtain⟨C',rfl⟩:=aE v';delta C'
  have D':At c ρ O J H:=(show At c _ O J H from⟨K.inv,K.envr,K.adv,K.gens,K.os,fun p hp=>by rw [d'] at hp;cases hp⟩).weaken fun k v e=>by
   by_cases q:k=t
   ·subst q;exact absurd e (K' v)
   ·rw [Ih,if_neg (Hw q)];exact e
  refine wpAny_dictSet_pairs (knd:=Ji u.prog w) (k:=i) (show HY i (.int i C')=Gu by simp [HY]) (bw.mpr ⟨_,g',dD⟩) fun E' F' c'=>?_
  delta E';obtain⟨o2,g2,d2⟩:=bw.mp F'
  have H':=D'.priv2 (tk:=H.toks+1) (h':=E') ok oD.pv oD.new (fun p hp=>by rw [d'] at hp;cases hp) oD.fr oD.loc oD.cells c' g2
  exact⟨1,by decide,.inr ⟨rfl,O,H',u'.trans z',⟨o',(c'.2 I i').trans f',l'⟩,o2,vv,g2,d2,A'⟩⟩
 ·refine S.stop a (le.trans lG) j' oI.pv gI W fun h' tk eb=>?_;exact M' s E l v h' tk a lG gD dD rv eb
theorem vR {n j:Nat} {v:V} (e:(ρ++List.replicate n Gs)[j]? =Gq (Gq v)):ρ[j]? =Gq (Gq v)\/False:=by
 rw [List.getElem?_append] at e
 split at e
 ·exact .inl e
 ·rw [M1] at e
  split at e<;>cases e
theorem xt {use:Option (Gy->Kw Unit)} {p:GW} {px xp pos cp:HO} {kk:Nat} (U:(x==("__debug__":Hb))=Gw) (V:(x==("__classdict__":Hb))=Gw) (st:bQ names scope F t x) (T:aI c) (hn:c.env.scope.names=names) (g:Gd u w c.base) (rm:Rm A d c.Fs) {i:Int} {J:Sg->Prop} {sh:Nat->JH->Prop} (S:sM u w A G [.int i] J I sh)
  (a:At c ρ G σ B) (W:J σ) {cl:List (Hb×GS)} (Y:∀x a,cl.lookup x=Gq a->c.env.cells.lookup x=Gq a) (K:∀x,(x,HU)∈scope.names->∃a,cl.lookup x=Gq a)
  (hI:B.heap.get? I=Gs) (L:∀b o,B.heap.get? b=Gq o->s.heap.get? b=Gq o) (hg:s.gens=B.gens) (ho:s.os=B.os) (gI:s.heap.get? I=Gq o) (h0:sh 0 o)
  {P:Gy->GA->Prop} {X:Sg->Prop} {E':Gy->GA->Prop}
  (hP:∀(D C:GS) (f:GA) (E:Gh) (m:Hb->Option Gy),(∃z,At (c.own C) ρ z (σ.alloc (.dict [(i,.bool Gu)])) f/\d5 c C/\G.Le z/\VRep z (.ref σ.n) (.ref D))->f.heap.Ns C m->
   br (GO u.prog w) A (a9 u c X) use P (.ref D) (Jb scope cl C c.env) (.ok .next) f):
  G0 (GO u.prog w) A newDict (fun acc n=>G0 (GO u.prog w) A (Ly scope c.env.globals cl [] c.env.qual Gs .none (Gq c.env)) (fun cenv M=>
   IP (GO u.prog w) A (.compStart (.DictComp (.Name x xp) (.Constant (.bool Gu) kk cp) [⟨.Name x px,p,[],0⟩] scope pos) 0 (.ref I) acc {cenv with scope:=I5 scope c.env}) (br (GO u.prog w) A (a9 u c X) use P acc {cenv with scope:=I5 scope c.env}) M) E' n) E' s:=by
 refine rD (by size_fits) rfl st T hn a Y K hI L hg ho gI fun D C n k=>?_
 have Z:Rm A d (c.cmp scope cl I D C G σ B).Fs:=rm
 have q:IP (GO u.prog w) A (.compLoop (.DictComp (.Name x xp) (.Constant (.bool Gu) kk cp) [⟨.Name x px,p,[],0⟩] scope pos) 0 (.ref I) (.ref D) (Jb scope cl C c.env))
   (br (GO u.prog w) A (a9 u c X) use P (.ref D) (Jb scope cl C c.env)) n:=by
  refine xk (c:=c.cmp scope cl I D C G σ B) (X:=X) U V k.ok rfl (cI st T hn) g Z S k.oI k.oD (Hw k.DI) (lu st) (ρ:=og F ρ++List.replicate (t+1) Gs) (fun v e=>(vR e).elim (qU st v) id) (by simp;exact(l2 7641071632)) W (k.at'.weaken fun j v e=>(vR e).elim id False.elim) (.refl _) k.gI h0 ⟨_,k.gD,oY⟩
   (fun y O c' v Q tk l R H dd rv eb=>?_) fun e y N=>rU T a k.nC N
  obtain⟨m,⟨oL,es,ep,eL,rL⟩,_⟩:=l.envr;refine hP D C {y with heap:=Q,toks:=tk} O m ?_ ⟨oL,es,ep,eb _ _ k.CI eL,rL⟩
  have r:=kP (tk:=tk) (ce:=.dict [(i,.bool Gu)]) T a k.nI k.nD k.nC k.DC k.DI k.CI l eb H (fun b'=>⟨_,⟨_,by rw [dC.1];exact b',dd⟩,_,_,rfl,rfl,rv.mono (Gh.add_le _ _ _),rfl⟩) (by simp)
  refine⟨_,r.1,r.2,R.trans (Gh.add_le _ _ _),?_⟩;refine⟨by rw [<-l.inv.N];exact Gx _,?_⟩
  rw [<-l.inv.N,dC.1]
 exact codeAny_compStart_dict q (S.self 0 k.gI h0 q)
set_option tactic.hygienic true in
theorem uG:xf u:=by
 delta u;intro d names T F t x y U K k V p W Y cp r e st hi oi hk b' c' hw w A c L N g rm cf ρ G σ s Q X a h;revert V p W Y cp r e w A c ρ G σ s Q X;delta d names T F t x y U K k;revert w A c ρ G σ s Q X;delta V p W Y cp r e;revert ρ G σ s Q X;delta w A c;delta ρ G σ s Q X
 have h:wpE u.T (ae u d) ρ (.dtrue t K) (fun v σ'=>Q .next (ρ.set k (Gq v)) σ') X σ:=h
 rw [M2];refine Gv (HQ ?_);rw [show LS [LV y p] (.DictComp (.Name x Y) (.Constant (.bool Gu) V cp) [⟨.Name x W,U,[],0⟩] T r) e.line c.env=HE Gu from hw _ N L.kind]
 refine Gv (GR ?_);rw [if_pos rfl];obtain⟨cl,J,d',O⟩:=cQ (M:=GO u.prog w) (A:=A) (d1 st a N);delta cl;refine Gv ?_
 show G0 _ _ (do let _<-K7 (.DictComp (.Name x Y) (.Constant (.bool Gu) V cp) [⟨.Name x W,U,[],0⟩] T r) T c.env _ newDict _ (J3 U c.env) (Gq fun v=>JR v [Ju (.Name y p) c.env])) _ _ _
 refine Gv (bk (use:=Gq fun v=>JR v [Ju (.Name y p) c.env]) (Q:=fun Z f=>G0 (GO u.prog w) A (HE NE) (fun Z P=>G0 (GO u.prog w) A (HE Od) (d9 c G Q) (a9 u c X) P) (a9 u c X) f) rfl (fun x=>oi _ _) J st.kind (dA st) (ay hi L N g rm a h fun v B j' j z n R H q=>?_));obtain⟨b,i,rfl,hc,q⟩:=q
 have hl:fE (.ref b) j=Gq [.int i]:=by show(match aX (.ref b) j with|some l=>if l.length<=1000000 then Gq l else Gs|none=>Gs)=_;rw [pj hc];rfl
 refine mw L rm.handled n H hl fun I k' o sh n1 k1 g1 o1 gI e' S hz=>?_;refine xt (names:=names) b' c' st L N g rm (S A rm.handled) n ⟨n.inv.N▸(aU H).1,hc⟩ d' O n1 k1 g1 o1 gI e' fun D C f E m f' hm=>?_;refine jO L cf N hk f' hm fun l' P g' i'=>GR (GR ?_);exact .le (R.trans i') (.next g' q)
end
noncomputable def tab:lU where
 fields:=[(147,[0,1,2,3,4]),(257,[5,6]),(324,[0,7,8,9,10]),(494,[11]),(570,[12,13,7]),(624,[14,3]),(672,[]),(684,[]),(710,[15]),(755,[16,17]),(767,[16,17]),(812,[18]),(824,[18]),(836,[18]),(862,[18,19,20])]
 consts:=[((755,21),.str 22),((767,21),.str 23),((812,21),.str 24),((824,21),.str 25),((836,21),.str 26),((862,21),.str 27),((710,21),.str 28),((672,21),.str 29),((684,21),.str 30)]
 meths:=[((147,33),102),((147,34),109),((147,35),116),((147,36),123),((147,37),130),((147,38),137),((257,39),226),((257,40),233),((257,41),240),((257,42),247),((257,3),254),
  ((324,43),281),((324,44),288),((324,45),295),((324,46),302),((324,47),309),((324,48),316),((324,49),321),((570,50),536),((624,51),621),((624,38),602)]
 inits:=[(147,Gq 95),(257,Gq 219),(324,Gq 276),(494,Gq 342),(570,Gq 512),(624,Gq 588),(672,Gs),(684,Gs),(710,Gq 700),(755,Gq 726),(767,Gq 726),(812,Gq 783),(824,Gq 783),(836,Gq 783),(862,Gq 852)]
noncomputable def gl (x:Hb) (v:Gy):Hb×Gy:=(x,v)
noncomputable def D9:List (Hb×Gy):=[gl "bits" (.ref 80),gl "chain" (.ref 158),gl "build" (.ref 165),gl "build_row" (.ref 172),gl "build_choice" (.ref 179),gl "build_loop" (.ref 186),gl "build_copies" (.ref 193),gl "closure" (.ref 198),gl "tags_of" (.ref 205),gl "subset_dfa" (.ref 634),gl "Nfa" (.ref 147),gl "Subsets" (.ref 257),gl "Positions" (.ref 324),gl "CharSet" (.ref 494),gl "Classes" (.ref 570),gl "Dfa" (.ref 624),gl "Empty" (.ref 672),gl "Never" (.ref 684),gl "Chars" (.ref 710),gl "Cat" (.ref 755)]
noncomputable def Eo:List (Hb×Gy):=[gl "Alt" (.ref 767),gl "Loop" (.ref 800),gl "Star" (.ref 812),gl "Plus" (.ref 824),gl "Opt" (.ref 836),gl "Repeat" (.ref 862),gl "TableError" (.ref 71),gl "_law_store" (.ref 878),gl "_law_draw" (.ref 885),gl "_law_leaf" (.ref 892),gl "_law_tree" (.ref 899),gl "_law_node" (.ref 906),gl "_law_parts" (.ref 913),gl "_law_counts" (.ref 918),gl "_law_built" (.ref 925),gl "_law_read" (.ref 932),gl "_law_told" (.ref 939),gl "_law_after_right" (.ref 946),gl "TOP" (.int 127 650),gl "DEAD" (.int (-1) 1031),gl "MOST_REPEAT" (.int 40 1110)]
noncomputable def zP:List (Hb×Gy):=D9++Eo
noncomputable def lookSt (C:GS) (x:Hb):List ((GS×Hb)×GS)->Option GS
 |[]=>Gs
 |e::r=>if e.1.1=C/\e.1.2=x then Gq e.2 else lookSt C x r
theorem qp {C:GS} {x:Hb} {f:GS} {l:List ((GS×Hb)×GS)}:lookSt C x l=Gq f->((C,x),f)∈l:=by
 induction l with
 |nil=>intro h;cases h
 |cons e r d=>
  intro h
  by_cases q:e.1.1=C/\e.1.2=x
  ·have h:=(if_pos q).symm.trans h
   cases h;obtain⟨⟨a,b⟩,c⟩:=e;cases q.1;cases q.2;exact .head _
  ·exact .tail _ (d ((if_neg q).symm.trans h))
noncomputable def DZ:List ((GS×Hb)×GS):=[((494,"of"),377),((494,"made"),397),((800,"__init__"),783)]
structure UO (u:U):Prop where
 gl:u.gl=zP
 T:u.T=tab
 te:u.te=71
 tab:∀w:Hh,fA u.T (u.Kf w.params)
 kp:∀(w:Hh) (x:Hb) (f:GS),lookS x u.gl=Gq (.ref f)->lookC f u.T.inits=Gs->K3 (u.Kf w.params) (.ref f)=Gu
 sf:∀(w:Hh) e,e∈DZ->ClsG (u.Kf w.params) e.1.1 e.1.2 e.2
 exc:∀w:Hh,ExcOK (u.Kf w.params) u.te
 so:f8 u
 rs:rI u
section
variable {u:U} {d:Nat} {names:Ns}
theorem aa {a b:Bool} (h:(a&&b)=Gu):a=Gu/\b=Gu:=GX.mp h
noncomputable def Dy (names:Ns) (x:Hb) (k:Nat):Bool:=(match names[k]? with|some y=>GI (y.1=x) |none=>Gw)&&(!(x==("__debug__":Hb))&& !(x==("__classdict__":Hb)))
set_option tactic.hygienic true in
theorem Dt {x:Hb} {k:Nat} {pos:HO} (h:Dy names x k=Gu):ao u d names (.Name x pos) (.loc k):=by
 obtain⟨b,h⟩:=aa h;obtain⟨c,f⟩:=aa h
 split at b
 ·rename_i y e;cases of_decide_eq_true b;exact qP (kd:=y.2) e (kE c) (kE f)
 ·cases b
noncomputable def Bb (o:Option Gy) (i:Int):Bool:=match o with
 |some (.int j _)=>GI (j=i)
 |_=>Gw
theorem xV {o:Option Gy} {i:Int} (h:Bb o i=Gu):∃t,o=Gq (.int i t):=by
 cases o with
 |none=>cases h
 |some v=>cases v with
  |int j t=>cases of_decide_eq_true h;exact⟨t,rfl⟩
  |_=>cases h
theorem AQ (c:UO u) {x:Hb} {i:Int} {pos:HO} (h:(D4 names x&&Bb (lookS x zP) i)=Gu):ao u d names (.Name x pos) (.const (.int i)):=by
 obtain⟨b,f⟩:=aa h;obtain⟨t,e⟩:=xV f;exact pf (my b).1 (by rw [c.gl];exact e) (my b).2
noncomputable def uU (names:Ns) (x:Hb) (f:GS):Bool:=D4 names x&&lookS x zP==Gq (.ref f)
theorem jp (c:UO u) {x:Hb} {f:GS} (h:uU names x f=Gu):names.lookup x=Gq .globalImplicit/\(x==("__debug__":Hb))=Gw/\lookS x u.gl=Gq (.ref f):=by
 obtain⟨b,e⟩:=aa h;exact⟨(my b).1,(my b).2,by rw [c.gl];exact beq_iff_eq.mp e⟩
theorem tY {b:List GW} (h:GI (b.length<20)=Gu):(GI (b.length+([]:List J0).length+(if([]:List J0).isEmpty then 0 else 1) <30))=Gu:=by
 have:=of_decide_eq_true h
 exact decide_eq_true (show b.length+0+0<30 by lia)
theorem xw (g:UO u) {x:Hb} {f:GS} {j pos:HO} {i:List GW} {e:List E} (S:SndEs u d names i e) (k:noStar i) (h:(uU names x f&&(lookC f tab.inits).isNone)=Gu):ao u d names (.Call (.Name x j) i [] pos) (.callF f e):=by
 obtain⟨a,b,c⟩:=jp g (aa h).1;exact sS a c b (fun w=>g.kp w x f c (by rw [g.T];exact Mm.mp (aa h).2)) S k
theorem zA (g:UO u) {x:Hb} {C:GS} {k pos:HO} {j:List GW} {f:List E} (S:SndEs u d names j f) (l:noStar j) (h:(uU names x C&&(lookC C tab.inits).isSome)=Gu):ao u d names (.Call (.Name x k) j [] pos) (.callC C f):=by
 obtain⟨a,b,c⟩:=jp g (aa h).1;obtain⟨i,e⟩:=HT.mp (aa h).2;exact rZ g.tab a c b (i:=i) (by rw [g.T];exact e) S l
theorem xL (g:UO u) {o:GW} {e:E} {n:Nat} {x:Hb} {f pos:HO} {c:List GW} {b:List E} (i:ao u d names o e) (S:SndEs u d names c b) (j:cX o) (k:noStar c) (h:(GI (nm n=x)&&(GI (c.length<20)&&f.endLine==pos.line))=Gu):ao u d names (.Call (.Attribute o x f) c [] pos) (.callM n e b):=by
 exact sF g.tab i j (of_decide_eq_true (aa h).1) S k (tY (aa (aa h).2).1) (aa (aa h).2).2
noncomputable def x8 (y:Hb):GS:=match lookS y zP with
 |some (.ref C)=>C
 |_=>0
theorem x7 (i:UO u) {y x:Hb} {f:GS} {k j pos:HO} {g:List GW} {e:List E} (S:SndEs u d names g e) (l:noStar g) (h:(uU names y (x8 y)&&(GI (lookSt (x8 y) x DZ=Gq f)&&(GI (g.length<20)&&j.endLine==pos.line)))=Gu):ao u d names (.Call (.Attribute (.Name y k) x j) g [] pos) (.callF f e):=by
 obtain⟨a,b,c⟩:=jp i (aa h).1
 have h:=aa (aa h).2
 exact sP a c b (fun w=>i.sf w _ (qp (of_decide_eq_true h.1))) S l (tY (aa h.2).1) (aa h.2).2
theorem BZ (c:UO u) {o:GW} {b:E} {n:Nat} {x:Hb} {pos:HO} (e:ao u d names o b) (f:cX o) (h:GI (nm n=x)=Gu):ao u d names (.Attribute o x pos) (.op (.attr n) [b]):=
 vl c.tab e f (of_decide_eq_true h)
noncomputable def q9 (names:Ns) (x y:Hb):Bool:=GI (names.lookup x=Gq .globalImplicit)&&GI (x=y)
theorem cV {x y:Hb} (h:q9 names x y=Gu):names.lookup x=Gq .globalImplicit/\x=y:=⟨of_decide_eq_true (aa h).1,of_decide_eq_true (aa h).2⟩
theorem EB {e:GW} {b:E} (S:ao u d names e b) (h:dX e) (h':jX b=Gu):dQ u d names e b:=yl S h (iw h')
theorem Dc {l r:GW} {b c:E} {o:CmpOp} {op:Rel} {pos:HO} (e:ao u d names l b) (f:ao u d names r c) (h:iB r) (g:o=op.m):ao u d names (.Compare l [o] [r] pos) (.op (.rel op) [b,c]):=g▸xx BY e f h
theorem Dk {l r:GW} {b c:E} {o:Lp} {op:Op} {pos:HO} (e:ao u d names l b) (f:ao u d names r c) (g:o=op.m):ao u d names (.BinOp l o r pos) (.op (.bin op) [b,c]):=g▸zt e f
theorem Bk {g:IN} {b:List (Option Nat)} {t:Nat} {x:Hb} {e i:GW} {c f:E} {j pos:HO} (k:ao u d (dq g) e c) (hi:ao u d names i f) (l:fu i) (h:fw names g b t x=Gu):ao u d names (.ListComp e [⟨.Name x j,i,[],0⟩] g pos) (.comp b t c f):=
 snd_comp (gy h) k hi l
theorem xS {g:IN} {b:List (Option Nat)} {t:Nat} {x j:Hb} {e i:GW} {c f:E} {l m n pos:HO} (o:ao u d (dq g) e c) (hi:ao u d names i f) (p:noStar [i]) (h:(fw names g b t x&&q9 names j "range")=Gu):ao u d names (.ListComp e [⟨.Name x l,.Call (.Name j m) [i] [] n,[],0⟩] g pos) (.compR b t c f):=
 have k:=cV (aa h).2;tn (gy (aa h).1) o hi k.1 k.2 p
theorem xR {i:IN} {b:List (Option Nat)} {t k:Nat} {x y:Hb} {f j:GW} {c g:E} {l pos p e:HO} (m:ao u d (dq i) f c) (hi:ao u d names j g) (n:fu j) (h:(fw names i b t x&&slot names y k)=Gu)
  (o:∀(s:IN) (env:J2),IV (.ListComp f [⟨.Name x l,j,[],0⟩] i pos) (Gq (.Name y p)) e.line {env with scope:={s with kind:=.function,names:=names}}=HE Gu):bB u d names (.Assign [.Name y p] (.ListComp f [⟨.Name x l,j,[],0⟩] i pos) e) (.assign (.loc k) (.comp b t c g)):=
 ss_comp (gy (aa h).1) m hi n (df (aa h).2) (jl (F:=fun env=>IV _ _ _ env) o)
theorem wF {j:IN} {c:List (Option Nat)} {t k:Nat} {x y m:Hb} {g l:GW} {e i:E} {n pos p f o q:HO} (r:ao u d (dq j) g e) (hi:ao u d names l i) (v:noStar [l]) (h:(fw names j c t x&&(q9 names m "range"&&slot names y k))=Gu)
  (z:∀(s:IN) (env:J2),IV (.ListComp g [⟨.Name x n,.Call (.Name m o) [l] [] q,[],0⟩] j pos) (Gq (.Name y p)) f.line {env with scope:={s with kind:=.function,names:=names}}=HE Gu):bB u d names (.Assign [.Name y p] (.ListComp g [⟨.Name x n,.Call (.Name m o) [l] [] q,[],0⟩] j pos) f) (.assign (.loc k) (.compR c t e i)):=
 have b:=cV (aa (aa h).2).1;tG (gy (aa h).1) r hi b.1 b.2 v (df (aa (aa h).2).2) (jl (F:=fun env=>IV _ _ _ env) z)
theorem yF {i:IN} {e:List (Option Nat)} {t k j:Nat} {x y:Hb} {g:GW} {f:E} {p l m n pos c:HO} (hi:ao u d names g f) (o:fu g) (h:(fw names i e t x&&(slot names y k&&(!(x==("__debug__":Hb))&& !(x==("__classdict__":Hb)))))=Gu)
  (q:∀(s:IN) (env:J2),IV (.DictComp (.Name x m) (.Constant (.bool Gu) j n) [⟨.Name x l,g,[],0⟩] i pos) (Gq (.Name y p)) c.line {env with scope:={s with kind:=.function,names:=names}}=HE Gu):bB u d names (.Assign [.Name y p] (.DictComp (.Name x m) (.Constant (.bool Gu) j n) [⟨.Name x l,g,[],0⟩] i pos) c) (.assign (.loc k) (.dtrue t f)):=
 have b:=aa (aa h).2;uG d names i e t x y g f k j p l m n pos c (gy (aa h).1) hi o (df b.1) (kE (aa b.2).1) (kE (aa b.2).2) (jl (F:=fun env=>IV _ _ _ env) q)
theorem Bf {x:Hb} {k:Nat} {e:GW} {b:E} {p pos:HO} (S:ao u d names e b) (c:cj e) (h:slot names x k=Gu):bB u d names (.Assign [.Name x p] e pos) (.assign (.loc k) b):=xn S c (df h)
theorem Ad (f:UO u) {o e:GW} {b c:E} {x:Hb} {n:Nat} {p pos:HO} (g:ao u d names o b) (i:ao u d names e c) (j:cj e) (h:GI (nm n=x)=Gu):bB u d names (.Assign [.Attribute o x p] e pos) (.setAttr b n c):=pK f.tab g i j (of_decide_eq_true h)
noncomputable def Au:Op->Bool
 |.add|.bor=>Gu
 |_=>Gw
theorem pX {o:Op} (h:Au o=Gu):o=.add\/o=.bor:=by cases o<;>first|exact .inl rfl|exact .inr rfl|cases h
theorem Ds {x:Hb} {k:Nat} {o:Lp} {op:Op} {e:GW} {b:E} {p pos:HO} (S:ao u d names e b) (h:(slot names x k&&(Au op&& !(x==("__classdict__":Hb))))=Gu) (c:o=op.m):bB u d names (.AugAssign (.Name x p) o e pos) (.aug k op b):=c▸Cr S (df (aa h).1) (pX (aa (aa h).2).1) (kE (aa (aa h).2).2)
theorem AG (f:UO u) {o e:GW} {b c:E} {x:Hb} {n:Nat} {q:Lp} {op:Op} {p pos:HO} (g:ao u d names o b) (i:ao u d names e c) (h:(Au op&&GI (nm n=x))=Gu) (j:q=op.m):bB u d names (.AugAssign (.Attribute o x p) q e pos) (.augAttr b n op c):=j▸pk f.tab g i (pX (aa h).1) (of_decide_eq_true (aa h).2)
theorem Ak {o e:GW} {b c f:E} {x:Hb} {q:Lp} {op:Op} {p g pos:HO} (i:ao u d names o b) (j:ao u d names (.Name x g) c) (k:ao u d names e f) (h:Au op=Gu) (l:q=op.m):bB u d names (.AugAssign (.Subscript o (.Name x g) p) q e pos) (.augIdx b c op f):=l▸tz i j k (pX h)
theorem Dp {b:List GW} {ks:List Nat} {e:GW} {c:E} {n:Nat} {p pos:HO} (S:ao u d names e c) (f:TgtAt names b ks) (h:cj e) (g:∀(s:IN) (env:J2),Je [.Tuple b n p] e {env with scope:={s with kind:=.function,names:=names}}=HE Gs):bB u d names (.Assign [.Tuple b n p] e pos) (.assign (.locs ks) c):=
 AA S h f (jl (F:=fun env=>Je [.Tuple b n p] e env) g)
theorem B6 {x y:Hb} {ks:List Nat} {a b:GW} {f:E} {n m:Nat} {c e p q pos:HO} (S:ao u d names (.Tuple [a,b] m q) f) (h:(slots names [x,y] ks&&GI ks.Nodup)=Gu) (g:∀(s:IN) (env:J2),Je [.Tuple [.Name x c,.Name y e] n p] (.Tuple [a,b] m q) {env with scope:={s with kind:=.function,names:=names}}=HE (Gq [x,y])):bB u d names (.Assign [.Tuple [.Name x c,.Name y e] n p] (.Tuple [a,b] m q) pos) (.assign (.locs ks) f):=
 yO S (fun Z Z Z=>rfl) (oh (aa h).1) (of_decide_eq_true (aa h).2) (jl (F:=fun env=>Je [.Tuple [.Name x c,.Name y e] n p] (.Tuple [a,b] m q) env) g)
theorem Ci {x c:Hb} {k:Nat} {p i j pos:HO} {e:GW} {f:E} {b:List Iy} {g:List S} (l:ao u d names e f) (m:cJ u d names b g) (n:noStar [e]) (h:(slot names x k&&q9 names c "range")=Gu):bB u d names (.For (.Name x p) (.Call (.Name c i) [e] [] j) b [] pos) (.forR k f g):=
 have k:=cV (aa h).2;xA (df (aa h).1) k.1 k.2 l n m
theorem yq (c:UO u) {x y f g:Hb} {j k:Nat} {l m n o p q r s t:HO} {e:GW} {i:E} (S:ao u d names e i) (v:noStar [e]) (h:(uU names x 71&&(q9 names y "str"&&GI (f.cps.size+g.cps.size<=1000)))=Gu):
  bB u d names (.Raise (Gq (.Call (.Name x l) [.BinOp (.BinOp (.Constant (.str f) j m) .Add (.Call (.Name y n) [e] [] o) p) .Add (.Constant (.str g) k q) r] [] s)) Gs t) (.raise i):=
 have a:=jp c (aa h).1;have b:=cV (aa (aa h).2).1;c.rs d names x y f g j k l m n o p q r s t e i a.1 a.2.1 (by rw [c.te];exact a.2.2) b.1 b.2 S v (of_decide_eq_true (aa (aa h).2).2)
theorem CX (e:UO u) {b r:List Iy} {f g:List S} {y:Hb} {i j l pos c:HO} {k:Nat} (m:cJ u d names b f) (n:f3 u d names r g) (h:(uU names y 71&&names.all fun x=>!(GI (x.2=.cell)))=Gu):
  f3 u d names (.Try b [.ExceptHandler (Gq (.Name y i)) Gs [.Return (Gq (.Constant .none k j)) l] pos] [] [] c::r) (.try f [.ret (.const .none)]::g):=
 have a:=jp e (aa h).1;Ar e.exc a.1 (by rw [e.te];exact a.2.2) a.2.1 (fun x o=>of_decide_eq_false (kE (Hg.mp (aa h).2 x o))) m n
theorem Dx {k:Nat} {l:List Iy} {b:List S} (h:f3 u d names l b) (c:(names[k]?).isSome=Gu):f3 u d names l (.frz k::b):=let ⟨_,e⟩:=HT.mp c;AN e h
end
noncomputable def F7:List S:=[.assign (.loc 1) (.op .lst []),.assign (.loc 2) (.const (.int 0)),.assign (.loc 3) (.loc 0),.while (.op (.rel .gt) [.loc 3,.const (.int 0)]) [.ite (.op (.rel .eq) [.op (.bin .band) [.loc 3,.const (.int 1)],.const (.int 1)]) [.expr (.app (.loc 1) (.loc 2))] [],.assign (.loc 3) (.op (.bin .shr) [.loc 3,.const (.int 1)]),.assign (.loc 2) (.op (.bin .add) [.loc 2,.const (.int 1)])],.ret (.loc 1)]
noncomputable def FW:List S:=[.setAttr (.loc 0) 0 (.loc 1),.setAttr (.loc 0) 1 (.op .lst []),.setAttr (.loc 0) 2 (.op .lst []),.setAttr (.loc 0) 3 (.op .dct0 []),.setAttr (.loc 0) 4 (.const (.int 0))]
noncomputable def El:List S:=[.ite (.op (.rel .ge) [.op .len [.op (.attr 1) [.loc 0]],.op (.attr 0) [.loc 0]]) [.raise (.op (.attr 0) [.loc 0])] [],.expr (.app (.op (.attr 1) [.loc 0]) (.op .lst [])),.expr (.app (.op (.attr 2) [.loc 0]) (.op .lst [])),.ret (.op (.bin .sub) [.op .len [.op (.attr 1) [.loc 0]],.const (.int 1)])]
noncomputable def ES:List S:=[.ite (.op (.rel .ne) [.loc 2,.const (.int 0)]) [.expr (.app (.op .idx [.op (.attr 1) [.loc 0],.loc 1]) (.op .tup [.loc 2,.loc 3]))] []]
noncomputable def FM:List S:=[.ite (.op .notIn [.loc 2,.op .idx [.op (.attr 2) [.loc 0],.loc 1]]) [.expr (.app (.op .idx [.op (.attr 2) [.loc 0],.loc 1]) (.loc 2))] []]
noncomputable def EE:List S:=[.setAttr (.loc 0) 4 (.loc 1)]
noncomputable def Fd:List S:=[.setIdx (.op (.attr 3) [.loc 0]) (.loc 1) (.loc 2)]
noncomputable def FL:List S:=[.ret (.op .len [.op (.attr 1) [.loc 0]])]
noncomputable def Ea:List S:=[.assign (.loc 2) (.op .lst []),.while (.op (.rel .eq) [.op (.attr 21) [.loc 0],.loc 1]) [.expr (.app (.loc 2) (.op (.attr 17) [.loc 0])),.assign (.loc 0) (.op (.attr 16) [.loc 0])],.expr (.app (.loc 2) (.loc 0)),.expr (.op .rev [.loc 2]),.ret (.loc 2)]
noncomputable def r5:List S:=[.assign (.loc 3) (.op (.attr 21) [.loc 1]),.ite (.op (.rel .eq) [.loc 3,.const (.str 22)]) [.ret (.callF 172 [.loc 0,.callF 158 [.loc 1,.const (.str 22)],.loc 2])] [],.ite (.op (.rel .eq) [.loc 3,.const (.str 23)]) [.ret (.callF 179 [.loc 0,.callF 158 [.loc 1,.const (.str 23)],.loc 2])] [],.ite (.op (.rel .eq) [.loc 3,.const (.str 24)]) [.ret (.callF 186 [.loc 0,.op (.attr 18) [.loc 1],.loc 2,.const (.bool Gu),.const (.bool Gu)])] [],.ite (.op (.rel .eq) [.loc 3,.const (.str 25)]) [.ret (.callF 186 [.loc 0,.op (.attr 18) [.loc 1],.loc 2,.const (.bool Gw),.const (.bool Gu)])] [],.ite (.op (.rel .eq) [.loc 3,.const (.str 26)]) [.ret (.callF 186 [.loc 0,.op (.attr 18) [.loc 1],.loc 2,.const (.bool Gu),.const (.bool Gw)])] [],.ite (.op (.rel .eq) [.loc 3,.const (.str 27)]) [.ret (.callF 193 [.loc 0,.loc 1,.loc 2])] [],.assign (.loc 4) (.callM 33 (.loc 0) []),.assign (.loc 5) (.callM 33 (.loc 0) []),.ite (.op (.rel .eq) [.loc 3,.const (.str 28)]) [.expr (.callM 34 (.loc 0) [.loc 4,.callM 50 (.loc 2) [.op (.attr 15) [.loc 1]],.loc 5])] [.ite (.op (.rel .eq) [.loc 3,.const (.str 29)]) [.expr (.callM 35 (.loc 0) [.loc 4,.loc 5])] []],.ret (.op .tup [.loc 4,.loc 5])]
noncomputable def Ed:List S:=[.assign (.locs [3,4]) (.callF 165 [.loc 0,.op .idx [.loc 1,.const (.int 0)],.loc 2]),.for (.loc 5) (.op .from1 [.loc 1]) [.assign (.locs [6,7]) (.callF 165 [.loc 0,.loc 5,.loc 2]),.expr (.callM 35 (.loc 0) [.loc 4,.loc 6]),.assign (.loc 4) (.loc 7)],.ret (.op .tup [.loc 3,.loc 4])]
noncomputable def Fw:List S:=[.assign (.loc 3) (.callM 33 (.loc 0) []),.assign (.loc 4) (.op .lst []),.for (.loc 5) (.loc 1) [.assign (.locs [6,7]) (.callF 165 [.loc 0,.loc 5,.loc 2]),.expr (.callM 35 (.loc 0) [.loc 3,.loc 6]),.expr (.app (.loc 4) (.loc 7))],.assign (.loc 8) (.callM 33 (.loc 0) []),.for (.loc 7) (.loc 4) [.expr (.callM 35 (.loc 0) [.loc 7,.loc 8])],.ret (.op .tup [.loc 3,.loc 8])]
noncomputable def EX:List S:=[.assign (.loc 5) (.callM 33 (.loc 0) []),.assign (.locs [6,7]) (.callF 165 [.loc 0,.loc 1,.loc 2]),.assign (.loc 8) (.callM 33 (.loc 0) []),.expr (.callM 35 (.loc 0) [.loc 5,.loc 6]),.expr (.callM 35 (.loc 0) [.loc 7,.loc 8]),.ite (.loc 4) [.expr (.callM 35 (.loc 0) [.loc 7,.loc 6])] [],.ite (.loc 3) [.expr (.callM 35 (.loc 0) [.loc 5,.loc 8])] [],.ret (.op .tup [.loc 5,.loc 8])]
noncomputable def Ef:List S:=[.assign (.loc 3) (.callM 33 (.loc 0) []),.assign (.loc 4) (.loc 3),.forR 5 (.op (.attr 19) [.loc 1]) [.assign (.locs [6,7]) (.callF 165 [.loc 0,.op (.attr 18) [.loc 1],.loc 2]),.expr (.callM 35 (.loc 0) [.loc 4,.loc 6]),.assign (.loc 4) (.loc 7)],.ite (.op .isNone [.op (.attr 20) [.loc 1]]) [.assign (.locs [6,7]) (.callF 186 [.loc 0,.op (.attr 18) [.loc 1],.loc 2,.const (.bool Gu),.const (.bool Gu)]),.expr (.callM 35 (.loc 0) [.loc 4,.loc 6]),.ret (.op .tup [.loc 3,.loc 7])] [],.assign (.loc 8) (.callM 33 (.loc 0) []),.expr (.callM 35 (.loc 0) [.loc 4,.loc 8]),.forR 5 (.op (.bin .sub) [.op (.attr 20) [.loc 1],.op (.attr 19) [.loc 1]]) [.assign (.locs [6,7]) (.callF 165 [.loc 0,.op (.attr 18) [.loc 1],.loc 2]),.expr (.callM 35 (.loc 0) [.loc 4,.loc 6]),.expr (.callM 35 (.loc 0) [.loc 7,.loc 8]),.assign (.loc 4) (.loc 7)],.ret (.op .tup [.loc 3,.loc 8])]
noncomputable def FC:List S:=[.assign (.loc 3) (.dtrue 1 (.loc 1)),.assign (.loc 4) (.op .sorted [.loc 3]),.while (.loc 4) [.assign (.loc 2) (.op .pop [.loc 4]),.for (.loc 5) (.op .idx [.op (.attr 2) [.loc 0],.loc 2]) [.ite (.op .notIn [.loc 5,.loc 3]) [.setIdx (.loc 3) (.loc 5) (.const (.bool Gu)),.expr (.app (.loc 4) (.loc 5))] []]],.ret (.tsorted (.loc 3))]
noncomputable def FI:List S:=[.assign (.loc 2) (.op .dct0 []),.for (.loc 3) (.loc 1) [.ite (.op .inn [.loc 3,.op (.attr 3) [.loc 0]]) [.setIdx (.loc 2) (.op .idx [.op (.attr 3) [.loc 0],.loc 3]) (.const (.bool Gu))] []],.ret (.tsorted (.loc 2))]
noncomputable def Er:List S:=[.setAttr (.loc 0) 5 (.loc 1),.setAttr (.loc 0) 6 (.op .dct0 [])]
noncomputable def EJ:List S:=[.ite (.op .notIn [.loc 1,.op (.attr 6) [.loc 0]]) [.assign (.loc 2) (.const (.int 0)),.for (.loc 3) (.callF 198 [.op (.attr 5) [.loc 0],.op .lst [.loc 1]]) [.ite (.or (.op .idx [.op (.attr 1) [.op (.attr 5) [.loc 0]],.loc 3]) (.op .inn [.loc 3,.op (.attr 3) [.op (.attr 5) [.loc 0]]])) [.aug 2 .bor (.op (.bin .shl) [.const (.int 1),.loc 3])] []],.setIdx (.op (.attr 6) [.loc 0]) (.loc 1) (.loc 2)] [],.ret (.op .idx [.op (.attr 6) [.loc 0],.loc 1])]
noncomputable def E9:List S:=[.ret (.callM 39 (.loc 0) [.op (.attr 4) [.op (.attr 5) [.loc 0]]])]
noncomputable def EF:List S:=[.assign (.loc 2) (.op .lst []),.for (.loc 3) (.callF 80 [.loc 1]) [.for (.locs [4,5]) (.op .idx [.op (.attr 1) [.op (.attr 5) [.loc 0]],.loc 3]) [.expr (.app (.loc 2) (.op .tup [.loc 4,.callM 39 (.loc 0) [.loc 5]]))]],.ret (.loc 2)]
noncomputable def FE:List S:=[.ite (.op (.rel .lt) [.loc 2,.const (.int 0)]) [.ret (.const (.int 0))] [],.assign (.loc 3) (.const (.int 0)),.for (.locs [4,5]) (.loc 1) [.ite (.op (.bin .band) [.op (.bin .shr) [.loc 4,.loc 2],.const (.int 1)]) [.aug 3 .bor (.loc 5)] []],.ret (.loc 3)]
noncomputable def Eu:List S:=[.ret (.callF 205 [.op (.attr 5) [.loc 0],.callF 80 [.loc 1]])]
noncomputable def CW:List S:=[.setAttr (.loc 0) 0 (.loc 2),.setAttr (.loc 0) 7 (.const (.int 0)),.setAttr (.loc 0) 8 (.loc 1),.setAttr (.loc 0) 9 (.op .lst [.const (.int 0)]),.setAttr (.loc 0) 10 (.op .lst [.const (.int 0)])]
noncomputable def yK:List S:=[.augAttr (.loc 0) 7 .add (.const (.int 1)),.ite (.op (.rel .gt) [.op (.attr 7) [.loc 0],.op (.attr 0) [.loc 0]]) [.raise (.op (.attr 0) [.loc 0])] [],.assign (.loc 2) (.op (.attr 21) [.loc 1]),.ite (.op (.rel .eq) [.loc 2,.const (.str 22)]) [.ret (.callM 46 (.loc 0) [.comp [Gs,Gs,Gq 0] 1 (.callM 43 (.loc 2) [.loc 1]) (.callF 158 [.loc 1,.const (.str 22)])])] [],.ite (.op (.rel .eq) [.loc 2,.const (.str 23)]) [.ret (.callM 47 (.loc 0) [.comp [Gs,Gs,Gq 0] 1 (.callM 43 (.loc 2) [.loc 1]) (.callF 158 [.loc 1,.const (.str 23)])])] [],.ite (.op (.rel .eq) [.loc 2,.const (.str 24)]) [.assign (.locs [3,4,5]) (.callM 48 (.loc 0) [.callM 43 (.loc 0) [.op (.attr 18) [.loc 1]]]),.ret (.op .tup [.const (.bool Gu),.loc 4,.loc 5])] [],.ite (.op (.rel .eq) [.loc 2,.const (.str 25)]) [.ret (.callM 48 (.loc 0) [.callM 43 (.loc 0) [.op (.attr 18) [.loc 1]]])] [],.ite (.op (.rel .eq) [.loc 2,.const (.str 26)]) [.assign (.locs [3,4,5]) (.callM 43 (.loc 0) [.op (.attr 18) [.loc 1]]),.ret (.op .tup [.const (.bool Gu),.loc 4,.loc 5])] [],.ite (.op (.rel .eq) [.loc 2,.const (.str 27)]) [.ret (.callM 49 (.loc 0) [.loc 1])] [],.ite (.op (.rel .eq) [.loc 2,.const (.str 28)]) [.ret (.callM 44 (.loc 0) [.callM 50 (.op (.attr 8) [.loc 0]) [.op (.attr 15) [.loc 1]]])] [],.ret (.op .tup [.op (.rel .eq) [.loc 2,.const (.str 29)],.const (.int 0),.const (.int 0)])]
noncomputable def FO:List S:=[.ite (.op (.rel .eq) [.loc 1,.const (.int 0)]) [.ret (.op .tup [.const (.bool Gw),.const (.int 0),.const (.int 0)])] [],.expr (.app (.op (.attr 9) [.loc 0]) (.loc 1)),.expr (.app (.op (.attr 10) [.loc 0]) (.const (.int 0))),.assign (.loc 2) (.op (.bin .shl) [.const (.int 1),.op (.bin .sub) [.op .len [.op (.attr 9) [.loc 0]],.const (.int 1)]]),.ret (.op .tup [.const (.bool Gw),.loc 2,.loc 2])]
noncomputable def EC:List S:=[.for (.loc 3) (.callF 80 [.loc 1]) [.augIdx (.op (.attr 10) [.loc 0]) (.loc 3) .bor (.loc 2)]]
noncomputable def Ec:List S:=[.assign (.locs [2,3,4]) (.op .tup [.const (.bool Gu),.const (.int 0),.const (.int 0)]),.for (.locs [5,6,7]) (.loc 1) [.expr (.callM 45 (.loc 0) [.loc 4,.loc 6]),.ite (.loc 2) [.aug 3 .bor (.loc 6)] [],.ite (.loc 5) [.aug 4 .bor (.loc 7)] [.assign (.loc 4) (.loc 7)],.assign (.loc 2) (.and (.loc 2) (.loc 5))],.ret (.op .tup [.loc 2,.loc 3,.loc 4])]
noncomputable def EP:List S:=[.assign (.locs [2,3,4]) (.op .tup [.const (.bool Gw),.const (.int 0),.const (.int 0)]),.for (.locs [5,6,7]) (.loc 1) [.assign (.loc 2) (.or (.loc 2) (.loc 5)),.aug 3 .bor (.loc 6),.aug 4 .bor (.loc 7)],.ret (.op .tup [.loc 2,.loc 3,.loc 4])]
noncomputable def EN:List S:=[.expr (.callM 45 (.loc 0) [.op .idx [.loc 1,.const (.int 2)],.op .idx [.loc 1,.const (.int 1)]]),.ret (.loc 1)]
noncomputable def Ek:List S:=[.assign (.loc 3) (.compR [Gs,Gs,Gq 1,Gq 0] 1 (.callM 43 (.loc 3) [.op (.attr 18) [.loc 2]]) (.op (.attr 19) [.loc 1])),.ite (.op .isNone [.op (.attr 20) [.loc 1]]) [.assign (.locs [4,5,6]) (.callM 48 (.loc 0) [.callM 43 (.loc 0) [.op (.attr 18) [.loc 1]]]),.expr (.app (.loc 3) (.op .tup [.const (.bool Gu),.loc 5,.loc 6])),.ret (.callM 46 (.loc 0) [.loc 3])] [],.forR 2 (.op (.bin .sub) [.op (.attr 20) [.loc 1],.op (.attr 19) [.loc 1]]) [.assign (.locs [4,5,6]) (.callM 43 (.loc 0) [.op (.attr 18) [.loc 1]]),.expr (.app (.loc 3) (.op .tup [.const (.bool Gu),.loc 5,.loc 6]))],.ret (.callM 46 (.loc 0) [.loc 3])]
noncomputable def EZ:List S:=[.setAttr (.loc 0) 11 (.loc 1)]
noncomputable def EH:List S:=[.ret (.callF 397 [.comp [Gs,Gs,Gs] 1 (.op .tup [.op .ord [.loc 1],.op .ord [.loc 1]]) (.loc 0)])]
noncomputable def Em:List S:=[.assign (.loc 1) (.op .lst []),.for (.locs [2,3]) (.loc 0) [.assign (.loc 4) (.op .max [.loc 2,.const (.int 0)]),.assign (.loc 5) (.op .min [.loc 3,.const (.int 127)]),.ite (.op (.rel .le) [.loc 4,.loc 5]) [.expr (.app (.loc 1) (.op .tup [.loc 4,.loc 5]))] []],.assign (.loc 6) (.op .lst []),.for (.locs [4,5]) (.op .sorted [.loc 1]) [.ite (.and (.loc 6) (.op (.rel .le) [.loc 4,.op (.bin .add) [.op .idx [.op .idx [.loc 6,.const (.int (-1))],.const (.int 1)],.const (.int 1)]])) [.ite (.op (.rel .gt) [.loc 5,.op .idx [.op .idx [.loc 6,.const (.int (-1))],.const (.int 1)]]) [.setIdx (.loc 6) (.const (.int (-1))) (.op .tup [.op .idx [.op .idx [.loc 6,.const (.int (-1))],.const (.int 0)],.loc 5])] []] [.expr (.app (.loc 6) (.op .tup [.loc 4,.loc 5]))]],.ret (.callC 494 [.op .tupleOf [.loc 6]])]
noncomputable def ED:List S:=[.assign (.loc 2) (.dct1 (.const (.int 0)) (.const (.int 0))),.forR 3 (.op .len [.loc 1]) [.for (.locs [4,5]) (.op (.attr 11) [.op .idx [.loc 1,.loc 3]]) [.setIdx (.loc 2) (.loc 4) (.op (.bin .bxor) [.getD (.loc 2) (.loc 4) (.const (.int 0)),.op (.bin .shl) [.const (.int 1),.loc 3]]),.ite (.op (.rel .lt) [.loc 5,.const (.int 127)]) [.setIdx (.loc 2) (.op (.bin .add) [.loc 5,.const (.int 1)]) (.op (.bin .bxor) [.getD (.loc 2) (.op (.bin .add) [.loc 5,.const (.int 1)]) (.const (.int 0)),.op (.bin .shl) [.const (.int 1),.loc 3]])] []]],.setAttr (.loc 0) 12 (.op .lst []),.setAttr (.loc 0) 13 (.op .lst []),.assign (.loc 6) (.op .dct0 []),.assign (.loc 7) (.const (.int 0)),.for (.loc 8) (.op .sortedKeys [.loc 2]) [.assign (.loc 7) (.op (.bin .bxor) [.loc 7,.op .idx [.loc 2,.loc 8]]),.ite (.op .notIn [.loc 7,.loc 6]) [.setIdx (.loc 6) (.loc 7) (.op .len [.loc 6])] [],.expr (.app (.op (.attr 12) [.loc 0]) (.loc 8)),.expr (.app (.op (.attr 13) [.loc 0]) (.op .idx [.loc 6,.loc 7]))],.setAttr (.loc 0) 7 (.op .len [.loc 6])]
noncomputable def zi:List S:=[.assign (.loc 2) (.const (.int 0)),.assign (.loc 3) (.const (.int 0)),.assign (.loc 4) (.op (.attr 11) [.loc 1]),.assign (.loc 5) (.const (.int 0)),.forR 6 (.op .len [.op (.attr 12) [.loc 0]]) [.assign (.loc 7) (.op .idx [.op (.attr 12) [.loc 0],.loc 6]),.assign (.loc 8) (.const (.int 127)),.ite (.op (.rel .lt) [.op (.bin .add) [.loc 6,.const (.int 1)],.op .len [.op (.attr 12) [.loc 0]]]) [.assign (.loc 8) (.op (.bin .sub) [.op .idx [.op (.attr 12) [.loc 0],.op (.bin .add) [.loc 6,.const (.int 1)]],.const (.int 1)])] [],.while (.and (.op (.rel .lt) [.loc 5,.op .len [.loc 4]]) (.op (.rel .lt) [.op .idx [.op .idx [.loc 4,.loc 5],.const (.int 1)],.loc 7])) [.assign (.loc 5) (.op (.bin .add) [.loc 5,.const (.int 1)])],.ite (.and (.op (.rel .lt) [.loc 5,.op .len [.loc 4]]) (.op (.rel .le) [.op .idx [.op .idx [.loc 4,.loc 5],.const (.int 0)],.loc 8])) [.ite (.or (.op (.rel .gt) [.op .idx [.op .idx [.loc 4,.loc 5],.const (.int 0)],.loc 7]) (.op (.rel .lt) [.op .idx [.op .idx [.loc 4,.loc 5],.const (.int 1)],.loc 8])) [.stuck] [],.assign (.loc 2) (.op (.bin .bor) [.loc 2,.op (.bin .shl) [.const (.int 1),.op .idx [.op (.attr 13) [.loc 0],.loc 6]]])] [.assign (.loc 3) (.op (.bin .bor) [.loc 3,.op (.bin .shl) [.const (.int 1),.op .idx [.op (.attr 13) [.loc 0],.loc 6]]])]],.ite (.op (.bin .band) [.loc 2,.loc 3]) [.stuck] [],.ret (.loc 2)]
noncomputable def Et:List S:=[.setAttr (.loc 0) 14 (.loc 1),.setAttr (.loc 0) 3 (.loc 2)]
noncomputable def FG:List S:=[.ret (.op .len [.op (.attr 14) [.loc 0]])]
noncomputable def FH:List S:=[.ret (.op .tup [.op .tupleOf [.comp [Gs,Gs,Gs] 1 (.op .tupleOf [.loc 1]) (.op (.attr 14) [.loc 0])],.op .tupleOf [.op (.attr 3) [.loc 0]]])]
noncomputable def C1:List S:=[.assign (.loc 3) (.callC 257 [.loc 0]),.assign (.loc 4) (.op .lst [.callM 40 (.loc 3) []]),.assign (.loc 5) (.dct1 (.op .idx [.loc 4,.const (.int 0)]) (.const (.int 0))),.assign (.loc 6) (.op .lst []),.while (.op (.rel .lt) [.op .len [.loc 6],.op .len [.loc 4]]) [.assign (.loc 7) (.callM 41 (.loc 3) [.op .idx [.loc 4,.op .len [.loc 6]]]),.assign (.loc 8) (.op .lst []),.forR 9 (.loc 1) [.assign (.loc 10) (.callM 42 (.loc 3) [.loc 7,.loc 9]),.ite (.op (.rel .eq) [.loc 10,.const (.int 0)]) [.expr (.app (.loc 8) (.const (.int (-1)))),.cont] [],.ite (.op .notIn [.loc 10,.loc 5]) [.ite (.op (.rel .ge) [.op .len [.loc 4],.loc 2]) [.raise (.loc 2)] [],.setIdx (.loc 5) (.loc 10) (.op .len [.loc 4]),.expr (.app (.loc 4) (.loc 10))] [],.expr (.app (.loc 8) (.op .idx [.loc 5,.loc 10]))],.expr (.app (.loc 6) (.loc 8))],.ret (.callC 624 [.loc 6,.comp [Gs,Gs,Gq 3] 1 (.callM 3 (.loc 2) [.loc 1]) (.loc 4)])]
noncomputable def Fk:List S:=[.setAttr (.loc 0) 15 (.loc 1)]
noncomputable def FB:List S:=[.setAttr (.loc 0) 16 (.loc 1),.setAttr (.loc 0) 17 (.loc 2)]
noncomputable def Ej:List S:=[.setAttr (.loc 0) 18 (.loc 1)]
noncomputable def Eg:List S:=[.expr (.callF 783 [.loc 0,.loc 1]),.ite (.or (.op (.rel .lt) [.loc 2,.const (.int 0)]) (.op (.rel .gt) [.loc 2,.const (.int 40)])) [.stuck] [],.ite (.and (.op .notNone [.loc 3]) (.or (.op (.rel .lt) [.loc 3,.loc 2]) (.op (.rel .gt) [.loc 3,.const (.int 40)]))) [.stuck] [],.setAttr (.loc 0) 19 (.loc 2),.setAttr (.loc 0) 20 (.loc 3)]
noncomputable def Fv:List S:=[.assign (.loc 1) (.const (.int 29)),.for (.loc 2) (.op .upto24 [.loc 0]) [.assign (.loc 1) (.op (.bin .add) [.op (.bin .mul) [.loc 1,.const (.int 1553)],.op (.bin .mod) [.op (.bin .add) [.op (.bin .mul) [.const (.int 2),.op .abs [.op .intOf [.loc 2]]],.op .intOf [.op (.rel .lt) [.loc 2,.const (.int 0)]]],.op (.bin .pow) [.const (.int 10),.const (.int 36)]]])],.ret (.op .lst [.loc 1,.const (.int 0),.op (.bin .add) [.op (.bin .mul) [.const (.int 2),.loc 1],.const (.int 1)]])]
noncomputable def Fg:List S:=[.ite (.op (.rel .eq) [.op .idx [.loc 0,.const (.int 0)],.const (.int 0)]) [.setIdx (.loc 0) (.const (.int 1)) (.op (.bin .add) [.op .idx [.loc 0,.const (.int 1)],.const (.int 1)]),.setIdx (.loc 0) (.const (.int 0)) (.op (.bin .mul) [.op (.bin .pow) [.const (.int 1000003),.op (.bin .add) [.const (.int 5),.op .idx [.loc 0,.const (.int 1)]]],.op .idx [.loc 0,.const (.int 2)]])] [],.assign (.loc 2) (.op (.bin .mod) [.op .idx [.loc 0,.const (.int 0)],.loc 1]),.setIdx (.loc 0) (.const (.int 0)) (.op (.bin .fdiv) [.op .idx [.loc 0,.const (.int 0)],.loc 1]),.ret (.loc 2)]
noncomputable def FD:List S:=[.ret (.op .idx [.op .tup [.op .tup [.const (.str 31)],.op .tup [.const (.str 32)],.op .tup [.const (.str 31)],.op .tup [.const (.str 29)],.op .tup [.const (.str 30)]],.callF 885 [.loc 0,.const (.int 5)]])]
noncomputable def Fo:List S:=[.assign (.loc 1) (.callF 892 [.loc 0]),.forR 2 (.op (.bin .add) [.const (.int 1),.callF 885 [.loc 0,.const (.int 3)]]) [.assign (.loc 3) (.callF 885 [.loc 0,.const (.int 8)]),.ite (.op (.rel .lt) [.loc 3,.const (.int 2)]) [.assign (.loc 1) (.op .tup [.op .idx [.op .tup [.const (.str 22),.const (.str 23)],.loc 3],.loc 1,.callF 892 [.loc 0]])] [.ite (.op (.rel .lt) [.loc 3,.const (.int 5)]) [.assign (.loc 1) (.op .tup [.op .idx [.op .tup [.const (.str 24),.const (.str 25),.const (.str 26)],.op (.bin .sub) [.loc 3,.const (.int 2)]],.loc 1])] [.assign (.loc 4) (.callF 885 [.loc 0,.const (.int 3)]),.assign (.loc 1) (.op .tup [.const (.str 27),.loc 1,.loc 4,.ite (.op (.rel .eq) [.loc 3,.const (.int 7)]) (.const .none) (.op (.bin .add) [.loc 4,.callF 885 [.loc 0,.op (.bin .sub) [.const (.int 4),.loc 4]]])])]]],.ret (.loc 1)]
noncomputable def yH:List S:=[.ite (.op .inn [.op .idx [.loc 0,.const (.int 0)],.op .tup [.const (.str 31),.const (.str 32)]]) [.ret (.callC 710 [.callF 377 [.op .idx [.loc 0,.const (.int 0)]]])] [],.ite (.op (.rel .eq) [.op .idx [.loc 0,.const (.int 0)],.const (.str 29)]) [.ret (.callC 672 [])] [],.ite (.op (.rel .eq) [.op .idx [.loc 0,.const (.int 0)],.const (.str 30)]) [.ret (.callC 684 [])] [],.assign (.loc 1) (.callF 906 [.op .idx [.loc 0,.const (.int 1)]]),.ite (.op (.rel .eq) [.op .idx [.loc 0,.const (.int 0)],.const (.str 22)]) [.ret (.callC 755 [.loc 1,.callF 906 [.op .idx [.loc 0,.const (.int 2)]]])] [],.ite (.op (.rel .eq) [.op .idx [.loc 0,.const (.int 0)],.const (.str 23)]) [.ret (.callC 767 [.loc 1,.callF 906 [.op .idx [.loc 0,.const (.int 2)]]])] [],.ite (.op (.rel .eq) [.op .idx [.loc 0,.const (.int 0)],.const (.str 27)]) [.ret (.callC 862 [.loc 1,.op .idx [.loc 0,.const (.int 2)],.op .idx [.loc 0,.const (.int 3)]])] [],.ite (.op (.rel .eq) [.op .idx [.loc 0,.const (.int 0)],.const (.str 24)]) [.ret (.callC 812 [.loc 1])] [],.ret (.ite (.op (.rel .eq) [.op .idx [.loc 0,.const (.int 0)],.const (.str 25)]) (.callC 824 [.loc 1]) (.callC 836 [.loc 1]))]
noncomputable def EO:List S:=[.assign (.loc 2) (.op .lst []),.while (.op (.rel .eq) [.op .idx [.loc 0,.const (.int 0)],.loc 1]) [.expr (.app (.loc 2) (.op .idx [.loc 0,.const (.int 2)])),.assign (.loc 0) (.op .idx [.loc 0,.const (.int 1)])],.ret (.op (.bin .add) [.loc 2,.op .lst [.loc 0]])]
noncomputable def DO:List S:=[.ite (.op .inn [.op .idx [.loc 0,.const (.int 0)],.op .tup [.const (.str 22),.const (.str 23)]]) [.assign (.loc 1) (.comp [Gs,Gs,Gs] 1 (.callF 918 [.loc 1]) (.callF 913 [.loc 0,.op .idx [.loc 0,.const (.int 0)]])),.ret (.op .tup [.op (.bin .add) [.op .sum [.comp [Gs,Gs] 1 (.op .idx [.loc 1,.const (.int 0)]) (.loc 1)],.op (.bin .mul) [.const (.int 2),.op .intOf [.op (.rel .eq) [.op .idx [.loc 0,.const (.int 0)],.const (.str 23)]]]],.op (.bin .add) [.op .sum [.comp [Gs,Gs] 1 (.op .idx [.loc 1,.const (.int 1)]) (.loc 1)],.const (.int 1)]])] [],.ite (.op (.rel .eq) [.op .len [.loc 0],.const (.int 1)]) [.ret (.op .tup [.const (.int 2),.const (.int 1)])] [],.assign (.locs [2,3]) (.callF 918 [.op .idx [.loc 0,.const (.int 1)]]),.ite (.op (.rel .ne) [.op .idx [.loc 0,.const (.int 0)],.const (.str 27)]) [.ret (.op .tup [.op (.bin .add) [.loc 2,.const (.int 2)],.op (.bin .add) [.loc 3,.const (.int 1)]])] [],.ite (.op .isNone [.op .idx [.loc 0,.const (.int 3)]]) [.ret (.op .tup [.op (.bin .add) [.const (.int 3),.op (.bin .mul) [.op (.bin .add) [.op .idx [.loc 0,.const (.int 2)],.const (.int 1)],.loc 2]],.op (.bin .add) [.const (.int 1),.op (.bin .mul) [.op (.bin .add) [.op .idx [.loc 0,.const (.int 2)],.const (.int 1)],.loc 3]]])] [],.ret (.op .tup [.op (.bin .add) [.const (.int 2),.op (.bin .mul) [.op .idx [.loc 0,.const (.int 3)],.loc 2]],.op (.bin .add) [.const (.int 1),.op (.bin .mul) [.op .idx [.loc 0,.const (.int 3)],.loc 3]]])]
noncomputable def Fb:List S:=[.assign (.loc 3) (.callC 147 [.loc 2]),.try [.assign (.locs [4,5]) (.callF 165 [.loc 3,.loc 0,.loc 1])] [.ret (.const .none)],.expr (.callM 36 (.loc 3) [.loc 4]),.expr (.callM 37 (.loc 3) [.loc 5,.const (.int 3)]),.ret (.loc 3)]
noncomputable def Ei:List S:=[.assign (.loc 3) (.callC 324 [.loc 1,.loc 2]),.try [.assign (.loc 4) (.callM 43 (.loc 3) [.loc 0])] [.ret (.const .none)],.ret (.op .tup [.loc 4,.op (.attr 9) [.loc 3],.op (.attr 10) [.loc 3]])]
noncomputable def E6:List S:=[.try [.ret (.callM 51 (.callF 634 [.loc 0,.const (.int 3),.loc 1]) [])] [.ret (.const .none)]]
noncomputable def Fy:List S:=[.assign (.loc 1) (.callC 257 [.loc 0]),.assign (.loc 2) (.callM 40 (.loc 1) []),.assign (.loc 3) (.callM 41 (.loc 1) [.loc 2]),.for (.loc 4) (.op .tup [.const (.int (-1)),.const (.int 0),.const (.int 1),.const (.int 2),.const (.int (-40)),.const (.int 3),.const (.int 70)]) [.assign (.loc 5) (.const (.int 0)),.forR 6 (.callM 38 (.loc 0) []) [.for (.locs [7,8]) (.op .idx [.op (.attr 1) [.loc 0],.loc 6]) [.ite (.and (.op (.bin .band) [.op (.bin .shr) [.loc 2,.loc 6],.const (.int 1)]) (.and (.chain (.const (.int 0)) (.loc 4) (.const (.int 3))) (.op (.bin .band) [.op (.bin .shr) [.loc 7,.loc 4],.const (.int 1)]))) [.assign (.loc 5) (.op (.bin .bor) [.loc 5,.callM 39 (.loc 1) [.loc 8]])] []]],.ite (.op (.rel .ne) [.callM 42 (.loc 1) [.loc 3,.loc 4],.loc 5]) [.ret (.const (.bool Gw))] []],.ret (.const (.bool Gu))]
noncomputable def mD:List S:=[.assign (.loc 1) (.callF 878 [.loc 0]),.assign (.loc 2) (.callF 899 [.loc 1]),.assign (.locs [3,4]) (.op .tup [.callF 906 [.loc 2],.callC 570 [.op .lst [.callF 377 [.const (.str 31)],.callF 377 [.const (.str 32)]]]]),.frz 4,.assign (.locs [5,6]) (.callF 918 [.loc 2]),.assign (.locs [7,8]) (.op .tup [.callF 925 [.loc 3,.loc 4,.loc 5],.callC 147 []]),.ite (.or (.op .isNone [.loc 7]) (.or (.op (.rel .ne) [.callM 38 (.loc 7) [],.loc 5]) (.op .notNone [.callF 925 [.loc 3,.loc 4,.op (.bin .sub) [.loc 5,.const (.int 1)]]]))) [.ret (.const (.bool Gw))] [],.expr (.callF 165 [.loc 8,.loc 3,.loc 4]),.ite (.or (.op (.rel .ne) [.op .tup [.op (.attr 1) [.loc 8],.op (.attr 2) [.loc 8]],.op .tup [.op (.attr 1) [.loc 7],.op (.attr 2) [.loc 7]]]) (.op (.rel .ne) [.op (.attr 0) [.loc 8],.const (.int 10000)])) [.ret (.const (.bool Gw))] [],.assign (.loc 9) (.callC 324 [.loc 4]),.assign (.loc 10) (.callM 43 (.loc 9) [.loc 3]),.ite (.or (.op (.rel .ne) [.callF 932 [.loc 3,.loc 4,.loc 6],.op .tup [.loc 10,.op (.attr 9) [.loc 9],.op (.attr 10) [.loc 9]]]) (.op .notNone [.callF 932 [.loc 3,.loc 4,.op (.bin .sub) [.loc 6,.const (.int 1)]]])) [.ret (.const (.bool Gw))] [],.ite (.or (.op (.rel .ne) [.op (.attr 7) [.loc 9],.loc 6]) (.op (.rel .ne) [.op (.attr 0) [.loc 9],.const (.int 1000)])) [.ret (.const (.bool Gw))] [],.assign (.loc 11) (.callF 634 [.loc 7,.const (.int 3)]),.ite (.op (.rel .ne) [.callF 939 [.loc 7,.callM 38 (.loc 11) []],.callM 51 (.loc 11) []]) [.ret (.const (.bool Gw))] [],.ite (.and (.op (.rel .gt) [.callM 38 (.loc 11) [],.const (.int 1)]) (.op .notNone [.callF 939 [.loc 7,.op (.bin .sub) [.callM 38 (.loc 11) [],.const (.int 1)]]])) [.ret (.const (.bool Gw))] [],.ret (.callF 946 [.loc 7])]
structure Fn where
 n:Nat
 ks:List Nat
 d:Option Int
 body:List S
noncomputable def fq:List (GS×Fn):=[(80,⟨4,[0],Gs,F7⟩),
 (95,⟨2,[0,1],Gq 10000,FW⟩),
 (102,⟨4,[0],Gs,El⟩),
 (109,⟨4,[0,1,2,3],Gs,ES⟩),
 (116,⟨3,[0,1,2],Gs,FM⟩),
 (123,⟨2,[0,1],Gs,EE⟩),
 (130,⟨3,[0,1,2],Gs,Fd⟩),
 (137,⟨2,[0],Gs,FL⟩),
 (158,⟨3,[0,1],Gs,Ea⟩),
 (165,⟨11,[0,1,2],Gs,r5⟩),
 (172,⟨9,[0,1,2],Gs,Ed⟩),
 (179,⟨10,[0,1,2],Gs,Fw⟩),
 (186,⟨10,[0,1,2,3,4],Gs,EX⟩),
 (193,⟨12,[0,1,2],Gs,Ef⟩),
 (198,⟨8,[0,1],Gs,FC⟩),
 (205,⟨6,[0,1],Gs,FI⟩),
 (219,⟨2,[0,1],Gs,Er⟩),
 (226,⟨5,[0,1],Gs,EJ⟩),
 (233,⟨1,[0],Gs,E9⟩),
 (240,⟨7,[0,1],Gs,EF⟩),
 (247,⟨6,[0,1,2],Gs,FE⟩),
 (254,⟨4,[0,1],Gs,Eu⟩),
 (276,⟨3,[0,1,2],Gq 1000,CW⟩),
 (281,⟨9,[0,1],Gs,yK⟩),
 (288,⟨4,[0,1],Gs,FO⟩),
 (295,⟨5,[0,1,2],Gs,EC⟩),
 (302,⟨8,[0,1],Gs,Ec⟩),
 (309,⟨8,[0,1],Gs,EP⟩),
 (316,⟨2,[0,1],Gs,EN⟩),
 (321,⟨8,[0,1],Gs,Ek⟩),
 (342,⟨2,[0,1],Gs,EZ⟩),
 (377,⟨2,[0],Gs,EH⟩),
 (397,⟨13,[0],Gs,Em⟩),
 (512,⟨13,[0,1],Gs,ED⟩),
 (536,⟨13,[0,1],Gs,zi⟩),
 (588,⟨3,[0,1,2],Gs,Et⟩),
 (602,⟨2,[0],Gs,FG⟩),
 (621,⟨2,[0],Gs,FH⟩),
 (634,⟨18,[0,1,2],Gq 10000,C1⟩),
 (700,⟨2,[0,1],Gs,Fk⟩),
 (726,⟨3,[0,1,2],Gs,FB⟩),
 (783,⟨2,[0,1],Gs,Ej⟩),
 (852,⟨8,[0,1,2,3],Gs,Eg⟩),
 (878,⟨5,[0],Gs,Fv⟩),
 (885,⟨3,[0,1],Gs,Fg⟩),
 (892,⟨2,[0],Gs,FD⟩),
 (899,⟨8,[0],Gs,Fo⟩),
 (906,⟨13,[0],Gs,yH⟩),
 (913,⟨3,[0,1],Gs,EO⟩),
 (918,⟨9,[0],Gs,DO⟩),
 (925,⟨9,[0,1,2],Gs,Fb⟩),
 (932,⟨7,[0,1,2],Gs,Ei⟩),
 (939,⟨4,[0,1],Gs,E6⟩),
 (946,⟨11,[0],Gs,Fy⟩),
 (953,⟨26,[0],Gs,mD⟩)]
noncomputable def eh (Q:V->Sg->Prop):cU:=fun c Z b=>match c with
 |.next=>Q .none b
 |.ret v=>Q v b
 |.cont=>False
structure bg (u:U):Prop where
 T:u.T=tab
 call:∀(f:GS) (F:Fn),lookC f fq=Gq F->∀(d:Nat) (args:List V) (Q:V->Sg->Prop) (X:Sg->Prop) (σ:Sg),args.length=F.ks.length->wpSs tab (ae u d) F.body (dR F.n F.ks args) (eh Q) X σ->ae u (d+1) f args Q X σ
 callD:∀(f:GS) (F:Fn) (i:Int),lookC f fq=Gq F->F.d=Gq i->∀(d:Nat) (args:List V) (Q:V->Sg->Prop) (X:Sg->Prop) (σ:Sg),args.length+1=F.ks.length->wpSs tab (ae u d) F.body (dR F.n F.ks (args++[.int i])) (eh Q) X σ->ae u (d+1) f args Q X σ
theorem ae.up {u:U} {d j:Nat} (h:d<=j) {f:GS} {b:List V} {Q:V->Sg->Prop} {X:Sg->Prop} {σ:Sg} (m:ae u d f b Q X σ):ae u j f b Q X σ:=
 fun w A c k l G s e g i n o p=>m w A c k l G s e g ⟨i.handled,by have:=i.depth;lia,by have:=i.units;lia,i.frames⟩ n o p
theorem vO {o:Option (Option V)} {v:V} {f:V->Prop} (e:o=Gq (Gq v)) (q:f v):match (generalizing:=false) o with|some (Gq v)=>f v|_=>False:=by subst e;exact q
theorem zJ {o:PR} {r:V} {σ:Sg} {f:V->Sg->Prop} (e:o=Gq (r,σ)) (q:f r σ):match (generalizing:=false) o with|some (v,σ)=>f v σ|none=>False:=by subst e;exact q
theorem CZ {o:Option Bool} {A B:Prop} (e:o=Gq Gu) (q:A):match (generalizing:=false) o with|some Gu=>A|some Gw=>B|none=>False:=by subst e;exact q
theorem C5 {o:Option Bool} {A B:Prop} (e:o=Gq Gw) (q:B):match (generalizing:=false) o with|some Gu=>A|some Gw=>B|none=>False:=by subst e;exact q
section
variable {C:aC} {ρ d:List (Option V)} {σ σ₁ σ₂ g:Sg} {e a b:E} {o:List E} {v x y:V} {vs:List V} {p:lM} {Q:V->Sg->Prop} {X:Sg->Prop} {K:cU} {l:List S}
def Ev (C:aC) (ρ:List (Option V)) (σ:Sg) (e:E) (v:V) (σ':Sg):Prop:=∀(Q:V->Sg->Prop) (X:Sg->Prop),Q v σ'->wpE tab C ρ e Q X σ
def vg (C:aC) (ρ:List (Option V)) (σ:Sg) (o:List E) (vs:List V) (σ':Sg):Prop:=∀(Q:List V->Sg->Prop) (X:Sg->Prop),Q vs σ'->wpEs tab C ρ o Q X σ
def eA (C:aC) (ρ:List (Option V)) (σ:Sg) (e:E) (t:Bool) (σ':Sg):Prop:=∀(Q:Bool->Sg->Prop) (X:Sg->Prop),Q t σ'->wpB tab C ρ e Q X σ
theorem Ev.loc {k:Nat} (h:ρ[k]? =Gq (Gq v)):Ev C ρ σ (.loc k) v σ:=fun Q X q=>vO h q
theorem Ev.const:Ev C ρ σ (.const v) v σ:=fun Q X q=>q
theorem Ev.op (h:vg C ρ σ o vs σ₁) (e:aJ tab p vs σ₁=Gq (v,σ₂)):Ev C ρ σ (.op p o) v σ₂:=fun Q X q=>by
 exact h _ _ (zJ e q)
theorem vg.nil:vg C ρ σ [] [] σ:=fun Q X q=>q
theorem vg.cons (h:Ev C ρ σ e v σ₁) (h':vg C ρ σ₁ o vs σ₂):vg C ρ σ (e::o) (v::vs) σ₂:=fun Q X q=>h _ _ (h' _ _ q)
theorem Ev.app (h:Ev C ρ σ a v σ₁) (c:jM σ₁ v=Gu) (h':Ev C ρ σ₁ b y σ₂) (e:aJ tab .app [v,y] σ₂=Gq (x,g)):Ev C ρ σ (.app a b) x g:=fun Q X q=>by
 exact h _ _ ⟨c,h' _ _ (zJ e q)⟩
theorem Ev.andT (h:Ev C ρ σ a v σ₁) (t:b6 σ₁ v=Gq Gu) (h':Ev C ρ σ₁ b y σ₂):Ev C ρ σ (.and a b) y σ₂:=fun Q X q=>h _ _ (CZ t (h' _ _ q))
theorem Ev.andF (h:Ev C ρ σ a v σ₁) (t:b6 σ₁ v=Gq Gw):Ev C ρ σ (.and a b) v σ₁:=fun Q X q=>h _ _ (C5 t q)
theorem Ev.orT (h:Ev C ρ σ a v σ₁) (t:b6 σ₁ v=Gq Gu):Ev C ρ σ (.or a b) v σ₁:=fun Q X q=>h _ _ (CZ t q)
theorem Ev.orF (h:Ev C ρ σ a v σ₁) (t:b6 σ₁ v=Gq Gw) (h':Ev C ρ σ₁ b y σ₂):Ev C ρ σ (.or a b) y σ₂:=fun Q X q=>h _ _ (C5 t (h' _ _ q))
theorem eA.of (h:Ev C ρ σ e v σ₁) {t:Bool} (c:b6 σ₁ v=Gq t) (hp:jX e=Gu):eA C ρ σ e t σ₁:=fun Q X q=>by
 rw [iw hp];exact h _ _ (by rw [c];exact q)
theorem eA.andT (h:eA C ρ σ a Gu σ₁) {t:Bool} (h':eA C ρ σ₁ b t σ₂):eA C ρ σ (.and a b) t σ₂:=fun Q X q=>h _ _ (h' _ _ q)
theorem eA.andF (h:eA C ρ σ a Gw σ₁):eA C ρ σ (.and a b) Gw σ₁:=fun Q X q=>h _ _ q
theorem eA.orT (h:eA C ρ σ a Gu σ₁):eA C ρ σ (.or a b) Gu σ₁:=fun Q X q=>h _ _ q
theorem eA.orF (h:eA C ρ σ a Gw σ₁) {t:Bool} (h':eA C ρ σ₁ b t σ₂):eA C ρ σ (.or a b) t σ₂:=fun Q X q=>h _ _ (h' _ _ q)
theorem eV {Q:List V->Sg->Prop} (h:Q [] σ):wpEs tab C ρ [] Q X σ:=h
theorem lY {Q:List V->Sg->Prop} (h:wpE tab C ρ e (fun v σ'=>wpEs tab C ρ o (fun vs c=>Q (v::vs) c) X σ') X σ):wpEs tab C ρ (e::o) Q X σ:=h
theorem gU {f:GS} (h:wpEs tab C ρ o (fun vs σ'=>C f vs Q X σ') X σ):wpE tab C ρ (.callF f o) Q X σ:=h
theorem oR (h:wpEs tab C ρ o (fun vs σ'=>match aJ tab p vs σ' with|some (v,c)=>Q v c|none=>False) X σ):wpE tab C ρ (.op p o) Q X σ:=h
theorem w9 {n:Nat} (h:wpE tab C ρ e (fun v σ'=>match d6 tab n σ' v with|some f=>wpEs tab C ρ o (fun vs c=>C f (v::vs) Q X c) X σ'|none=>False) X σ):wpE tab C ρ (.callM n e o) Q X σ:=h
theorem CH (h:wpE tab C ρ a (fun v σ'=>jM σ' v=Gu/\wpE tab C ρ b (fun y c=>match aJ tab .app [v,y] c with|some (r,g)=>Q r g|none=>False) X σ') X σ):wpE tab C ρ (.app a b) Q X σ:=h
theorem iR {c:GS} (h:wpEs tab C ρ o (fun vs σ'=>match lookC c tab.inits with|some (Gq f)=>C f (.ref σ'.n::vs) (fun r i=>r=.none/\Q (.ref σ'.n) i) X (σ'.alloc (.inst c [])) |some Gs=>(match vs with|[]=>Q (.ref σ'.n) (σ'.alloc (.inst c [])) |_=>False) |none=>False) X σ):wpE tab C ρ (.callC c o) Q X σ:=h
theorem BA {f:List (Option Nat)} {t:Nat} (h:wpE tab C ρ e (fun v σ'=>match fE v σ' with|some l=>compW (fun i Q' j c=>wpE tab C ((f.map fun|none=>Gs|some k=>(ρ[k]?).join).set t (Gq i)) a Q' j c) (b9 v l) X l [] (fun m c=>Q (.ref c.n) (c.alloc (.list m))) σ'|none=>False) X σ):wpE tab C ρ (.comp f t a e) Q X σ:=h
theorem az {f:GS} (h:vg C ρ σ o vs σ₁) (m:C f vs Q X σ₁):wpE tab C ρ (.callF f o) Q X σ:=h _ _ m
theorem w_callM {n:Nat} {f:GS} (h:Ev C ρ σ a v σ₁) (c:d6 tab n σ₁ v=Gq f) (i:vg C ρ σ₁ o vs σ₂) (m:C f (v::vs) Q X σ₂):wpE tab C ρ (.callM n a o) Q X σ:=by
 exact h _ _ (by rw [c];exact i _ _ m)
theorem w_callC {c f:GS} (h:vg C ρ σ o vs σ₁) (i:lookC c tab.inits=Gq (Gq f)) (m:C f (.ref σ₁.n::vs) (fun r σ'=>r=.none/\Q (.ref σ₁.n) σ') X (σ₁.alloc (.inst c []))):wpE tab C ρ (.callC c o) Q X σ:=by
 refine h _ _ ?_;rw [i];exact m
noncomputable def iu (C:aC) (l:List S) (K:cU) (X:Sg->Prop):cU:=fun f d c=>match f with
 |.next=>wpSs tab C l d K X c
 |f=>K f d c
def Ep (C:aC) (t:kw) (l:List S) (ρ:List (Option V)) (K:cU) (X:Sg->Prop):V->Sg->Prop:=fun v c=>match eY ρ t v c with
 |some d=>wpSs tab C l d K X c
 |none=>False
theorem aB {t:kw} (c:eY ρ t v σ=Gq d) (q:wpSs tab C l d K X σ):Ep C t l ρ K X v σ:=by
 show match eY ρ t v σ with|some d=>wpSs tab C l d K X σ|none=>False
 rw [c];exact q
theorem ak (q:K .next ρ σ):wpSs tab C [] ρ K X σ:=q
theorem bm (q:K .next ρ σ):iu C [] K X .next ρ σ:=ak (C:=C) (X:=X) q
theorem w_asg {t:kw} (h:wpE tab C ρ e (Ep C t l ρ K X) X σ):wpSs tab C (.assign t e::l) ρ K X σ:=h
theorem ar {t:kw} (h:Ev C ρ σ e v σ₁) (c:eY ρ t v σ₁=Gq d) (q:wpSs tab C l d K X σ₁):wpSs tab C (.assign t e::l) ρ K X σ:=
 w_asg (h _ _ (aB c q))
theorem aD (h:wpE tab C ρ e (fun Z σ'=>wpSs tab C l ρ K X σ') X σ):wpSs tab C (.expr e::l) ρ K X σ:=h
theorem ax (h:wpE tab C ρ e (fun v σ'=>K (.ret v) ρ σ') X σ):wpSs tab C (.ret e::l) ρ K X σ:=h
theorem aq {t:Bool} {l₁ c:List S} (h:eA C ρ σ e t σ₁) (q:wpSs tab C (bif t then l₁ else c) ρ (iu C l K X) X σ₁):wpSs tab C (.ite e l₁ c::l) ρ K X σ:=by
 refine h _ _ ?_;cases t<;>exact q
theorem aG {n:Nat} (h:Ev C ρ σ e x σ₁) (c:Ev C ρ σ₁ a v σ₂) (f:oA tab σ₂ n x v=Gq g) (q:wpSs tab C l ρ K X g):wpSs tab C (.setAttr a n e::l) ρ K X σ:=by
 exact h _ _ (c _ _ (by rw [f];exact q))
theorem bS {i:E} {j:V} {c:Sg} (h:Ev C ρ σ e x σ₁) (f:Ev C ρ σ₁ a v σ₂) (hi:Ev C ρ σ₂ i j g) (k:ji g x v j=Gq c) (q:wpSs tab C l ρ K X c):wpSs tab C (.setIdx a i e::l) ρ K X σ:=by
 exact h _ _ (f _ _ (hi _ _ (by rw [k];exact q)))
theorem kN {k:Nat} {op:Op} {i j r:Int} (c:ρ[k]? =Gq (Gq (.int i))) (h:Ev C ρ σ e (.int j) σ₁) (f:dT op i j=Gq r) (q:wpSs tab C l (ρ.set k (Gq (.int r))) K X σ₁):wpSs tab C (.aug k op e::l) ρ K X σ:=by
 exact⟨_,c,h _ _ ⟨_,_,rfl,f,q⟩⟩
theorem r4 {n:Nat} {op:Op} {i j r:Int} (c:Ev C ρ σ a v σ₁) (f:ky tab n σ₁ v=Gq (.int i)) (h:Ev C ρ σ₁ e (.int j) σ₂) (k:dT op i j=Gq r) (m:oA tab σ₂ n (.int r) v=Gq g) (q:wpSs tab C l ρ K X g):wpSs tab C (.augAttr a n op e::l) ρ K X σ:=by
 exact c _ _ ⟨_,f,h _ _ ⟨_,_,_,rfl,k,m,q⟩⟩
theorem wq {k:E} {op:Op} {y:V} {i j r:Int} {c f:Sg} (m:Ev C ρ σ a v σ₁) (hi:Ev C ρ σ₁ k y σ₂) (n:aJ tab .idx [v,y] σ₂=Gq (.int i,f)) (h:Ev C ρ σ₂ e (.int j) g) (s:dT op i j=Gq r) (t:ji g (.int r) v y=Gq c) (q:wpSs tab C l ρ K X c):wpSs tab C (.augIdx a k op e::l) ρ K X σ:=by
 exact m _ _ (hi _ _ ⟨_,_,n,h _ _ ⟨_,_,_,rfl,s,t,q⟩⟩)
theorem ma {i:Int} (h:Ev C ρ σ e (.int i) σ₁) (c:0<=i) (f:i<=1000000) (q:X σ₁):wpSs tab C (.raise e::l) ρ K X σ:=h _ _ ⟨_,rfl,c,f,q⟩
theorem uo {b h:List S} (q:wpSs tab C b ρ (iu C l K X) (fun σ'=>wpSs tab C h (ρ.map fun Z=>Gs) (iu C l K X) X σ') σ):wpSs tab C (.try b h::l) ρ K X σ:=q
theorem CU {k:Nat} {c:V} (j:ρ[k]? =Gq (Gq v)) (m:FrzL σ [v] [c] σ₁) (q:wpSs tab C l (ρ.set k (Gq c)) K X σ₁):wpSs tab C (.frz k::l) ρ K X σ:=by
 exact vO (f:=fun v=>∃c i,FrzL σ [v] [c] i/\wpSs tab C l (ρ.set k (Gq c)) K X i) j ⟨c,σ₁,m,q⟩
theorem Cq (q:K .cont ρ σ):wpSs tab C (.cont::l) ρ K X σ:=q
theorem oa {W:V->List (Option V)->cU->Sg->Prop} {m:Sg->Prop} (I:List V->List (Option V)->Sg->Prop) (c:∀r ρ σ,I r ρ σ->m σ) (f:∀i r ρ σ (j:cU),I (i::r) ρ σ->(∀d σ',I r d σ'->j .next d σ'/\j .cont d σ')->(∀v d σ',K (.ret v) d σ'->j (.ret v) d σ')->W i ρ j σ) (done:∀ρ σ,I [] ρ σ->K .next ρ σ) (l:List V):∀(ρ:List (Option V)) (σ:Sg),I l ρ σ->forW W m l ρ K σ:=by
 induction l with
 |nil=>
  intro ρ σ h;exact⟨c _ _ _ h,done _ _ h⟩
 |cons i r n=>
  intro ρ σ h;refine⟨c _ _ _ h,f i r ρ σ _ h (fun d σ' q=>?_) fun v d σ' k=>k⟩
  have:=n d σ' q
  exact⟨this,this⟩
def pi (C:aC) (t:kw) (b l:List S) (ρ:List (Option V)) (K:cU) (X:Sg->Prop):V->Sg->Prop:=fun v c=>match aX v c with
 |some vs=>forW (fun i ρ f σ=>match eY ρ t i σ with
  |some d=>wpSs tab C b d f X σ
  |none=>False) (b9 v vs) vs ρ (iu C l K X) c
 |none=>False
theorem bL {t:kw} {b:List S} (h:wpE tab C ρ e (pi C t b l ρ K X) X σ):wpSs tab C (.for t e b::l) ρ K X σ:=h
theorem bG {t:kw} {b:List S} {vs:List V} (I:List V->List (Option V)->Sg->Prop) (k:aX v σ=Gq vs) (m:I vs ρ σ) (j:∀r ρ σ,I r ρ σ->b9 v vs σ)
  (f:∀i r ρ σ (c:cU),I (i::r) ρ σ->(∀d σ',I r d σ'->c .next d σ'/\c .cont d σ')->(∀v d σ',K (.ret v) d σ'->c (.ret v) d σ')->∃d,eY ρ t i σ=Gq d/\wpSs tab C b d c X σ)
  (done:∀ρ σ,I [] ρ σ->wpSs tab C l ρ K X σ):pi C t b l ρ K X v σ:=by
 unfold pi;rw [k];refine oa (K:=iu C l K X) I j (fun i r ρ σ c n s u=>?_) done _ _ _ m;obtain⟨d,z,q⟩:=f i r ρ σ c n s u;rw [z];exact q
def wy (C:aC) (k:Nat) (b l:List S) (ρ:List (Option V)) (K:cU) (X:Sg->Prop):V->Sg->Prop:=fun v c=>∃n,v=.int n/\0<=n/\n<=1000000/\forW (fun i ρ f σ=>wpSs tab C b (ρ.set k (Gq i)) f X σ) (fun Z=>True) (aZ n) ρ (iu C l K X) c
theorem dO {k:Nat} {b:List S} (h:wpE tab C ρ e (wy C k b l ρ K X) X σ):wpSs tab C (.forR k e b::l) ρ K X σ:=h
theorem cO {k:Nat} {b:List S} {n:Int} (I:List V->List (Option V)->Sg->Prop) (j:0<=n) (m:n<=1000000) (q:I (aZ n) ρ σ)
  (c:∀i r ρ σ (f:cU),I (i::r) ρ σ->(∀d σ',I r d σ'->f .next d σ'/\f .cont d σ')->(∀v d σ',K (.ret v) d σ'->f (.ret v) d σ')->wpSs tab C b (ρ.set k (Gq i)) f X σ)
  (done:∀ρ σ,I [] ρ σ->wpSs tab C l ρ K X σ):wy C k b l ρ K X (.int n) σ:=by
 exact⟨n,rfl,j,m,oa (K:=iu C l K X) I (fun Z Z Z Z=>trivial) c done _ _ _ q⟩
theorem eS {b:List S} (I:Nat->List (Option V)->Sg->Prop) {n:Nat} (r:I n ρ σ)
  (f:∀n ρ σ,I n ρ σ->∃t σ',eA C ρ σ e t σ'/\(t=Gw->wpSs tab C l ρ K X σ')/\(t=Gu->∀i:cU,(∀m d c,m<n->I m d c->i .next d c/\i .cont d c)->(∀v d σ',K (.ret v) d σ'->i (.ret v) d σ')->wpSs tab C b ρ i X σ')):wpSs tab C (.while e b::l) ρ K X σ:=by
 refine⟨I,⟨n,r⟩,fun n ρ σ h=>?_⟩;obtain⟨t,σ',s,u,z⟩:=f n ρ σ h;refine s _ _ ?_
 cases t with
 |false=>exact u rfl
 |true=>exact z rfl _ (fun m d c j q=>⟨⟨m,j,q⟩,⟨m,j,q⟩⟩) fun v d σ' k=>k
theorem hO {W:V->(V->Sg->Prop)->(Sg->Prop)->Sg->Prop} {j:Sg->Prop} {Q:List V->Sg->Prop} (I:List V->List V->Sg->Prop) (c:∀r acc σ,I r acc σ->j σ) (f:∀i r acc σ (Q':V->Sg->Prop),I (i::r) acc σ->(∀v σ',I r (acc++[v]) σ'->Q' v σ')->W i Q' X σ) (done:∀acc σ,I [] acc σ->Q acc σ) (l:List V):∀(acc:List V) (σ:Sg),I l acc σ->compW W j X l acc Q σ:=by
 induction l with
 |nil=>
  intro acc σ h;exact⟨c _ _ _ h,done _ _ h⟩
 |cons i r k=>
  intro acc σ h;exact⟨c _ _ _ h,f i r acc σ _ h fun v σ' m=>k _ σ' m⟩
end
section
variable {σ:Sg} {a c n:Nat} {d:List (Nat×V)} {l:List V} {v x:V} {i:Int} {kvs:List (Int×V)}
theorem a7 {n:Nat} {c:GS} (h:σ.cell a=.inst c d) (e:eQ tab c n d=Gq v):aJ tab (.attr n) [.ref a] σ=Gq (v,σ):=by
 show(ky tab n σ (.ref a)).map (·,σ)=_
 unfold ky;simp only [h,e,IA]
theorem bH {n:Nat} {c:GS} {ks:List Nat} {vs:List V} (b:ks.length=vs.length) (e:eQ tab c n (ks.zip vs)=Gq v):aJ tab (.attr n) [.obj c ks vs] σ=Gq (v,σ):=by
 show(ky tab n σ (.obj c ks vs)).map (·,σ)=_
 unfold ky;simp only [if_pos b,e,IA]
theorem bC {w:V} (h:aX w σ=Gq l) (b:l.length<=1000000) (e:B3 l i=Gq v):aJ tab .idx [w,.int i] σ=Gq (v,σ):=by
 show tA w σ _ _=_
 unfold tA;simp only [h,if_pos b,e,IA]
theorem jI {w:V} (h:aX w σ=Gs) (hd:cM w σ=Gq kvs) (e:lookI i kvs=Gq v):aJ tab .idx [w,.int i] σ=Gq (v,σ):=by
 show tA w σ _ _=_
 unfold tA;simp only [h,hd,e,IA]
theorem d8 {w:V} (h:aX w σ=Gq l) (b:l.length<=1000000):aJ tab .len [w] σ=Gq (.int l.length,σ):=by
 show tA w σ _ _=_
 unfold tA;simp only [h,if_pos b]
theorem uh {w:V} (h:aX w σ=Gs) (hd:cM w σ=Gq kvs) (b:kvs.length<=1000000):aJ tab .len [w] σ=Gq (.int kvs.length,σ):=by
 show tA w σ _ _=_
 unfold tA;simp only [h,hd,if_pos b]
theorem bK (h:σ.cell a=.list l) (b:a<σ.n) (e:l.length<=1000000):aJ tab .app [.ref a,v] σ=Gq (.none,σ.set a (.list (l++[v]))):=by
 show bV a σ _=_
 unfold bV;simp only [h,if_pos (Oy b e)]
theorem DH (h:σ.cell a=.list (l++[v])) (b:a<σ.n) (e:l.length<1000000):aJ tab .pop [.ref a] σ=Gq (v,σ.set a (.list l)):=by
 show bV a σ _=_
 unfold bV;simp only [h];rw [if_pos ⟨b,by simp;exact(l1 0x1c09492949f801bf9392949f80) e⟩]
 simp
theorem r9 (h:σ.cell a=.list [v]):aJ tab .sorted [.ref a] σ=Gq (.ref σ.n,σ.alloc (.list [v])):=by
 show eF a σ=_
 unfold eF;simp only [h]
theorem ti (h:σ.cell a=.dict kvs) (b:kvs.length<64):aJ tab .sortedKeys [.ref a] σ=Gq (.ref σ.n,σ.alloc (.list ((iH (kvs.map fun(x:Int×V)=>x.1)).map .int))):=by
 show lF a σ _=_
 unfold lF rF;simp only [h,if_pos b]
theorem sW (h:σ.cell a=.dict kvs) (b:kvs.length<64):aJ tab .sorted [.ref a] σ=Gq (.ref σ.n,σ.alloc (.list ((iH (kvs.map fun(x:Int×V)=>x.1)).map .int))):=by
 show eF a σ=_
 unfold eF rF;simp only [h,if_pos b]
theorem CG {a b:Int} (h:b<=a):aJ tab .max [.int a,.int b] σ=Gq (.int a,σ):=by
 show Gq (V.int (if b>a then b else a),σ)=_
 rw [if_neg (by lia)]
theorem C4 {a b:Int} (h:a<=b):aJ tab .min [.int a,.int b] σ=Gq (.int a,σ):=by
 show Gq (V.int (if b<a then b else a),σ)=_
 rw [if_neg (by lia)]
theorem Db (h:σ.cell a=.list l) (b:a<σ.n) (e:l.length<=1000000):aJ tab .rev [.ref a] σ=Gq (.none,σ.set a (.list l.reverse)):=by
 show bV a σ _=_
 unfold bV;simp only [h,if_pos (Oy b e)]
theorem yZ (b:l.length<=1000000):aJ tab .from1 [.lst l] σ=Gq (.ref σ.n,σ.alloc (.list (l.drop 1))):=if_pos b
theorem kW (h:σ.cell a=.list l) (b:l.length<=1000000):aJ tab .tupleOf [.ref a] σ=Gq (.tup l,σ):=by
 show bV a σ _=_
 unfold bV;simp only [h,if_pos b]
theorem jA (b:l.length<=1000000):aJ tab .tupleOf [.lst l] σ=Gq (.tup l,σ):=by
 show(if l.length<=1000000 then Gq (V.tup l,σ) else Gs)=_
 rw [if_pos b]
theorem aK (b:l.length<=1000):aJ tab .tup l σ=Gq (.tup l,σ):=by
 show(if l.length<=1000 then Gq (V.tup l,σ) else Gs)=_
 rw [if_pos b]
theorem bP (b:l.length<=1000):aJ tab .lst l σ=Gq (.ref σ.n,σ.alloc (.list l)):=by
 show(if l.length<=1000 then Gq (V.ref σ.n,σ.alloc (.list l)) else Gs)=_
 rw [if_pos b]
theorem CE {w:V} (hd:cM w σ=Gq kvs):aJ tab .inn [.int i,w] σ=Gq (.bool (lookI i kvs).isSome,σ):=by
 show(w3 i w σ).map _=_
 unfold w3;simp only [hd,IA]
theorem fy {w:V} (hd:cM w σ=Gq kvs):aJ tab .notIn [.int i,w] σ=Gq (.bool (!(lookI i kvs).isSome),σ):=by
 show(w3 i w σ).map _=_
 unfold w3;simp only [hd,IA]
theorem nY (is:List Int):ints? (is.map .int)=Gq is:=by
 induction is with
 |nil=>
  exact rfl
 |cons i r b=>
  show(ints? (r.map .int)).map (i:: ·)=_;rw [b];rfl
theorem wt {w:V} {is:List Int} (hd:cM w σ=Gs) (h:aX w σ=Gq (is.map .int)):aJ tab .notIn [.int i,w] σ=Gq (.bool (!(is.any (· ==i))),σ):=by
 show(w3 i w σ).map _=_
 unfold w3;simp only [hd,h,NP,nY,IA]
theorem Ai (h:jV σ v x=Gu) (b:∀i,v≠.int i) (e:∀i,v≠.str i):aJ tab (.rel .ne) [v,x] σ=Gq (.bool Gw,σ):=by
 cases v<;>first|exact absurd rfl (b _) |exact absurd rfl (e _) |exact if_pos h
theorem uK {a b:Nat} (h:a<55/\b<55):aJ tab (.rel .ne) [.str a,.str b] σ=Gq (.bool (!(GI (a=b))),σ):=if_pos h
theorem aF {op:Op} {a b r:Int} (e:dT op a b=Gq r):aJ tab (.bin op) [.int a,.int b] σ=Gq (.int r,σ):=by
 show(dT op a b).map (V.int ·,σ)=_
 rw [e];rfl
theorem zR {a b:Int} (h:b≠0):dT .mod a b=Gq (a.fmod b):=if_neg h
theorem B9 {a b:Int} (h:b≠0) (h':b.natAbs<=1000000):dT .fdiv a b=Gq (a.fdiv b):=if_neg (by lia)
theorem ja {a b:Int} (h:a.natAbs<2^60\/(a.natAbs<2^3000/\b.natAbs<2^3000)):dT .mul a b=Gq (a * b):=if_pos h
theorem zW {a b:Int} (e:0<=b) (f:b<=1000) (h:a.natAbs<2^64):dT .pow a b=Gq (a^b.toNat):=if_pos ⟨e,f,h⟩
theorem qQ {a b:Int} (e:0<=b) (f:b<=1000000) (h:a.natAbs<2^64):dT .shl a b=Gq (a * 2^b.toNat):=if_pos ⟨e,f,h⟩
theorem zT {a b:Int} (e:0<=b):dT .shr a b=Gq (a.fdiv (2^b.toNat)):=if_pos e
theorem aA (h:σ.cell a=.list l):aX (.ref a) σ=Gq l:=by
 unfold aX;dsimp only;rw [h]
theorem cC (h:σ.cell a=.dict kvs):aX (.ref a) σ=Gs:=by
 unfold aX;dsimp only;rw [h]
theorem bu (h:σ.cell a=.dict kvs):cM (.ref a) σ=Gq kvs:=by
 unfold cM;dsimp only;rw [h]
theorem sK (h:σ.cell a=.list l):cM (.ref a) σ=Gs:=by
 unfold cM;dsimp only;rw [h]
theorem aM (h:σ.cell a=.list l):jM σ (.ref a)=Gu:=by
 unfold jM;dsimp only;rw [h]
theorem tD (h:σ.cell a=.dict kvs):kZ σ (.ref a)=Gu:=by
 unfold kZ;dsimp only;rw [h]
theorem j0 (h:σ.cell a=.list l) (b:l.length<=1000000):b6 σ (.ref a)=Gq (!l.isEmpty):=by
 unfold b6;dsimp only;rw [h];exact if_pos b
theorem sO (b:l.length<=1000000):b6 σ (.lst l)=Gq (!l.isEmpty):=by
 exact if_pos b
theorem aS {n:Nat} {c:GS} (h:σ.cell a=.inst c d) (b:a<σ.n) (e:d.length<=100) (f:bZ tab c n=Gu):oA tab σ n v (.ref a)=Gq (σ.set a (.inst c (putN' n v d))):=by
 unfold oA;dsimp only;rw [h];exact if_pos ⟨b,e,f⟩
theorem fJ (h:σ.cell a=.list l) (b:a<σ.n) (e:l.length<=1000000) (f:0<=i) (g:i<l.length):ji σ v (.ref a) (.int i)=Gq (σ.set a (.list (l.set i.toNat v))):=by
 unfold ji;dsimp only;rw [h];exact if_pos ⟨b,e,f,g⟩
theorem cy (h:σ.cell a=.dict kvs) (b:a<σ.n) (e:kvs.length<=1000000):ji σ v (.ref a) (.int i)=Gq (σ.set a (.dict (putI i v kvs))):=by
 unfold ji;dsimp only;rw [h];exact if_pos ⟨b,e⟩
theorem aw {n:Nat} {c f:GS} (h:σ.cell a=.inst c d) (e:((d.map (·.1)).contains n|| !(wx tab c) ||decide (55<=n))=Gw) (b:lookT c n tab.meths=Gq f):d6 tab n σ (.ref a)=Gq f:=by
 unfold d6 ny;simp only [h,e,Hz,if_false,b]
theorem eB {n:Nat} {c f:GS} {ks:List Nat} {vs:List V} (e:(ks.contains n|| !(wx tab c) ||decide (55<=n))=Gw) (b:lookT c n tab.meths=Gq f):d6 tab n σ (.obj c ks vs)=Gq f:=by
 unfold d6 ny;simp only [e,Hz,if_false,b]
theorem cY {k:Nat} (e:l[k]? =Gq v):B3 l (k:Int)=Gq v:=by
 unfold B3;rw [if_pos (G9 k)]
 simpa using e
theorem am {b:Cell}:(σ.set a b).cell a=b:=by rw [Sg.set_cell,if_pos rfl]
theorem af {b:Cell} {y:Nat} (h:y≠a):(σ.set a b).cell y=σ.cell y:=by rw [Sg.set_cell,if_neg h]
theorem ah {b:Cell}:(σ.alloc b).cell σ.n=b:=by rw [Sg.alloc_cell,if_pos rfl]
theorem au {b:Cell} {y:Nat} (h:y<σ.n):(σ.alloc b).cell y=σ.cell y:=by rw [Sg.alloc_cell,if_neg (by exact(l2 7533613318) h)]
end
structure a6 (σ σ':Sg):Prop where
 n:σ.n<=σ'.n
 cell:∀x,x<σ.n->σ'.cell x=σ.cell x
theorem a6.refl (σ:Sg):a6 σ σ:=⟨GL _,fun Z Z=>rfl⟩
theorem a6.trans {σ σ₁ σ₂:Sg} (a:a6 σ σ₁) (b:a6 σ₁ σ₂):a6 σ σ₂:=⟨Gz a.n b.n,fun x h=>(b.cell x (GN h a.n)).trans (a.cell x h)⟩
theorem a6.alloc (σ:Sg) (c:Cell):a6 σ (σ.alloc c):=⟨Hk _,fun x h=>au h⟩
set_option exponentiation.threshold 4000
section
variable {u:U} {d:Nat} {Q:V->Sg->Prop} {X:Sg->Prop} {σ:Sg}
structure fL (σ:Sg) (a:Nat) (K:Nat) (w k m:Int):Prop where
 cell:σ.cell a=.list [.int w,.int k,.int m]
 lt:a<σ.n
 w0:0<=w
 w1:w.natAbs<2^2900
 k0:0<=k
 k1:k<=K
 m0:0<m
 m1:m.natAbs<2^500
theorem r7 {e:Nat} (h:e<=60):((1000003:Int) ^e).natAbs<2^1300:=by
 rw [Int.natAbs_pow]
 calc (1000003:Int).natAbs^e<=1000003^60:=He (by decide) h
  _<2^1300:=by decide+kernel
theorem kR {C:aC} {a K:Nat} {w k m c:Int} (S:fL σ a K w k m) (e:0<c) (s:c<=1000)
  (f:∀r σ' n,0<=r->r<c->fL σ' a K n k m->σ'.n=σ.n->(∀x,x≠a->σ'.cell x=σ.cell x)->Q (.int r) σ'):
  wpSs tab C [.assign (.loc 2) (.op (.bin .mod) [.op .idx [.loc 0,.const (.int 0)],.loc 1]),.setIdx (.loc 0) (.const (.int 0)) (.op (.bin .fdiv) [.op .idx [.loc 0,.const (.int 0)],.loc 1]),.ret (.loc 2)] [Gq (.ref a),Gq (.int c),Gs] (eh Q) X σ:=by
 have g:c≠0:=(Pm e)
 have i:aJ tab .idx [.ref a,.int 0] σ=Gq (.int w,σ):=bC (aA S.cell) (by simp) rfl
 refine ar (.op (.cons (.op (.cons (.loc rfl) (.cons .const .nil)) i) (.cons (.loc rfl) .nil)) (aF (zR g))) rfl ?_;refine bS (.op (.cons (.op (.cons (.loc rfl) (.cons .const .nil)) i) (.cons (.loc rfl) .nil)) (aF (B9 g (by lia)))) (.loc rfl) .const (fJ S.cell S.lt (by simp) (JC 0) (by simp)) ?_
 refine ax (Ev.loc rfl _ _ ?_)
 have j:w.fmod c=w % c:=Kr _ (Jp e)
 have l:w.fdiv c=w / c:=MK _ (Jp e)
 refine f _ _ (w.fdiv c) (by rw [j];exact ON _ g) (by rw [j];exact N1 _ e) ⟨am,S.lt,by rw [l];exact OO S.w0 (Jp e),?_,S.k0,S.k1,S.m0,S.m1⟩ rfl fun x o=>af o
 have p:w / c<=w:=Int.ediv_le_self _ S.w0
 have q:=OO (a:=w) (b:=c) S.w0 (Jp e)
 have:=S.w1
 rw [l];exact IT (Nj.mp (by rw [Lh q,Lh S.w0];exact p)) this
theorem BP (F:bg u) {a K:Nat} {w k m c:Int} (S:fL σ a K w k m) (P:K<50) (B:0<c) (C:c<=1000)
  (g:∀r σ' i H,0<=r->r<c->fL σ' a (K+1) i H m->σ'.n=σ.n->(∀x,x≠a->σ'.cell x=σ.cell x)->Q (.int r) σ'):ae u (d+1) 885 [.ref a,.int c] Q X σ:=by
 revert a K w k m c;delta u d Q X σ;delta a K w k m c;refine F.call 885 _ rfl d _ Q X σ rfl ?_
 have I:aJ tab .idx [.ref a,.int 0] σ=Gq (.int w,σ):=bC (aA S.cell) (by simp) rfl
 have J:aJ tab .idx [.ref a,.int 1] σ=Gq (.int k,σ):=bC (aA S.cell) (by simp) rfl
 refine aq (t:=w==0) (.of (.op (.cons (.op (.cons (.loc rfl) (.cons .const .nil)) I) (.cons .const .nil)) rfl) rfl rfl) ?_
 by_cases D:w=0
 ·subst D;refine bS (.op (.cons (.op (.cons (.loc rfl) (.cons .const .nil)) J) (.cons .const .nil)) (aF rfl)) (.loc rfl) .const (fJ S.cell S.lt (by simp) ((by decide)) (by simp)) ?_
  generalize f:σ.set a (.list ([V.int 0,.int k,.int m].set (1:Int).toNat (.int (k+1))))=b;delta b
  have n:b.cell a=.list [.int 0,.int (k+1),.int m]:=by rw [<-f];exact am
  have o:b.n=σ.n:=by rw [<-f];rfl
  have L:∀x,x≠a->b.cell x=σ.cell x:=fun x j=>by rw [<-f];exact af j
  have M:aJ tab .idx [.ref a,.int 1] b=Gq (.int (k+1),b):=bC (aA n) (by simp) rfl
  have N:aJ tab .idx [.ref a,.int 2] b=Gq (.int m,b):=bC (aA n) (by simp) rfl
  have l:=S.k0
  have p:=S.k1
  have E:=r7 (e:=(5+(k+1)).toNat) (by lia)
  have G:=S.m1
  refine bS (.op (.cons (.op (.cons .const (.cons (.op (.cons .const (.cons (.op (.cons (.loc rfl) (.cons .const .nil)) M) .nil)) (aF rfl)) .nil)) (aF (zW (MA (by decide) (ML l)) (by lia) (by decide)))) (.cons (.op (.cons (.loc rfl) (.cons .const .nil)) N) .nil)) (aF (ja (.inr ⟨GN E (He (by decide) (by decide)),GN G (He (by decide) (by decide))⟩)))) (.loc rfl) .const (fJ n (by rw [o];exact S.lt) (by simp) (JC 0) (by simp)) ?_
  refine ak (kR (K:=K+1) ⟨am,by show a<b.n;rw [o];exact S.lt,?_,?_,(ML l),(Int.add_le_add_right p 1),S.m0,S.m1⟩ B C fun r σ' i q s v y z=>?_)
  ·exact MB (OY (by decide)) (Jp S.m0)
  ·rw [MM]
   calc _<2^1300 * 2^500:=Nat.mul_lt_mul'' E G
    _<=2^2900:=by rw [<-P4];exact He (by decide) (by decide)
  ·exact g r σ' i (k+1) q s v (y.trans o) fun x j=>(z x j).trans ((af j).trans (L x j))
 ·have O:(w==0)=Gw:=beq_false_of_ne D
  rw [O]
  have v:fL σ a (K+1) w k m:=⟨S.cell,S.lt,S.w0,S.w1,S.k0,by have:=S.k1;exact ML this,S.m0,S.m1⟩
  exact ak (kR v B C fun r σ' i q s A y z=>g r σ' i k q s A y z)
end
inductive Tr where
 |a|b|empty|never
 |cat (l r:Tr) |alt (l r:Tr)
 |star (t:Tr) |plus (t:Tr) |opt (t:Tr)
 |rep (t:Tr) (lo:Nat) (hi:Option Nat)
noncomputable def zU:Option Nat->V
 |none=>.none
 |some n=>.int n
noncomputable def Tr.v:Tr->V
 |.a=>.tup [.str 31]
 |.b=>.tup [.str 32]
 |.empty=>.tup [.str 29]
 |.never=>.tup [.str 30]
 |.cat l r=>.tup [.str 22,l.v,r.v]
 |.alt l r=>.tup [.str 23,l.v,r.v]
 |.star t=>.tup [.str 24,t.v]
 |.plus t=>.tup [.str 25,t.v]
 |.opt t=>.tup [.str 26,t.v]
 |.rep t lo hi=>.tup [.str 27,t.v,.int lo,zU hi]
noncomputable def Tr.leaf:Tr->Prop
 |.a|.b|.empty|.never=>True
 |_=>False
inductive Fam:Nat->Tr->Prop where
 |leaf {n t}:t.leaf->Fam n t
 |cat {n l r}:Fam n l->r.leaf->Fam (n+1) (.cat l r)
 |alt {n l r}:Fam n l->r.leaf->Fam (n+1) (.alt l r)
 |star {n t}:Fam n t->Fam (n+1) (.star t)
 |plus {n t}:Fam n t->Fam (n+1) (.plus t)
 |opt {n t}:Fam n t->Fam (n+1) (.opt t)
 |repN {n t lo}:lo<=2->Fam n t->Fam (n+1) (.rep t lo Gs)
 |repS {n t lo hi}:lo<=2->lo<=hi->hi<=3->Fam n t->Fam (n+1) (.rep t lo (Gq hi))
theorem Fam.up {n:Nat} {t:Tr} (h:Fam n t):∀ {m},n<=m->Fam m t:=by
 induction h with
 |leaf h=>exact fun Z=>.leaf h
 |cat _ h b=>intro m c;cases m with|zero=>lia|succ m=>exact .cat (b ((l2 7724625140128528) c)) h
 |alt _ h b=>intro m c;cases m with|zero=>lia|succ m=>exact .alt (b ((l2 7724625140128528) c)) h
 |star _ b=>intro m c;cases m with|zero=>lia|succ m=>exact .star (b ((l2 7724625140128528) c))
 |plus _ b=>intro m c;cases m with|zero=>lia|succ m=>exact .plus (b ((l2 7724625140128528) c))
 |opt _ b=>intro m c;cases m with|zero=>lia|succ m=>exact .opt (b ((l2 7724625140128528) c))
 |repN h _ b=>intro m c;cases m with|zero=>lia|succ m=>exact .repN h (b ((l2 7724625140128528) c))
 |repS h d e _ b=>intro m c;cases m with|zero=>lia|succ m=>exact .repS h d e (b ((l2 7724625140128528) c))
section
variable {u:U} {d:Nat} {Q:V->Sg->Prop} {X:Sg->Prop} {σ:Sg}
def ck (a:Nat) (K:Nat) (m:Int) (σ:Sg):Prop:=∃w k,fL σ a K w k m
theorem ck.up {a K b:Nat} {m:Int} (h:ck a K m σ) (c:K<=b):ck a b m σ:=by
 obtain⟨w,k,S⟩:=h;exact⟨w,k,S.cell,S.lt,S.w0,S.w1,S.k0,by have:=S.k1;lia,S.m0,S.m1⟩
theorem gJ (F:bg u) {a K:Nat} {m b:Int} (S:ck a K m σ) (e:K<50) (f:0<b) (g:b<=1000)
  (c:∀r σ',0<=r->r<b->ck a (K+1) m σ'->Q (.int r) σ'):ae u (d+1) 885 [.ref a,.int b] Q X σ:=by
 obtain⟨w,k,S⟩:=S;exact BP F S e f g fun r σ' i j l n o Z Z=>c r σ' l n ⟨i,j,o⟩
theorem j9 {l:List V} {k:Nat} {v:V} (b:l.length<=1000000) (e:l[k]? =Gq v):aJ tab .idx [.tup l,.int k] σ=Gq (v,σ):=bC rfl b (cY e)
theorem pV (F:bg u) {a K:Nat} {m:Int} (S:ck a K m σ) (e:K<50)
  (b:∀(t:Tr) σ',t.leaf->ck a (K+1) m σ'->Q t.v σ'):ae u (d+2) 892 [.ref a] Q X σ:=by
 refine F.call 892 _ rfl (d+1) _ Q X σ rfl ?_;refine ax ?_;refine oR ?_;refine Ev.op (.cons (.op (.cons .const .nil) (aK (by simp))) (.cons (.op (.cons .const .nil) (aK (by simp))) (.cons (.op (.cons .const .nil) (aK (by simp))) (.cons (.op (.cons .const .nil) (aK (by simp))) (.cons (.op (.cons .const .nil) (aK (by simp))) .nil))))) (aK (by simp)) _ _ ?_
 refine az (.cons (.loc rfl) (.cons .const .nil)) (gJ F S e (by decide) (by decide) fun r σ' f g c=>?_)
 have:r=0\/r=1\/r=2\/r=3\/r=4:=by lia
 rcases this with rfl|rfl|rfl|rfl|rfl
 ·exact b .a σ' trivial c
 ·exact b .b σ' trivial c
 ·exact b .a σ' trivial c
 ·exact b .empty σ' trivial c
 ·exact b .never σ' trivial c
end
section
variable {u:U} {d:Nat} {Q:V->Sg->Prop} {X:Sg->Prop} {σ:Sg}
theorem Fe {r:Int} (b:0<=r) (h:r<2):r=0\/r=1:=by lia
theorem dM {n:Int} {i:V} {r:List V} {k:Nat} (h:i::r=(aZ n).drop k):(i=.int k/\(k:Int) <n)/\r=(aZ n).drop (k+1):=by
 have c:(aZ n)[k]? =Gq i:=by
  rw [<-List.head?_drop, <-h];rfl
 obtain⟨a,b⟩:=jP c;refine⟨⟨b,by lia⟩,?_⟩
 rw [<-List.tail_drop, <-h];rfl
theorem gb {n:Int} {k:Nat} (h:[]=(aZ n).drop k):n.toNat<=k:=by
 have:=congrArg Jd h
 unfold aZ at this;simp at this;exact(l3 0x9d2081b71201b10) this (wY _ _)
theorem AJ (F:bg u) {a:Nat} {m:Int} (S:ck a 0 m σ)
  (G:∀(t:Tr) σ',Fam 3 t->Q t.v σ'):ae u (d+3) 899 [.ref a] Q X σ:=by
 revert a m;delta u d Q X σ;delta a m;refine F.call 899 _ rfl (d+2) _ Q X σ rfl ?_;refine w_asg (az (.cons (.loc rfl) .nil) (pV F S (by decide) fun A D H I=>aB rfl ?_))
 delta A D;refine dO ?_;refine oR ?_;refine Ev.const _ _ ?_;refine az (.cons (.loc rfl) (.cons .const .nil)) (gJ F I (by decide) (by decide) (by decide) fun n o n0 n1 J=>?_)
 delta n o
 show wy _ _ _ _ _ _ _ (.int (1+n)) o
 refine cO (fun r L σ=>∃(k:Nat) (t:Tr) (M B v:Option V),r=(aZ (1+n)).drop k/\L=[Gq (.ref a),Gq t.v,M,B,v,Gs,Gs,Gs]/\k<=3/\Fam k t/\ck a (2+3 * k) m σ) (MA (by decide) n0) (by lia)
  ⟨0,A,Gs,Gs,Gs,rfl,rfl,by decide,.leaf H,J⟩ (fun i r L σ N O hk Z=>?_) (fun L σ O=>?_)
 ·delta i r L σ N;obtain⟨k,t,M,B,v,hr,rfl,P,y,Sk⟩:=O;delta k t M B v;obtain⟨⟨rfl,b'⟩,R⟩:=dM hr
  have T:k<=2:=by lia
  have p:∀(z:Tr) (B v:Option V) σ',Fam (k+1) z->ck a (2+3 * (k+1)) m σ'->N .next [Gq (.ref a),Gq z.v,Gq (.int k),B,v,Gs,Gs,Gs] σ':=
   fun z B v σ' f S'=>(hk _ σ' ⟨k+1,z,_,B,v,R,rfl,(l1 0x1b2800b3801b387180) T P,f,S'⟩).1
  refine w_asg (az (.cons (.loc rfl) (.cons .const .nil)) (gJ F Sk (by lia) (by decide) (by decide) fun w g w0 w1 l=>aB rfl ?_))
  delta w g;refine aq (t:=GI (w<2)) (.of (.op (.cons (.loc rfl) (.cons .const .nil)) rfl) rfl rfl) ?_
  by_cases U:w<2
  ·rw [decide_eq_true U];refine w_asg ?_;refine oR ?_;rcases Fe w0 U with rfl|rfl
   ·refine Ev.op (.cons (.op (.cons .const (.cons .const .nil)) (aK (by simp))) (.cons (.loc rfl) .nil)) (j9 (k:=0) (by simp) rfl) _ _ ?_
    refine Ev.loc rfl _ _ ?_;refine az (.cons (.loc rfl) .nil) (pV F l (by lia) fun W b H c=>?_)
    refine eV ?_;exact aB rfl (ak (bm (p (.cat t W) _ _ b (.cat y H) (c.up (l1 0x1b7a718038287187187a03828)))))
   ·refine Ev.op (.cons (.op (.cons .const (.cons .const .nil)) (aK (by simp))) (.cons (.loc rfl) .nil)) (j9 (k:=1) (by simp) rfl) _ _ ?_
    refine Ev.loc rfl _ _ ?_;refine az (.cons (.loc rfl) .nil) (pV F l (by lia) fun W b H c=>?_)
    refine eV ?_;exact aB rfl (ak (bm (p (.alt t W) _ _ b (.alt y H) (c.up (l1 0x1b7a718038287187187a03828)))))
  ·rw [decide_eq_false U];refine aq (t:=GI (w<5)) (.of (.op (.cons (.loc rfl) (.cons .const .nil)) rfl) rfl rfl) ?_
   by_cases h5:w<5
   ·rw [decide_eq_true h5]
    have E:∀(j:Nat) (z:Tr) (Y:V),([.str 24,.str 25,.str 26]:List V)[j]? =Gq Y->z.v=.tup [Y,t.v]->Fam (k+1) z->w - 2=(j:Int)->wpSs tab (ae u (d+2)) [.assign (.loc 1) (.op .tup [.op .idx [.op .tup [.const (.str 24),.const (.str 25),.const (.str 26)],.op (.bin .sub) [.loc 3,.const (.int 2)]],.loc 1])] [Gq (.ref a),Gq t.v,Gq (.int k),Gq (.int w),v,Gs,Gs,Gs] (iu (ae u (d+2)) [] (iu (ae u (d+2)) [] N X) X) X g:=fun j z Y hj hv hf hw=>by
     refine ar (.op (.cons (.op (.cons (.op (.cons .const (.cons .const (.cons .const .nil))) (aK (by simp))) (.cons (.op (.cons (.loc rfl) (.cons .const .nil)) (aF rfl)) .nil)) (by rw [hw];exact j9 (by simp) hj)) (.cons (.loc rfl) .nil)) (aK (by simp))) rfl ?_
     rw [<-hv];exact ak (bm (bm (p z _ _ g hf (l.up (l1 0x1b7a718038287187a03828)))))
    have:w=2\/w=3\/w=4:=by lia
    rcases this with rfl|rfl|rfl
    ·exact E 0 (.star t) _ rfl rfl (.star y) rfl
    ·exact E 1 (.plus t) _ rfl rfl (.plus y) rfl
    ·exact E 2 (.opt t) _ rfl rfl (.opt y) rfl
   ·rw [decide_eq_false h5];refine w_asg (az (.cons (.loc rfl) (.cons .const .nil)) (gJ F l (by lia) (by decide) (by decide) fun lo b l0 l1 c=>aB rfl ?_))
    delta lo b;obtain⟨n,rfl⟩:=IM l0;delta n;refine w_asg ?_;refine oR ?_;refine Ev.const _ _ ?_;refine Ev.loc rfl _ _ ?_;refine Ev.loc rfl _ _ ?_;refine Ev.op (.cons (.loc rfl) (.cons .const .nil)) rfl _ _ ?_
    by_cases h7:w=7
    ·subst h7;refine Ev.const _ _ ?_;refine eV ?_;exact aB rfl (ak (bm (bm (p (.rep t n Gs) _ _ b (.repN (by lia) y) (c.up (by lia))))))
    ·have hb:A5 .eq w 7=Gw:=beq_false_of_ne h7
     rw [hb];dsimp only [b6];refine oR ?_;refine Ev.loc rfl _ _ ?_;refine az (.cons (.loc rfl) (.cons (.op (.cons .const (.cons (.loc rfl) .nil)) (aF rfl)) .nil)) (gJ F c (by lia) (by lia) (by lia) fun e s e0 e1 K=>?_)
     refine eV ?_;obtain⟨e,rfl⟩:=IM e0
     have q:=p (.rep t n (Gq (n+e))) (Gq (.int w)) (Gq (.int n)) s (.repS (by lia) (((l2 1798400))) (by lia) y) (K.up (by lia))
     refine vg.nil (C:=ae u (d+2)) _ _ ?_
     show Ep _ _ _ _ _ _ (.tup [.str 27,t.v,.int n,.int ((n:Int)+e)]) s
     refine aB rfl (ak (bm (bm ?_)));exact q
 ·obtain⟨k,t,M,B,v,hr,rfl,P,y,Sk⟩:=O;exact ax (Ev.loc rfl _ _ (G t σ (y.up P)))
end
theorem FrzL.all {σ:Sg} {l:List V}:FrzL σ l l σ:=by
 induction l with
 |nil=>exact .nil
 |cons _ _ b=>exact .keep b
theorem wU {σ:Sg} {i:Nat} {c:GS} {b:List (Nat×V)} (h:σ.cell i=.inst c b) (hi:i<σ.n):FrzL σ [.ref i] [.obj c (b.map (·.1)) (b.map (·.2))] (σ.set i .dead):=.inst h hi .all .nil
theorem jG {σ:Sg} {i:Nat} {l:List V} (h:σ.cell i=.list l) (hi:i<σ.n):FrzL σ [.ref i] [.lst l] (σ.set i .dead):=.list h hi .all .nil
theorem a6.kill {σ σ':Sg} {i:Nat} {c:Cell} (h:a6 σ σ') (hi:σ.n<=i):a6 σ (σ'.set i c):=
 ⟨h.n,fun x b=>(af ((l3 493688003875334) b hi)).trans (h.cell x b)⟩
theorem a6.set {σ σ':Sg} {i:Nat} {c:Cell} (h:a6 σ σ') (hi:σ.n<=i):a6 σ (σ'.set i c):=h.kill hi
section
variable {u:U} {d:Nat} {Q:V->Sg->Prop} {X:Sg->Prop} {σ σ₁:Sg}
theorem Bg {f:GS} {b:List V} (m:ae u d f b (fun v σ'=>∃i c g,v=.ref i/\σ'.cell i=.inst c g/\i<σ'.n/\Q (.obj c (g.map (·.1)) (g.map (·.2))) (σ'.set i .dead)) X σ):ae u d f b Q X σ:=
 by
 refine mcall_frz m fun v σ' h=>?_;obtain⟨i,c,g,e,h,j,q⟩:=h;exact⟨_,_,e▸wU h j,q⟩
theorem qL {f:GS} {b:List V} (m:ae u d f b (fun v σ'=>∃i l,v=.ref i/\σ'.cell i=.list l/\i<σ'.n/\Q (.lst l) (σ'.set i .dead)) X σ):ae u d f b Q X σ:=
 mcall_frz m fun v σ' c=>by obtain⟨i,l,e,h,g,q⟩:=c;exact⟨_,_,e▸jG h g,q⟩
theorem mz (F:bg u) {f:GS} {n:Nat} (e:lookC f fq=Gq ⟨2,[0,1],Gs,[.setAttr (.loc 0) n (.loc 1)]⟩) {i:Nat} {c:GS} {v:V} (h:σ.cell i=.inst c []) (hi:i<σ.n) (g:bZ tab c n=Gu)
  (b:Q .none (σ.set i (.inst c [(n,v)]))):ae u (d+1) f [.ref i,v] Q X σ:=by
 refine F.call f _ e d _ Q X σ rfl ?_;exact aG (.loc rfl) (.loc rfl) (aS h hi (by simp) g) (ak b)
theorem Cb (F:bg u) {i:Nat} {c:GS} {v w:V} (h:σ.cell i=.inst c []) (hi:i<σ.n) (e:bZ tab c 16=Gu) (f:bZ tab c 17=Gu)
  (b:Q .none ((σ.set i (.inst c [(16,v)])).set i (.inst c [(16,v),(17,w)]))):ae u (d+1) 726 [.ref i,v,w] Q X σ:=by
 refine F.call 726 _ rfl d _ Q X σ rfl ?_;exact aG (.loc rfl) (.loc rfl) (aS h hi (by simp) e) (aG (.loc rfl) (.loc rfl) (aS am hi (Gr rfl) f) (ak b))
noncomputable def gZ (c:Int):V:=.obj 494 [11] [.tup [.tup [.int c,.int c]]]
noncomputable def Tr.node:Tr->V
 |.a=>.obj 710 [15] [gZ 97]
 |.b=>.obj 710 [15] [gZ 98]
 |.empty=>.obj 672 [] []
 |.never=>.obj 684 [] []
 |.cat l r=>.obj 755 [16,17] [l.node,r.node]
 |.alt l r=>.obj 767 [16,17] [l.node,r.node]
 |.star t=>.obj 812 [18] [t.node]
 |.plus t=>.obj 824 [18] [t.node]
 |.opt t=>.obj 836 [18] [t.node]
 |.rep t lo hi=>.obj 862 [18,19,20] [t.node,.int lo,zU hi]
theorem wm (F:bg u) {C:Nat} {ρ:List (Option V)} {e:E} {f c:GS} {n:Nat} {v:V} (hd:C<=d) (g:lookC c tab.inits=Gq (Gq f)) (i:lookC f fq=Gq ⟨2,[0,1],Gs,[.setAttr (.loc 0) n (.loc 1)]⟩) (j:bZ tab c n=Gu)
  (k:Ev (ae u (d+1)) ρ σ e v σ₁) (b:∀σ',σ'.cell σ₁.n=.inst c [(n,v)]->σ'.n=σ₁.n+1->a6 σ₁ σ'->Q (.ref σ₁.n) σ'):wpE tab (ae u (d+1)) ρ (.callC c [e]) Q X σ:=by
 refine w_callC (.cons k .nil) g (mz F i ah (Gx _) j ⟨rfl,?_⟩);exact b _ am rfl ((a6.alloc _ _).set (GL _))
def iD (Q:V->Sg->Prop):V->Sg->Prop:=fun v b=>∃i c e,v=.ref i/\b.cell i=.inst c e/\i<b.n/\Q (.obj c (e.map (·.1)) (e.map (·.2))) (b.set i .dead)
end
section
variable {C:aC} {ρ c:List (Option V)} {σ σ₁:Sg} {e:E} {v x:V} {X:Sg->Prop} {K:cU} {l b:List S} {t:kw}
theorem pQ (h:Ev C ρ σ e v σ₁) (i:aX v σ₁=Gq [x]) (st:b9 v [x] σ₁) (j:eY ρ t x σ₁=Gq c)
  (f:∀g:cU,(∀d σ',b9 v [x] σ'->wpSs tab C l d K X σ'->g .next d σ')->wpSs tab C b c g X σ₁):wpSs tab C (.for t e b::l) ρ K X σ:=by
 refine bL (h _ _ ?_);unfold pi;simp only [i];refine⟨st,?_⟩;simp only [j];refine f _ fun d σ' s q=>?_;exact⟨s,q⟩
end
section
variable {u:U} {d:Nat} {Q:V->Sg->Prop} {X:Sg->Prop} {σ:Sg}
theorem BK (F:bg u) {p:Nat} {c:Int} (h:σ.cell p=.list [.tup [.int c,.int c]]) (hp:p<σ.n) (O:0<=c) (P:c<=127)
  (s:∀σ' i,a6 σ σ'->σ.n<=i->i<σ'.n->σ'.cell i=.inst 494 [(11,.tup [.tup [.int c,.int c]])]->Q (.ref i) σ'):ae u (d+2) 397 [.ref p] Q X σ:=by
 revert p c;delta u d Q X σ;delta p c;refine F.call 397 _ rfl (d+1) _ Q X σ rfl ?_;refine ar (.op .nil (bP (by simp))) rfl ?_
 generalize j:σ.alloc (.list [])=y;delta y
 have B:a6 σ y:=j▸.alloc _ _
 have J:y.cell σ.n=.list []:=by rw [<-j];exact ah
 have D:y.n=σ.n+1:=by rw [<-j];rfl
 refine pQ (v:=.ref p) (x:=.tup [.int c,.int c]) (.loc rfl) (aA ((B.cell p hp).trans h)) ⟨(l3 0x1c109d718121c20) hp D,(B.cell p hp).trans h⟩ rfl fun R S=>?_;delta R;refine ar (v:=.int c) (.op (.cons (.loc rfl) (.cons .const .nil)) (CG O)) rfl ?_;refine ar (v:=.int c) (.op (.cons (.loc rfl) (.cons .const .nil)) (C4 P)) rfl ?_;refine aq (t:=GI (c<=c)) (.of (.op (.cons (.loc rfl) (.cons (.loc rfl) .nil)) rfl) rfl rfl) ?_;rw [decide_eq_true (JC c)];refine aD (Ev.app (.loc rfl) (aM J) (.op (.cons (.loc rfl) (.cons (.loc rfl) .nil)) (aK (by simp))) (bK J ((l2 0x9d718101c01) D) (by simp)) _ _ ?_)
 generalize k:y.set σ.n _=b;delta b
 have K:a6 σ b:=k▸B.set (GL _)
 have T:b.cell σ.n=.list [.tup [.int c,.int c]]:=by rw [<-k];exact am
 have l:b.n=σ.n+1:=by rw [<-k];exact D
 refine ak (bm (S _ _ ⟨(l3 0x1c109d718121c20) hp l,(K.cell p hp).trans h⟩ ?_));refine ar (.op .nil (bP (by simp))) rfl ?_
 generalize m:b.alloc (.list [])=e;delta e
 have L:a6 b e:=m▸.alloc _ _
 have U:e.cell b.n=.list []:=by rw [<-m];exact ah
 have A:e.n=σ.n+2:=by rw [<-m];show b.n+1=_;exact(l2 0x1d718101d72817180) l
 have E:=(L.cell σ.n ((l2 0x9d718101c01) l)).trans T
 refine pQ (v:=.ref e.n) (x:=.tup [.int c,.int c]) (.op (.cons (.loc rfl) .nil) (r9 E)) (aA ah) ⟨Gx _,ah⟩ rfl fun V G=>?_;delta V;generalize o:e.alloc (.list [.tup [.int c,.int c]])=r;delta r
 have M:a6 e r:=o▸.alloc _ _
 have W:r.cell e.n=.list [.tup [.int c,.int c]]:=by rw [<-o];exact ah
 have N:r.n=σ.n+3:=by rw [<-o];show e.n+1=_;exact(l2 0x1d728101d73817180) A
 have q:r.cell b.n=.list []:=(M.cell _ ((l3 0x1d718109d728121c20) l A)).trans U
 refine aq (t:=Gw) (.andF (.of (.loc rfl) (j0 q (by simp)) rfl)) ?_
 refine aD (Ev.app (.loc rfl) (aM q) (.op (.cons (.loc rfl) (.cons (.loc rfl) .nil)) (aK (by simp))) (bK q ((l3 0x1d718109d738121c20) l N) (by simp)) _ _ ?_)
 generalize g:r.set b.n _=z
 have Y:a6 σ z:=g▸((K.trans L).trans M).set ((l2 0x9d718101b01) l)
 have Z:z.cell b.n=.list [.tup [.int c,.int c]]:=by rw [<-g];exact am
 have H:z.cell e.n=.list [.tup [.int c,.int c]]:=by rw [<-g,af (by exact(l3 0x1d718109d728121d026) l A)];exact W
 have I:z.n=σ.n+3:=by rw [<-g];exact N
 refine ak (bm (G _ _ ⟨(l3 0x1d728109d738121c20) A I,H⟩ ?_));refine ax (wm F (C:=0) (G4 _) rfl (f:=342) (n:=11) rfl rfl (.op (.cons (.loc rfl) .nil) (kW Z (by simp))) fun σ' hc hn hE=>?_)
 exact s σ' z.n (Y.trans hE) ((l2 0x9d738101b01) I) ((l3 0x9d718100d211c01) hn I) hc
theorem BN (F:bg u) {k:Nat} {c:Int} (n:mc k=Gq c) (p:0<=c) (q:c<=127) (e:∀σ',a6 σ σ'->Q (gZ c) σ'):ae u (d+3) 377 [.str k] Q X σ:=by
 revert k c;delta u d Q X σ;delta k c;refine Bg (F.call 377 _ rfl (d+2) _ _ X σ rfl ?_);refine ax ?_;refine gU (lY ?_);refine BA (Ev.loc rfl _ _ ?_)
 have s:fE (.str k) σ=Gq [.str k]:=by
  unfold fE;simp only [n,Option.isSome_some,if_true]
 simp only [s]
 have o:aJ tab .ord [.str k] σ=Gq (.int c,σ):=by
  show(mc k).map (V.int ·,σ)=_
  rw [n];rfl
 refine hO (fun r b σ'=>(r=[.str k]/\b=[]/\σ'=σ)\/(r=[]/\b=[.tup [.int c,.int c]]/\σ'=σ)) (fun Z Z Z Z=>trivial) (fun i r b σ' z j t=>?_) (fun b σ' j=>?_) _ _ _ (.inl ⟨rfl,rfl,rfl⟩)
 ·rcases j with ⟨f,rfl,rfl⟩ |⟨f,_⟩
  ·cases f;exact Ev.op (.cons (.op (.cons (.loc rfl) .nil) o) (.cons (.op (.cons (.loc rfl) .nil) o) .nil)) (aK (by simp)) _ _ (t _ _ (.inr ⟨rfl,rfl,rfl⟩))
  ·cases f
 ·delta b σ';rcases j with ⟨f,_⟩ |⟨_,rfl,rfl⟩
  ·cases f
  ·refine eV ?_;refine BK F ah (Gx _) p q fun l i v g m y=>⟨i,_,_,rfl,y,m,e _ ?_⟩
   have:=g
   exact((a6.alloc _ _).trans v).kill (by have:σ'.n+1<=i:=g;exact(l2 1861625060112) this)
end
section
variable {u:U} {d:Nat} {Q:V->Sg->Prop} {X:Sg->Prop} {σ:Sg}
theorem CR {k:Nat} {ks:List Nat} (h:k<55/\ks.all (· <55)):aJ tab .inn [.str k,.tup (ks.map .str)] σ=Gq (.bool (ks.any (· ==k)),σ):=by
 have b:∀ks:List Nat,strs? (ks.map .str)=Gq ks:=fun ks=>by
  induction ks with
  |nil=>rfl
  |cons k ks c=>show(strs? (ks.map .str)).map (k:: ·)=_;rw [c];rfl
 show(match strs? (ks.map V.str) with
  |some ks=>if k<55/\ks.all (· <55) then Gq (V.bool (ks.any (· ==k)),σ) else Gs
  |none=>Gs)=_
 simp only [b,if_pos h]
theorem iE {a b:Nat} (h:a<55/\b<55):aJ tab (.rel .eq) [.str a,.str b] σ=Gq (.bool (GI (a=b)),σ):=if_pos h
noncomputable def Tr.nm:Tr->Nat
 |.a=>31|.b=>32|.empty=>29|.never=>30|.cat .. =>22|.alt .. =>23|.star .. =>24|.plus .. =>25|.opt .. =>26|.rep .. =>27
noncomputable def Tr.rest:Tr->List V
 |.cat l r|.alt l r=>[l.v,r.v]
 |.star t|.plus t|.opt t=>[t.v]
 |.rep t lo hi=>[t.v,.int lo,zU hi]
 |_=>[]
theorem Tr.v_eq (t:Tr):t.v=.tup (.str t.nm::t.rest):=by cases t<;>rfl
theorem Tr.rest_len (t:Tr):(V.str t.nm::t.rest).length<=1000000:=by cases t<;>exact Gr rfl
theorem Tr.nm_lt (t:Tr):t.nm<55:=by cases t<;>exact Gr rfl
theorem cr {C:aC} {ρ:List (Option V)} {t:Tr} (h:ρ[0]? =Gq (Gq t.v)):Ev C ρ σ (.op .idx [.loc 0,.const (.int 0)]) (.str t.nm) σ:=
 .op (.cons (.loc h) (.cons .const .nil)) (by rw [t.v_eq];exact bC rfl t.rest_len rfl)
theorem fX {C:aC} {ρ:List (Option V)} {t:Tr} {k:Nat} {v:V} (h:ρ[0]? =Gq (Gq t.v)) (e:(V.str t.nm::t.rest)[k]? =Gq v):Ev C ρ σ (.op .idx [.loc 0,.const (.int k)]) v σ:=
 .op (.cons (.loc h) (.cons .const .nil)) (by rw [t.v_eq];exact bC rfl t.rest_len (cY e))
theorem gQ {C:aC} {ρ:List (Option V)} {t:Tr} {k:Nat} (h:ρ[0]? =Gq (Gq t.v)) (b:k<55):eA C ρ σ (.op (.rel .eq) [.op .idx [.loc 0,.const (.int 0)],.const (.str k)]) (GI (t.nm=k)) σ:=
 .of (.op (.cons (cr h) (.cons .const .nil)) (iE ⟨t.nm_lt,b⟩)) rfl rfl
theorem dU {C:aC} {ρ:List (Option V)} {t:Tr} {i j:Nat} (h:ρ[0]? =Gq (Gq t.v)) (b:i<55/\j<55):eA C ρ σ (.op .inn [.op .idx [.loc 0,.const (.int 0)],.op .tup [.const (.str i),.const (.str j)]]) ([i,j].any (· ==t.nm)) σ:=
 .of (.op (.cons (cr h) (.cons (.op (.cons .const (.cons .const .nil)) (aK (Gr rfl))) .nil)) (CR (ks:=[i,j]) ⟨t.nm_lt,by simp [b.1,b.2]⟩)) rfl rfl
theorem made1 (F:bg u) {ρ:List (Option V)} {e:E} {f c:GS} {n:Nat} {v:V} {σ₁:Sg} {K:V->Sg->Prop} (i:∀v σ,iD Q v σ->K v σ) (j:lookC c tab.inits=Gq (Gq f)) (k:lookC f fq=Gq ⟨2,[0,1],Gs,[.setAttr (.loc 0) n (.loc 1)]⟩) (l:bZ tab c n=Gu)
  (m:Ev (ae u (d+1)) ρ σ₁ e v σ₁) (g:a6 σ σ₁) (b:∀σ',a6 σ σ'->Q (.obj c [n] [v]) σ'):wpE tab (ae u (d+1)) ρ (.callC c [e]) K X σ₁:=
 wm F (C:=0) (G4 _) j k l m fun σ' o p q=>i _ _ ⟨_,_,_,rfl,o,(l2 0x9d718101c01) p,b _ ((g.trans q).kill g.n)⟩
theorem Dw (F:bg u) {c:GS} {v w:V} {σ₁:Sg} {K:V->Sg->Prop} (f:∀v σ,iD Q v σ->K v σ) (j:lookC c tab.inits=Gq (Gq 726)) (g:bZ tab c 16=Gu) (i:bZ tab c 17=Gu)
  (e:a6 σ σ₁) (b:∀σ',a6 σ σ'->Q (.obj c [16,17] [v,w]) σ'):
  ae u (d+1) 726 [.ref σ₁.n,v,w] (fun r σ'=>r=.none/\K (.ref σ₁.n) σ') X (σ₁.alloc (.inst c [])):=by
 refine Cb F ah (Gx _) g i ⟨rfl,f _ _ ⟨_,_,_,rfl,am,Gx _,b _ ?_⟩⟩;exact(((e.trans (.alloc _ _)).set e.n).set e.n).kill e.n
theorem tV (F:bg u) {i:Nat} {v:V} {lo:Nat} {hi:Option Nat} (h:σ.cell i=.inst 862 []) (b:i<σ.n) (z:lo<=40) (m:∀k,hi=Gq k->lo<=k/\k<=40)
  (c:∀σ',σ'.n=σ.n->(∀x,x≠i->σ'.cell x=σ.cell x)->σ'.cell i=.inst 862 [(18,v),(19,.int lo),(20,zU hi)]->Q .none σ'):ae u (d+2) 852 [.ref i,v,.int lo,zU hi] Q X σ:=by
 refine F.call 852 _ rfl (d+1) _ Q X σ rfl ?_;refine aD (az (.cons (.loc rfl) (.cons (.loc rfl) .nil)) (mz F (f:=783) (n:=18) rfl h b rfl ?_));generalize j:σ.set i _=s
 have o:s.cell i=.inst 862 [(18,v)]:=by rw [<-j];exact am
 have l:s.n=σ.n:=by rw [<-j];rfl
 have p:∀x,x≠i->s.cell x=σ.cell x:=fun x e=>by rw [<-j];exact af e
 have q:GI ((lo:Int) <0)=Gw:=decide_eq_false (by lia)
 have r:GI ((lo:Int) >40)=Gw:=decide_eq_false (by lia)
 refine aq (t:=Gw) (.orF (.of (v:=.bool (GI ((lo:Int) <0))) (.op (.cons (.loc rfl) (.cons .const .nil)) rfl) (congrArg Gq q) rfl) (.of (v:=.bool (GI ((lo:Int) >40))) (.op (.cons (.loc rfl) (.cons .const .nil)) rfl) (congrArg Gq r) rfl)) (ak ?_)
 have g:wpSs tab (ae u (d+1)) [.setAttr (.loc 0) 19 (.loc 2),.setAttr (.loc 0) 20 (.loc 3)] (dR 8 [0,1,2,3] [.ref i,v,.int lo,zU hi]) (eh Q) X s:=
  aG (.loc rfl) (.loc rfl) (aS o ((l3 30857680264224) b l) (Gr rfl) rfl) (aG (.loc rfl) (.loc rfl) (aS am (by show i<s.n;exact(l3 30857680264224) b l) (Gr rfl) rfl) (ak (c _ l (fun x e=>(af e).trans ((af e).trans (p x e))) am)))
 cases hi with
 |none=>exact aq (t:=Gw) (.andF (.of (.op (.cons (.loc rfl) .nil) rfl) rfl rfl)) (ak g)
 |some k=>
  obtain⟨A,B⟩:=m k rfl
  have y:GI ((k:Int) <lo)=Gw:=decide_eq_false (by lia)
  have l3:GI ((k:Int) >40)=Gw:=decide_eq_false (by lia)
  exact aq (t:=Gw) (.andT (.of (.op (.cons (.loc rfl) .nil) rfl) rfl rfl) (.orF (.of (v:=.bool (GI ((k:Int) <lo))) (.op (.cons (.loc rfl) (.cons (.loc rfl) .nil)) rfl) (congrArg Gq y) rfl) (.of (v:=.bool (GI ((k:Int) >40))) (.op (.cons (.loc rfl) (.cons .const .nil)) rfl) (congrArg Gq l3) rfl))) (ak g)
end
section
variable {u:U} {d:Nat} {Q:V->Sg->Prop} {X:Sg->Prop} {σ:Sg}
theorem wk {C:aC} {ρ:List (Option V)} {c f:GS} {e:E} (g:lookC c tab.inits=Gq (Gq f)) (h:wpE tab C ρ e (fun v σ'=>C f [.ref σ'.n,v] (fun r b=>r=.none/\Q (.ref σ'.n) b) X (σ'.alloc (.inst c []))) X σ):wpE tab C ρ (.callC c [e]) Q X σ:=by
 refine iR ?_;simp only [g];exact h
theorem vM {C:aC} {ρ:List (Option V)} {c f:GS} {e g:E} (i:lookC c tab.inits=Gq (Gq f)) (h:wpE tab C ρ e (fun v σ₁=>wpE tab C ρ g (fun w σ'=>C f [.ref σ'.n,v,w] (fun r b=>r=.none/\Q (.ref σ'.n) b) X (σ'.alloc (.inst c []))) X σ₁) X σ):wpE tab C ρ (.callC c [e,g]) Q X σ:=by
 refine iR ?_;simp only [i];exact h
theorem z9 {C:aC} {ρ:List (Option V)} {c:GS} {K:V->Sg->Prop} (e:∀v σ,iD Q v σ->K v σ) (f:lookC c tab.inits=Gq Gs) (b:∀σ',a6 σ σ'->Q (.obj c [] []) σ'):wpE tab C ρ (.callC c []) K X σ:=by
 refine iR ?_;simp only [f];exact e _ _ ⟨_,_,_,rfl,ah,Gx _,b _ ((a6.alloc _ _).kill (GL _))⟩
theorem qT (F:bg u) {n:Nat} {t:Tr} (o:t.leaf) (i:∀σ',a6 σ σ'->Q t.node σ'):ae u (n+5) 906 [t.v] Q X σ:=by
 refine Bg (F.call 906 _ rfl (n+4) _ _ X σ rfl ?_)
 have j:∀ {k:Nat} {c:Int},mc k=Gq c->t.nm=k->(0<=c/\c<=127)->t.node=.obj 710 [15] [gZ c]->[31,32].any (· ==t.nm)=Gu->wpSs tab (ae u (n+4)) yH (dR 13 [0] [t.v]) (eh (iD Q)) X σ:=fun{k c} p q m e r=>by
  refine aq (t:=Gu) (r▸dU rfl ⟨by decide,by decide⟩) (ax ?_)
  refine wk (f:=700) rfl (az (.cons (cr rfl) .nil) ?_);rw [q];refine BN (d:=n+1) F p m.1 m.2 fun g l=>?_;refine mz (d:=n+3) F (f:=700) (n:=15) rfl ah (Gx _) rfl ⟨rfl,⟨_,_,_,rfl,am,Gx _,?_⟩⟩
  have:=i ((((g.alloc (.inst 710 []))).set g.n (.inst 710 [(15,gZ c)])).set g.n .dead) (((l.trans (.alloc _ _)).set l.n).kill l.n)
  rw [e] at this;exact this
 cases t with
 |a=>exact j (k:=31) rfl rfl ⟨by decide,by decide⟩ rfl rfl
 |b=>exact j (k:=32) rfl rfl ⟨by decide,by decide⟩ rfl rfl
 |empty=>
  exact aq (t:=Gw) (dU (t:=.empty) rfl ⟨by decide,by decide⟩) (ak (aq (t:=Gu) (gQ (t:=.empty) rfl (by decide)) (ax (z9 (Q:=Q) (fun Z Z h=>h) rfl i))))
 |never=>
  exact aq (t:=Gw) (dU (t:=.never) rfl ⟨by decide,by decide⟩) (ak (aq (t:=Gw) (gQ (t:=.never) rfl (by decide)) (ak (aq (t:=Gu) (gQ (t:=.never) rfl (by decide)) (ax (z9 (Q:=Q) (fun Z Z h=>h) rfl i))))))
 |_=>exact o.elim
theorem iQ (F:bg u) {n:Nat} {t l:Tr} (e:[31,32].any (· ==t.nm)=Gw) (f:GI (t.nm=29)=Gw) (g:GI (t.nm=30)=Gw) (i:(V.str t.nm::t.rest)[1]? =Gq l.v)
  (j:∀ {Q:V->Sg->Prop} {X:Sg->Prop} {σ:Sg},(∀σ',a6 σ σ'->Q l.node σ')->ae u (n+5) 906 [l.v] Q X σ)
  (b:∀σ₁,a6 σ σ₁->wpSs tab (ae u (n+5)) (yH.drop 4) (Gq t.v::Gq l.node::IL 11 Gs) (eh (iD Q)) X σ₁):ae u (n+6) 906 [t.v] Q X σ:=by
 refine Bg (F.call 906 _ rfl (n+5) _ _ X σ rfl ?_);refine aq (t:=Gw) (e▸dU rfl ⟨by decide,by decide⟩) (ak (aq (t:=Gw) (f▸gQ rfl (by decide)) (ak (aq (t:=Gw) (g▸gQ rfl (by decide)) (ak ?_)))))
 exact w_asg (az (.cons (fX (k:=1) rfl i) .nil) (j fun σ₁ c=>aB rfl (b σ₁ c)))
theorem pe (F:bg u) {n:Nat} {r:Tr} {ρ:List (Option V)} {e:E} {c:GS} {v:V} {σ₁:Sg} (i:lookC c tab.inits=Gq (Gq 726)) (j:bZ tab c 16=Gu) (k:bZ tab c 17=Gu) (l:r.leaf)
  (m:ρ[1]? =Gq (Gq v)) (o:Ev (ae u (n+5)) ρ σ₁ e r.v σ₁) (p:a6 σ σ₁) (b:∀σ',a6 σ σ'->Q (.obj c [16,17] [v,r.node]) σ'):wpE tab (ae u (n+5)) ρ (.callC c [.loc 1,.callF 906 [e]]) (iD Q) X σ₁:=by
 refine vM i (Ev.loc m _ _ (az (.cons o .nil) (qT F l fun g f=>?_)));exact Dw (d:=n+4) F (fun Z Z h=>h) i j k (p.trans f) b
theorem kg (F:bg u) {n:Nat} {ρ:List (Option V)} {c:GS} {v:V} {σ₁:Sg} (e:lookC c tab.inits=Gq (Gq 783)) (g:bZ tab c 18=Gu) (i:ρ[1]? =Gq (Gq v)) (j:a6 σ σ₁) (b:∀σ',a6 σ σ'->Q (.obj c [18] [v]) σ'):
  wpE tab (ae u (n+5)) ρ (.callC c [.loc 1]) (iD Q) X σ₁:=
 made1 (d:=n+4) F (f:=783) (n:=18) (fun Z Z h=>h) e rfl g (.loc i) j b
theorem o9 (F:bg u) {n:Nat} {t:Tr} {lo:Nat} {hi:Option Nat} (m:lo<=40) (o:∀k,hi=Gq k->lo<=k/\k<=40) (p:∀ {Q:V->Sg->Prop} {X:Sg->Prop} {σ:Sg},(∀σ',a6 σ σ'->Q t.node σ')->ae u (n+5) 906 [t.v] Q X σ)
  (c:∀σ',a6 σ σ'->Q (Tr.rep t lo hi).node σ'):ae u (n+6) 906 [(Tr.rep t lo hi).v] Q X σ:=by
 have f:∀ {k:Nat} {j:List (Option V)} {σ:Sg} {C:aC},GI ((Tr.rep t lo hi).nm=k)=Gw->k<55->j[0]? =Gq (Gq (Tr.rep t lo hi).v)->eA C j σ (.op (.rel .eq) [.op .idx [.loc 0,.const (.int 0)],.const (.str k)]) Gw σ:=fun e q h=>e▸gQ h q
 refine iQ F (t:=.rep t lo hi) rfl rfl rfl rfl p fun g b=>aq (t:=Gw) (f rfl (by decide) rfl) (ak (aq (t:=Gw) (f rfl (by decide) rfl) (ak (aq (t:=Gu) (gQ (t:=.rep t lo hi) rfl (by decide)) (ax ?_)))))
 refine w_callC (.cons (.loc rfl) (.cons (fX (t:=.rep t lo hi) (k:=2) rfl rfl) (.cons (fX (t:=.rep t lo hi) (k:=3) rfl rfl) .nil))) (f:=852) rfl ?_;refine tV (d:=n+3) F ah (Gx _) m o fun σ' l r s=>⟨rfl,⟨_,_,_,rfl,s,by rw [l];exact Gx _,c _ ?_⟩⟩
 refine a6.kill ⟨?_,fun x i=>?_⟩ b.n
 ·rw [l];exact LF b.n
 ·have:=b.n
  rw [r x (by exact(l3 493688003875334) i this),au (by exact(l3 30855500209184) i this)]
  exact b.cell x i
theorem Ao (F:bg u) {n:Nat} {t:Tr} (h:Fam n t):∀ {Q:V->Sg->Prop} {X:Sg->Prop} {σ:Sg},(∀σ',a6 σ σ'->Q t.node σ')->ae u (n+5) 906 [t.v] Q X σ:=by
 have f:∀ {t:Tr} {k:Nat} {p:List (Option V)} {σ:Sg} {C:aC},GI (t.nm=k)=Gw->k<55->p[0]? =Gq (Gq t.v)->eA C p σ (.op (.rel .eq) [.op .idx [.loc 0,.const (.int 0)],.const (.str k)]) Gw σ:=fun e s h=>e▸gQ h s
 have g:∀ {t:Tr} {k:Nat} {p:List (Option V)} {σ:Sg} {C:aC},GI (t.nm=k)=Gu->k<55->p[0]? =Gq (Gq t.v)->eA C p σ (.op (.rel .eq) [.op .idx [.loc 0,.const (.int 0)],.const (.str k)]) Gu σ:=fun e s h=>e▸gQ h s
 have m:∀ {n:Nat} {t l:Tr} {Q:V->Sg->Prop} {X:Sg->Prop} {σ:Sg},[31,32].any (· ==t.nm)=Gw->GI (t.nm=29)=Gw->GI (t.nm=30)=Gw->GI (t.nm=22)=Gw->GI (t.nm=23)=Gw->GI (t.nm=27)=Gw->(V.str t.nm::t.rest)[1]? =Gq l.v->
   (∀ {Q:V->Sg->Prop} {X:Sg->Prop} {σ:Sg},(∀σ',a6 σ σ'->Q l.node σ')->ae u (n+5) 906 [l.v] Q X σ)->
   (∀c,a6 σ c->wpSs tab (ae u (n+5)) (yH.drop 7) (Gq t.v::Gq l.node::IL 11 Gs) (eh (iD Q)) X c)->ae u (n+6) 906 [t.v] Q X σ:=fun{n t l Q X σ} v y B D E G H j b=>
  iQ F v y B H j fun c i=>aq (t:=Gw) (f D (by decide) rfl) (ak (aq (t:=Gw) (f E (by decide) rfl) (ak (aq (t:=Gw) (f G (by decide) rfl) (ak (b c i))))))
 induction h with
 |leaf z=>exact fun b=>qT F z b
 |@cat n l r z A j=>
  exact fun b=>iQ F (t:=.cat l r) rfl rfl rfl rfl j fun c i=>aq (t:=Gu) (g (t:=.cat l r) rfl (by decide) rfl) (ax (pe F rfl rfl rfl A rfl (fX (t:=.cat l r) (k:=2) rfl rfl) i b))
 |@alt n l r z A j=>
  exact fun b=>iQ F (t:=.alt l r) rfl rfl rfl rfl j fun c i=>aq (t:=Gw) (f (t:=.alt l r) rfl (by decide) rfl) (ak (aq (t:=Gu) (g (t:=.alt l r) rfl (by decide) rfl) (ax (pe F rfl rfl rfl A rfl (fX (t:=.alt l r) (k:=2) rfl rfl) i b))))
 |@star n t q j=>
  exact fun b=>m (t:=.star t) rfl rfl rfl rfl rfl rfl rfl j fun c i=>aq (t:=Gu) (g (t:=.star t) rfl (by decide) rfl) (ax (kg F rfl rfl rfl i b))
 |@plus n t q j=>
  intro Q X σ b;refine m (t:=.plus t) rfl rfl rfl rfl rfl rfl rfl j fun c i=>aq (t:=Gw) (f (t:=.plus t) rfl (by decide) rfl) (ak (ax ?_))
  exact Ev.op (.cons (cr (t:=.plus t) rfl) (.cons .const .nil)) (iE ⟨Gr rfl,by decide⟩) _ _ (kg F rfl rfl rfl i b)
 |@opt n t q j=>
  intro Q X σ b;refine m (t:=.opt t) rfl rfl rfl rfl rfl rfl rfl j fun c i=>aq (t:=Gw) (f (t:=.opt t) rfl (by decide) rfl) (ak (ax ?_))
  exact Ev.op (.cons (cr (t:=.opt t) rfl) (.cons .const .nil)) (iE ⟨Gr rfl,by decide⟩) _ _ (kg F rfl rfl rfl i b)
 |@repN n t I o q j=>exact fun b=>o9 F (hi:=Gs) ((l1 29858641515136) o) (fun Z h=>nomatch h) j b
 |@repS n t I hi o v y q j=>exact fun b=>o9 F (hi:=Gq hi) ((l1 29858641515136) o) (fun k h=>by cases h;exact⟨(l2 454040336) v,(l1 29927360991872) y⟩) j b
end
set_option exponentiation.threshold 4000
section
variable {u:U} {d:Nat} {Q:V->Sg->Prop} {X:Sg->Prop} {σ:Sg}
theorem vP {l:List V} (b:l.length<=1000000):aJ tab .upto24 [.lst l] σ=Gq (.ref σ.n,σ.alloc (.list (l.take 24))):=if_pos b
theorem qn {w x:Int} {b:Nat} (e:0<w) (f:121<=b) (g:w.natAbs<2^b) (c:0<=x) (i:x<10^36):0<w * 1553+x/\(w * 1553+x).natAbs<2^(b+11):=by
 refine⟨Int.add_pos_of_pos_of_nonneg (Int.mul_pos e (by decide)) c,?_⟩
 have j:(2:Nat) ^121<=2^b:=He (by decide) f
 have k:(10:Int) ^36<((2^121:Nat):Int):=by decide+kernel
 have l:x.natAbs<2^121:=LG.mp (by rw [Lh c];exact Int.lt_trans i k)
 have m:(w * 1553+x).natAbs<=w.natAbs * 1553+x.natAbs:=by rw [<-show(w * 1553).natAbs=w.natAbs * 1553 from MM _ _];exact Oe _ _
 rw [show(2:Nat) ^(b+11)=2^b * 2048 from P4 _ _ _]
 exact IT m (GN (Nat.add_lt_add_of_le_of_lt (J4 1553 (Ia g)) (GN l j)) (Gz (Kj (Nat.mul_succ _ 1553).symm) (NQ _ (by decide))))
inductive StoI (is:List Int) (n:Nat) (r:List V):List (Option V)->Sg->Prop
 |mk (k:Nat) (js:List Int) (w:Int) (x:Option V) {σ':Sg} (hr:r=js.map .int) (hk:js.length+k<=24) (w0:0<w) (w1:w.natAbs<2^(121+11 * k)) (s1:n<σ'.n) (s2:σ'.cell n=.list ((is.map V.int).take 24)):StoI is n r [Gq (.lst (is.map .int)),Gq (.int w),x,Gs,Gs] σ'
theorem zl (F:bg u) {is:List Int} (A:is.length<=1000000) (c:∀a m σ',ck a 0 m σ'->Q (.ref a) σ'):ae u (d+1) 878 [.lst (is.map .int)] Q X σ:=by
 revert is;delta u d Q X σ;delta is;refine F.call 878 _ rfl d _ Q X σ rfl ?_;refine ar .const rfl ?_
 have e:(is.map V.int).length<=1000000:=by rw [GG];exact A
 refine bL (Ev.op (.cons (.loc rfl) .nil) (vP e) _ _ ?_)
 refine bG (StoI is σ.n)
  (aA ah) ⟨0,is.take 24,29,Gs,by rw [List.map_take],by rw [List.length_take];exact(l1 0x1b891801b89187080) (K9 _ _),by decide,by decide+kernel,Gx _,ah⟩
  (fun r f σ' h=>by cases h with|mk _ _ _ _ _ _ _ _ B C=>exact⟨B,C⟩) (fun i r f σ' D p E Z=>?_) (fun f σ' p=>?_)
 ·delta i r f σ' D
  cases p with|mk k b w x g q s l t v=>
  delta k b w x
  cases b with
  |nil=>cases g
  |cons j b=>
   delta j b;rw [Hp] at g;cases g;rw [HC] at q;refine⟨_,rfl,?_⟩
   have n:w.natAbs<2^3000:=GN l (He (by decide) (by lia))
   refine ar (.op (.cons (.op (.cons (.loc rfl) (.cons .const .nil)) (aF (ja (.inr ⟨n,by decide+kernel⟩)))) (.cons (.op (.cons (.op (.cons (.op (.cons .const (.cons (.op (.cons (.op (.cons (.loc rfl) .nil) rfl) .nil) rfl) .nil)) (aF (ja (.inl (by decide))))) (.cons (.op (.cons (.op (.cons (.loc rfl) (.cons .const .nil)) rfl) .nil) rfl) .nil)) (aF rfl)) (.cons (.op (.cons .const (.cons .const .nil)) (aF (zW (by decide) (by decide) (by decide)))) .nil)) (aF (zR (by decide+kernel)))) .nil)) (aF rfl)) rfl ?_
   have o:(0:Int) <10^(36:Int).toNat:=by decide+kernel
   generalize z:Int.fmod _ _=y
   have G:0<=y:=by rw [<-z,Kr _ (Jp o)];exact ON _ (Pm o)
   have H:y<10^36:=by rw [<-z,Kr _ (Jp o)];exact N1 _ o
   obtain⟨I,J⟩:=qn s (l1 30170425104760) l G H;exact ak (E _ _ ⟨k+1,b,_,_,rfl,(l2 0x1b89187171801b8918771810) q,I,J,t,v⟩).1
 ·delta f σ'
  cases p with|mk k b w x g q s l t v=>
  have n:w.natAbs<2^400:=GN l (He (by decide) (by lia))
  refine ax (Ev.op (.cons (.loc rfl) (.cons .const (.cons (.op (.cons (.op (.cons .const (.cons (.loc rfl) .nil)) (aF (ja (.inl (by decide))))) (.cons .const .nil)) (aF rfl)) .nil))) (bP (by simp)) _ _ ?_)
  refine c _ (2 * w+1) _ ⟨w,0,ah,Gx _,Jp s,GN n (He (by decide) (by decide)),JC _,JC _,by lia,?_⟩
  have K:(2 * w+1).natAbs<=2 * w.natAbs+1:=by rw [<-show(2 * w).natAbs=2 * w.natAbs from MM _ _];exact Oe _ _
  exact IT K (GN (Gx _) (Gz (NQ 2 n) (Gr rfl)))
end
noncomputable def spine (k:Nat):Tr->List Tr
 |.cat l r=>if k=22 then spine k l++[r] else [.cat l r]
 |.alt l r=>if k=23 then spine k l++[r] else [.alt l r]
 |t=>[t]
noncomputable def Tr.kd:Tr->Nat
 |.a=>28|.b=>28|.empty=>29|.never=>30|.cat .. =>22|.alt .. =>23|.star .. =>24|.plus .. =>25|.opt .. =>26|.rep .. =>27
noncomputable def Tr.sz:Tr->Nat
 |.cat l r|.alt l r=>l.sz+r.sz+1
 |.star t|.plus t|.opt t|.rep t _ _=>t.sz+1
 |_=>1
theorem Tr.kd_lt (t:Tr):t.kd<55:=by cases t<;>exact Gr rfl
inductive Gg (k:Nat) (t:Tr):Prop where
 |mk (l r:Tr) (c:GS) (e:t.node=.obj c [16,17] [l.node,r.node]) (v:t.v=.tup [.str k,l.v,r.v]) (s:spine k t=spine k l++[r]) (z:l.sz<t.sz) (hc:eQ tab c 16 [(16,l.node),(17,r.node)]=Gq l.node) (hc':eQ tab c 17 [(16,l.node),(17,r.node)]=Gq r.node)
theorem wu {t:Tr} {k:Nat} (b:k=22\/k=23) (h:t.kd=k):Gg k t:=by
 subst h
 cases t with
 |cat l r=>exact⟨l,r,_,rfl,rfl,if_pos rfl,KG (HK _ _),rfl,rfl⟩
 |alt l r=>exact⟨l,r,_,rfl,rfl,if_pos rfl,KG (HK _ _),rfl,rfl⟩
 |_=>rcases b with h|h<;>cases h
theorem hZ {t:Tr} {k:Nat} (h:t.kd≠k):spine k t=[t]:=by
 cases t<;>first|rfl|exact if_neg (Hw h)
section
variable {u:U} {d:Nat} {Q:V->Sg->Prop} {X:Sg->Prop} {σ:Sg}
theorem BC (t:Tr):aJ tab (.attr 21) [t.node] σ=Gq (.str t.kd,σ):=by cases t<;>exact bH rfl rfl
theorem bM {C:aC} {ρ:List (Option V)} {e:E} {c:GS} {ks:List Nat} {vs:List V} {n:Nat} {v:V} {σ₁:Sg} (h:Ev C ρ σ e (.obj c ks vs) σ₁) (b:ks.length=vs.length) (f:eQ tab c n (ks.zip vs)=Gq v):Ev C ρ σ (.op (.attr n) [e]) v σ₁:=
 .op (.cons h .nil) (bH b f)
inductive ChainI (σ₀:Sg) (t:Tr) (k:Nat):Nat->List (Option V)->Sg->Prop where
 |mk (cur:Tr) (acc:List Tr) (σ:Sg) (hs:spine k t=spine k cur++acc.reverse) (E:a6 σ₀ σ) (hn:σ₀.n<σ.n) (hc:σ.cell σ₀.n=.list (acc.map Tr.node)):ChainI σ₀ t k cur.sz [Gq cur.node,Gq (.str k),Gq (.ref σ₀.n)] σ
theorem mG (F:bg u) {t:Tr} {k:Nat} (y:k=22\/k=23) (B:(spine k t).length<=1000) (g:∀σ',a6 σ σ'->Q (.lst ((spine k t).map Tr.node)) σ'):ae u (d+1) 158 [t.node,.str k] Q X σ:=by
 revert t k;delta u d Q X σ;delta t k
 have C:k<55:=by rcases y with rfl|rfl<;>decide
 refine qL (F.call 158 _ rfl d _ _ X σ rfl ?_);refine ar (.op .nil (bP (G4 _))) rfl ?_;refine eS (ChainI σ t k) (n:=t.sz) (.mk t [] _ (GY _).symm (.alloc _ _) (Gx _) ah) fun n D σ' h=>?_;delta n D σ'
 cases h with
 |mk b f _ o E i m=>
  delta b f
  have A:(f.map Tr.node).length<=1000:=by
   have:=congrArg Jd o
   simp only [GC,Ka] at this;rw [GG];exact(l3 0x9d72101b89e93801b89e9382) this B
  have j:=Gz A (show 1000<=1000000 by decide)
  refine⟨GI (b.kd=k),σ',.of (.op (.cons (.op (.cons (.loc rfl) .nil) (BC b)) (.cons (.loc rfl) .nil)) (iE ⟨b.kd_lt,C⟩)) rfl rfl,fun h=>?_,fun h I G Z=>?_⟩
  ·have H:=of_decide_eq_false h
   refine aD (Ev.app (.loc rfl) (aM m) (.loc rfl) (bK m i j) _ _ ?_);refine aD (Ev.op (.cons (.loc rfl) .nil) (Db am i (by rw [GC];exact Nat.add_le_add A (show 1<=999000 by decide))) _ _ ?_)
   refine ax (Ev.loc rfl _ _ ⟨_,_,rfl,am,i,?_⟩);rw [show(f.map Tr.node++[b.node]).reverse=(spine k t).map Tr.node by rw [o,hZ H,Kb,GZ,List.map_reverse];rfl]
   exact g _ (((E.set (GL _)).set (GL _)).kill (GL _))
  ·obtain⟨l,r,c,e,v,s,z,p,q⟩:=wu y (of_decide_eq_true h);rw [e];refine aD (Ev.app (.loc rfl) (aM m) (bM (.loc rfl) rfl q) (bK m i j) _ _ ?_);refine ar (bM (.loc rfl) rfl p) rfl (ak (G _ _ _ z (.mk l (f++[r]) _ ?_ (E.set (GL _)) i ?_)).1)
   ·rw [o,s,Kb,GK];rfl
   ·rw [GZ];exact am
end
section
variable {C:aC} {ρ:List (Option V)} {σ σ₁:Sg} {e d:E} {v:V} {Q:V->Sg->Prop} {X:Sg->Prop} {c:List (Option Nat)} {t:Nat}
noncomputable def n8 (c:List (Option Nat)) (ρ:List (Option V)) (t:Nat) (i:V):List (Option V):=(c.map fun|none=>Gs|some k=>(ρ[k]?).join).set t (Gq i)
def uM (C:aC) (ρ:List (Option V)) (c:List (Option Nat)) (t:Nat) (d:E) (Q:V->Sg->Prop) (X:Sg->Prop):V->Sg->Prop:=fun v f=>match fE v f with
 |some l=>compW (fun i g j b=>wpE tab C (n8 c ρ t i) d g j b) (b9 v l) X l [] (fun k b=>Q (.ref b.n) (b.alloc (.list k))) f
 |none=>False
theorem jF (h:wpE tab C ρ e (uM C ρ c t d Q X) X σ):wpE tab C ρ (.comp c t d e) Q X σ:=h
theorem fx {l:List V} (I:List V->List V->Sg->Prop) (hi:fE v σ=Gq l) (g:I l [] σ) (f:∀r acc σ,I r acc σ->b9 v l σ)
  (b:∀i r acc σ (Q':V->Sg->Prop),I (i::r) acc σ->(∀v σ',I r (acc++[v]) σ'->Q' v σ')->wpE tab C (n8 c ρ t i) d Q' X σ) (done:∀acc σ,I [] acc σ->Q (.ref σ.n) (σ.alloc (.list acc))):uM C ρ c t d Q X v σ:=by
 unfold uM;simp only [hi];exact hO I f b done _ _ _ g
def vU (C:aC) (ρ:List (Option V)) (c:List (Option Nat)) (t:Nat) (d:E) (Q:V->Sg->Prop) (X:Sg->Prop):V->Sg->Prop:=fun v f=>∃n,v=.int n/\0<=n/\n<=1000000/\compW (fun i g j b=>wpE tab C (n8 c ρ t i) d g j b) (fun Z=>True) X (aZ n) [] (fun k b=>Q (.ref b.n) (b.alloc (.list k))) f
theorem xe (h:wpE tab C ρ e (vU C ρ c t d Q X) X σ):wpE tab C ρ (.compR c t d e) Q X σ:=h
theorem s6 {n:Int} (I:List V->List V->Sg->Prop) (f:0<=n) (g:n<=1000000) (j:I (aZ n) [] σ)
  (b:∀i r acc σ (Q':V->Sg->Prop),I (i::r) acc σ->(∀v σ',I r (acc++[v]) σ'->Q' v σ')->wpE tab C (n8 c ρ t i) d Q' X σ) (done:∀acc σ,I [] acc σ->Q (.ref σ.n) (σ.alloc (.list acc))):vU C ρ c t d Q X (.int n) σ:=by
 exact⟨n,rfl,f,g,hO I (fun Z Z Z Z=>trivial) b done _ _ _ j⟩
theorem jW {l:List V} (h:l.length<=1000000):fE (.lst l) σ=Gq l:=if_pos h
theorem oq {a:Nat} {l:List V} (b:σ.cell a=.list l) (h:l.length<=1000000):fE (.ref a) σ=Gq l:=by
 show(match aX (.ref a) σ with
  |some l=>if l.length<=1000000 then Gq l else Gs
  |none=>Gs)=_
 rw [aA b];exact if_pos h
theorem CY {a:Nat} {is:List Int} (h:σ.cell a=.list (is.map .int)):aJ tab .sum [.ref a] σ=Gq (.int is.sum,σ):=by
 show(match σ.cell a with
  |.list l=>(ints? l).map fun(is:List Int)=>(V.int is.sum,σ)
  |_=>Gs)=_
 simp only [h,nY,IA]
theorem Aj {a b:Nat} {l k:List V} (h:σ.cell a=.list l) (h':σ.cell b=.list k) (f:l.length+k.length<=1000000):aJ tab (.bin .add) [.ref a,.ref b] σ=Gq (.ref σ.n,σ.alloc (.list (l++k))):=by
 show bV a σ _=_
 unfold bV;simp only [h,h',if_pos f]
end
section
variable {u:U} {d:Nat} {Q:V->Sg->Prop} {X:Sg->Prop} {σ:Sg}
theorem zN {t:Tr} {k:Nat} (b:k=22\/k=23):t.nm=k↔t.kd=k:=by
 rcases b with rfl|rfl<;>cases t<;>exact of_decide_eq_true rfl
inductive PartsI (σ₀:Sg) (t:Tr) (k:Nat):Nat->List (Option V)->Sg->Prop where
 |mk (cur:Tr) (acc:List Tr) (σ:Sg) (hs:spine k t=spine k cur++acc.reverse) (E:a6 σ₀ σ) (hn:σ₀.n<σ.n) (hc:σ.cell σ₀.n=.list (acc.map Tr.v)):PartsI σ₀ t k cur.sz [Gq cur.v,Gq (.str k),Gq (.ref σ₀.n)] σ
theorem xr (F:bg u) {t:Tr} {k:Nat} (i:k=22\/k=23) (q:(spine k t).length<=1000) (g:∀σ',a6 σ σ'->Q (.lst ((spine k t).reverse.map Tr.v)) σ'):ae u (d+1) 913 [t.v,.str k] Q X σ:=by
 revert t k;delta u d Q X σ;delta t k
 have y:k<55:=by rcases i with rfl|rfl<;>decide
 refine qL (F.call 913 _ rfl d _ _ X σ rfl ?_);refine ar (.op .nil (bP (G4 _))) rfl ?_;refine eS (PartsI σ t k) (n:=t.sz) (.mk t [] _ (GY _).symm (.alloc _ _) (Gx _) ah) fun n A σ' h=>?_;delta n A σ'
 cases h with
 |mk b f _ j E m o=>
  delta b f
  have p:(f.map Tr.v).length<=1000:=by
   have:=congrArg Jd j
   simp only [GC,Ka] at this;rw [GG];exact(l3 0x9d72101b89e93801b89e9382) this q
  refine⟨GI (b.nm=k),σ',.of (.op (.cons (cr rfl) (.cons (.loc rfl) .nil)) (iE ⟨b.nm_lt,y⟩)) rfl rfl,fun h=>?_,fun h K B Z=>?_⟩
  ·have C:b.kd≠k:=fun e=>of_decide_eq_false h ((zN i).mpr e)
   refine ax (Ev.op (.cons (.loc rfl) (.cons (.op (.cons (.loc rfl) .nil) (bP (Gr rfl))) .nil)) (Aj ((au m).trans o) ah (Gz (Nat.add_le_add_right p _) (show 1000+1<=1000000 by decide))) _ _ ?_)
   refine⟨_,_,rfl,ah,Gx _,?_⟩;rw [show f.map Tr.v++[b.v]=(spine k t).reverse.map Tr.v by rw [j,hZ C,Kb,List.reverse_reverse,GZ];rfl]
   exact g _ (((E.trans (.alloc _ _)).trans (.alloc _ _)).kill (Gz E.n (Hk _)))
  ·have D:=of_decide_eq_true h
   obtain⟨l,r,c,e,v,s,z,G,H⟩:=wu i ((zN i).mp D)
   have I:aJ tab .idx [b.v,.int (1:Nat)] (σ'.set σ.n (.list (f.map Tr.v++[r.v])))=Gq (l.v,σ'.set σ.n (.list (f.map Tr.v++[r.v]))):=by rw [v];exact j9 (Gr rfl) rfl
   have J:aJ tab .idx [b.v,.int (2:Nat)] σ'=Gq (r.v,σ'):=by rw [v];exact j9 (Gr rfl) rfl
   refine aD (Ev.app (.loc rfl) (aM o) (.op (.cons (.loc rfl) (.cons .const .nil)) J) (bK o m (Gz p (by decide))) _ _ ?_)
   refine ar (.op (.cons (.loc rfl) (.cons .const .nil)) I) rfl (ak (B _ _ _ z (.mk l (f++[r]) _ ?_ (E.set (GL _)) m ?_)).1)
   ·rw [j,s,Kb,GK];rfl
   ·rw [GZ];exact am
end
theorem qs {k:Nat} (i:k=22\/k=23) {n:Nat} {t:Tr} (h:Fam n t):(∀p∈spine k t,Fam n p)/\(spine k t).length<=n+1:=by
 have d:∀ {n:Nat} {t:Tr},Fam n t->t.kd≠k->(∀p∈spine k t,Fam n p)/\(spine k t).length<=n+1:=fun{n t} f h=>by
  rw [hZ h];exact⟨fun p s=>by rw [GF.mp s];exact f,Hn (G4 _)⟩
 have o:∀ {n:Nat} {l r t:Tr},spine k t=spine k l++[r]->r.leaf->((∀p∈spine k l,Fam n p)/\(spine k l).length<=n+1)->(∀p∈spine k t,Fam (n+1) p)/\(spine k t).length<=n+1+1:=fun{n l r t} e g j=>by
  rw [e];refine⟨fun p s=>?_,by rw [GC];exact Hn j.2⟩
  rcases GD.mp s with h|h
  ·exact(j.1 p h).up (Hk _)
  ·rw [GF.mp h];exact .leaf g
 induction h with
 |@leaf n t m=>exact d (.leaf m) fun e=>by cases t<;>first|exact m.elim|(subst e;rcases i with h|h<;>cases h)
 |@cat n l r m g j=>
  by_cases q:k=22
  ·exact o (if_pos q) g j
  ·exact d (.cat m g) fun e=>q e.symm
 |@alt n l r m g j=>
  by_cases q:k=23
  ·exact o (if_pos q) g j
  ·exact d (.alt m g) fun e=>q e.symm
 |star h=>exact d (.star h) fun e=>by subst e;rcases i with h|h<;>cases h
 |plus h=>exact d (.plus h) fun e=>by subst e;rcases i with h|h<;>cases h
 |opt h=>exact d (.opt h) fun e=>by subst e;rcases i with h|h<;>cases h
 |repN a h=>exact d (.repN a h) fun e=>by subst e;rcases i with h|h<;>cases h
 |repS a b c h=>exact d (.repS a b c h) fun e=>by subst e;rcases i with h|h<;>cases h
theorem cx {k:Nat} (f:k=22\/k=23) {n:Nat} {t:Tr} (h:Fam (n+1) t) (e:t.kd=k):(∀p∈spine k t,Fam n p)/\(spine k t).length<=n+2:=by
 revert n t;delta k;delta n t
 have b:∀ {l r:Tr},Fam n l->r.leaf->(∀p∈spine k l++[r],Fam n p)/\(spine k l++[r]).length<=n+2:=fun{l r} c d=>by
  have g:=qs f c
  refine⟨fun p i=>?_,by rw [GC];exact Hn g.2⟩
  rcases GD.mp i with h|h
  ·exact g.1 p h
  ·rw [GF.mp h];exact .leaf d
 cases h with
 |leaf c=>cases t<;>first|exact c.elim|(subst e;rcases f with h|h<;>cases h)
 |@cat _ l r c d=>rw [show spine k (.cat l r)=spine k l++[r] from if_pos e.symm];exact b c d
 |@alt _ l r c d=>rw [show spine k (.alt l r)=spine k l++[r] from if_pos e.symm];exact b c d
 |_=>subst e;rcases f with h|h<;>cases h
noncomputable def cnt:Nat->Tr->Nat×Nat
 |n+1,.cat l r=>(((spine 22 (.cat l r)).map fun p=>(cnt n p).1).sum,((spine 22 (.cat l r)).map fun p=>(cnt n p).2).sum+1)
 |n+1,.alt l r=>(((spine 23 (.alt l r)).map fun p=>(cnt n p).1).sum+2,((spine 23 (.alt l r)).map fun p=>(cnt n p).2).sum+1)
 |n+1,.star t=>((cnt n t).1+2,(cnt n t).2+1)
 |n+1,.plus t=>((cnt n t).1+2,(cnt n t).2+1)
 |n+1,.opt t=>((cnt n t).1+2,(cnt n t).2+1)
 |n+1,.rep t lo Gs=>(3+(lo+1) * (cnt n t).1,1+(lo+1) * (cnt n t).2)
 |n+1,.rep t lo (Gq hi)=>(2+hi * (cnt n t).1,1+hi * (cnt n t).2)
 |_,_=>(2,1)
noncomputable def d7 (p:Nat×Nat):V:=.tup [.int p.1,.int p.2]
theorem yc {b:Type} (f:b->Nat) (l:List b):(l.reverse.map fun p=>((f p:Nat):Int)).sum=((l.map f).sum:Nat):=by
 induction l with
 |nil=>rfl
 |cons x l c=>
  rw [I2,GZ,Mc,c,Hp,H7];simp [Int.add_comm]
section
variable {u:U} {d:Nat} {Q:V->Sg->Prop} {X:Sg->Prop} {σ:Sg}
inductive MapI (σ₀:Sg) (f g:Tr->V) (ps:List Tr):List V->List V->Sg->Prop where
 |mk (xs ys:List Tr) (σ:Sg) (e:ps=xs++ys) (E:a6 σ₀ σ):MapI σ₀ f g ps (ys.map f) (xs.map g) σ
theorem vS {a b:V}:aJ tab .idx [.tup [a,b],.int 0] σ=Gq (a,σ)/\aJ tab .idx [.tup [a,b],.int 1] σ=Gq (b,σ):=⟨bC rfl (Gr rfl) rfl,bC rfl (Gr rfl) rfl⟩
inductive SumI (σ₀:Sg) (f:Tr->Int) (ps:List Tr) (g:Tr->V):List V->List V->Sg->Prop where
 |mk (xs ys:List Tr) (e:ps=xs++ys):SumI σ₀ f ps g (ys.map g) (xs.map fun p=>.int (f p)) σ₀
theorem vC {C:aC} {ρ:List (Option V)} {k:Int} {a:Nat} {ps:List Tr} {g:Tr->V} {f:Tr->Int} (h:ρ[1]? =Gq (Gq (.ref a))) (l:σ.cell a=.list (ps.map g)) (n:a<σ.n) (o:ps.length<=1000) (s:∀p σ,aJ tab .idx [g p,.int k] σ=Gq (.int (f p),σ)):
  ∃σ',a6 σ σ'/\Ev C ρ σ (.op .sum [.comp [Gs,Gs] 1 (.op .idx [.loc 1,.const (.int k)]) (.loc 1)]) (.int (ps.map f).sum) σ':=by
 revert C ρ k a ps g f;delta σ;delta C ρ k a ps g f;refine⟨σ.alloc (.list (ps.map fun p=>.int (f p))),.alloc _ _,.op (.cons (v:=.ref σ.n) (fun Q X q=>jF (Ev.loc h _ _ ?_)) .nil) (CY (is:=ps.map f) (by rw [ah,HG];rfl))⟩
 refine fx (SumI σ f ps g) (oq l (by rw [GG];exact Gz o (by decide))) (.mk [] ps rfl) (fun r c σ' h=>?_) (fun i r c σ' A h t=>?_) (fun c σ' h=>?_)
 ·cases h;exact⟨n,l⟩
 ·generalize j:i::r=z at h
  cases h with
  |mk m b e=>
   cases b with
   |nil=>cases j
   |cons y b=>
    cases j;refine Ev.op (.cons (.loc rfl) (.cons .const .nil)) (s y σ) _ _ (t _ _ ?_)
    have:=SumI.mk (σ₀:=σ) (f:=f) (g:=g) (ps:=ps) (m++[y]) b (by rw [e,GK];rfl)
    rw [GZ] at this;exact this
 ·generalize j:([]:List V)=z at h
  cases h with
  |mk m b e=>
   cases b with
   |cons y b=>cases j
   |nil=>rw [e,GY] at q;exact q
end
section
variable {u:U} {d:Nat} {Q:V->Sg->Prop} {X:Sg->Prop} {σ:Sg}
theorem kr {l:List V} (h:l.length<=1000000):aJ tab .len [.tup l] σ=Gq (.int l.length,σ):=d8 rfl h
theorem jq (F:bg u) {n k:Nat} {t:Tr} (A:k=22\/k=23) (e:t.nm=k) (B:(spine k t).length<=1000) (O:∀p∈spine k t,∀ {Q:V->Sg->Prop} {X:Sg->Prop} {σ:Sg},(∀σ',a6 σ σ'->Q (d7 (cnt n p)) σ')->ae u (n+2) 918 [p.v] Q X σ)
  (m:∀σ',a6 σ σ'->Q (d7 (((spine k t).map fun p=>(cnt n p).1).sum+2 * (if k=23 then 1 else 0),((spine k t).map fun p=>(cnt n p).2).sum+1)) σ'):ae u (n+3) 918 [t.v] Q X σ:=by
 refine F.call 918 _ rfl (n+2) _ Q X σ rfl ?_
 have D:[22,23].any (· ==t.nm)=Gu:=by rw [e];rcases A with rfl|rfl<;>rfl
 refine aq (t:=Gu) (D▸dU rfl ⟨by decide,by decide⟩) ?_
 refine w_asg (jF (az (.cons (.loc rfl) (.cons (cr rfl) .nil)) (e▸xr F A B fun G o=>?_)))
 have P:((spine k t).reverse.map Tr.v).length<=1000000:=by rw [GG,Ka];exact Gz B (by decide)
 refine fx (MapI σ Tr.v (fun p=>d7 (cnt n p)) (spine k t).reverse) (jW P) (.mk [] _ _ rfl o) (fun Z Z Z Z=>trivial) (fun i r H σ' T h R=>?_) (fun H σ' h=>?_)
 ·generalize v:i::r=z at h
  cases h with
  |mk J l _ q E=>
   cases l with
   |nil=>cases v
   |cons y l=>
    cases v
    have S:y∈spine k t:=Oc.mp (by rw [q];simp)
    refine az (.cons (.loc rfl) .nil) (O y S fun c b=>R _ _ ?_)
    have:=MapI.mk (σ₀:=σ) (f:=Tr.v) (g:=fun p=>d7 (cnt n p)) (ps:=(spine k t).reverse) (J++[y]) l c (by rw [q,GK];rfl) (E.trans b)
    rw [GZ] at this;exact this
 ·generalize v:([]:List V)=z at h
  cases h with
  |mk J l _ q E=>
   cases l with
   |cons y l=>cases v
   |nil=>
    rw [GY] at q;subst q;refine aB rfl ?_
    have K:(σ'.alloc (.list ((spine k t).reverse.map fun p=>d7 (cnt n p)))).cell σ'.n=.list ((spine k t).reverse.map fun p=>d7 (cnt n p)):=ah
    have L:(spine k t).reverse.length<=1000:=by rw [Ka];exact B
    obtain⟨c,b,M⟩:=vC (C:=ae u (n+2)) (ρ:=[Gq t.v,Gq (.ref σ'.n),Gs,Gs,Gs,Gs,Gs,Gs,Gs]) (ps:=(spine k t).reverse) (g:=fun p=>d7 (cnt n p)) (f:=fun p=>((cnt n p).1:Int)) (k:=0) rfl K (Gx _) L fun p σ=>vS.1
    have I:=(b.cell σ'.n (Gx _)).trans K
    obtain⟨j,s,N⟩:=vC (C:=ae u (n+2)) (ρ:=[Gq t.v,Gq (.ref σ'.n),Gs,Gs,Gs,Gs,Gs,Gs,Gs]) (ps:=(spine k t).reverse) (g:=fun p=>d7 (cnt n p)) (f:=fun p=>((cnt n p).2:Int)) (k:=1) rfl I (GN (Gx _) b.n) L fun p σ=>vS.2;rw [yc] at M N;refine ax (Ev.op (.cons (.op (.cons M (.cons (.op (.cons .const (.cons (.op (.cons (.op (.cons (cr rfl) (.cons .const .nil)) (iE ⟨t.nm_lt,by decide⟩)) .nil) rfl) .nil)) (aF (ja (.inl (by decide))))) .nil)) (aF rfl)) (.cons (.op (.cons N (.cons .const .nil)) (aF rfl)) .nil)) (aK (Gr rfl)) _ _ ?_)
    have:=m j (((E.trans (.alloc _ _)).trans b).trans s)
    rw [e];rcases A with rfl|rfl<;>exact this
theorem ie (F:bg u) {n:Nat} {t l:Tr} (h:[22,23].any (· ==t.nm)=Gw) (f:(V.str t.nm::t.rest)[1]? =Gq l.v) (g:(((V.str t.nm::t.rest).length:Int) ==1)=Gw)
  (i:∀ {Q:V->Sg->Prop} {X:Sg->Prop} {σ:Sg},(∀σ',a6 σ σ'->Q (d7 (cnt n l)) σ')->ae u (n+2) 918 [l.v] Q X σ)
  (c:∀σ',a6 σ σ'->wpSs tab (ae u (n+2)) (DO.drop 3) [Gq t.v,Gs,Gq (.int (cnt n l).1),Gq (.int (cnt n l).2),Gs,Gs,Gs,Gs,Gs] (eh Q) X σ'):ae u (n+3) 918 [t.v] Q X σ:=by
 refine F.call 918 _ rfl (n+2) _ Q X σ rfl ?_;refine aq (t:=Gw) (h▸dU rfl ⟨by decide,by decide⟩) (ak ?_)
 have j:Ev (ae u (n+2)) (dR 9 [0] [t.v]) σ (.op .len [.loc 0]) (.int (V.str t.nm::t.rest).length) σ:=.op (.cons (.loc rfl) .nil) (by rw [t.v_eq];exact kr t.rest_len)
 refine aq (t:=Gw) (.of (v:=.bool (((V.str t.nm::t.rest).length:Int) ==1)) (.op (.cons j (.cons .const .nil)) rfl) (congrArg Gq g) rfl) (ak ?_);exact w_asg (az (.cons (fX (k:=1) rfl f) .nil) (i fun b e=>aB rfl (c b e)))
theorem t7 (F:bg u) (n:Nat) (B:n<=900):∀ {t:Tr},Fam n t->∀ {Q:V->Sg->Prop} {X:Sg->Prop} {σ:Sg},(∀σ',a6 σ σ'->Q (d7 (cnt n t)) σ')->ae u (n+2) 918 [t.v] Q X σ:=by
 have leaf:∀ {n:Nat} {t:Tr} {Q:V->Sg->Prop} {X:Sg->Prop} {σ:Sg},t.leaf->(∀σ',a6 σ σ'->Q (d7 (cnt n t)) σ')->ae u (n+2) 918 [t.v] Q X σ:=fun{n t Q X σ} v c=>by
  refine F.call 918 _ rfl (n+1) _ Q X σ rfl ?_
  have J:cnt n t=(2,1):=by cases t<;>first|exact v.elim|(cases n<;>rfl)
  rw [J] at c
  cases t with
  |a=>exact aq (t:=Gw) (dU (t:=.a) rfl ⟨by decide,by decide⟩) (ak (aq (t:=Gu) (.of (.op (.cons (.op (.cons (.loc rfl) .nil) (kr (Gr rfl))) (.cons .const .nil)) rfl) rfl rfl) (ax (Ev.op (.cons .const (.cons .const .nil)) (aK (Gr rfl)) _ _ (c _ (.refl _))))))
  |b=>exact aq (t:=Gw) (dU (t:=.b) rfl ⟨by decide,by decide⟩) (ak (aq (t:=Gu) (.of (.op (.cons (.op (.cons (.loc rfl) .nil) (kr (Gr rfl))) (.cons .const .nil)) rfl) rfl rfl) (ax (Ev.op (.cons .const (.cons .const .nil)) (aK (Gr rfl)) _ _ (c _ (.refl _))))))
  |empty=>exact aq (t:=Gw) (dU (t:=.empty) rfl ⟨by decide,by decide⟩) (ak (aq (t:=Gu) (.of (.op (.cons (.op (.cons (.loc rfl) .nil) (kr (Gr rfl))) (.cons .const .nil)) rfl) rfl rfl) (ax (Ev.op (.cons .const (.cons .const .nil)) (aK (Gr rfl)) _ _ (c _ (.refl _))))))
  |never=>exact aq (t:=Gw) (dU (t:=.never) rfl ⟨by decide,by decide⟩) (ak (aq (t:=Gu) (.of (.op (.cons (.op (.cons (.loc rfl) .nil) (kr (Gr rfl))) (.cons .const .nil)) rfl) rfl rfl) (ax (Ev.op (.cons .const (.cons .const .nil)) (aK (Gr rfl)) _ _ (c _ (.refl _))))))
  |_=>exact v.elim
 have i:∀ {n:Nat} {t l:Tr} {Q:V->Sg->Prop} {X:Sg->Prop} {σ:Sg},[22,23].any (· ==t.nm)=Gw->(V.str t.nm::t.rest)[1]? =Gq l.v->(((V.str t.nm::t.rest).length:Int) ==1)=Gw->(!(GI (t.nm=27)))=Gu->cnt (n+1) t=((cnt n l).1+2,(cnt n l).2+1)->
   (∀ {Q:V->Sg->Prop} {X:Sg->Prop} {σ:Sg},(∀σ',a6 σ σ'->Q (d7 (cnt n l)) σ')->ae u (n+2) 918 [l.v] Q X σ)->(∀σ',a6 σ σ'->Q (d7 (cnt (n+1) t)) σ')->ae u (n+3) 918 [t.v] Q X σ:=fun{n t l Q X σ} h H C K L j c=>by
  rw [L] at c;exact ie F h H C j fun o f=>aq (t:=Gu) (K▸.of (.op (.cons (cr rfl) (.cons .const .nil)) (uK ⟨t.nm_lt,by decide⟩)) rfl rfl) (ax (Ev.op (.cons (.op (.cons (.loc rfl) (.cons .const .nil)) (aF rfl)) (.cons (.op (.cons (.loc rfl) (.cons .const .nil)) (aF rfl)) .nil)) (aK (Gr rfl)) _ _ (c _ f)))
 induction n with
 |zero=>
  intro t h Q X σ c
  cases h with
  |leaf v=>exact leaf v c
 |succ n j=>
 replace j:=@j ((l1 0x1b49893871801b4989380) B)
 intro t h Q X σ c
 have I:=fun{k:Nat} (M:k=22\/k=23) (e:t.kd=k)=>cx M h e
 cases h with
 |leaf v=>exact leaf v c
 |@cat _ l r v N=>
  obtain⟨D,E⟩:=I (.inl rfl) rfl;exact jq F (k:=22) (t:=.cat l r) (.inl rfl) rfl (Gz E ((l1 0x1b49893871801b89e9387280) B)) (fun p G=>j (D p G)) c
 |@alt _ l r v N=>
  obtain⟨D,E⟩:=I (.inr rfl) rfl;exact jq F (k:=23) (t:=.alt l r) (.inr rfl) rfl (Gz E ((l1 0x1b49893871801b89e9387280) B)) (fun p G=>j (D p G)) c
 |@star _ t q=>exact i (t:=.star t) rfl rfl rfl rfl rfl (j q) c
 |@plus _ t q=>exact i (t:=.plus t) rfl rfl rfl rfl rfl (j q) c
 |@opt _ t q=>exact i (t:=.opt t) rfl rfl rfl rfl rfl (j q) c
 |@repN _ t g y q=>
  refine ie F (t:=.rep t g Gs) rfl rfl rfl (j q) fun o f=>aq (t:=Gw) (.of (.op (.cons (cr (t:=.rep t g Gs) rfl) (.cons .const .nil)) (uK ⟨Tr.nm_lt _,by decide⟩)) rfl rfl) (ak (aq (t:=Gu) (.of (.op (.cons (fX (t:=.rep t g Gs) (k:=3) rfl rfl) .nil) rfl) rfl rfl) (ax ?_)))
  have m:∀x:Int,dT .mul ((g:Int)+1) x=Gq (((g:Int)+1) * x):=fun x=>ja (.inl (show g+1<2^60 from IT (Hn y) (by decide)))
  have z:∀ {A:List (Option V)} {σ:Sg},A[0]? =Gq (Gq (Tr.rep t g Gs).v)->Ev (ae u (n+2)) A σ (.op (.bin .add) [.op .idx [.loc 0,.const (.int 2)],.const (.int 1)]) (.int ((g:Int)+1)) σ:=fun h=>.op (.cons (fX (t:=.rep t g Gs) (k:=2) h rfl) (.cons .const .nil)) (aF rfl)
  refine Ev.op (.cons (.op (.cons .const (.cons (.op (.cons (z rfl) (.cons (.loc rfl) .nil)) (aF (m _))) .nil)) (aF rfl)) (.cons (.op (.cons .const (.cons (.op (.cons (z rfl) (.cons (.loc rfl) .nil)) (aF (m _))) .nil)) (aF rfl)) .nil)) (aK (Gr rfl)) _ _ ?_;exact c _ f
 |@repS _ t g s y H C q=>
  refine ie F (t:=.rep t g (Gq s)) rfl rfl rfl (j q) fun o f=>aq (t:=Gw) (.of (.op (.cons (cr (t:=.rep t g (Gq s)) rfl) (.cons .const .nil)) (uK ⟨Tr.nm_lt _,by decide⟩)) rfl rfl) (ak (aq (t:=Gw) (.of (.op (.cons (fX (t:=.rep t g (Gq s)) (k:=3) rfl rfl) .nil) rfl) rfl rfl) (ak (ax ?_))))
  have m:∀x:Int,dT .mul (s:Int) x=Gq ((s:Int) * x):=fun x=>ja (.inl (show s<2^60 from IT C (by decide)))
  have z:∀ {A:List (Option V)} {σ:Sg},A[0]? =Gq (Gq (Tr.rep t g (Gq s)).v)->Ev (ae u (n+2)) A σ (.op .idx [.loc 0,.const (.int 3)]) (.int (s:Int)) σ:=fun h=>fX (t:=.rep t g (Gq s)) (k:=3) h rfl
  refine Ev.op (.cons (.op (.cons .const (.cons (.op (.cons (z rfl) (.cons (.loc rfl) .nil)) (aF (m _))) .nil)) (aF rfl)) (.cons (.op (.cons .const (.cons (.op (.cons (z rfl) (.cons (.loc rfl) .nil)) (aF (m _))) .nil)) (aF rfl)) .nil)) (aK (Gr rfl)) _ _ ?_;exact c _ f
end
section
variable {u:U} {d:Nat} {Q:V->Sg->Prop} {X:Sg->Prop} {σ:Sg} {C:aC} {ρ:List (Option V)} {K:cU} {l:List S}
theorem Ev.getD {a b e:E} {i:Nat} {k:Int} {f:V} {kvs:List (Int×V)} {σ₁ σ₂ c:Sg} (h:Ev C ρ σ a (.ref i) σ₁) (hd:kZ σ₁ (.ref i)=Gu) (g:Ev C ρ σ₁ b (.int k) σ₂) (j:Ev C ρ σ₂ e f c) (m:c.cell i=.dict kvs):Ev C ρ σ (.getD a b e) ((lookI k kvs).getD f) c:=fun Q X q=>by
 refine h _ _ ⟨hd,g _ _ (j _ _ ?_)⟩
 have:aJ tab .get [.ref i,.int k,f] c=Gq ((lookI k kvs).getD f,c):=by
  show(match c.cell i with
   |.dict kvs=>Gq ((lookI k kvs).getD f,c)
   |_=>Gs)=_
  simp only [m]
 simp only [this];exact q
theorem BF {k v:E} {i:Int} {y:V} (b:∀σ,Ev C ρ σ k (.int i) σ) (c:∀σ,Ev C ρ σ v y σ):Ev C ρ σ (.dct1 k v) (.ref σ.n) (σ.alloc (.dict [(i,y)])):=fun Q X q=>by
 refine b _ _ _ (c _ _ _ ⟨_,rfl,ah,?_⟩)
 have:(σ.alloc (.dict [])).set σ.n (.dict [(i,y)])=σ.alloc (.dict [(i,y)]):=by
  unfold Sg.set Sg.alloc
  congr 1
  funext x
  simp only
  split<;>rfl
 rw [this];exact q
noncomputable def pT (k:Int) (kvs:List (Int×V)):Int:=match lookI k kvs with
 |some (.int i)=>i
 |_=>0
noncomputable def nJ (p:Nat) (k:Int) (kvs:List (Int×V)):List (Int×V):=putI k (.int (J6 (pT k kvs) (2^p))) kvs
theorem uj {T:Nat} {p:Nat} {k:Int} {kvs:List (Int×V)} {e:E} (c:∀σ,Ev C ρ σ e (.int k) σ) (f:ρ[2]? =Gq (Gq (.ref T))) (i:ρ[3]? =Gq (Gq (.int p))) (b:σ.cell T=.dict kvs) (m:T<σ.n) (hp:p<=1000) (n:kvs.length<=1000) (o:lookI k kvs=Gs\/∃j,lookI k kvs=Gq (.int j))
  (q:wpSs tab C l ρ K X (σ.set T (.dict (nJ p k kvs)))):wpSs tab C (.setIdx (.loc 2) e (.op (.bin .bxor) [.getD (.loc 2) e (.const (.int 0)),.op (.bin .shl) [.const (.int 1),.loc 3]])::l) ρ K X σ:=by
 have r:(lookI k kvs).getD (.int 0)=.int (pT k kvs):=by
  unfold pT;rcases o with h|⟨j,h⟩<;>rw [h]<;>rfl
 have g:aJ tab (.bin .shl) [.int 1,.int p] σ=Gq (.int (1 * 2^((p:Int)).toNat),σ):=aF (qQ (G9 _) (by lia) (by decide))
 rw [L8] at g;refine bS (.op (.cons (r▸.getD (.loc f) (tD b) (c _) .const b) (.cons (.op (.cons .const (.cons (.loc i) .nil)) g) .nil)) (aF rfl)) (.loc f) (c _) (cy b m (Gz n (by decide))) q
structure CV where
 h:Int
 kn:List (Int×V)
 bs:List V
 ns:List V
noncomputable def bI (c:List (Int×V)) (s:CV) (b:Int):CV:=
 let f:=J6 s.h (pT b c)
 let e:=if(lookI f s.kn).isSome then s.kn else putI f (.int s.kn.length) s.kn
 ⟨f,e,s.bs++[.int b],s.ns++[(lookI f e).getD .none]⟩
theorem nq (k:Int) (v:V) (kvs:List (Int×V)):lookI k (putI k v kvs)=Gq v:=by
 induction kvs with
 |nil=>exact if_pos rfl
 |cons b r c=>
  show lookI k (if b.1=k then _ else _)=_
  by_cases q:b.1=k
  ·rw [if_pos q];exact if_pos rfl
  ·rw [if_neg q];exact(if_neg q).trans c
theorem put_len (k:Int) (v:V):∀kvs:List (Int×V),(putI k v kvs).length<=kvs.length+1
 |[]=>GL _
 |b::r=>by
  unfold putI
  by_cases q:b.1=k
  ·rw [if_pos q];exact Hk _
  ·rw [if_neg q];exact Hn (put_len k v r)
end
section
variable {u:U} {d:Nat} {Q:V->Sg->Prop} {X:Sg->Prop} {σ:Sg} {C:aC} {ρ:List (Option V)} {K:cU} {l:List S}
structure rp (σ₀:Sg) (i:Nat) (turns:List (Int×V)) (L:List V) (s:CV) (σ:Sg):Prop where
 n:σ.n=σ₀.n+5
 old:∀x,x<σ₀.n->x≠i->σ.cell x=σ₀.cell x
 ci:σ.cell i=.inst 570 [(12,.ref (σ₀.n+1)),(13,.ref (σ₀.n+2))]
 cT:σ.cell σ₀.n=.dict turns
 cB:σ.cell (σ₀.n+1)=.list s.bs
 cN:σ.cell (σ₀.n+2)=.list s.ns
 cK:σ.cell (σ₀.n+3)=.dict s.kn
 cL:σ.cell (σ₀.n+4)=.list L
 lb:s.bs.length<=1000
 ln:s.ns.length<=1000
 lk:s.kn.length<=1000
 kn:∀k v,lookI k s.kn=Gq v->∃j,v=.int j
theorem A2 {k:Int} {j:Int}:∀ {kvs:List (Int×V)},(∀k v,lookI k kvs=Gq v->∃j,v=.int j)->∀b v,lookI b (putI k (.int j) kvs)=Gq v->∃j,v=.int j:=fun{kvs} h b v e=>by
 by_cases q:b=k
 ·subst q;rw [nq] at e;cases e;exact⟨_,rfl⟩
 ·refine h b v ?_;rw [<-e];clear e h
  induction kvs with
  |nil=>unfold putI lookI;rw [if_neg (Hw q)];rfl
  |cons f r g=>
   unfold putI
   by_cases c:f.1=k
   ·rw [if_pos c];unfold lookI;rw [if_neg (fun e=>q (e.symm.trans c)),if_neg (Hw q)]
   ·rw [if_neg c];unfold lookI;rw [g]
theorem sB {σ₀ σ:Sg} {i p:Nat} {b:List (Int×V)} {L:List V} {s:CV} {c t:Int} {F r y:Option V} (S:rp σ₀ i b L s σ) (hi:i<σ₀.n) (P:lookI c b=Gq (.int t)) (hb:s.bs.length<1000) (hn:s.ns.length<1000) (hk:s.kn.length<1000)
  (q:∀σ',rp σ₀ i b L (bI b s c) σ'->wpSs tab C l [Gq (.ref i),Gq (.ref p),Gq (.ref σ₀.n),F,r,y,Gq (.ref (σ₀.n+3)),Gq (.int (bI b s c).h),Gq (.int c),Gs,Gs,Gs,Gs] K X σ'):
  wpSs tab C (.assign (.loc 7) (.op (.bin .bxor) [.loc 7,.op .idx [.loc 2,.loc 8]])::.ite (.op .notIn [.loc 7,.loc 6]) [.setIdx (.loc 6) (.loc 7) (.op .len [.loc 6])] []::.expr (.app (.op (.attr 12) [.loc 0]) (.loc 8))::.expr (.app (.op (.attr 13) [.loc 0]) (.op .idx [.loc 6,.loc 7]))::l)
   [Gq (.ref i),Gq (.ref p),Gq (.ref σ₀.n),F,r,y,Gq (.ref (σ₀.n+3)),Gq (.int s.h),Gq (.int c),Gs,Gs,Gs,Gs] K X σ:=by
 revert σ₀ σ i p b L s c t F r y;delta X C K l;revert r y;delta σ₀ σ i p b L s c t F;delta r y
 have H:=S.n
 have hg:pT c b=t:=by unfold pT;rw [P]
 refine ar (.op (.cons (.loc rfl) (.cons (.op (.cons (.loc rfl) (.cons (.loc rfl) .nil)) (jI (cC S.cT) (bu S.cT) P)) .nil)) (aF rfl)) rfl ?_;generalize hh:J6 s.h t=m;delta m
 have R:J6 s.h (pT c b)=m:=by rw [hg];exact hh
 have G:∀(g:List (Int×V)) (e:Sg),e.n=σ₀.n+5->(∀x,x≠σ₀.n+3->e.cell x=σ.cell x)->e.cell (σ₀.n+3)=.dict g->g=(bI b s c).kn->(∃j,lookI m g=Gq (.int j))->(∀k v,lookI k g=Gq v->∃j,v=.int j)->g.length<=1000->
   wpSs tab C (.expr (.app (.op (.attr 12) [.loc 0]) (.loc 8))::.expr (.app (.op (.attr 13) [.loc 0]) (.op .idx [.loc 6,.loc 7]))::l) [Gq (.ref i),Gq (.ref p),Gq (.ref σ₀.n),F,r,y,Gq (.ref (σ₀.n+3)),Gq (.int m),Gq (.int c),Gs,Gs,Gs,Gs] K X e:=fun g e T A k1 I ⟨j,U⟩ kj kl=>by
  have W:=(A i ((l2 30857686647046) hi)).trans S.ci
  have Y:=(A (σ₀.n+1) (l1 0x9d738071806)).trans S.cB
  refine aD (Ev.app (.op (.cons (.loc rfl) .nil) (a7 W rfl)) (aM Y) (.loc rfl) (bK Y ((l2 0x9d758101c07181) T) (Gz S.lb (by decide))) _ _ ?_)
  generalize o:e.set (σ₀.n+1) _=f
  have B:∀x,x≠σ₀.n+1->f.cell x=e.cell x:=fun x n=>by rw [<-o];exact af n
  have b2:f.cell (σ₀.n+1)=.list (s.bs++[.int c]):=by rw [<-o];exact am
  have n2:f.n=σ₀.n+5:=by rw [<-o];exact T
  have c2:=(B i ((l2 30857686515974) hi)).trans W
  have m2:=(B (σ₀.n+2) (l1 2023332718598)).trans ((A (σ₀.n+2) (l1 0x9d738072806)).trans S.cN)
  have J:=(B (σ₀.n+3) (l1 2023332722694)).trans k1
  refine aD (Ev.app (.op (.cons (.loc rfl) .nil) (a7 c2 rfl)) (aM m2) (.op (.cons (.loc rfl) (.cons (.loc rfl) .nil)) (jI (cC J) (bu J) U)) (bK m2 ((l2 0x9d758101c07281) n2) (Gz S.ln (by decide))) _ _ ?_)
  have es:(bI b s c)=⟨m,g,s.bs++[.int c],s.ns++[.int j]⟩:=by
   have M:(bI b s c).h=m:=R
   have e3:(bI b s c).bs=s.bs++[.int c]:=rfl
   have N:(bI b s c).ns=s.ns++[(lookI m (bI b s c).kn).getD .none]:=by rw [<-M];rfl
   rw [<-I,U] at N;generalize bI b s c=z at *;cases z;simp only at M e3 N I;rw [M, <-I,e3,N];rfl
  have D:∀x,x≠σ₀.n+2->(f.set (σ₀.n+2) (.list (s.ns++[.int j]))).cell x=f.cell x:=fun x n=>af n
  have q':=q (f.set (σ₀.n+2) (.list (s.ns++[.int j])))
  rw [es] at q';refine q' ⟨n2,fun x n O=>?_,(D _ ((l2 30857686581510) hi)).trans c2,?_,(D _ (l1 0x9d728071806)).trans b2,am,(D _ (l1 2023601158150)).trans J,?_,?_,?_,kl,kj⟩
  ·rw [D x ((l2 30857686581510) n),B x ((l2 30857686515974) n),A x ((l2 30857686647046) n)];exact S.old x n O
  ·rw [D _ (by exact(l1 2641526790)),B _ (by exact(l1 2641461254)),A _ (by exact(l1 2641592326))];exact S.cT
  ·rw [D _ (by exact(l1 2023601162246)),B _ (by exact(l1 2023332726790)),A _ (by exact(l1 2023869597702))];exact S.cL
  ·simp only [GC,HC,Jx];exact(l1 0x1c89e93801b89e9387718080) hb
  ·simp only [GC,HC,Jx];exact(l1 0x1c89e93801b89e9387718080) hn
 have kd:(bI b s c).kn=if(lookI m s.kn).isSome then s.kn else putI m (.int s.kn.length) s.kn:=by rw [<-R];rfl
 cases E:lookI m s.kn with
 |some v=>
  obtain⟨j,rfl⟩:=S.kn _ _ E;refine aq (t:=Gw) (.of (v:=.bool (!(lookI m s.kn).isSome)) (.op (.cons (.loc rfl) (.cons (.loc rfl) .nil)) (fy (bu S.cK))) (by rw [E];rfl) rfl) (ak ?_)
  exact G s.kn σ H (fun Z Z=>rfl) S.cK (by rw [kd,E];rfl) ⟨j,E⟩ S.kn S.lk
 |none=>
  refine aq (t:=Gu) (.of (v:=.bool (!(lookI m s.kn).isSome)) (.op (.cons (.loc rfl) (.cons (.loc rfl) .nil)) (fy (bu S.cK))) (by rw [E];rfl) rfl) ?_
  refine bS (.op (.cons (.loc rfl) .nil) (uh (cC S.cK) (bu S.cK) (Gz S.lk (by decide)))) (.loc rfl) (.loc rfl) (cy S.cK ((l2 0x9d758101c07381) H) (Gz S.lk (by decide))) (ak ?_)
  exact G _ _ H (fun x n=>af n) am (by rw [kd,E];rfl) ⟨_,nq _ _ _⟩ (A2 S.kn) (Gz (put_len _ _ _) hk)
end
noncomputable def kvsAt:Nat->List (Int×V)
 |0=>[(0,.int 0)]
 |k+1=>nJ k ((97+k:Nat)+1) (nJ k (97+k:Nat) (kvsAt k))
noncomputable def codes:List Int:=[0,97,98,99]
theorem uQ:(kvsAt 2).map (fun(x:Int×V)=>x.1)=codes:=by decide+kernel
theorem tJ:iH ((kvsAt 2).map fun(x:Int×V)=>x.1)=codes:=by
 rw [uQ];exact(lm (List.Perm.refl codes) (by decide)).symm
theorem ta:codes.foldl (bI (kvsAt 2)) ⟨0,[],[],[]⟩=⟨0,[(0,.int 0),(1,.int 1),(2,.int 2)],[.int 0,.int 97,.int 98,.int 99],[.int 0,.int 1,.int 2,.int 0]⟩:=by rfl
section
variable {u:U} {d:Nat} {Q:V->Sg->Prop} {X:Sg->Prop} {σ:Sg}
inductive TurnI (σ₀:Sg) (i p:Nat):List V->List (Option V)->Sg->Prop where
 |mk (k:Nat) (y3 y4 y5:Option V) (σ:Sg) (hk:k<=2) (E:a6 σ₀ σ) (hn:σ.n=σ₀.n+1) (hc:σ.cell σ₀.n=.dict (kvsAt k)):
  TurnI σ₀ i p ((aZ 2).drop k) [Gq (.ref i),Gq (.ref p),Gq (.ref σ₀.n),y3,y4,y5,Gs,Gs,Gs,Gs,Gs,Gs,Gs] σ
inductive CodeI (σ₀:Sg) (i p:Nat):List V->List (Option V)->Sg->Prop where
 |mk (xs ys:List Int) (y3 y4 y5 y8:Option V) (σ:Sg) (e:codes=xs++ys) (S:rp σ₀ i (kvsAt 2) (codes.map .int) (xs.foldl (bI (kvsAt 2)) ⟨0,[],[],[]⟩) σ):
  CodeI σ₀ i p (ys.map .int) [Gq (.ref i),Gq (.ref p),Gq (.ref σ₀.n),y3,y4,y5,Gq (.ref (σ₀.n+3)),Gq (.int (xs.foldl (bI (kvsAt 2)) ⟨0,[],[],[]⟩).h),y8,Gs,Gs,Gs,Gs] σ
theorem sG (e:List (Int×V)) (xs:List Int):∀(s:CV),(xs.foldl (bI e) s).bs.length=s.bs.length+xs.length/\(xs.foldl (bI e) s).ns.length=s.ns.length+xs.length/\(xs.foldl (bI e) s).kn.length<=s.kn.length+xs.length:=by
 induction xs with
 |nil=>
  intro s;exact⟨rfl,rfl,GL _⟩
 |cons x xs f=>
  intro s;obtain⟨a,b,c⟩:=f (bI e s x)
  have g:(bI e s x).bs.length=s.bs.length+1:=by unfold bI;simp
  have i:(bI e s x).ns.length=s.ns.length+1:=by unfold bI;simp
  have j:(bI e s x).kn.length<=s.kn.length+1:=by
   unfold bI;simp only
   split
   ·exact Hk _
   ·exact put_len _ _ _
  simp only [Jv,HC];exact⟨(l4 0x1d72301d718131d7718210) a g,(l4 0x1d72301d718131d7718210) b i,(l4 0x1b72301b718131b7718210) c j⟩
theorem sD (F:bg u) {i p:Nat} (hi:i<σ.n) (b':σ.cell i=.inst 570 []) (hp:p<σ.n) (d':p≠i) (P:σ.cell p=.list [gZ 97,gZ 98])
  (R:∀σ',σ.n<=σ'.n->(∀x,x<σ.n->x≠i->σ'.cell x=σ.cell x)->σ.n+2<σ'.n->σ'.cell i=.inst 570 [(12,.ref (σ.n+1)),(13,.ref (σ.n+2)),(7,.int 3)]->σ'.cell (σ.n+1)=.list [.int 0,.int 97,.int 98,.int 99]->σ'.cell (σ.n+2)=.list [.int 0,.int 1,.int 2,.int 0]->Q .none σ'):
  ae u (d+1) 512 [.ref i,.ref p] Q X σ:=by
 revert i p;delta u d Q X σ;delta i p;refine F.call 512 _ rfl d _ Q X σ rfl ?_;refine ar (BF (fun Z=>.const) fun Z=>.const) rfl ?_;refine dO (Ev.op (.cons (.loc rfl) .nil) (d8 (aA ((au hp).trans P)) (Gr rfl)) _ _ ?_);refine cO (n:=2) (TurnI σ i p) (by decide) (by decide) (.mk 0 Gs Gs Gs _ (by decide) (.alloc _ _) rfl ah) (fun v r I σ' K' h hK Z=>?_) (fun I σ' h=>?_)
 ·delta v r I σ' K';generalize l:v::r=z at h;delta z
  cases h with
  |mk k y3 y4 y5 _ hk E q m=>
   delta k y3 y4 y5;obtain⟨⟨rfl,e'⟩,hr⟩:=dM l
   have cp:=(E.cell p hp).trans P
   have hT:σ.n<σ'.n:=(l2 0x9d718101c01) q
   have o:k=0\/k=1:=by lia
   obtain⟨c,s⟩:∃c:Int,c=(97+k:Nat):=⟨_,rfl⟩;delta c
   have T:([gZ 97,gZ 98]:List V)[k]? =Gq (gZ c):=by subst s;rcases o with rfl|rfl<;>rfl
   have U:GI (c<127)=Gu:=decide_eq_true (by lia)
   have ek:kvsAt (k+1)=nJ k (c+1) (nJ k c (kvsAt k)):=by subst s;rfl
   have l1:(kvsAt k).length<=1000:=by rcases o with rfl|rfl<;>exact Gr rfl
   have l2:(nJ k c (kvsAt k)).length<=1000:=Gz (put_len _ _ _) (by rcases o with rfl|rfl<;>exact Gr rfl)
   have f1:lookI c (kvsAt k)=Gs\/∃j,lookI c (kvsAt k)=Gq (.int j):=by subst s;rcases o with rfl|rfl;exact .inl rfl;exact .inr ⟨_,rfl⟩
   have f2:lookI (c+1) (nJ k c (kvsAt k))=Gs\/∃j,lookI (c+1) (nJ k c (kvsAt k))=Gq (.int j):=by subst s;rcases o with rfl|rfl<;>exact .inl rfl
   refine pQ (v:=.tup [.tup [.int c,.int c]]) (x:=.tup [.int c,.int c]) (.op (.cons (.op (.cons (.loc rfl) (.cons (.loc rfl) .nil)) (bC (aA cp) (Gr rfl) (cY T))) .nil) (bH rfl rfl)) rfl trivial rfl fun K2 c'=>?_;refine uj (p:=k) (k:=c) (fun Z=>.loc rfl) rfl rfl m hT (by lia) l1 f1 ?_
   refine aq (t:=Gu) (.of (v:=.bool (GI (c<127))) (.op (.cons (.loc rfl) (.cons .const .nil)) rfl) (congrArg Gq U) rfl) ?_;refine uj (p:=k) (k:=c+1) (fun Z=>.op (.cons (.loc rfl) (.cons .const .nil)) (aF rfl)) rfl rfl am hT (by lia) l2 f2 ?_
   refine ak (bm (c' _ _ trivial (ak ?_)));rw [hr] at hK;exact(hK _ _ (.mk (k+1) _ _ _ _ (by lia) ((E.set (GL _)).set (GL _)) q (by rw [ek];exact am))).1
 ·delta I σ';generalize l:([]:List V)=z at h;delta z
  cases h with
  |mk k y3 y4 y5 _ hk E q m=>
   delta k y3 y4 y5
   have u1:=gb l
   obtain rfl:k=2:=by have u2:(2:Int).toNat=2:=rfl;lia
   have ci:=(E.cell i hi).trans b'
   refine aG (.op .nil (bP (G4 _))) (.loc rfl) (aS ((au ((l3 0x1c109d718121c20) hi q)).trans ci) (by show i<σ'.n+1;exact(l3 0x1c109d718121c71820) hi q) (Gr rfl) rfl) ?_
   generalize A:(σ'.alloc (.list [])).set i _=B;delta B
   have N:B.n=σ.n+2:=by rw [<-A];show σ'.n+1=_;exact(l2 0x1d718101d72817180) q
   have o1:∀x,x<σ.n+1->x≠i->B.cell x=σ'.cell x:=fun x f g=>by rw [<-A,af g,au (by exact(l3 30857680264224) f q)]
   have i1:B.cell i=.inst 570 [(12,.ref (σ.n+1))]:=by rw [<-A, <-q];exact am
   have b1:B.cell (σ.n+1)=.list []:=by rw [<-A,af (by exact(l2 30855532058646) hi), <-q];exact ah
   refine aG (.op .nil (bP (G4 _))) (.loc rfl) (aS ((au ((l3 0x1c109d728121c20) hi N)).trans i1) (by show i<B.n+1;exact(l3 0x1c109d728121c71820) hi N) (Gr rfl) rfl) ?_
   generalize C:(B.alloc (.list [])).set i _=D;delta D
   have n2:D.n=σ.n+3:=by rw [<-C];show B.n+1=_;exact(l2 0x1d728101d73817180) N
   have o2:∀x,x<σ.n+2->x≠i->D.cell x=B.cell x:=fun x f g=>by rw [<-C,af g,au (by exact(l3 30857680264224) f N)]
   have i2:D.cell i=.inst 570 [(12,.ref (σ.n+1)),(13,.ref (σ.n+2))]:=by rw [<-C, <-N];exact am
   have m2:D.cell (σ.n+2)=.list []:=by rw [<-C,af (by exact(l2 30855532062742) hi), <-N];exact ah
   refine ar (v:=.ref (σ.n+3)) (σ₁:=D.alloc (.dict [])) (by rw [<-n2];exact .op .nil rfl) rfl ?_
   refine ar .const rfl ?_;generalize J:D.alloc (.dict [])=G;delta G
   have n3:G.n=σ.n+4:=by rw [<-J];show D.n+1=_;exact(l2 0x1d738101d74817180) n2
   have W:∀x,x<σ.n+3->G.cell x=D.cell x:=fun x f=>by rw [<-J,au (by exact(l3 30857680264224) f n2)]
   have k3:G.cell (σ.n+3)=.dict []:=by rw [<-J, <-n2];exact ah
   have t3:G.cell σ.n=.dict (kvsAt 2):=(W _ (l1 29833216)).trans ((o2 _ (l1 29829120) ((l2 7533088790) hi)).trans ((o1 _ (l1 29825024) ((l2 7533088790) hi)).trans m))
   have K:(iH ((kvsAt 2).map fun(x:Int×V)=>x.1))=codes:=tJ
   refine bL (Ev.op (.cons (.loc rfl) .nil) (ti t3 (Gr rfl)) _ _ ?_);rw [K,n3];generalize L:G.alloc (.list (codes.map .int))=Y;delta Y
   have n4:Y.n=σ.n+5:=by rw [<-L];show G.n+1=_;exact(l2 0x1d748101d75817180) n3
   have O:∀x,x<σ.n+4->Y.cell x=G.cell x:=fun x f=>by rw [<-L,au (by exact(l3 30857680264224) f n3)]
   have l4:Y.cell (σ.n+4)=.list (codes.map .int):=by rw [<-L, <-n3];exact ah
   have S0:rp σ i (kvsAt 2) (codes.map .int) ⟨0,[],[],[]⟩ Y:=
    ⟨n4,fun x f g=>by rw [O _ (by exact(l2 1928470153232) f),W _ (by exact(l2 1928470149136) f),o2 _ (by exact(l2 1928470145040) f) g,o1 _ (by exact(l2 1928470140944) f) g];exact E.cell x f,by rw [O _ (by exact(l2 1928470153232) hi),W _ (by exact(l2 1928470149136) hi)];exact i2,(O _ (by exact(l1 29837312))).trans t3,
     by rw [O _ (by exact(l1 122213659008)),W _ (by exact(l1 122196881792)),o2 _ (by exact(l1 122180104576)) (by exact(l2 30855532058646) hi)];exact b1,by rw [O _ (by exact(l1 122213659264)),W _ (by exact(l1 122196882048))];exact m2,(O _ (by exact(l1 122213659520))).trans k3,l4,G4 _,G4 _,G4 _,fun k v h=>by cases h⟩
   refine bG (CodeI σ i p) (aA l4) (.mk [] codes _ _ _ _ _ rfl S0) (fun r I b h=>by cases h with|mk _ _ _ _ _ _ _ _ S=>exact⟨by have u3:=S.n;exact(l2 0x9d758101c07481) u3,S.cL⟩) (fun v r I b K' h hK Z=>?_) (fun I b h=>?_)
   ·delta v r I b K';generalize l:v::r=z at h;injections z;intro l h
    cases h with
    |mk xs H z3 z4 z5 z8 _ e S=>
     injections xs H z3 z4 z5 z8;intro e l S
     cases H with
     |nil=>cases l
     |cons c H=>
      injections c H;intro e l;cases l
      have hl:=sG (kvsAt 2) xs ⟨0,[],[],[]⟩
      have f:xs.length<=4:=by have u4:=congrArg Jd e;simp only [GC] at u4;have u5:codes.length=4:=rfl;exact(l3 0x1d4819d72011b480) u5 u4
      have m:c∈codes:=by rw [e];simp
      have ht:∃t,lookI c (kvsAt 2)=Gq (.int t):=by
       rcases GH.mp m with rfl|m
       ·exact⟨_,rfl⟩
       ·rcases GH.mp m with rfl|m
        ·exact⟨_,rfl⟩
        ·rcases GH.mp m with rfl|m
         ·exact⟨_,rfl⟩
         ·rw [GF.mp m];exact⟨_,rfl⟩
      obtain⟨t,ht⟩:=ht;simp only [Jx] at hl;refine⟨_,rfl,sB (p:=p) S hi ht ((l2 0x1d710801b4811c89e9380) hl.1 f) ((l2 0x1d710801b4811c89e9380) hl.2.1 f) ((l2 0x1b710801b4811c89e9380) hl.2.2 f) fun M S'=>ak (hK _ _ ?_).1⟩
      have u6:=CodeI.mk (σ₀:=σ) (i:=i) (p:=p) (xs++[c]) H z3 z4 z5 (Gq (.int c)) M (by rw [e,GK];rfl) (by rw [HS];exact S')
      rw [HS] at u6;exact u6
   ·generalize l:([]:List V)=z at h
    cases h with
    |mk xs H z3 z4 z5 z8 _ e S=>
     cases H with
     |cons y H=>cases l
     |nil=>
      rw [GY] at e;subst e
      have hN:=S.n
      rw [ta] at S;refine aG (.op (.cons (.loc rfl) .nil) (uh (cC S.cK) (bu S.cK) (Gz S.lk (by decide)))) (.loc rfl) (aS S.ci ((l3 0x1c109d758121c20) hi hN) (Gr rfl) rfl) (ak (R _ (by show σ.n<=b.n;exact(l2 0x9d758101b01) hN) (fun x f g=>(af g).trans (S.old x f g)) (by show σ.n+2<b.n;exact(l2 0x9d758101c07281) hN) am ((af ((l2 30855532058646) hi)).trans S.cB) ((af ((l2 30855532062742) hi)).trans S.cN)))
end
noncomputable def kF:List V:=[.int 0,.int 97,.int 98,.int 99]
noncomputable def xg:List V:=[.int 0,.int 1,.int 2,.int 0]
noncomputable def bD:V:=.obj 570 [12,13,7] [.lst kF,.lst xg,.int 3]
section
variable {u:U} {d:Nat} {Q:V->Sg->Prop} {X:Sg->Prop} {σ:Sg} {C:aC} {K:cU} {l:List S}
structure FZ (k:Nat) (low high:Int) (n:Nat):Prop where
 low:kF[k]? =Gq (.int low)
 num:xg[k]? =Gq (.int n)
 high:((k:Int)+1<4/\kF[k+1]? =Gq (.int (high+1)))\/(¬((k:Int)+1<4)/\high=127)
 n9:n<=9
noncomputable def gM (c w b pl:Int) (y6 y7 y8:Option V):List (Option V):=[Gq bD,Gq (gZ c),Gq (.int w),Gq (.int b),Gq (.tup [.tup [.int c,.int c]]),Gq (.int pl),y6,y7,y8,Gs,Gs,Gs,Gs]
theorem mN {k:Nat} {c w b pl:Int} {y6 y7 y8:Option V} (a:Nat) (v:V) (e:eQ tab 570 a [(12,.lst kF),(13,.lst xg),(7,.int 3)]=Gq v):Ev C (gM c w b pl y6 y7 y8) σ (.op (.attr a) [.loc 0]) v σ:=bM (.loc rfl) rfl e
theorem fP {c w b pl:Int} {y6 y7 y8:Option V} {j:Int} {v:V} (hp:pl=0) (e:B3 [.int c,.int c] j=Gq v):Ev C (gM c w b pl y6 y7 y8) σ (.op .idx [.op .idx [.loc 4,.loc 5],.const (.int j)]) v σ:=by
 subst hp;exact .op (.cons (.op (.cons (.loc rfl) (.cons (.loc rfl) .nil)) (bC rfl (Gr rfl) rfl)) (.cons .const .nil)) (bC rfl (Gr rfl) e)
theorem jS {c w b pl:Int} {y6 y7 y8:Option V} {t:Bool} (h:GI (pl<1)=t):eA C (gM c w b pl y6 y7 y8) σ (.op (.rel .lt) [.loc 5,.op .len [.loc 4]]) t σ:=
 .of (v:=.bool (GI (pl<1))) (.op (.cons (.loc rfl) (.cons (.op (.cons (.loc rfl) .nil) (d8 rfl (Gr rfl))) .nil)) rfl) (congrArg Gq h) rfl
theorem yB {n:Nat} (h:n<=9):aJ tab (.bin .shl) [.int 1,.int n] σ=Gq (.int (2^n),σ):=by
 have:aJ tab (.bin .shl) [.int 1,.int n] σ=Gq (.int (1 * 2^((n:Int)).toNat),σ):=aF (qQ (G9 _) (by lia) (by decide))
 rw [L8] at this;exact this
inductive MaskW (c w b low:Int) (y6 y7 y8:Option V) (σ₀:Sg):Nat->List (Option V)->Sg->Prop where
 |zero:MaskW c w b low y6 y7 y8 σ₀ 1 (gM c w b 0 y6 y7 y8) σ₀
 |one:MaskW c w b low y6 y7 y8 σ₀ 0 (gM c w b 1 y6 y7 y8) σ₀
noncomputable def ue:S->List S
 |.forR _ _ b=>b
 |_=>[]
theorem tv {k n:Nat} {c w b pl f e:Int} {y7 y8:Option V} (L:FZ k f e n) (B:pl=0\/pl=1) (g y A:Int) (E:g=if pl=0/\¬(c<f) then 0 else 1)
  (I:(g=0/\c<=e/\c=f/\c=e/\y=JN w (2^n)/\A=b)\/(¬(g=0/\c<=e)/\y=w/\A=JN b (2^n)))
  (q:wpSs tab C [] (gM c y A g (Gq (.int k)) (Gq (.int f)) (Gq (.int e))) K X σ):wpSs tab C (ue (zi.getD 4 .cont)) (gM c w b pl (Gq (.int k)) y7 y8) K X σ:=by
 revert k n c w b pl f e y7 y8 g y A;delta X σ C K;revert g y A;delta k n c w b pl f e y7 y8;delta g y A;refine ar (.op (.cons (mN (k:=0) 12 (.lst kF) rfl) (.cons (.loc rfl) .nil)) (bC rfl (Gr rfl) (cY L.low))) rfl (ar .const rfl ?_)
 have p:∀ {y6 y7 y8:Option V},Ev C (gM c w b pl y6 y7 y8) σ (.op .len [.op (.attr 12) [.loc 0]]) (.int 4) σ:=.op (.cons (mN (k:=0) 12 (.lst kF) rfl) .nil) (d8 (l:=kF) rfl (Gr rfl))
 have r:wpSs tab C ((ue (zi.getD 4 .cont)).drop 3) (gM c w b pl (Gq (.int k)) (Gq (.int f)) (Gq (.int e))) K X σ:=by
  have j:wpSs tab C ((ue (zi.getD 4 .cont)).drop 4) (gM c w b g (Gq (.int k)) (Gq (.int f)) (Gq (.int e))) K X σ:=by
   have F:∀ {a:Int} {y6 y7 y8:Option V} {i:Nat} {w b:Int},(gM c w b g (Gq (.int k)) y7 y8)[i]? =Gq (Gq (.int a))->Ev C (gM c w b g (Gq (.int k)) y7 y8) σ (.op (.bin .bor) [.loc i,.op (.bin .shl) [.const (.int 1),.op .idx [.op (.attr 13) [.loc 0],.loc 6]]]) (.int (JN a (2^n))) σ:=fun h=>
    .op (.cons (.loc h) (.cons (.op (.cons .const (.cons (.op (.cons (mN (k:=0) 13 (.lst xg) rfl) (.cons (.loc rfl) .nil)) (bC rfl (Gr rfl) (cY L.num))) .nil)) (yB L.n9)) .nil)) (aF rfl)
   rcases I with ⟨o,D,M,N,rfl,rfl⟩ |⟨o,rfl,rfl⟩
   ·refine aq (t:=Gu) (.andT (jS (t:=Gu) (decide_eq_true (by lia))) (.of (v:=.bool (GI (c<=e))) (.op (.cons (fP o rfl) (.cons (.loc rfl) .nil)) rfl) (congrArg Gq (decide_eq_true D)) rfl)) ?_
    refine aq (t:=Gw) (.orF (.of (v:=.bool (GI (c>f))) (.op (.cons (fP o rfl) (.cons (.loc rfl) .nil)) rfl) (congrArg Gq (decide_eq_false (by lia))) rfl) (.of (v:=.bool (GI (c<e))) (.op (.cons (fP o rfl) (.cons (.loc rfl) .nil)) rfl) (congrArg Gq (decide_eq_false (by lia))) rfl)) (ak ?_)
    exact ar (F (y6:=Gs) rfl) rfl (ak q)
   ·by_cases z:g=0
    ·refine aq (t:=Gw) (.andT (jS (t:=Gu) (decide_eq_true (by lia))) (.of (v:=.bool (GI (c<=e))) (.op (.cons (fP z rfl) (.cons (.loc rfl) .nil)) rfl) (congrArg Gq (decide_eq_false fun h=>o ⟨z,h⟩)) rfl)) ?_
     exact ar (F (y6:=Gs) rfl) rfl (ak q)
    ·refine aq (t:=Gw) (.andF (jS (t:=Gw) (decide_eq_false (by split at E<;>lia)))) ?_
     exact ar (F (y6:=Gs) rfl) rfl (ak q)
  by_cases z:pl=0/\c<f
  ·obtain⟨rfl,z⟩:=z;rw [if_neg (fun h=>h.2 z)] at E;subst E;refine eS (MaskW c w b f (Gq (.int k)) (Gq (.int f)) (Gq (.int e)) σ) .zero fun m G s h=>?_
   cases h with
   |zero=>
    refine⟨Gu,_,.andT (jS (t:=Gu) rfl) (.of (v:=.bool (GI (c<f))) (.op (.cons (fP rfl rfl) (.cons (.loc rfl) .nil)) rfl) (congrArg Gq (decide_eq_true z)) rfl),fun h=>(by cases h),fun Z O J Z=>?_⟩
    exact ar (.op (.cons (.loc rfl) (.cons .const .nil)) (aF rfl)) rfl (ak (J _ _ _ (Gx 0) .one).1)
   |one=>exact⟨Gw,_,.andF (jS (t:=Gw) rfl),fun Z=>j,fun h=>(by cases h)⟩
  ·have H:g=pl:=by
    rw [E];rcases B with rfl|rfl
    ·rw [if_pos ⟨rfl,fun h=>z ⟨rfl,h⟩⟩]
    ·rw [if_neg (fun h=>by cases h.1)]
   rw [H] at j;refine eS (fun m G s=>G=gM c w b pl (Gq (.int k)) (Gq (.int f)) (Gq (.int e))/\s=σ) (n:=0) ⟨rfl,rfl⟩ fun m G s h=>?_;obtain⟨rfl,rfl⟩:=h;refine⟨Gw,_,?_,fun Z=>j,fun h=>(by cases h)⟩
   rcases B with rfl|rfl
   ·exact .andT (jS (t:=Gu) rfl) (.of (v:=.bool (GI (c<f))) (.op (.cons (fP rfl rfl) (.cons (.loc rfl) .nil)) rfl) (congrArg Gq (decide_eq_false fun h=>z ⟨rfl,h⟩)) rfl)
   ·exact .andF (jS (t:=Gw) rfl)
 rcases L.high with ⟨o,D⟩ |⟨o,D⟩
 ·refine aq (t:=Gu) (.of (v:=.bool (GI ((k:Int)+1<4))) (.op (.cons (.op (.cons (.loc rfl) (.cons .const .nil)) (aF rfl)) (.cons p .nil)) rfl) (congrArg Gq (decide_eq_true o)) rfl) ?_;refine ar (v:=.int (e+1 - 1)) (.op (.cons (.op (.cons (mN (k:=0) 12 (.lst kF) rfl) (.cons (.op (.cons (.loc rfl) (.cons .const .nil)) (aF rfl)) .nil)) (bC rfl (Gr rfl) (cY (k:=k+1) D))) (.cons .const .nil)) (aF rfl)) rfl (ak ?_);rw [Int.add_sub_cancel];exact r
 ·subst D;refine aq (t:=Gw) (.of (v:=.bool (GI ((k:Int)+1<4))) (.op (.cons (.op (.cons (.loc rfl) (.cons .const .nil)) (aF rfl)) (.cons p .nil)) rfl) (congrArg Gq (decide_eq_false o)) rfl) (ak r)
end
noncomputable def xq:Bool->Int
 |false=>97
 |true=>98
noncomputable def de:Bool->Int
 |false=>2
 |true=>4
structure Gj where
 w:Int
 b:Int
 p:Int
noncomputable def mt:Bool->Nat->Gj
 |_,0=>⟨0,0,0⟩
 |_,1=>⟨0,1,0⟩
 |false,2=>⟨2,1,0⟩
 |false,_=>⟨2,5,1⟩
 |true,2=>⟨0,3,0⟩
 |true,3=>⟨4,3,0⟩
 |true,_=>⟨4,3,1⟩
section
variable {u:U} {d:Nat} {Q:V->Sg->Prop} {X:Sg->Prop} {σ:Sg}
inductive MaskI (x:Bool) (σ₀:Sg):List V->List (Option V)->Sg->Prop where
 |mk (k:Nat) (y6 y7 y8:Option V) (hk:k<=4):MaskI x σ₀ ((aZ 4).drop k) (gM (xq x) (mt x k).w (mt x k).b (mt x k).p y6 y7 y8) σ₀
theorem uq (F:bg u) (x:Bool) (f:Q (.int (de x)) σ):ae u (d+1) 536 [bD,gZ (xq x)] Q X σ:=by
 revert x;delta u d Q X σ;delta x;refine F.call 536 _ rfl d _ Q X σ rfl ?_;refine ar .const rfl (ar .const rfl (ar (bM (.loc rfl) rfl rfl) rfl (ar .const rfl ?_)));refine dO (Ev.op (.cons (bM (v:=.lst kF) (.loc rfl) rfl rfl) .nil) (d8 (l:=kF) rfl (Gr rfl)) _ _ ?_);refine cO (n:=4) (MaskI x σ) (by decide) (by decide) (.mk 0 Gs Gs Gs (by decide)) (fun v r o g p h s Z=>?_) (fun o g h=>?_)
 ·delta v r o g p;generalize j:v::r=z at h;delta z
  cases h with
  |mk k q y7 y8 y=>
   delta k q y7 y8;obtain⟨⟨rfl,A⟩,B⟩:=dM j;subst B
   have e:=fun n m i (L:FZ k m i n) D E G=>tv (C:=ae u d) (K:=p) (X:=X) (σ:=σ) (c:=xq x) (w:=(mt x k).w) (b:=(mt x k).b) (y7:=y7) (y8:=y8) L (pl:=(mt x k).p) D (mt x (k+1)).p (mt x (k+1)).w (mt x (k+1)).b E G (ak (s _ _ (.mk (k+1) _ _ _ (by lia))).1)
   have H:k=0\/k=1\/k=2\/k=3:=by lia
   rcases H with rfl|rfl|rfl|rfl<;>cases x
   ·exact e 0 0 96 ⟨rfl,rfl,.inl ⟨by decide,rfl⟩,by decide⟩ (by decide) (by decide) (by decide)
   ·exact e 0 0 96 ⟨rfl,rfl,.inl ⟨by decide,rfl⟩,by decide⟩ (by decide) (by decide) (by decide)
   ·exact e 1 97 97 ⟨rfl,rfl,.inl ⟨by decide,rfl⟩,by decide⟩ (by decide) (by decide) (by decide)
   ·exact e 1 97 97 ⟨rfl,rfl,.inl ⟨by decide,rfl⟩,by decide⟩ (by decide) (by decide) (by decide)
   ·exact e 2 98 98 ⟨rfl,rfl,.inl ⟨by decide,rfl⟩,by decide⟩ (by decide) (by decide) (by decide)
   ·exact e 2 98 98 ⟨rfl,rfl,.inl ⟨by decide,rfl⟩,by decide⟩ (by decide) (by decide) (by decide)
   ·exact e 0 99 127 ⟨rfl,rfl,.inr ⟨by decide,rfl⟩,by decide⟩ (by decide) (by decide) (by decide)
   ·exact e 0 99 127 ⟨rfl,rfl,.inr ⟨by decide,rfl⟩,by decide⟩ (by decide) (by decide) (by decide)
 ·generalize j:([]:List V)=z at h
  cases h with
  |mk k q y7 y8 y=>
   have J:=gb j
   obtain rfl:k=4:=by have M:(4:Int).toNat=4:=rfl;lia
   have I:I3 (mt x 4).w (mt x 4).b=0:=by cases x<;>decide
   refine aq (t:=Gw) (.of (v:=.int (I3 (mt x 4).w (mt x 4).b)) (.op (.cons (.loc rfl) (.cons (.loc rfl) .nil)) (aF rfl)) (by rw [I];rfl) rfl) (ak (ax (Ev.loc rfl _ _ ?_)))
   cases x<;>exact f
end
theorem pB (n:Nat):∀(l:List Nat),l.Nodup->(∀x∈l,x<n)->l.length<=n:=by
 induction n with
 |zero=>
  intro l _ h
  cases l with
  |nil=>exact GL _
  |cons x l=>exact absurd (h x (.head _)) (Mn _)
 |succ n d=>
  intro l c h
  by_cases m:n∈l
  ·have f:=d (l.erase n) (c.erase n) fun x b=>by
    have:=(c.mem_erase_iff).mp b
    exact H5 (LH (h x this.2)) this.1
   rw [MW m] at f;exact(l3 0x1b121b718201b71810) f (wY _ _)
  ·exact LF (d l c fun x b=>H5 (LH (h x b)) fun e=>m (e▸b))
structure NF where
 mv:List (List (Int×Int))
 hp:List (List Nat)
noncomputable def NF.n (N:NF):Nat:=N.mv.length
noncomputable def NF.add (N:NF):NF:=⟨N.mv++[[]],N.hp++[[]]⟩
noncomputable def NF.move (N:NF) (s:Nat) (k:Int) (g:Nat):NF:=⟨N.mv.modify s (· ++[(k,(g:Int))]),N.hp⟩
noncomputable def ed (g:Nat) (l:List Nat):List Nat:=if g∈l then l else l++[g]
noncomputable def NF.hop (N:NF) (s g:Nat):NF:=⟨N.mv,N.hp.modify s (ed g)⟩
structure NF.Ok (N:NF):Prop where
 len:N.hp.length=N.n
 nd:∀l∈N.hp,l.Nodup
 hp:∀l∈N.hp,∀g∈l,g<N.n
 mv:∀l∈N.mv,l=[]\/∃k g,l=[(k,((g:Nat):Int))]/\(k=2\/k=4)/\g<N.n
theorem NF.add_n (N:NF):N.add.n=N.n+1:=by unfold NF.add NF.n;simp
theorem NF.move_n (N:NF) (s:Nat) (k:Int) (g:Nat):(N.move s k g).n=N.n:=by unfold NF.move NF.n;simp
theorem NF.hop_n (N:NF) (s g:Nat):(N.hop s g).n=N.n:=rfl
theorem NF.Ok.add {N:NF} (h:N.Ok):N.add.Ok:=by
 delta N
 have c:=N.add_n
 refine⟨by rw [c, <-h.len];unfold NF.add;simp,fun l b=>?_,fun l b g d=>?_,fun l b=>?_⟩
 ·delta l;rcases GD.mp b with b|b
  ·exact h.nd l b
  ·rw [GF.mp b];exact .nil
 ·revert g;delta l;delta g;rcases GD.mp b with b|b
  ·rw [c];exact GB (h.hp l b g d)
  ·rw [GF.mp b] at d;cases d
 ·delta l;rcases GD.mp b with b|b
  ·rcases h.mv l b with h|⟨k,g,e,f,i⟩
   ·exact .inl h
   ·delta k g;exact .inr ⟨k,g,e,f,by rw [c];exact GB i⟩
  ·exact .inl (GF.mp b)
theorem gc {b:Type} {f:b->b} {x:b}:∀ {s:Nat} {l:List b},x∈l.modify s f->x∈l\/∃y,l[s]? =Gq y/\x=f y:=fun{s l} h=>by
 obtain⟨i,c⟩:=IF h;rw [Jf] at c;obtain⟨y,d,e⟩:=GV.mp c
 by_cases q:s=i
 ·subst q;simp only [if_true] at e;exact .inr ⟨y,d,e.symm⟩
 ·simp only [if_neg q] at e;exact .inl (e▸GJ d)
theorem wc {g:Nat} {l:List Nat} (h:l.Nodup):(ed g l).Nodup:=by
 unfold ed
 split
 ·exact h
 ·rename_i q;exact I6.mpr ⟨h,by simp,fun a c b d e=>q (by rw [GF.mp d] at e;exact e▸c)⟩
theorem k9 {g x:Nat} {l:List Nat}:x∈ed g l↔x∈l\/x=g:=by
 unfold ed
 split
 ·rename_i q;exact⟨.inl,fun h=>h.elim id fun e=>e▸q⟩
 ·rw [GD,GF]
theorem NF.Ok.hop {N:NF} (h:N.Ok) {s g:Nat} (e:g<N.n):(N.hop s g).Ok:=by
 refine⟨by unfold NF.hop;simp only [NR];exact h.len,fun l b=>?_,fun l b x c=>?_,h.mv⟩
 ·rcases gc b with b|⟨y,d,rfl⟩
  ·exact h.nd l b
  ·exact wc (h.nd y (GJ d))
 ·rcases gc b with b|⟨y,d,rfl⟩
  ·exact h.hp l b x c
  ·rcases k9.mp c with c|rfl
   ·exact h.hp y (GJ d) x c
   ·exact e
theorem NF.Ok.move {N:NF} (h:N.Ok) {s g:Nat} {k:Int} (e:k=2\/k=4) (f:g<N.n) (i:N.mv[s]? =Gq []):(N.move s k g).Ok:=by
 have c:=N.move_n s k g
 refine⟨h.len.trans c.symm,h.nd,fun l b x j=>by rw [c];exact h.hp l b x j,fun l b=>?_⟩
 rcases gc b with b|⟨y,d,rfl⟩
 ·rw [c];exact h.mv l b
 ·rw [i] at d;cases d;exact .inr ⟨k,g,rfl,e,by rw [c];exact f⟩
theorem NF.Ok.size {N:NF} (h:N.Ok) {l:List Nat} (b:l∈N.hp):l.length<=N.n:=pB _ _ (h.nd l b) (h.hp l b)
theorem NF.Ok.nil:NF.Ok ⟨[],[]⟩:=⟨rfl,fun Z h=>(nomatch h),fun Z h=>(nomatch h),fun Z h=>(nomatch h)⟩
noncomputable def sw (l:List (Int×Int)):List V:=l.map fun p=>.tup [.int p.1,.int p.2]
noncomputable def bA (l:List Nat):List V:=l.map fun(g:Nat)=>V.int g
structure FP where
 b:Nat
 c:Nat
 t:Nat
 bs:List Nat
 cs:List Nat
def FP.ft (p:FP) (a x:Nat):Prop:=x=a\/x=p.b\/x=p.c\/x=p.t\/x∈p.bs\/x∈p.cs
structure be (a:Nat) (m:Nat) (N:NF) (p:FP) (σ:Sg):Prop where
 ok:N.Ok
 nm:N.n<=m
 m1:m<=10000
 inst:σ.cell a=.inst 147 [(0,.int m),(1,.ref p.b),(2,.ref p.c),(3,.ref p.t),(4,.int 0)]
 cb:σ.cell p.b=.list (p.bs.map .ref)
 cc:σ.cell p.c=.list (p.cs.map .ref)
 ct:σ.cell p.t=.dict []
 lb:p.bs.length=N.n
 lc:p.cs.length=N.n
 cm:∀(i:Nat) x l,p.bs[i]? =Gq x->N.mv[i]? =Gq l->σ.cell x=.list (sw l)
 ch:∀(i:Nat) x l,p.cs[i]? =Gq x->N.hp[i]? =Gq l->σ.cell x=.list (bA l)
 nb:p.bs.Nodup
 nc:p.cs.Nodup
 dj:∀x∈p.bs,x∉p.cs
 fb:∀x∈p.bs,x≠a/\x≠p.b/\x≠p.c/\x≠p.t
 fc:∀x∈p.cs,x≠a/\x≠p.b/\x≠p.c/\x≠p.t
 ab:a≠p.b/\a≠p.c/\a≠p.t/\p.b≠p.c/\p.b≠p.t/\p.c≠p.t
 lt:∀x,p.ft a x->x<σ.n
structure aH (P:Nat->Prop) (σ:Sg) (P':Nat->Prop) (σ':Sg):Prop where
 n:σ.n<=σ'.n
 keep:∀x,x<σ.n->¬P x->σ'.cell x=σ.cell x
 foot:∀x,P' x->P x\/σ.n<=x
theorem aH.refl (P:Nat->Prop) (σ:Sg):aH P σ P σ:=⟨GL _,fun Z Z Z=>rfl,fun Z h=>.inl h⟩
theorem aH.trans {P f d:Nat->Prop} {σ σ' c:Sg} (a:aH P σ f σ') (b:aH f σ' d c):aH P σ d c:=
 ⟨Gz a.n b.n,fun x e g=>(b.keep x (GN e a.n) fun h=>(a.foot x h).elim g fun h=>absurd e (HN.mpr h)).trans (a.keep x e g),fun x h=>(b.foot x h).elim (a.foot x) fun h=>.inr (Gz a.n h)⟩
theorem aH.ext {P:Nat->Prop} {σ σ':Sg} (E:a6 σ σ'):aH P σ P σ':=⟨E.n,fun x b Z=>E.cell x b,fun Z h=>.inl h⟩
section
variable {u:U} {d:Nat} {Q:V->Sg->Prop} {X:Sg->Prop} {σ:Sg} {a m:Nat} {N:NF} {p:FP}
theorem be.keep (h:be a m N p σ) {σ':Sg} (c:σ.n<=σ'.n) (k:∀x,p.ft a x->σ'.cell x=σ.cell x):be a m N p σ':=
 ⟨h.ok,h.nm,h.m1,(k _ (.inl rfl)).trans h.inst,(k _ (.inr (.inl rfl))).trans h.cb,(k _ (.inr (.inr (.inl rfl)))).trans h.cc,(k _ (.inr (.inr (.inr (.inl rfl))))).trans h.ct,h.lb,h.lc,
  fun i x l e b=>(k x (.inr (.inr (.inr (.inr (.inl (GJ e))))))).trans (h.cm i x l e b),fun i x l e b=>(k x (.inr (.inr (.inr (.inr (.inr (GJ e))))))).trans (h.ch i x l e b),h.nb,h.nc,h.dj,h.fb,h.fc,h.ab,fun x f=>GN (h.lt x f) c⟩
theorem be.ext (h:be a m N p σ) {σ':Sg} (E:a6 σ σ'):be a m N p σ':=h.keep E.n fun x b=>E.cell x (h.lt x b)
theorem be.la (h:be a m N p σ):a<σ.n:=h.lt _ (.inl rfl)
theorem be.lbb (h:be a m N p σ):p.b<σ.n:=h.lt _ (.inr (.inl rfl))
theorem be.lcc (h:be a m N p σ):p.c<σ.n:=h.lt _ (.inr (.inr (.inl rfl)))
theorem jd {x:Nat} {l:List Nat} (h:l.Nodup) (c:x∉l):(l++[x]).Nodup:=
 I6.mpr ⟨h,by simp,fun a f b g e=>c (by rw [GF.mp g] at e;exact e▸f)⟩
theorem gv {b:Type} {l:List b} {y x:b} {i:Nat} (h:(l++[y])[i]? =Gq x):(i<l.length/\l[i]? =Gq x)\/(i=l.length/\x=y):=by
 by_cases q:i<l.length
 ·rw [IB q] at h;exact .inl ⟨q,h⟩
 ·rw [Iw (HN.mp q)] at h
  have:i - l.length=0:=by
   cases c:i - l.length with
   |zero=>rfl
   |succ k=>rw [c] at h;cases h
  rw [this] at h;cases h;exact .inr ⟨(l3 0x1d0829d07121d10) this (G7 (HL q)),rfl⟩
theorem be.grow (h:be a m N p σ) (D:N.n<m) {σ':Sg} (E:σ'.n=σ.n+2) (o:∀x,x<σ.n->x≠p.b->x≠p.c->σ'.cell x=σ.cell x) (F:σ'.cell p.b=.list (p.bs.map .ref++[.ref σ.n])) (G:σ'.cell p.c=.list (p.cs.map .ref++[.ref (σ.n+1)]))
  (H:σ'.cell σ.n=.list []) (I:σ'.cell (σ.n+1)=.list []):be a m N.add ⟨p.b,p.c,p.t,p.bs++[σ.n],p.cs++[σ.n+1]⟩ σ':=by
 revert σ';delta σ a m N p;delta σ'
 have t:=fun x b=>h.lt x (.inr (.inr (.inr (.inr (.inl b)))))
 have v:=fun x b=>h.lt x (.inr (.inr (.inr (.inr (.inr b)))))
 have y:=h.la
 have g:=h.lbb
 have j:=h.lcc
 have c:=h.lt p.t (.inr (.inr (.inr (.inl rfl))))
 have A:=N.add_n
 have s:=h.ok.len
 have B:σ.n∉p.bs:=fun z=>absurd (t _ z) (HA _)
 have C:σ.n+1∉p.cs:=fun z=>absurd (v _ z) (l1 32534912)
 refine⟨h.ok.add,by rw [A];exact D,h.m1,(o a y h.ab.1 h.ab.2.1).trans h.inst,by rw [F,GZ];rfl,by rw [G,GZ];rfl,(o _ c h.ab.2.2.2.2.1.symm h.ab.2.2.2.2.2.symm).trans h.ct,
  by rw [GC,h.lb,A];rfl,by rw [GC,h.lc,A];rfl,fun i x l e k=>?_,fun i x l e k=>?_,jd h.nb B,jd h.nc C,fun x b f=>?_,fun x b=>?_,fun x b=>?_,h.ab,fun x b=>?_⟩
 ·delta i x l;rcases gv e with ⟨q,e⟩ |⟨q,rfl⟩<;>rcases gv k with ⟨n,k⟩ |⟨n,rfl⟩
  ·have r:=GJ e
   exact(o x (t x r) (h.fb x r).2.1 (h.fb x r).2.2.1).trans (h.cm i x l e k)
  ·rw [h.lb] at q;exact absurd n (G6 q)
  ·rw [h.lb] at q;exact absurd q (G6 n)
  ·exact H
 ·delta i x l;rcases gv e with ⟨q,e⟩ |⟨q,rfl⟩<;>rcases gv k with ⟨n,k⟩ |⟨n,rfl⟩
  ·have r:=GJ e
   exact(o x (v x r) (h.fc x r).2.1 (h.fc x r).2.2.1).trans (h.ch i x l e k)
  ·rw [h.lc, <-s] at q;exact absurd n (G6 q)
  ·rw [h.lc, <-s] at q;exact absurd q (G6 n)
  ·exact I
 ·delta x;rcases GD.mp b with b|b<;>rcases GD.mp f with f|f
  ·exact h.dj x b f
  ·have:=t x b;rw [GF.mp f] at this;exact(l1 470226950) this
  ·have:=v x f;rw [GF.mp b] at this;exact(l1 114694) this
  ·rw [GF.mp b] at f;have:=GF.mp f;exact(l1 2641461254) this
 ·rcases GD.mp b with b|b
  ·exact h.fb x b
  ·rw [GF.mp b];exact⟨HH y,HH g,HH j,HH c⟩
 ·rcases GD.mp b with b|b
  ·exact h.fc x b
  ·rw [GF.mp b];exact⟨HH (GB y),HH (GB g),HH (GB j),HH (GB c)⟩
 ·delta x;rw [E];rcases b with b|b|b|b|b|b
  ·exact GB (GB (b▸y))
  ·exact GB (GB (b▸g))
  ·exact GB (GB (b▸j))
  ·exact GB (GB (b▸c))
  ·rcases GD.mp b with b|b
   ·exact GB (GB (t x b))
   ·rw [GF.mp b];exact GB (Gx _)
  ·rcases GD.mp b with b|b
   ·exact GB (GB (v x b))
   ·rw [GF.mp b];exact Gx _
theorem o7 (F:bg u) (h:be a m N p σ) (o:N.n<m->∀B σ',be a m N.add B σ'->aH (p.ft a) σ (B.ft a) σ'->Q (.int N.n) σ') (z:m<=N.n->X σ):ae u (d+1) 102 [.ref a] Q X σ:=by
 delta u d Q X σ a m N p;refine F.call 102 _ rfl d _ Q X σ rfl ?_
 have D:(p.bs.map V.ref).length<=1000000:=by rw [GG,h.lb];exact Gz h.nm (Gz h.m1 (by decide))
 have J:(p.cs.map V.ref).length<=1000000:=by rw [GG,h.lc];exact Gz h.nm (Gz h.m1 (by decide))
 have A:∀ {C:aC},Ev C (dR 4 [0] [.ref a]) σ (.op (.attr 0) [.loc 0]) (.int m) σ:=.op (.cons (.loc rfl) .nil) (a7 h.inst rfl)
 have E:∀ {C:aC},Ev C (dR 4 [0] [.ref a]) σ (.op .len [.op (.attr 1) [.loc 0]]) (.int N.n) σ:=.op (.cons (.op (.cons (.loc rfl) .nil) (a7 h.inst rfl)) .nil) (by rw [<-h.lb, <-GG (f:=V.ref)];exact d8 (aA h.cb) D)
 by_cases r:m<=N.n
 ·refine aq (t:=Gu) (.of (v:=.bool (GI ((N.n:Int) >=m))) (.op (.cons E (.cons A .nil)) rfl) (congrArg Gq (decide_eq_true (by lia))) rfl) ?_
  exact ma A (G9 _) (by have:=h.m1;lia) (z r)
 ·refine aq (t:=Gw) (.of (v:=.bool (GI ((N.n:Int) >=m))) (.op (.cons E (.cons A .nil)) rfl) (congrArg Gq (decide_eq_false (by lia))) rfl) (ak ?_)
  have K:∀ {x},x<σ.n->(σ.alloc (.list [])).cell x=σ.cell x:=fun b=>au b
  refine aD (Ev.app (.op (.cons (.loc rfl) .nil) (a7 h.inst rfl)) (aM h.cb) (.op .nil (bP (G4 _))) (bK ((K h.lbb).trans h.cb) (GB h.lbb) D) _ _ ?_);generalize c:(σ.alloc (.list [])).set p.b _=g;delta g
  have l:g.n=σ.n+1:=by rw [<-c];rfl
  have s:∀x,x<σ.n->x≠p.b->g.cell x=σ.cell x:=fun x b j=>by rw [<-c,af j];exact au b
  have L:g.cell p.b=.list (p.bs.map .ref++[.ref σ.n]):=by rw [<-c];exact am
  have M:g.cell σ.n=.list []:=by rw [<-c,af (HH h.lbb)];exact ah
  have O:=(s a h.la h.ab.1).trans h.inst
  have G:=(s p.c h.lcc h.ab.2.2.2.1.symm).trans h.cc
  have k:p.c<g.n:=by rw [l];exact GB h.lcc
  refine aD (Ev.app (.op (.cons (.loc rfl) .nil) (a7 O rfl)) (aM G) (.op .nil (bP (G4 _))) (bK ((au k).trans G) (GB k) J) _ _ ?_);generalize i:(g.alloc (.list [])).set p.c _=n;delta n
  have H:n.n=σ.n+2:=by rw [<-i];show g.n+1=_;rw [l]
  have y:∀x,x<σ.n+1->x≠p.c->n.cell x=g.cell x:=fun x b j=>by rw [<-i,af j];exact au (l.symm▸b)
  have P:n.cell p.c=.list (p.cs.map .ref++[.ref (σ.n+1)]):=by rw [<-i, <-l];exact am
  have R:n.cell (σ.n+1)=.list []:=by rw [<-i,af (by rw [<-l];exact HH k), <-l];exact ah
  have q:=h.grow ((l2 504372225) r) H (fun x b S T=>(y x (GB b) T).trans (s x b S)) ((y _ (GB h.lbb) h.ab.2.2.2.1).trans L) P ((y _ (Gx _) (HH h.lcc)).trans M) R
  have U:=q.inst
  have W:=q.cb
  refine ax (Ev.op (.cons (.op (.cons (.op (.cons (.loc rfl) .nil) (a7 U rfl)) .nil) (d8 (aA W) (by rw [GG,q.lb,N.add_n];have:=h.m1;exact(l2 0x1b0919792801e101b09492949f87181) this r))) (.cons .const .nil)) (aF rfl) _ _ ?_)
  rw [GG,q.lb,N.add_n]
  have:=o ((l2 504372225) r) _ n q ⟨by rw [H];exact HK _ _,fun x b I=>(y x (GB b) fun e=>I (.inr (.inr (.inl e)))).trans (s x b fun e=>I (.inr (.inl e))),fun x b=>?_⟩
  ·rw [show((N.n+1:Nat):Int) - 1=N.n by lia];exact this
  ·delta x;rcases b with b|b|b|b|b|b
   ·exact .inl (.inl b)
   ·exact .inl (.inr (.inl b))
   ·exact .inl (.inr (.inr (.inl b)))
   ·exact .inl (.inr (.inr (.inr (.inl b))))
   ·rcases GD.mp b with b|b
    ·exact .inl (.inr (.inr (.inr (.inr (.inl b)))))
    ·rw [GF.mp b];exact .inr (GL _)
   ·rcases GD.mp b with b|b
    ·exact .inl (.inr (.inr (.inr (.inr (.inr b)))))
    ·rw [GF.mp b];exact .inr (Hk _)
end
section
variable {u:U} {d:Nat} {Q:V->Sg->Prop} {X:Sg->Prop} {σ:Sg} {a m:Nat} {N:NF} {p:FP}
theorem jH {l:List Nat} (h:l.Nodup) {i j x:Nat} (hi:l[i]? =Gq x) (b:l[j]? =Gq x):i=j:=
 (NV (HP.mp hi).1 h).mp (hi.trans b.symm)
theorem aH.one {P:Nat->Prop} {x:Nat} {c:Cell} (b:P x):aH P σ P (σ.set x c):=⟨GL _,fun y Z f=>af fun e=>f (e▸b),fun Z h=>.inl h⟩
theorem be.mvAt (h:be a m N p σ) {s:Nat} (c:s<N.n):∃x l,p.bs[s]? =Gq x/\N.mv[s]? =Gq l/\σ.cell x=.list (sw l)/\x∈p.bs:=by
 have f:s<p.bs.length:=h.lb▸c
 have g:s<N.mv.length:=c
 have b:=G8 f
 have e:=G8 g
 exact⟨_,_,b,e,h.cm s _ _ b e,GJ b⟩
theorem be.hpAt (h:be a m N p σ) {s:Nat} (c:s<N.n):∃x l,p.cs[s]? =Gq x/\N.hp[s]? =Gq l/\σ.cell x=.list (bA l)/\x∈p.cs:=by
 have f:s<p.cs.length:=h.lc▸c
 have g:s<N.hp.length:=h.ok.len▸c
 have b:=G8 f
 have e:=G8 g
 exact⟨_,_,b,e,h.ch s _ _ b e,GJ b⟩
theorem big {n:Nat} (h:n<=m) (b:m<=10000):n<=1000000:=Gz h (Gz b (by decide))
theorem rO {b β:Type} {f:b->β} {l:List b} {i:Nat} {x:b} (h:l[i]? =Gq x):(l.map f)[i]? =Gq (f x):=by rw [Hd,h];rfl
theorem pz (F:bg u) (h:be a m N p σ) {s g:Nat} {k:Int} (H:s<N.n) (C:k=2\/k=4) (I:g<N.n) (n:N.mv[s]? =Gq []) (b:∀σ',be a m (N.move s k g) p σ'->aH (p.ft a) σ (p.ft a) σ'->Q .none σ'):ae u (d+1) 109 [.ref a,.int s,.int k,.int g] Q X σ:=by
 revert s g k;delta u d Q X σ a m N p;delta s g k;refine F.call 109 _ rfl d _ Q X σ rfl ?_
 have J:(!(k==0))=Gu:=by rcases C with rfl|rfl<;>rfl
 obtain⟨x,l,r,D,E,c⟩:=h.mvAt H;delta x l;rw [n] at D;cases D
 have K:aJ tab .idx [.ref p.b,.int s] σ=Gq (.ref x,σ):=bC (aA h.cb) (by rw [GG,h.lb];exact big h.nm h.m1) (cY (rO r))
 have L:x<σ.n:=h.lt x (.inr (.inr (.inr (.inr (.inl c)))))
 refine aq (t:=Gu) (.of (v:=.bool (!(k==0))) (.op (.cons (.loc rfl) (.cons .const .nil)) rfl) (congrArg Gq J) rfl) ?_;refine aD (Ev.app (.op (.cons (.op (.cons (.loc rfl) .nil) (a7 h.inst rfl)) (.cons (.loc rfl) .nil)) K) (aM E) (.op (.cons (.loc rfl) (.cons (.loc rfl) .nil)) (aK (Gr rfl))) (bK E L (G4 _)) _ _ ?_);refine ak (bm (b _ ?_ (.one (.inr (.inr (.inr (.inr (.inl c))))))))
 have f:=h.fb x c
 have o:∀y,y≠x->(σ.set x (.list (sw []++[.tup [.int k,.int g]]))).cell y=σ.cell y:=fun y M=>af M
 refine⟨h.ok.move C I n,by rw [NF.move_n];exact h.nm,h.m1,(o _ f.1.symm).trans h.inst,(o _ f.2.1.symm).trans h.cb,(o _ f.2.2.1.symm).trans h.cc,(o _ f.2.2.2.symm).trans h.ct,by rw [NF.move_n];exact h.lb,by rw [NF.move_n];exact h.lc,
  fun i y l e A=>?_,fun i y l e A=>(o _ fun z=>h.dj x c (z▸GJ e)).trans (h.ch i y l e A),h.nb,h.nc,h.dj,h.fb,h.fc,h.ab,h.lt⟩
 delta i y l
 have G:(N.mv.modify s (· ++[(k,(g:Int))]))[i]? =Gq l:=A
 rw [Jf] at G;obtain⟨O,B,j⟩:=GV.mp G
 by_cases q:s=i
 ·subst q;rw [r] at e;cases e;rw [n] at B;cases B;simp only [if_true] at j;subst j;exact am
 ·simp only [if_neg q] at j;subst j;exact(o _ fun z=>q (jH h.nb (z▸r) e)).trans (h.cm i y O e B)
theorem yv {g:Nat} {l:List Nat}:(l.map fun(x:Nat)=>(x:Int)).any (· ==(g:Int))=GI (g∈l):=by
 induction l with
 |nil=>
  exact rfl
 |cons x l b=>
  rw [Hp,IY,b]
  by_cases q:g=x
  ·subst q;simp
  ·have:((x:Int) ==(g:Int))=Gw:=beq_false_of_ne fun e=>q (by lia)
   rw [this,MU];simp [q]
theorem sT (F:bg u) (h:be a m N p σ) {s g:Nat} (K:s<N.n) (L:g<N.n) (c:∀σ',be a m (N.hop s g) p σ'->aH (p.ft a) σ (p.ft a) σ'->Q .none σ'):ae u (d+1) 116 [.ref a,.int s,.int g] Q X σ:=by
 revert s g;delta u d Q X σ a m N p;delta s g;refine F.call 116 _ rfl d _ Q X σ rfl ?_;obtain⟨x,l,B,D,k,n⟩:=h.hpAt K;delta x l
 have M:aJ tab .idx [.ref p.c,.int s] σ=Gq (.ref x,σ):=bC (aA h.cc) (by rw [GG,h.lc];exact big h.nm h.m1) (cY (rO B))
 have O:x<σ.n:=h.lt x (.inr (.inr (.inr (.inr (.inr n)))))
 have P:(bA l).length<=1000000:=by rw [GG];exact big (Gz (h.ok.size (GJ D)) h.nm) h.m1
 have H:∀ {C:aC},Ev C (dR 3 [0,1,2] [.ref a,.int s,.int g]) σ (.op .idx [.op (.attr 2) [.loc 0],.loc 1]) (.ref x) σ:=.op (.cons (.op (.cons (.loc rfl) .nil) (a7 h.inst rfl)) (.cons (.loc rfl) .nil)) M
 have r:aX (.ref x) σ=Gq ((l.map fun(x:Nat)=>(x:Int)).map .int):=by rw [aA k];rw [HG];rfl
 have b:eA (ae u d) (dR 3 [0,1,2] [.ref a,.int s,.int g]) σ (.op .notIn [.loc 2,.op .idx [.op (.attr 2) [.loc 0],.loc 1]]) (!(GI (g∈l))) σ:=
  .of (v:=.bool (!(GI (g∈l)))) (.op (.cons (.loc rfl) (.cons H .nil)) (by rw [<-yv];exact wt (sK k) r)) rfl rfl
 by_cases q:g∈l
 ·rw [decide_eq_true q] at b
  have e:N.hop s g=N:=by
   unfold NF.hop
   have:N.hp.modify s (ed g)=N.hp:=by
    refine List.ext_getElem? fun i=>?_;rw [Jf]
    cases r:N.hp[i]? with
    |none=>rfl
    |some y=>
     by_cases z:s=i
     ·subst z;rw [D] at r;cases r
      show Gq (if s=s then ed g l else l)=_
      rw [if_pos rfl];unfold ed;rw [if_pos q]
     ·show Gq (if s=i then ed g y else y)=_
      rw [if_neg z]
   rw [this]
  have:=c σ (by rw [e];exact h) (.refl _ _)
  exact aq (t:=Gw) b (ak (bm this))
 ·rw [decide_eq_false q] at b;refine aq (t:=Gu) b ?_;refine aD (Ev.app H (aM k) (.loc rfl) (bK k O P) _ _ (ak (bm (c _ ?_ (.one (.inr (.inr (.inr (.inr (.inr n))))))))))
  have f:=h.fc x n
  have o:∀y,y≠x->(σ.set x (.list (bA l++[.int g]))).cell y=σ.cell y:=fun y R=>af R
  refine⟨h.ok.hop L,h.nm,h.m1,(o _ f.1.symm).trans h.inst,(o _ f.2.1.symm).trans h.cb,(o _ f.2.2.1.symm).trans h.cc,(o _ f.2.2.2.symm).trans h.ct,h.lb,h.lc,fun i y l e E=>(o y (fun z=>h.dj y (GJ e) (by rw [z];exact n))).trans (h.cm i y l e E),
   fun i y j e E=>?_,h.nb,h.nc,h.dj,h.fb,h.fc,h.ab,h.lt⟩
  delta i y j
  have I:(N.hp.modify s (ed g))[i]? =Gq j:=E
  rw [Jf] at I;obtain⟨J,G,A⟩:=GV.mp I;delta J
  by_cases z:s=i
  ·subst z;rw [B] at e;cases e;rw [D] at G;cases G;simp only [if_true] at A;subst A;rw [show bA (ed g l)=bA l++[.int g] by unfold ed;rw [if_neg q];unfold bA;rw [GZ];rfl]
   exact am
  ·simp only [if_neg z] at A;subst A;exact(o _ fun S=>z (jH h.nc (S▸B) e)).trans (h.ch i y J e G)
end
structure BR where
 N:NF
 f:Nat
 l:Nat
noncomputable def rowB (b:Tr->NF->BR):List Tr->BR->BR
 |[],r=>r
 |p::ps,r=>rowB b ps ⟨(b p r.N).N.hop r.l (b p r.N).f,r.f,(b p r.N).l⟩
noncomputable def brsB (b:Tr->NF->BR) (first:Nat):List Tr->NF->List Nat->NF×List Nat
 |[],N,c=>(N,c)
 |p::ps,N,c=>brsB b first ps ((b p N).N.hop first (b p N).f) (c++[(b p N).l])
noncomputable def hopsTo (b:Nat):List Nat->NF->NF
 |[],N=>N
 |t::c,N=>hopsTo b c (N.hop t b)
noncomputable def cu (b:Tr->NF->BR) (ps:List Tr) (N:NF):BR:=
 ⟨hopsTo (brsB b N.n ps N.add []).1.n (brsB b N.n ps N.add []).2 (brsB b N.n ps N.add []).1.add,N.n,(brsB b N.n ps N.add []).1.n⟩
noncomputable def n6 (c b:Bool) (first:Nat) (r:BR):NF:=
 let d:=((r.N.add).hop first r.f).hop r.l r.N.n
 let e:=bif b then d.hop r.l r.f else d
 bif c then e.hop first r.N.n else e
noncomputable def cg (b:NF->BR) (d c:Bool) (N:NF):BR:=⟨n6 d c N.n (b N.add),N.n,(b N.add).N.n⟩
noncomputable def lowB (b:NF->BR):Nat->NF×Nat->NF×Nat
 |0,r=>r
 |k+1,r=>lowB b k ((b r.1).N.hop r.2 (b r.1).f,(b r.1).l)
noncomputable def optB (b:NF->BR) (e:Nat):Nat->NF×Nat->NF×Nat
 |0,r=>r
 |k+1,r=>optB b e k (((b r.1).N.hop r.2 (b r.1).f).hop (b r.1).l e,(b r.1).l)
noncomputable def repN (b:NF->BR) (first:Nat) (r:NF×Nat):BR:=⟨(cg b Gu Gu r.1).N.hop r.2 (cg b Gu Gu r.1).f,first,(cg b Gu Gu r.1).l⟩
noncomputable def repS (b:NF->BR) (k first:Nat) (r:NF×Nat):BR:=⟨(optB b r.1.n k (r.1.add.hop r.2 r.1.n,r.2)).1,first,r.1.n⟩
noncomputable def kM (b:NF->BR) (lo:Nat):Option Nat->NF->BR
 |none,N=>repN b N.n (lowB b lo (N.add,N.n))
 |some hi,N=>repS b (hi - lo) N.n (lowB b lo (N.add,N.n))
noncomputable def b8 (f:NF->Nat->NF) (N:NF):BR:=⟨f N.add.add N.n,N.n,N.n+1⟩
noncomputable def bld:Nat->Tr->NF->BR
 |n+1,.cat l r,N=>match spine 22 (.cat l r) with
  |p::ps=>rowB (bld n) ps (bld n p N)
  |[]=>⟨N,0,0⟩
 |n+1,.alt l r,N=>cu (bld n) (spine 23 (.alt l r)) N
 |n+1,.star t,N=>cg (bld n t) Gu Gu N
 |n+1,.plus t,N=>cg (bld n t) Gw Gu N
 |n+1,.opt t,N=>cg (bld n t) Gu Gw N
 |n+1,.rep t lo hi,N=>kM (bld n t) lo hi N
 |_,.a,N=>b8 (fun N s=>N.move s 2 (s+1)) N
 |_,.b,N=>b8 (fun N s=>N.move s 4 (s+1)) N
 |_,.empty,N=>b8 (fun N s=>N.hop s (s+1)) N
 |_,_,N=>b8 (fun N Z=>N) N
def iO (b:NF->BR) (c:Nat):Prop:=∀N,(b N).N.n=N.n+c/\(b N).f<N.n+c/\(b N).l<N.n+c
section
variable {u:U}
structure mT (u:U) (D:Nat) (t:Tr) (b:NF->BR) (c:Nat):Prop where
 adds:iO b c
 call:∀ {Q:V->Sg->Prop} {X:Sg->Prop} {σ:Sg} {a m:Nat} {N:NF} {p:FP},be a m N p σ->(N.n+c<=m->∀p' σ',be a m (b N).N p' σ'->aH (p.ft a) σ (p'.ft a) σ'->Q (.tup [.int (b N).f,.int (b N).l]) σ')->(m<N.n+c->∀P' σ',aH (p.ft a) σ P' σ'->X σ')->ae u D 165 [.ref a,t.node,bD] Q X σ
variable {d:Nat} {Q:V->Sg->Prop} {X:Sg->Prop} {σ:Sg} {a m:Nat} {N:NF} {p:FP} {ρ:List (Option V)}
theorem fB (F:bg u) (h:be a m N p σ) {k:Nat} (f:ρ[k]? =Gq (Gq (.ref a))) (b:N.n<m->∀e σ',be a m N.add e σ'->aH (p.ft a) σ (e.ft a) σ'->Q (.int N.n) σ') (c:m<=N.n->X σ):wpE tab (ae u (d+1)) ρ (.callM 33 (.loc k) []) Q X σ:=
 w_callM (.loc f) (aw h.inst rfl rfl) .nil (o7 F h b c)
theorem cq (F:bg u) (h:be a m N p σ) {k s g:Nat} {e f:E} (i:ρ[k]? =Gq (Gq (.ref a))) (j:Ev (ae u (d+1)) ρ σ e (.int s) σ) (c:Ev (ae u (d+1)) ρ σ f (.int g) σ) (l:s<N.n) (n:g<N.n) (b:∀σ',be a m (N.hop s g) p σ'->aH (p.ft a) σ (p.ft a) σ'->Q .none σ'):
  wpE tab (ae u (d+1)) ρ (.callM 35 (.loc k) [e,f]) Q X σ:=
 w_callM (.loc i) (aw h.inst rfl rfl) (.cons j (.cons c .nil)) (sT F h l n b)
theorem yY (c b:Bool) (first:Nat) (r:BR):(n6 c b first r).n=r.N.n+1:=by
 cases c<;>cases b<;>exact NF.add_n _
theorem ig {b:NF->BR} {c:Nat} (h:iO b c) (f e:Bool):iO (cg b f e) (c+2):=fun N=>by
 have g:=(h N.add).1
 rw [NF.add_n] at g;refine⟨?_,by show N.n<_;exact(l2 7641137408),by show(b N.add).N.n<_;exact(l3 0x1d72718101c7728210) g⟩
 show(n6 f e N.n (b N.add)).n=_
 rw [yY,g];exact(l2 0x1d772810718717180)
theorem wr (F:bg u) {t:Tr} {b:NF->BR} {c:Nat} (B:mT u (d+1) t b c) (f e:Bool) (h:be a m N p σ)
  (C:N.n+(c+2)<=m->∀p' σ',be a m (cg b f e N).N p' σ'->aH (p.ft a) σ (p'.ft a) σ'->Q (.tup [.int (cg b f e N).f,.int (cg b f e N).l]) σ') (n:m<N.n+(c+2)->∀V σ',aH (p.ft a) σ V σ'->X σ'):
  ae u (d+2) 186 [.ref a,t.node,bD,.bool f,.bool e] Q X σ:=by
 revert t b c f e;delta u d Q X σ a m N p;revert f e;delta t b c;delta f e;refine F.call 186 _ rfl (d+1) _ Q X σ rfl ?_;refine w_asg (fB F h rfl (fun Z D o E j=>aB rfl ?_) fun q=>n ((l3 476096175964688) q) _ _ (.refl _ _));delta D o;obtain⟨r,a2,a3⟩:=B.adds N.add;rw [NF.add_n] at r a2 a3;refine w_asg (az (.cons (.loc rfl) (.cons (.loc rfl) (.cons (.loc rfl) .nil))) (B.call E (fun Z G s H l=>aB rfl ?_) fun q V σ' S'=>n (by rw [NF.add_n] at q;exact(l3 0x1c72718101c7728210) q) V σ' (j.trans S')))
 delta G s;refine w_asg (fB F H rfl (fun q3 I v J K=>aB rfl ?_) fun q=>n ((l4 0x1d72718101b031c7728213) r q) _ _ (j.trans l));delta I v
 have U:=NF.add_n (b N.add).N
 have W:N.n<(b N.add).N.add.n:=(l4 0x9d72718109d718031c31) r U
 have Y:(b N.add).N.n<(b N.add).N.add.n:=(l3 0x9d718100d211c01) U r
 have hh:(b N.add).f<(b N.add).N.add.n:=(l4 0x1c109d129d718231c30) a2 r U
 have ht:(b N.add).l<(b N.add).N.add.n:=(l4 0x1c109d129d718231c30) a3 r U
 refine aD (cq F J rfl (.loc rfl) (.loc rfl) W hh fun y L M=>?_);delta y;refine aD (cq F L rfl (.loc rfl) (.loc rfl) ht Y fun z k O=>?_);delta z
 have S:=(((j.trans l).trans K).trans M).trans O
 have P:=C ((l4 0x1c109d73718201b1772832) q3 r)
 cases e with
 |false=>
  refine aq (t:=Gw) (.of (.loc rfl) rfl rfl) (ak ?_)
  cases f with
  |false=>
   refine aq (t:=Gw) (.of (.loc rfl) rfl rfl) (ak ?_);exact ax (Ev.op (.cons (.loc rfl) (.cons (.loc rfl) .nil)) (aK (Gr rfl)) _ _ (P _ _ k S))
  |true=>
   refine aq (t:=Gu) (.of (.loc rfl) rfl rfl) (aD (cq F k rfl (.loc rfl) (.loc rfl) W Y fun A g i=>ak ?_));exact ax (Ev.op (.cons (.loc rfl) (.cons (.loc rfl) .nil)) (aK (Gr rfl)) _ _ (P _ _ g (S.trans i)))
 |true=>
  refine aq (t:=Gu) (.of (.loc rfl) rfl rfl) (aD (cq F k rfl (.loc rfl) (.loc rfl) ht hh fun A g i=>ak ?_))
  cases f with
  |false=>
   refine aq (t:=Gw) (.of (.loc rfl) rfl rfl) (ak ?_);exact ax (Ev.op (.cons (.loc rfl) (.cons (.loc rfl) .nil)) (aK (Gr rfl)) _ _ (P _ _ g (S.trans i)))
  |true=>
   refine aq (t:=Gu) (.of (.loc rfl) rfl rfl) (aD (cq F g rfl (.loc rfl) (.loc rfl) W Y fun b' R T=>ak ?_));exact ax (Ev.op (.cons (.loc rfl) (.cons (.loc rfl) .nil)) (aK (Gr rfl)) _ _ (P _ _ R ((S.trans i).trans T)))
end
section
variable {u:U} {d:Nat} {Q:V->Sg->Prop} {X:Sg->Prop} {σ:Sg} {a m:Nat} {N:NF} {p:FP}
theorem aH.other {P c:Nat->Prop} {σ σ':Sg} (S:aH P σ c σ') {x:Nat} (b:x<σ.n) (hp:¬P x):¬c x/\σ'.cell x=σ.cell x/\x<σ'.n:=
 ⟨fun z=>(S.foot x z).elim hp fun h=>absurd b (HN.mpr h),S.keep x b hp,GN b S.n⟩
def qR (u:U) (D:Nat) (b:Tr->NF->BR) (c:Tr->Nat) (ps:List Tr):Prop:=∀t∈ps,mT u D t (b t) (c t)
theorem tK {b:Tr->NF->BR} {c:Tr->Nat} {ps:List Tr}:∀(r:BR),(∀t∈ps,iO (b t) (c t))->r.f<r.N.n->r.l<r.N.n->(rowB b ps r).N.n=r.N.n+(ps.map c).sum/\(rowB b ps r).f<r.N.n+(ps.map c).sum/\(rowB b ps r).l<r.N.n+(ps.map c).sum:=by
 induction ps with
 |nil=>
  intro r _ f i;exact⟨rfl,f,i⟩
 |cons t ps e=>
  intro r h f i;obtain⟨g,l,j⟩:=h t (.head _) r.N
  have e:=e ⟨(b t r.N).N.hop r.l (b t r.N).f,r.f,(b t r.N).l⟩ (fun x k=>h x (.tail _ k)) (by show r.f<(b t r.N).N.n;exact(l4 7899567774374944) f g) (by show(b t r.N).l<(b t r.N).N.n;exact(l3 30857680264224) j g)
  rw [Hp,H7];rw [show((b t r.N).N.hop r.l (b t r.N).f).n=r.N.n+c t from g,IZ] at e
  exact e
inductive RowI (a m:Nat) (b:Tr->NF->BR) (c:Tr->Nat) (ps:List Tr) (R:BR) (σ₀:Sg) (P₀:Nat->Prop) (tl n₀:Nat) (v1:V):List V->List (Option V)->Sg->Prop where
 |mk (xs ys:List Tr) (y5 y6 y7:Option V) (r:BR) (p:FP) (σ:Sg) (e:ps=xs++ys) (eR:rowB b ys r=R) (hf:r.f<r.N.n) (hl:r.l<r.N.n) (en:r.N.n+(ys.map c).sum=n₀) (h:be a m r.N p σ) (S:aH P₀ σ₀ (p.ft a) σ) (ht:tl<σ.n) (hp:¬(p.ft a tl)) (hc:σ.cell tl=.list (ps.map Tr.node)):
  RowI a m b c ps R σ₀ P₀ tl n₀ v1 (ys.map Tr.node) [Gq (.ref a),Gq v1,Gq bD,Gq (.int r.f),Gq (.int r.l),y5,y6,y7,Gs] σ
theorem DP (F:bg u) {b:Tr->NF->BR} {c:Tr->Nat} {t:Tr} {ps:List Tr} (B:qR u (d+1) b c (t::ps)) (G:(t::ps).length<=1000) (h:be a m N p σ)
  (n:N.n+((t::ps).map c).sum<=m->∀p' σ',be a m (rowB b ps (b t N)).N p' σ'->aH (p.ft a) σ (p'.ft a) σ'->Q (.tup [.int (rowB b ps (b t N)).f,.int (rowB b ps (b t N)).l]) σ') (A:m<N.n+((t::ps).map c).sum->∀P' σ',aH (p.ft a) σ P' σ'->X σ'):
  ae u (d+2) 172 [.ref a,.lst ((t::ps).map Tr.node),bD] Q X σ:=by
 revert b c t ps;delta u d Q X σ a m N p;delta b c t ps;refine F.call 172 _ rfl (d+1) _ Q X σ rfl ?_
 have E:((t::ps).map Tr.node).length<=1000000:=by rw [GG];exact Gz G (by decide)
 have Bt:=B t (.head _)
 obtain⟨a1,a2,a3⟩:=Bt.adds N;rw [Hp,H7] at n A;refine w_asg (az (.cons (.loc rfl) (.cons (.op (.cons (.loc rfl) (.cons .const .nil)) (bC rfl E rfl)) (.cons (.loc rfl) .nil))) (Bt.call h (fun Z k j o H=>aB rfl ?_) fun q=>A ((l4 8006712870515216) q)));delta k j;refine bL (Ev.op (.cons (.loc rfl) .nil) (yZ E) _ _ ?_)
 have ne:∀x,k.ft a x->x≠j.n:=fun x hx e=>absurd (o.lt x hx) (by rw [e];exact HA _)
 refine bG (RowI a m b c ps (rowB b ps (b t N)) σ (p.ft a) j.n (N.n+(c t+(ps.map c).sum)) (.lst ((t::ps).map Tr.node))) (aA ah)
  (.mk [] ps _ _ _ (b t N) k _ rfl rfl ((l3 30857680264224) a2 a1) ((l3 30857680264224) a3 a1) ((l4 0x1d72101d77321730) a1) (o.ext (.alloc _ _)) (H.trans (.ext (.alloc _ _))) (Gx _) (fun z=>ne _ z rfl) ah)
  (fun r ρ σ' h=>by cases h with|mk _ _ _ _ _ _ _ _ _ _ _ _ _ _ _ U _ W=>exact⟨U,W⟩) (fun v r ρ σ' K' I hK Z=>?_) (fun ρ σ' I=>?_)
 ·delta v r ρ σ' K';generalize J:v::r=z at I;delta z
  cases I with
  |mk xs s y5 y6 y7 f l _ e Y hf E C g i U hp W=>
   injections xs s y5 y6 y7 f l;intro e Y hf E C hp J g i
   cases s with
   |nil=>cases J
   |cons y s=>
    delta y s;cases J;refine⟨_,rfl,?_⟩
    have By:=B y (List.mem_cons_of_mem _ (by rw [e];simp))
    obtain⟨K,b2,b3⟩:=By.adds f.N;rw [Hp,H7] at C;refine w_asg (az (.cons (.loc rfl) (.cons (.loc rfl) (.cons (.loc rfl) .nil))) (By.call g (fun Z L b' M O=>aB rfl ?_) fun q P' R S'=>A ((l5 0x1d3772101c71041c34) C q) P' R (i.trans S')));refine aD (cq F M rfl (.loc rfl) (.loc rfl) ((l4 7899567774374944) E K) ((l3 30857680264224) b2 K) fun D S T=>?_)
    have S':=O.trans T
    obtain⟨o1,o2,o3⟩:=S'.other U hp;refine ar (.loc rfl) rfl (ak (hK _ _ (.mk (xs++[y]) s _ _ _ ⟨(b y f.N).N.hop f.l (b y f.N).f,f.f,(b y f.N).l⟩ L D (by rw [e,GK];rfl) Y (by show f.f<(b y f.N).N.n;exact(l4 7899567774374944) hf K) (by show(b y f.N).l<(b y f.N).N.n;exact(l3 30857680264224) b3 K) (by show(b y f.N).N.n+_=_;exact(l5 0x1d3772101d71041d3724) C K) S (i.trans S') o3 o1 (o2.trans W))).1)
 ·generalize J:([]:List V)=z at I
  cases I with
  |mk xs s y5 y6 y7 f l _ e Y hf E C g i U hp W=>
   cases s with
   |cons y s=>cases J
   |nil=>
    have C:f.N.n+0=N.n+(c t+(ps.map c).sum):=C
    have P:=n (by have:=g.nm;lia) l σ'
    rw [<-Y] at P;exact ax (Ev.op (.cons (.loc rfl) (.cons (.loc rfl) .nil)) (aK (Gr rfl)) _ _ (P g i))
end
section
variable {u:U} {d:Nat} {Q:V->Sg->Prop} {X:Sg->Prop} {σ:Sg} {a m:Nat} {N:NF} {p:FP}
theorem nP {b:Tr->NF->BR} {c:Tr->Nat} {first:Nat} {ps:List Tr}:∀(N:NF) (f:List Nat),(∀t∈ps,iO (b t) (c t))->(∀t∈f,t<N.n)->(brsB b first ps N f).1.n=N.n+(ps.map c).sum/\∀t∈(brsB b first ps N f).2,t<N.n+(ps.map c).sum:=by
 induction ps with
 |nil=>
  intro N f _ h;exact⟨rfl,h⟩
 |cons t ps g=>
  intro N f h j;obtain⟨k,n,l⟩:=h t (.head _) N
  have i:((b t N).N.hop first (b t N).f).n=N.n+c t:=k
  have g:=g ((b t N).N.hop first (b t N).f) (f++[(b t N).l]) (fun x e=>h x (.tail _ e)) fun x e=>by
   rw [i];rcases GD.mp e with e|e
   ·exact GN (j x e) (HK _ _)
   ·rw [GF.mp e];exact l
  rw [Hp,H7];rw [i,IZ] at g;exact g
theorem wX (b:Nat) (c:List Nat):∀(N:NF),(hopsTo b c N).n=N.n:=by
 induction c with
 |nil=>
  intro N;exact rfl
 |cons t c e=>
  intro N;exact e (N.hop t b)
theorem oH {b:Tr->NF->BR} {c:Tr->Nat} {ps:List Tr} (h:∀t∈ps,iO (b t) (c t)):iO (cu b ps) ((ps.map c).sum+2):=fun N=>by
 obtain⟨e,f⟩:=nP (first:=N.n) N.add [] h (fun Z h=>nomatch h);rw [NF.add_n] at e;refine⟨?_,by show N.n<_;exact(l2 7641137408),by show(brsB b N.n ps N.add []).1.n<_;exact(l3 0x1d72718101c7728210) e⟩
 show(hopsTo _ _ _).n=_
 rw [wX,NF.add_n,e];exact(l2 0x1d772810718717180)
inductive ChoI (a m:Nat) (b:Tr->NF->BR) (c:Tr->Nat) (first:Nat) (ps:List Tr) (R:NF×List Nat) (σ₀:Sg) (P₀:Nat->Prop) (tl n₀:Nat) (v1:V):List V->List (Option V)->Sg->Prop where
 |mk (xs ys:List Tr) (y5 y6 y7:Option V) (N:NF) (ts:List Nat) (p:FP) (σ:Sg) (e:ps=xs++ys) (eR:brsB b first ys N ts=R) (hf:first<N.n) (ht:∀t∈ts,t<N.n) (el:ts.length+ys.length<=1000) (en:N.n+(ys.map c).sum=n₀) (h:be a m N p σ) (S:aH P₀ σ₀ (p.ft a) σ) (hl:tl<σ.n) (hp:¬(p.ft a tl)) (hc:σ.cell tl=.list (bA ts)):
  ChoI a m b c first ps R σ₀ P₀ tl n₀ v1 (ys.map Tr.node) [Gq (.ref a),Gq v1,Gq bD,Gq (.int first),Gq (.ref tl),y5,y6,y7,Gs,Gs] σ
inductive HopI (a m last first:Nat) (T:List Nat) (R:NF) (σ₀:Sg) (P₀:Nat->Prop) (tl n₀:Nat) (v1:V):List V->List (Option V)->Sg->Prop where
 |mk (xs ys:List Nat) (y5 y6 y7:Option V) (N:NF) (p:FP) (σ:Sg) (e:T=xs++ys) (eR:hopsTo last ys N=R) (hl:last<N.n) (en:N.n=n₀) (h:be a m N p σ) (S:aH P₀ σ₀ (p.ft a) σ) (hl:tl<σ.n) (hp:¬(p.ft a tl)) (hc:σ.cell tl=.list (bA T)):
  HopI a m last first T R σ₀ P₀ tl n₀ v1 (bA ys) [Gq (.ref a),Gq v1,Gq bD,Gq (.int first),Gq (.ref tl),y5,y6,y7,Gq (.int last),Gs] σ
theorem tT (F:bg u) {b:Tr->NF->BR} {c:Tr->Nat} {ps:List Tr} (B:qR u (d+1) b c ps) (S:ps.length<=1000) (h:be a m N p σ)
  (T:N.n+((ps.map c).sum+2)<=m->∀p' σ',be a m (cu b ps N).N p' σ'->aH (p.ft a) σ (p'.ft a) σ'->Q (.tup [.int (cu b ps N).f,.int (cu b ps N).l]) σ') (b':m<N.n+((ps.map c).sum+2)->∀P' σ',aH (p.ft a) σ P' σ'->X σ'):
  ae u (d+2) 179 [.ref a,.lst (ps.map Tr.node),bD] Q X σ:=by
 revert b c ps;delta u d Q X σ a m N p;delta b c ps;refine F.call 179 _ rfl (d+1) _ Q X σ rfl ?_
 have hl:(ps.map Tr.node).length<=1000000:=by rw [GG];exact Gz S (by decide)
 refine w_asg (fB F h rfl (fun Z E j U W=>aB rfl ?_) fun q=>b' ((l3 476096175964688) q) _ _ (.refl _ _));delta E j;refine ar (.op .nil (bP (G4 _))) rfl ?_
 have ne:∀x,E.ft a x->x≠j.n:=fun x hx e=>absurd (U.lt x hx) (by rw [e];exact HA _)
 have nn:=NF.add_n N
 obtain⟨t1,t2⟩:=nP (first:=N.n) N.add [] (fun t ht=>(B t ht).adds) (fun Z h=>nomatch h);generalize hR:brsB b N.n ps N.add []=R at t1 t2;delta R
 have eN:(cu b ps N)=⟨hopsTo R.1.n R.2 R.1.add,N.n,R.1.n⟩:=by unfold cu;rw [hR]
 rw [eN] at T;refine bL (Ev.loc rfl _ _ ?_)
 refine bG (ChoI a m b c N.n ps R σ (p.ft a) j.n (N.n+1+(ps.map c).sum) (.lst (ps.map Tr.node))) rfl
  (.mk [] ps Gs Gs Gs N.add [] E _ rfl hR ((l2 0x9d718101c01) nn) (fun Z h=>nomatch h) (by simpa using S) ((l3 31955050698528) nn) (U.ext (.alloc _ _)) (W.trans (.ext (.alloc _ _))) (Gx _) (fun z=>ne _ z rfl) ah)
  (fun Z Z Z Z=>trivial) (fun v r ρ σ' K' G hK Z=>?_) (fun ρ σ' G=>?_)
 ·delta v r ρ σ' K';generalize M:v::r=z at G;delta z
  cases G with
  |mk xs o y5 y6 y7 f H k _ e I hf ht el L i g D hp O=>
   delta xs o y5 y6 y7 f H k
   cases o with
   |nil=>cases M
   |cons y o=>
    delta y o;cases M;refine⟨_,rfl,?_⟩
    have By:=B y (by rw [e];simp)
    obtain⟨b1,b2,b3⟩:=By.adds f;rw [Hp,H7] at L;rw [HC] at el;refine w_asg (az (.cons (.loc rfl) (.cons (.loc rfl) (.cons (.loc rfl) .nil))) (By.call i (fun Z n l J A=>aB rfl ?_) fun q P' c' S'=>b' ((l6 0x1d747183772101c71051c7728435) L q) P' c' (g.trans S')));delta n l;refine aD (cq F J rfl (.loc rfl) (.loc rfl) ((l4 7899567774374944) hf b1) ((l3 30857680264224) b2 b1) fun s K C=>?_);delta s
    have S':=A.trans C
    obtain⟨o1,o2,o3⟩:=S'.other D hp
    have d':=o2.trans O
    have e':(bA H).length<=1000000:=by rw [GG];exact(l2 0x1b89e9387101b09492949f80) el
    refine aD (Ev.app (.loc rfl) (aM d') (.loc rfl) (bK d' o3 e') _ _ (ak (hK _ _ (.mk (xs++[y]) o _ _ _ ((b y f).N.hop N.n (b y f).f) (H++[(b y f).l]) n (s.set j.n (.list (bA H++[V.int (((b y f).l:Nat):Int)]))) (by rw [e,GK];rfl) I ?_ ?_ ?_ ?_ (K.keep (GL _) fun x hx=>af (fun e=>o1 (by rw [<-e];exact hx))) ⟨(g.trans S').n,fun x hx f'=>?_,(g.trans S').foot⟩ o3 o1 ?_)).1))
    ·show N.n<(b y f).N.n;exact(l4 7899567774374944) hf b1
    ·intro t g'
     show t<(b y f).N.n
     rcases GD.mp g' with h|h
     ·have u1:=ht t h;exact(l4 7899567774374944) u1 b1
     ·rw [GF.mp h,b1];exact b3
    ·simp only [GC,HC,Jx];exact(l2 0x1b89e9387718101b89e938717718080) el
    ·show(b y f).N.n+_=_;exact(l5 0x1d3772101d71041d3724) L b1
    ·rw [af (fun e=>by rw [e] at hx;exact absurd hx (HN.mpr W.n))]
     exact(g.trans S').keep x hx f'
    ·unfold bA;rw [GZ];exact am
 ·delta ρ σ';generalize M:([]:List V)=z at G;delta z
  cases G with
  |mk xs o y5 y6 y7 f H k _ e I hf ht el L i g D hp O=>
   delta xs o y5 y6 y7 f H k
   cases o with
   |cons y o=>cases M
   |nil=>
    have I:(f,H)=R:=I
    have L:f.n+0=N.n+1+(ps.map c).sum:=L
    subst I;refine w_asg (fB F i rfl (fun q3 n l J A=>aB rfl ?_) fun q=>b' (by lia) _ _ g)
    delta n l;obtain⟨o1,o2,o3⟩:=A.other D hp
    have n3:=NF.add_n f
    refine bL (Ev.loc rfl _ _ ?_)
    refine bG (HopI a m f.n N.n H (hopsTo f.n H f.add) σ (p.ft a) j.n (f.n+1) (.lst (ps.map Tr.node))) (aA (o2.trans O)) (.mk [] H _ _ _ f.add n l rfl rfl ((l2 0x9d718101c01) n3) n3 J (g.trans A) o3 o1 (o2.trans O))
     (fun r ρ σ' h=>by cases h with|mk _ _ _ _ _ _ _ _ _ _ _ _ _ _ hl _ O=>exact⟨hl,O⟩) (fun v r ρ σ' K' G hK Z=>?_) (fun ρ σ' G=>?_)
    ·generalize M:v::r=z at G
     cases G with
     |mk xs o y5 y6 y7 Y k _ e I hl L i g D hp O=>
      cases o with
      |nil=>cases M
      |cons y o=>
       cases M;refine⟨_,rfl,?_⟩
       have hy:y<f.n:=ht y (by rw [e];simp)
       refine aD (cq F i rfl (.loc rfl) (.loc rfl) ((l3 0x1c109d718121c20) hy L) hl fun s K C=>ak (hK _ _ ?_).1);obtain⟨o1,o2,o3⟩:=C.other D hp;exact .mk (xs++[y]) o _ _ _ _ _ _ (by rw [e,GK];rfl) I hl L K (g.trans C) o3 o1 (o2.trans O)
    ·generalize M:([]:List V)=z at G
     cases G with
     |mk xs o y5 y6 y7 Y k _ e I hl L i g D hp O=>
      cases o with
      |cons y o=>cases M
      |nil=>
       have I:Y=hopsTo f.n H f.add:=I
       have P:=T (by have u2:=i.nm;lia) k σ'
       rw [<-I] at P;exact ax (Ev.op (.cons (.loc rfl) (.cons (.loc rfl) .nil)) (aK (Gr rfl)) _ _ (P i g))
end
section
variable {u:U} {d:Nat} {Q:V->Sg->Prop} {X:Sg->Prop} {σ:Sg} {a m:Nat} {N:NF} {p:FP}
theorem ox {b:NF->BR} {c:Nat} (h:iO b c) (k:Nat):∀(r:NF×Nat),r.2<r.1.n->(lowB b k r).1.n=r.1.n+k * c/\(lowB b k r).2<(lowB b k r).1.n:=by
 induction k with
 |zero=>
  intro r e;exact⟨by rw [Jq];rfl,e⟩
 |succ k g=>
  intro r e;obtain⟨f,n,i⟩:=h r.1;obtain⟨j,l⟩:=g ((b r.1).N.hop r.2 (b r.1).f,(b r.1).l) (by show(b r.1).l<(b r.1).N.n;exact(l3 30857680264224) i f)
  refine⟨?_,l⟩;rw [HX,Ib (k * c), <-IZ, <-f];exact j
theorem wE {b:NF->BR} {c e:Nat} (h:iO b c) (k:Nat):∀(r:NF×Nat),(optB b e k r).1.n=r.1.n+k * c:=by
 induction k with
 |zero=>
  intro r;rw [Jq];rfl
 |succ k f=>
  intro r
  have g:=f (((b r.1).N.hop r.2 (b r.1).f).hop (b r.1).l e,(b r.1).l)
  rw [HX,Ib (k * c), <-IZ, <-(h r.1).1];exact g
noncomputable def iK (c lo:Nat):Option Nat->Nat
 |none=>3+(lo+1) * c
 |some hi=>2+hi * c
theorem iq (c lo:Nat):iK c lo Gs=3+(lo+1) * c:=rfl
theorem iy (c lo k:Nat):iK c lo (Gq k)=2+k * c:=rfl
theorem oV {b:NF->BR} {c lo:Nat} {hi:Option Nat} (h:iO b c) (i:∀k,hi=Gq k->lo<=k):iO (kM b lo hi) (iK c lo hi):=fun N=>by
 obtain⟨f,n⟩:=ox h lo (N.add,N.n) (by rw [NF.add_n];exact Gx _)
 rw [show((N.add,N.n):NF×Nat).1.n=N.n+1 from NF.add_n N] at f
 cases hi with
 |none=>
  obtain⟨j,o,g⟩:=ig h Gu Gu (lowB b lo (N.add,N.n)).1
  have e:iK c lo Gs=lo * c+c+3:=by rw [iq,HX];lia
  refine⟨?_,?_,?_⟩
  ·show(cg b Gu Gu (lowB b lo (N.add,N.n)).1).N.n=_
   rw [j,f,e];exact(l3 0x1d7738721077282717180)
  ·show N.n<_
   rw [e];lia
  ·show(cg b Gu Gu (lowB b lo (N.add,N.n)).1).l<_
   rw [f] at g;rw [e];exact(l4 0x1c7728372718101c773873210) g
 |some k=>
  have l:=i k rfl
  have e:iK c lo (Gq k)=lo * c+(k - lo) * c+2:=by
   rw [iy, <-Md,Jt l];lia
  refine⟨?_,?_,?_⟩
  ·show(optB b _ (k - lo) _).1.n=_
   rw [wE h]
   show((lowB b lo (N.add,N.n)).1.add.n)+_=_
   rw [NF.add_n,f,e];exact(l3 0x1d7728721072718717180)
  ·show N.n<_
   rw [e];lia
  ·show(lowB b lo (N.add,N.n)).1.n<_
   rw [f,e];exact(l3 0x1c77287210717180)
inductive LowI (a m:Nat) (b:NF->BR) (c lo first:Nat) (R:NF×Nat) (σ₀:Sg) (P₀:Nat->Prop) (n₀:Nat) (v1:V):List V->List (Option V)->Sg->Prop where
 |mk (k j:Nat) (y5 y6 y7:Option V) (N:NF) (l:Nat) (p:FP) (σ:Sg) (e:k+j=lo) (eR:lowB b j (N,l)=R) (hl:l<N.n) (en:N.n+j * c=n₀) (h:be a m N p σ) (S:aH P₀ σ₀ (p.ft a) σ):
  LowI a m b c lo first R σ₀ P₀ n₀ v1 ((aZ lo).drop k) [Gq (.ref a),Gq v1,Gq bD,Gq (.int first),Gq (.int l),y5,y6,y7,Gs,Gs,Gs,Gs] σ
inductive OptI (a m:Nat) (b:NF->BR) (c lo first e:Nat) (R:NF) (σ₀:Sg) (P₀:Nat->Prop) (n₀:Nat) (v1:V):List V->List (Option V)->Sg->Prop where
 |mk (k j:Nat) (y5 y6 y7:Option V) (N:NF) (l:Nat) (p:FP) (σ:Sg) (ej:k+j=lo) (eR:(optB b e j (N,l)).1=R) (hl:l<N.n) (he:e<N.n) (en:N.n+j * c=n₀) (h:be a m N p σ) (S:aH P₀ σ₀ (p.ft a) σ):
  OptI a m b c lo first e R σ₀ P₀ n₀ v1 ((aZ lo).drop k) [Gq (.ref a),Gq v1,Gq bD,Gq (.int first),Gq (.int l),y5,y6,y7,Gq (.int e),Gs,Gs,Gs] σ
theorem dw {lo k j:Nat} {v:V} {r:List V} (c:v::r=(aZ lo).drop k) (e:k+j=lo):v=.int k/\r=(aZ lo).drop (k+1)/\∃b,j=b+1/\k+1+b=lo:=by
 obtain⟨⟨f,i⟩,g⟩:=dM c
 cases j with
 |zero=>lia
 |succ j=>exact⟨f,g,j,rfl,(l3 0x1d27718101d2717180) e⟩
theorem dp {lo k j:Nat} (b:([]:List V)=(aZ lo).drop k) (e:k+j=lo):j=0:=by
 have:=gb b
 simp only [I7] at this;exact IE ((l3 0x1d17021b211b080) e this) ((l1 110600))
theorem wo (F:bg u) {t:Tr} {b:NF->BR} {c lo:Nat} {hi:Option Nat} (B:mT u (d+2) t b c) (i':lo<=1000) (hh:∀k,hi=Gq k->lo<=k/\k<=1000) (h:be a m N p σ)
  (U:N.n+iK c lo hi<=m->∀p' σ',be a m (kM b lo hi N).N p' σ'->aH (p.ft a) σ (p'.ft a) σ'->Q (.tup [.int (kM b lo hi N).f,.int (kM b lo hi N).l]) σ') (O:m<N.n+iK c lo hi->∀P' σ',aH (p.ft a) σ P' σ'->X σ'):
  ae u (d+4) 193 [.ref a,(Tr.rep t lo hi).node,bD] Q X σ:=by
 revert t b c lo hi;delta u d Q X σ a m N p;delta t b c lo hi
 have B':mT u (d+3) t b c:=⟨B.adds,fun h p e=>(B.call h p e).up (Hk _)⟩
 have RA:=oV (lo:=lo) B.adds (fun k e=>(hh k e).1) N
 obtain⟨l1,l2⟩:=ox B.adds lo (N.add,N.n) (by rw [NF.add_n];exact Gx _)
 rw [show((N.add,N.n):NF×Nat).1.n=N.n+1 from NF.add_n N] at l1
 have c':N.n+1+lo * c<N.n+iK c lo hi:=by
  cases hi with
  |none=>rw [iq,HX];exact(l3 0x1c77721380717180)
  |some k=>
   have u1:=J4 c (hh k rfl).1
   rw [iy];lia
 refine F.call 193 _ rfl (d+3) _ Q X σ rfl ?_;refine w_asg (fB F h rfl (fun Z W R d' e'=>aB rfl ?_) fun q=>O ((l4 0x1c27171801b031c23) c' q) _ _ (.refl _ _));delta W R;refine ar (.loc rfl) rfl ?_
 have Y:∀ {ρ:List (Option V)} {σ:Sg} {n:Nat} {v:V},ρ[1]? =Gq (Gq (Tr.rep t lo hi).node)->eQ tab 862 n [(18,t.node),(19,.int lo),(20,zU hi)]=Gq v->Ev (ae u (d+3)) ρ σ (.op (.attr n) [.loc 1]) v σ:=fun h e=>bM (.loc h) rfl e
 refine dO (Y (v:=.int lo) rfl rfl _ _ ?_)
 have nn:=NF.add_n N
 refine cO (LowI a m b c lo N.n (lowB b lo (N.add,N.n)) σ (p.ft a) (N.n+1+lo * c) (Tr.rep t lo hi).node) (G9 _) (by lia) (.mk 0 lo Gs Gs Gs N.add N.n W R (IG _) rfl (by lia) (((l3 32023770113808) nn)) d' e') (fun v r ρ σ' K' M hK Z=>?_) (fun ρ σ' M=>?_)
 ·generalize T:v::r=z at M
  cases M with
  |mk k j y5 y6 y7 f l H _ e eR hl en o i=>
   obtain⟨rfl,rfl,j,rfl,ej⟩:=dw T e;obtain⟨S,b2,b3⟩:=B.adds f;rw [HX] at en;refine w_asg (az (.cons (.loc rfl) (.cons (Y rfl rfl) (.cons (.loc rfl) .nil))) (B'.call o (fun Z y G A C=>aB rfl ?_) fun q P' I S'=>O ((l6 0x1d3772101c431c72051c45) en c' q) P' I (i.trans S')));refine aD (cq F A rfl (.loc rfl) (.loc rfl) ((l4 7899567774374944) hl S) ((l3 30857680264224) b2 S) fun s D E=>?_);exact ar (.loc rfl) rfl (ak (hK _ _ (.mk (k+1) j _ _ _ ((b f).N.hop l (b f).f) (b f).l y s ej eR (by show(b f).l<(b f).N.n;exact(l3 30857680264224) b3 S) (by show(b f).N.n+_=_;exact(l5 0x1d3772101d72041d3714) en S) D ((i.trans C).trans E))).1)
 ·delta ρ σ';generalize T:([]:List V)=z at M;delta z
  cases M with
  |mk k j y5 y6 y7 f l H _ e eR hl en o i=>
   delta k j y5 y6 y7 f l H;obtain rfl:=dp T e
   have eR:(f,l)=lowB b lo (N.add,N.n):=eR
   have en:f.n=N.n+1+lo * c:=by rw [Jq] at en;exact en
   cases hi with
   |none=>
    refine aq (t:=Gu) (.of (.op (.cons (Y rfl rfl) .nil) rfl) rfl rfl) ?_
    have eC:iK c lo Gs=lo * c+c+3:=by rw [iq,HX];lia
    obtain⟨q1,q2,q3⟩:=ig B.adds Gu Gu f;refine w_asg (az (.cons (.loc rfl) (.cons (Y rfl rfl) (.cons (.loc rfl) (.cons .const (.cons .const .nil))))) (wr F (d:=d+1) B Gu Gu o (fun Z y G A C=>aB rfl ?_) fun q P' I S'=>O (by lia) P' I (i.trans S')))
    refine aD (cq F A rfl (.loc rfl) (.loc rfl) (by lia) (by lia) fun s D E=>?_)
    have P:=U (by lia)
    rw [show kM b lo Gs N=repN b N.n (lowB b lo (N.add,N.n)) from rfl, <-eR] at P
    exact ax (Ev.op (.cons (.loc rfl) (.cons (.loc rfl) .nil)) (aK (Gr rfl)) _ _ (P _ _ D ((i.trans C).trans E)))
   |some hi=>
    delta hi;obtain⟨k1,k2⟩:=hh hi rfl
    have eC:iK c lo (Gq hi)=lo * c+(hi - lo) * c+2:=by
     rw [iy, <-Md,Jt k1];lia
    refine aq (t:=Gw) (.of (.op (.cons (Y rfl rfl) .nil) rfl) rfl rfl) (ak ?_);refine w_asg (fB F o rfl (fun Z y G A C=>aB rfl ?_) fun q=>O (by lia) _ _ i)
    delta y G
    have n3:=NF.add_n f
    refine aD (cq F A rfl (.loc rfl) (.loc rfl) (by lia) (by lia) fun s D E=>?_)
    delta s
    have es:(hi:Int) - lo=((hi - lo:Nat):Int):=by lia
    refine dO (Ev.op (.cons (Y (v:=.int hi) rfl rfl) (.cons (Y (v:=.int lo) rfl rfl) .nil)) (aF (op:=.sub) (r:=((hi - lo:Nat):Int)) (congrArg Gq es)) _ _ ?_)
    refine cO (OptI a m b c (hi - lo) N.n f.n (optB b f.n (hi - lo) (f.add.hop l f.n,l)).1 σ (p.ft a) (N.n+iK c lo (Gq hi)) (Tr.rep t lo (Gq hi)).node) (G9 _) (by lia)
     (.mk 0 (hi - lo) _ _ _ (f.add.hop l f.n) l y s (IG _) rfl (by show l<f.add.n;lia) (by show f.n<f.add.n;lia) (by show f.add.n+_=_;lia) D ((i.trans C).trans E)) (fun v r ρ σ' K' M hK Z=>?_) (fun ρ σ' M=>?_)
    ·delta v r ρ σ' K';generalize T:v::r=z at M;injections z;intro T M
     cases M with
     |mk k j y5 y6 y7 g L H _ e K hl he J o i=>
      injections k j y5 y6 y7 g L H;intro e K hl he J T o i;obtain⟨rfl,rfl,j,rfl,ej⟩:=dw T e;injections j;intro ej e K J;obtain⟨S,b2,b3⟩:=B.adds g;rw [HX] at J;refine w_asg (az (.cons (.loc rfl) (.cons (Y rfl rfl) (.cons (.loc rfl) .nil))) (B'.call o (fun Z y G A C=>aB rfl ?_) fun q P' I S'=>O ((l5 0x1d3772101c72041c34) J q) P' I (i.trans S')));refine aD (cq F A rfl (.loc rfl) (.loc rfl) ((l4 7899567774374944) hl S) ((l3 30857680264224) b2 S) fun s D E=>?_)
      have nh:((b g).N.hop L (b g).f).n=(b g).N.n:=rfl
      refine aD (cq F D rfl (.loc rfl) (.loc rfl) ((l4 0x1c109d129d231c30) b3 S nh) (by lia) fun b' f' g'=>?_)
      exact ar (.loc rfl) rfl (ak (hK _ _ (.mk (k+1) j _ _ _ (((b g).N.hop L (b g).f).hop (b g).l f.n) (b g).l y b' ej K (by show(b g).l<(b g).N.n;exact(l3 30857680264224) b3 S) (by show f.n<(b g).N.n;lia) (by show(b g).N.n+_=_;exact(l5 0x1d3772101d72041d3714) J S) f' (((i.trans C).trans E).trans g'))).1)
    ·generalize T:([]:List V)=z at M
     cases M with
     |mk k j y5 y6 y7 g L H _ e K hl he J o i=>
      obtain rfl:=dp T e
      have K:g=(optB b f.n (hi - lo) (f.add.hop l f.n,l)).1:=K
      have P:=U (by have u2:=o.nm;rw [Jq] at J;exact(l3 0x9d170801b201b21) J u2)
      rw [show kM b lo (Gq hi) N=repS b (hi - lo) N.n (lowB b lo (N.add,N.n)) from rfl, <-eR] at P
      rw [K] at o;exact ax (Ev.op (.cons (.loc rfl) (.cons (.loc rfl) .nil)) (aK (Gr rfl)) _ _ (P _ _ o i))
end
section
variable {u:U} {d:Nat} {Q:V->Sg->Prop} {X:Sg->Prop} {σ:Sg} {a m:Nat} {N:NF} {p:FP}
theorem bU {C:aC} {ρ:List (Option V)} {i k:Nat} {t:Tr} (h:ρ[i]? =Gq (Gq (.str t.kd))) (b:k<55) {r:Bool} (e:GI (t.kd=k)=r):eA C ρ σ (.op (.rel .eq) [.loc i,.const (.str k)]) r σ:=
 e▸.of (.op (.cons (.loc h) (.cons .const .nil)) (iE ⟨t.kd_lt,b⟩)) rfl rfl
noncomputable def ir (a:Nat) (t:Tr):List (Option V):=[Gq (.ref a),Gq t.node,Gq bD,Gq (.str t.kd),Gs,Gs,Gs,Gs,Gs,Gs,Gs]
theorem fC (F:bg u) {t:Tr} (q:wpSs tab (ae u d) (r5.drop 1) (ir a t) (eh Q) X σ):ae u (d+1) 165 [.ref a,t.node,bD] Q X σ:=by
 refine F.call 165 _ rfl d _ Q X σ rfl ?_;exact ar (.op (.cons (.loc rfl) .nil) (BC t)) rfl q
theorem f0 {C:aC} {t:Tr} (j:Nat) (b:j<=6) (h:∀i,i<j->t.kd≠22+i) (q:wpSs tab C (r5.drop (1+j)) (ir a t) (eh Q) X σ):wpSs tab C (r5.drop 1) (ir a t) (eh Q) X σ:=by
 revert C t j;delta Q X σ a;delta C t j
 induction j with
 |zero=>exact q
 |succ j c=>
  delta j;refine c ((l1 482166316316288) b) (fun i e=>h i ((l2 1928470140944) e)) ?_
  have f:=decide_eq_false (h j (Gx j))
  have:j=0\/j=1\/j=2\/j=3\/j=4\/j=5:=by lia
  rcases this with rfl|rfl|rfl|rfl|rfl|rfl<;>exact aq (t:=Gw) (bU rfl (by decide) f) (ak q)
theorem hB {f:NF->Nat->NF} (h:∀N s,(f N s).n=N.n):iO (b8 f) 2:=fun N=>by
 have e:(f N.add.add N.n).n=N.n+2:=by rw [h,NF.add_n,NF.add_n]
 exact⟨e,Nat.lt_add_of_pos_right (by decide),Gx _⟩
theorem mq (F:bg u) {t:Tr} (s:∀i,i<6->t.kd≠22+i) (h:be a m N p σ)
  (e:N.n+2<=m->∀o σ',be a m N.add.add o σ'->aH (p.ft a) σ (o.ft a) σ'->wpSs tab (ae u (d+1)) (r5.drop 9) [Gq (.ref a),Gq t.node,Gq bD,Gq (.str t.kd),Gq (.int N.n),Gq (.int (N.n+1:Nat)),Gs,Gs,Gs,Gs,Gs] (eh Q) X σ') (f:m<N.n+2->∀v σ',aH (p.ft a) σ v σ'->X σ'):ae u (d+2) 165 [.ref a,t.node,bD] Q X σ:=by
 refine fC F (f0 6 (GL _) s ?_);refine w_asg (fB F h rfl (fun q r n g b=>aB rfl ?_) fun q=>f ((l2 1859750668304) q) _ _ (.refl _ _))
 have y:=NF.add_n N
 refine w_asg (fB F g rfl (fun q j c k l=>aB rfl ?_) fun q=>f (by lia) _ _ b)
 rw [y];exact e (by lia) j c k (b.trans l)
theorem k6 (F:bg u) (x:Bool) {t:Tr} (z:t.node=.obj 710 [15] [gZ (xq x)]) (o:t.kd=28):mT u (d+2) t (b8 (fun N s=>N.move s (de x) (s+1))) 2:=by
 revert x t;delta u d;delta x t;refine⟨hB fun N s=>NF.move_n _ _ _ _,fun{Q X σ a m N p} h f l=>mq F (fun i A e=>by rw [o] at e;exact(l1 0x1d706918c9181c6806) e A) h (fun q r b v B=>?_) l⟩
 revert r b;delta Q X σ a m N p;delta r b;refine aq (t:=Gu) (bU rfl (by decide) (decide_eq_true o)) (aD ?_)
 refine w9 ?_;refine Ev.loc rfl _ _ ?_;rw [aw v.inst rfl rfl];refine Ev.loc rfl _ _ ?_
 have C:Ev (ae u (d+1)) [Gq (.ref a),Gq t.node,Gq bD,Gq (.str t.kd),Gq (.int N.n),Gq (.int (N.n+1:Nat)),Gs,Gs,Gs,Gs,Gs] b (.op (.attr 15) [.loc 1]) (gZ (xq x)) b:=bM (c:=710) (ks:=[15]) (vs:=[gZ (xq x)]) (.loc (by rw [<-z];rfl)) rfl rfl
 refine w_callM (.loc rfl) (eB rfl rfl) (.cons C .nil) (uq F x ?_);refine Ev.loc rfl _ _ ?_
 have y:N.add.add.n=N.n+2:=by rw [NF.add_n,NF.add_n]
 refine pz F v (s:=N.n) (g:=N.n+1) ((l2 0x9d728101c01) y) (by cases x;exact .inl rfl;exact .inr rfl) ((l2 0x9d728101c07181) y) ?_ fun n j k=>ak (ax (Ev.op (.cons (.loc rfl) (.cons (.loc rfl) .nil)) (aK (Gr rfl)) _ _ (f q _ _ j (B.trans k))))
 show((N.mv++[[]])++[[]])[N.mv.length]? =Gq []
 rw [GK,Iw (GL _),Pn];rfl
theorem sR (F:bg u):mT u (d+2) .empty (b8 (fun N s=>N.hop s (s+1))) 2:=by
 refine⟨hB fun N s=>rfl,fun{Q X σ a m N p} h b g=>mq F (t:=.empty) (fun i l e=>by have:29=22+i:=e;exact(l1 0x1d706918d9181c6806) this l) h (fun q v n o r=>?_) g⟩
 have k:N.add.add.n=N.n+2:=by rw [NF.add_n,NF.add_n]
 refine aq (t:=Gw) (bU (t:=.empty) rfl (by decide) rfl) (aq (t:=Gu) (bU (t:=.empty) rfl (by decide) rfl) (aD (cq F o rfl (.loc rfl) (.loc rfl) ((l2 0x9d728101c01) k) ((l2 0x9d728101c07181) k) fun j c f=>ak (bm ?_))))
 exact ax (Ev.op (.cons (.loc rfl) (.cons (.loc rfl) .nil)) (aK (Gr rfl)) _ _ (b q _ _ c (r.trans f)))
theorem tj (F:bg u):mT u (d+2) .never (b8 (fun N Z=>N)) 2:=by
 refine⟨hB fun N s=>rfl,fun{Q X σ a m N p} h b c=>mq F (t:=.never) (fun i f e=>by have:30=22+i:=e;exact(l1 0x1d706918e9181c6806) this f) h (fun q l g j k=>?_) c⟩
 refine aq (t:=Gw) (bU (t:=.never) rfl (by decide) rfl) (aq (t:=Gw) (bU (t:=.never) rfl (by decide) rfl) (ak (bm ?_)))
 exact ax (Ev.op (.cons (.loc rfl) (.cons (.loc rfl) .nil)) (aK (Gr rfl)) _ _ (b q _ _ j k))
end
section
variable {u:U} {d:Nat} {Q:V->Sg->Prop} {X:Sg->Prop} {σ:Sg} {a m:Nat} {N:NF} {p:FP}
theorem mT.up {D D':Nat} {t:Tr} {b:NF->BR} {c:Nat} (B:mT u D t b c) (h:D<=D'):mT u D' t b c:=⟨B.adds,fun f p e=>(B.call f p e).up h⟩
theorem yI (F:bg u) {t:Tr} {D:Nat} {b:Tr->NF->BR} {c:Tr->Nat} {x:Tr} {ps:List Tr} (i:t.kd=22) (j:spine 22 t=x::ps) (k:(spine 22 t).length<=1000) (B:qR u (D+1) b c (x::ps)):mT u (D+3) t (fun N=>rowB b ps (b x N)) (((spine 22 t).map c).sum):=by
 rw [j] at k ⊢;refine⟨fun N=>?_,fun{Q X σ a m N p} h g l=>fC F (aq (t:=Gu) (bU rfl (by decide) (decide_eq_true i)) (ax ?_))⟩
 ·obtain⟨n,s,v⟩:=(B x (.head _)).adds N
  have:=tK (c:=c) (ps:=ps) (b x N) (fun t i=>(B t (.tail _ i)).adds) ((l3 30857680264224) s n) ((l3 30857680264224) v n)
  rw [n,IZ] at this;rw [Hp,H7];exact this
 ·refine gU (lY ?_);refine Ev.loc rfl _ _ ?_;refine az (.cons (.loc rfl) (.cons .const .nil)) (mG F (t:=t) (.inl rfl) (j▸k) fun o e=>?_);refine Ev.loc rfl _ _ ?_;rw [j];exact DP F B k (h.ext e) (fun q y f z r=>g q y f z ((aH.ext e).trans r)) fun q A f r=>l q A f ((aH.ext e).trans r)
theorem qD (F:bg u) {t:Tr} {D:Nat} {b:Tr->NF->BR} {c:Tr->Nat} (i:t.kd=23) (n:(spine 23 t).length<=1000) (B:qR u (D+1) b c (spine 23 t)):mT u (D+3) t (cu b (spine 23 t)) (((spine 23 t).map c).sum+2):=by
 refine⟨oH fun t i=>(B t i).adds,fun{Q X σ a m N p} h g j=>fC F (aq (t:=Gw) (bU rfl (by decide) (by rw [i];rfl)) (ak (aq (t:=Gu) (bU rfl (by decide) (decide_eq_true i)) (ax ?_))))⟩
 refine gU ?_;refine Ev.loc rfl _ _ ?_;refine az (.cons (.loc rfl) (.cons .const .nil)) (mG F (t:=t) (.inr rfl) n fun k e=>?_);refine Ev.loc rfl _ _ ?_;exact tT F B n (h.ext e) (fun q o f r l=>g q o f r ((aH.ext e).trans l)) fun q s f l=>j q s f ((aH.ext e).trans l)
theorem jZ (F:bg u) {t l:Tr} {D j:Nat} {c:GS} {b:NF->BR} {n:Nat} (g f:Bool) (r:j<=5) (s:t.kd=22+j) (v:t.node=.obj c [18] [l.node]) (y:eQ tab c 18 [(18,l.node)]=Gq l.node) (B:mT u (D+1) l b n)
  (k:∀ {C:aC} {Q:V->Sg->Prop} {X:Sg->Prop} {σ:Sg} {a:Nat},wpE tab C (ir a t) (.callF 186 [.loc 0,.op (.attr 18) [.loc 1],.loc 2,.const (.bool g),.const (.bool f)]) Q X σ->wpSs tab C (r5.drop (1+j)) (ir a t) (eh Q) X σ):mT u (D+3) t (cg b g f) (n+2):=by
 refine⟨ig B.adds g f,fun{Q X σ a m N p} h o q=>fC F (f0 j ((l1 117440624256) r) (fun i z e=>(l3 0x1c101d70691829d71691826) z e s) (k ?_))⟩
 have A:Ev (ae u (D+2)) (ir a t) σ (.op (.attr 18) [.loc 1]) l.node σ:=bM (c:=c) (ks:=[18]) (vs:=[l.node]) (.loc (by rw [<-v];rfl)) rfl y
 exact az (.cons (.loc rfl) (.cons A (.cons (.loc rfl) (.cons .const (.cons .const .nil))))) (wr F B g f h o q)
theorem qY (F:bg u) {t:Tr} {D:Nat} {b:NF->BR} {c lo:Nat} {hi:Option Nat} (g:lo<=1000) (l:∀k,hi=Gq k->lo<=k/\k<=1000) (B:mT u (D+2) t b c):mT u (D+5) (.rep t lo hi) (kM b lo hi) (iK c lo hi):=by
 refine⟨oV B.adds fun k e=>(l k e).1,fun{Q X σ a m N p} h f j=>fC F (f0 5 (by decide) (fun i hi e=>by have:27=22+i:=e;exact(l1 0x1d706918b9181c5806) this hi) (aq (t:=Gu) (bU rfl (by decide) (decide_eq_true rfl)) (ax ?_)))⟩
 exact az (.cons (.loc rfl) (.cons (.loc rfl) (.cons (.loc rfl) .nil))) (wo F B g l h f j)
theorem i7 (F:bg u) (n:Nat) (y:n<=900):∀ {t:Tr},Fam n t->mT u (3 * n+2) t (bld n t) (cnt n t).1:=by
 have leaf:∀ {n:Nat} {t:Tr},t.leaf->mT u (3 * n+2) t (bld n t) (cnt n t).1:=fun{n t} g=>by
  have E:(cnt n t).1=2:=by cases t<;>first|exact g.elim|(cases n<;>rfl)
  rw [E]
  cases t with
  |a=>rw [show bld n .a=b8 (fun N s=>N.move s (de Gw) (s+1)) by funext N;cases n<;>rfl];exact k6 F Gw rfl rfl
  |b=>rw [show bld n .b=b8 (fun N s=>N.move s (de Gu) (s+1)) by funext N;cases n<;>rfl];exact k6 F Gu rfl rfl
  |empty=>rw [show bld n .empty=b8 (fun N s=>N.hop s (s+1)) by funext N;cases n<;>rfl];exact sR F
  |never=>rw [show bld n .never=b8 (fun N Z=>N) by funext N;cases n<;>rfl];exact tj F
  |_=>exact g.elim
 induction n with
 |zero=>
  intro t h
  cases h with
  |leaf g=>exact leaf g
 |succ n i=>
  replace i:=@i ((l1 0x1b49893871801b4989380) y)
  intro t h
  cases h with
  |leaf g=>exact leaf g
  |@cat _ l r g z=>
   obtain⟨A,B⟩:=cx (.inl rfl) (.cat g z) rfl
   have G:spine 22 (.cat l r)=spine 22 l++[r]:=rfl
   cases v:spine 22 (.cat l r) with
   |nil=>rw [G] at v;cases H:spine 22 l<;>rw [H] at v<;>cases v
   |cons x C=>
    have:=yI F (t:=.cat l r) (D:=3 * n+1) (b:=bld n) (c:=fun t=>(cnt n t).1) rfl v (Gz B ((l1 0x1b49893871801b89e9387280) y)) (fun t f=>i (A t (v▸f)))
    have e:bld (n+1) (.cat l r)=fun N=>rowB (bld n) C (bld n x N):=by
     funext N
     show(match spine 22 (.cat l r) with
      |p::C=>rowB (bld n) C (bld n p N)
      |[]=>⟨N,0,0⟩)=_
     rw [v]
    rw [e];exact this.up (l1 0x1b728a718038738718a038)
  |@alt _ l r g z=>
   obtain⟨A,B⟩:=cx (.inr rfl) (.alt g z) rfl;exact(qD F (t:=.alt l r) (D:=3 * n+1) (b:=bld n) (c:=fun t=>(cnt n t).1) rfl (Gz B ((l1 0x1b49893871801b89e9387280) y)) (fun t f=>i (A t f))).up (l1 0x1b728a718038738718a038)
  |@star _ t f=>exact(jZ F (t:=.star t) (j:=2) (D:=3 * n+1) Gu Gu (by decide) rfl rfl rfl (i f) fun q=>aq (t:=Gu) (bU rfl (by decide) (decide_eq_true rfl)) (ax q)).up (l1 0x1b728a718038738718a038)
  |@plus _ t f=>exact(jZ F (t:=.plus t) (j:=3) (D:=3 * n+1) Gw Gu (by decide) rfl rfl rfl (i f) fun q=>aq (t:=Gu) (bU rfl (by decide) (decide_eq_true rfl)) (ax q)).up (l1 0x1b728a718038738718a038)
  |@opt _ t f=>exact(jZ F (t:=.opt t) (j:=4) (D:=3 * n+1) Gu Gw (by decide) rfl rfl rfl (i f) fun q=>aq (t:=Gu) (bU rfl (by decide) (decide_eq_true rfl)) (ax q)).up (l1 0x1b728a718038738718a038)
  |@repN _ t I o f=>exact(qY F (D:=3 * n) (hi:=Gs) ((l1 7643812228666240) o) (fun Z h=>nomatch h) (i f)).up (l1 0x1b728a718038758a038)
  |@repS _ t I hi o J K f=>exact(qY F (D:=3 * n) (hi:=Gq hi) (by exact(l1 7643812228666240) o) (fun k h=>by cases h;exact⟨(l2 454040336) J,(l1 7661404414710656) K⟩) (i f)).up (by exact(l1 0x1b728a718038758a038))
end
theorem i9 {xs:List Nat}:∀ {ls:List (List V)} {σ:Sg},xs.length=ls.length->xs.Nodup->(∀(i:Nat) x l,xs[i]? =Gq x->ls[i]? =Gq l->σ.cell x=.list l)->(∀x∈xs,x<σ.n)->
  ∃σ',FrzL σ (xs.map .ref) (ls.map .lst) σ'/\σ'.n=σ.n/\∀y,y∉xs->σ'.cell y=σ.cell y:=by
 induction xs with
 |nil=>
  intro ls σ h _ _ _
  cases ls with
  |nil=>exact⟨σ,.nil,rfl,fun Z Z=>rfl⟩
  |cons _ _=>cases h
 |cons x xs m=>
  intro ls σ f c g j
  cases ls with
  |nil=>cases f
  |cons l ls=>
   rw [IW] at c
   obtain⟨σ',e,n,o⟩:=m (ls:=ls) (σ:=σ.set x .dead) (Mv f) c.2 (fun i y k b p=>by
    have d:y≠x:=fun e=>c.1 (by rw [<-e];exact GJ b)
    rw [af d];exact g (i+1) y k b p) (fun y b=>j y (.tail _ b))
   exact⟨σ',.list (g 0 x l rfl rfl) (j x (.head _)) .all e,n,fun y b=>(o y fun h=>b (.tail _ h)).trans (af fun e=>b (e▸.head _))⟩
noncomputable def DX (N:NF):V:=.lst ((N.mv.map sw).map .lst)
noncomputable def Ff (N:NF):V:=.lst ((N.hp.map bA).map .lst)
noncomputable def bn (m:Nat) (N:NF) (tags:List Nat) (first:Nat):V:=.obj 147 [0,1,2,3,4] [.int m,DX N,Ff N,.dic (tags.map fun(t:Nat)=>(t:Int)) (tags.map fun Z=>.int 3),.int first]
section
variable {u:U} {d:Nat} {Q:V->Sg->Prop} {X:Sg->Prop} {σ:Sg} {a m:Nat} {N:NF} {p:FP}
structure DL (a m:Nat) (N:NF) (p:FP) (tags:List Nat) (first:Nat) (σ σ':Sg):Prop where
 n:σ'.n=σ.n
 inst:σ'.cell a=.inst 147 [(0,.int m),(1,.ref p.b),(2,.ref p.c),(3,.ref p.t),(4,.int first)]
 ct:σ'.cell p.t=.dict (tags.map fun(t:Nat)=>((t:Int),V.int 3))
 o:∀x,x≠a->x≠p.t->σ'.cell x=σ.cell x
theorem yJ (h:be a m N p σ) {tags:List Nat} {first:Nat} {σ':Sg} (e:DL a m N p tags first σ σ'):∃c,FrzL σ' [.ref a] [bn m N tags first] c/\c.n=σ'.n/\∀x,¬p.ft a x->c.cell x=σ'.cell x:=by
 revert tags first σ';delta σ a m N p;delta tags first σ'
 have G:=fun x b=>h.lt x (.inr (.inr (.inr (.inr (.inl b)))))
 have H:=fun x b=>h.lt x (.inr (.inr (.inr (.inr (.inr b)))))
 have A:=h.ab
 obtain⟨j,I,n,o⟩:=i9 (xs:=p.bs) (ls:=N.mv.map sw) (σ:=((σ'.set a .dead).set p.b .dead)) (by rw [GG,h.lb];rfl) h.nb (fun i x l b q=>by
  obtain⟨r,g,rfl⟩:=GV.mp ((Hd).symm.trans q)
  have f:=h.fb x (GJ b)
  rw [af f.2.1,af f.1,e.o x f.1 f.2.2.2];exact h.cm i x r b g) (fun x b=>by show x<σ'.n;rw [e.n];exact G x b)
 delta j
 have J:∀x∈p.cs,x∉p.bs:=fun x b s=>h.dj x s b
 obtain⟨k,K,B,C⟩:=i9 (xs:=p.cs) (ls:=N.hp.map bA) (σ:=j.set p.c .dead) (by rw [GG,h.lc,h.ok.len]) h.nc (fun i x l b q=>by
  obtain⟨r,g,rfl⟩:=GV.mp ((Hd).symm.trans q)
  have E:=GJ b
  have f:=h.fc x E
  rw [af f.2.2.1,o x (J x E),af f.2.1,af f.1,e.o x f.1 f.2.2.2];exact h.ch i x r b g) (fun x b=>by show x<j.n;rw [n];show x<σ'.n;rw [e.n];exact H x b)
 delta k;refine⟨k.set p.t .dead,?_,B.trans n,fun x b=>?_⟩
 rotate_left
 ·rw [af fun e=>b (.inr (.inr (.inr (.inl e)))),C x fun h=>b (.inr (.inr (.inr (.inr (.inr h))))),af fun e=>b (.inr (.inr (.inl e))),o x fun h=>b (.inr (.inr (.inr (.inr (.inl h))))),af fun e=>b (.inr (.inl e)),af fun e=>b (.inl e)]
 have L:a<σ'.n:=by rw [e.n];exact h.la
 have M:p.b<(σ'.set a .dead).n:=by show p.b<σ'.n;rw [e.n];exact h.lbb
 have O:(σ'.set a .dead).cell p.b=.list (p.bs.map .ref):=by rw [af A.1.symm,e.o _ A.1.symm A.2.2.2.2.1];exact h.cb
 have F:∀y,(y=p.c\/y=p.t)->y∉p.bs:=fun y s z=>by
  have:=h.fb y z
  rcases s with rfl|rfl
  ·exact this.2.2.1 rfl
  ·exact this.2.2.2 rfl
 have P:p.c<j.n:=by rw [n];show p.c<σ'.n;rw [e.n];exact h.lcc
 have R:j.cell p.c=.list (p.cs.map .ref):=by rw [o _ (F _ (.inl rfl)),af A.2.2.2.1.symm,af A.2.1.symm,e.o _ A.2.1.symm A.2.2.2.2.2];exact h.cc
 have S:p.t<k.n:=by rw [B];show p.t<j.n;rw [n];show p.t<σ'.n;rw [e.n];exact h.lt _ (.inr (.inr (.inr (.inl rfl))))
 have T:k.cell p.t=.dict (tags.map fun(t:Nat)=>((t:Int),V.int 3)):=by
  rw [C _ fun z=>(h.fc _ z).2.2.2 rfl,af A.2.2.2.2.2.symm,o _ (F _ (.inr rfl)),af A.2.2.2.2.1.symm,af A.2.2.1.symm];exact e.ct
 have D:FrzL k [.ref p.t,.int first] [.dic (tags.map fun(t:Nat)=>(t:Int)) (tags.map fun Z=>.int 3),.int first] (k.set p.t .dead):=by
  have:=FrzL.dict T S .all (.keep (v:=.int first) .nil)
  rw [HG,HG] at this;exact this
 exact .inst e.inst L (.keep (.list O M I (.list R P K D))) .nil
end
section
variable {u:U} {d:Nat} {Q:V->Sg->Prop} {X:Sg->Prop} {σ:Sg} {a m:Nat} {N:NF} {p:FP} {C:aC}
theorem oK {i:Nat} (hi:i<σ.n) (H:σ.cell i=.inst 147 []) (I:m<=10000) (s:∀σ',σ.n<=σ'.n->(∀x,x<σ.n->x≠i->σ'.cell x=σ.cell x)->be i m ⟨[],[]⟩ ⟨σ.n,σ.n+1,σ.n+2,[],[]⟩ σ'->Q .none σ'):
  wpSs tab C FW (dR 2 [0,1] [.ref i,.int m]) (eh Q) X σ:=by
 revert i;delta Q X σ m C;delta i
 have A:i≠σ.n:=G6 hi
 have z:i≠σ.n+1:=G6 (GB hi)
 have B:i≠σ.n+2:=G6 (GB (GB hi))
 refine aG (.loc rfl) (.loc rfl) (aS H hi (G4 _) rfl) ?_;generalize o:σ.set i _=t;delta t
 have q:t.n=σ.n:=by rw [<-o];rfl
 have J:t.cell i=.inst 147 [(0,.int m)]:=by rw [<-o];exact am
 have K:∀x,x≠i->t.cell x=σ.cell x:=fun x c=>by rw [<-o];exact af c
 refine aG (.op .nil (bP (G4 _))) (.loc rfl) (aS ((au (q▸hi)).trans J) (GB (q▸hi)) (Gr rfl) rfl) ?_;generalize g:(t.alloc (.list [])).set i _=k;delta k
 have r:k.n=σ.n+1:=by rw [<-g, <-q];rfl
 have L:k.cell i=.inst 147 [(0,.int m),(1,.ref σ.n)]:=by rw [<-g, <-q];exact am
 have M:k.cell σ.n=.list []:=by rw [<-g,af (HH hi), <-q];exact ah
 have O:∀x,x<σ.n->x≠i->k.cell x=σ.cell x:=fun x c b=>by rw [<-g,af b,au (q▸c)];exact K x b
 have F:i<k.n:=by rw [r];exact GB hi
 refine aG (.op .nil (bP (G4 _))) (.loc rfl) (aS ((au F).trans L) (GB F) (Gr rfl) rfl) ?_;generalize f:(k.alloc (.list [])).set i _=e;delta e
 have y:e.n=σ.n+2:=by rw [<-f];show k.n+1=_;rw [r]
 have P:e.cell i=.inst 147 [(0,.int m),(1,.ref σ.n),(2,.ref (σ.n+1))]:=by rw [<-f, <-r];exact am
 have R:e.cell (σ.n+1)=.list []:=by rw [<-f,af z.symm, <-r];exact ah
 have S:e.cell σ.n=.list []:=by rw [<-f,af (HH hi),au (by rw [r];exact Gx _)];exact M
 have T:∀x,x<σ.n->x≠i->e.cell x=σ.cell x:=fun x c b=>by rw [<-f,af b,au (by rw [r];exact GB c)];exact O x c b
 have G:i<e.n:=by rw [y];exact GB (GB hi)
 refine aG (v:=.ref i) (x:=.ref e.n) (σ₁:=e.alloc (.dict [])) (.op .nil rfl) (.loc rfl) (aS ((au G).trans P) (GB G) (Gr rfl) rfl) ?_;generalize j:(e.alloc (.dict [])).set i _=n;delta n
 have D:n.n=σ.n+3:=by rw [<-j];show e.n+1=_;rw [y]
 have U:n.cell i=.inst 147 [(0,.int m),(1,.ref σ.n),(2,.ref (σ.n+1)),(3,.ref (σ.n+2))]:=by rw [<-j, <-y];exact am
 have V:n.cell (σ.n+2)=.dict []:=by rw [<-j,af B.symm, <-y];exact ah
 have E:∀x,x<σ.n+2->x≠i->n.cell x=e.cell x:=fun x c b=>by rw [<-j,af b,au (by rw [y];exact c)]
 have W:i<n.n:=by rw [D];exact GB (GB (GB hi))
 refine aG .const (.loc rfl) (aS U W (Gr rfl) rfl) (ak (s _ (by show σ.n<=n.n;rw [D];exact HK _ _) (fun x c b=>by rw [af b,E x (GB (GB c)) b];exact T x c b) ?_))
 refine⟨.nil,G4 _,I,am,by rw [af A.symm,E _ (by exact(l1 29829120)) A.symm];exact S,by rw [af z.symm,E _ (by exact(l1 122180104576)) z.symm];exact R,by rw [af B.symm];exact V,rfl,rfl,(fun i x l h=>by cases h),(fun i x l h=>by cases h),.nil,.nil,(fun Z h=>(nomatch h)),(fun Z h=>(nomatch h)),(fun Z h=>(nomatch h)),
  ⟨A,z,B,by show σ.n≠σ.n+1;exact(l1 2641461254),by show σ.n≠σ.n+2;exact(l1 2641526790),by show σ.n+1≠σ.n+2;exact(l1 0x9d728071806)⟩,fun x c=>?_⟩
 show x<n.n
 rw [D];rcases c with rfl|rfl|rfl|rfl|c|c
 ·exact(l2 1928470149136) hi
 ·show σ.n<_;exact(l1 29833216)
 ·show σ.n+1<_;exact(l1 122196881792)
 ·show σ.n+2<_;exact(l1 122196882048)
 ·cases c
 ·cases c
theorem wB (F:bg u) {ρ:List (Option V)} {e:E} (g:Ev (ae u (d+1)) ρ σ e (.int m) σ) (i:m<=10000) (c:∀p σ',a6 σ σ'->be σ.n m ⟨[],[]⟩ p σ'->(∀x,p.ft σ.n x->σ.n<=x)->Q (.ref σ.n) σ'):wpE tab (ae u (d+1)) ρ (.callC 147 [e]) Q X σ:=by
 refine w_callC (.cons g .nil) (f:=95) rfl (F.call 95 _ rfl d _ _ X _ rfl (oK (Gx _) ah i fun σ' j k l=>⟨rfl,c _ σ' ⟨Gz (Hk _) j,fun x b=>(k x (GB b) (G6 b)).trans (au b)⟩ l ?_⟩));intro x b;rcases b with rfl|rfl|rfl|rfl|b|b
 ·exact GL _
 ·exact Hk _
 ·show σ.n<=σ.n+1+1;exact(l1 117868795904)
 ·show σ.n<=σ.n+1+2;exact(l1 117885573120)
 ·cases b
 ·cases b
theorem sQ (F:bg u) {ρ:List (Option V)} (c:∀p σ',a6 σ σ'->be σ.n 10000 ⟨[],[]⟩ p σ'->(∀x,p.ft σ.n x->σ.n<=x)->Q (.ref σ.n) σ'):wpE tab (ae u (d+1)) ρ (.callC 147 []) Q X σ:=by
 refine w_callC .nil (f:=95) rfl (F.callD 95 _ 10000 rfl rfl d _ _ X _ rfl (oK (m:=10000) (Gx _) ah (GL _) fun σ' e g i=>⟨rfl,c _ σ' ⟨Gz (Hk _) e,fun x b=>(g x (GB b) (G6 b)).trans (au b)⟩ i ?_⟩));intro x b;rcases b with rfl|rfl|rfl|rfl|b|b
 ·exact GL _
 ·exact Hk _
 ·show σ.n<=σ.n+1+1;exact(l1 117868795904)
 ·show σ.n<=σ.n+1+2;exact(l1 117885573120)
 ·cases b
 ·cases b
theorem aH.toExt {P c:Nat->Prop} {σ₀ σ σ':Sg} (E:a6 σ₀ σ) (S:aH P σ c σ') (h:∀x,P x->σ₀.n<=x):a6 σ₀ σ':=
 ⟨Gz E.n S.n,fun x b=>(S.keep x (GN b E.n) fun z=>absurd b (HN.mpr (h x z))).trans (E.cell x b)⟩
theorem ro (F:bg u) {n:Nat} {t:Tr} (P:n<=900) (R:Fam n t) (S:m<=10000) (D:(cnt n t).1<=m->(bld n t ⟨[],[]⟩).N.Ok->∀σ',a6 σ σ'->Q (bn m (bld n t ⟨[],[]⟩).N [(bld n t ⟨[],[]⟩).l] (bld n t ⟨[],[]⟩).f) σ') (I:m<(cnt n t).1->∀σ',a6 σ σ'->Q .none σ'):
  ae u (3 * n+3) 925 [t.node,bD,.int m] Q X σ:=by
 revert n t;delta u Q X σ m;delta n t
 have B:=i7 F n P R
 refine mcall_frz (Q':=fun v σ'=>(∃c,FrzL σ' [v] [bn m (bld n t ⟨[],[]⟩).N [(bld n t ⟨[],[]⟩).l] (bld n t ⟨[],[]⟩).f] c/\(cnt n t).1<=m/\(bld n t ⟨[],[]⟩).N.Ok/\a6 σ c)\/(v=.none/\m<(cnt n t).1/\a6 σ σ')) ?_ fun v σ' h=>?_
 ·refine F.call 925 _ rfl (3 * n+2) _ _ X σ rfl ?_;refine w_asg (wB (d:=3 * n+1) F (.loc rfl) S fun p s i G j=>aB rfl ?_);delta p s;refine uo (w_asg (az (.cons (.loc rfl) (.cons (.loc rfl) (.cons (.loc rfl) .nil))) (B.call G (fun q l f b g=>aB rfl (ak ?_)) fun q Z f g=>?_)))
  ·delta l f
   have o:=g.toExt i j
   have A:=b.ab
   have H:∀x,l.ft σ.n x->σ.n<=x:=fun x y=>(g.foot x y).elim (j x) fun h=>Gz i.n h
   refine aD (w_callM (.loc rfl) (aw b.inst rfl rfl) (.cons (.loc rfl) .nil) (F.call 123 _ rfl (3 * n+1) _ _ X _ rfl (aG (.loc rfl) (.loc rfl) (aS b.inst b.la (Gr rfl) rfl) (ak ?_))));generalize z:f.set σ.n _=r;delta r
   have J:r.cell σ.n=.inst 147 [(0,.int m),(1,.ref l.b),(2,.ref l.c),(3,.ref l.t),(4,.int (bld n t ⟨[],[]⟩).f)]:=by rw [<-z];exact am
   have K:∀x,x≠σ.n->r.cell x=f.cell x:=fun x y=>by rw [<-z];exact af y
   have L:r.n=f.n:=by rw [<-z];rfl
   have T:r.cell l.t=.dict []:=(K _ A.2.2.1.symm).trans b.ct
   have M:l.t<r.n:=by rw [L];exact b.lt _ (.inr (.inr (.inr (.inl rfl))))
   refine aD (w_callM (.loc rfl) (aw J rfl rfl) (.cons (.loc rfl) (.cons .const .nil)) (F.call 130 _ rfl (3 * n+1) _ _ X _ rfl (bS (.loc rfl) (.op (.cons (.loc rfl) .nil) (a7 J rfl)) (.loc rfl) (cy T M (G4 _)) (ak ?_))));refine ax (Ev.loc rfl _ _ (.inl ?_));obtain⟨c,e,U,V⟩:=yJ b (tags:=[(bld n t ⟨[],[]⟩).l]) (first:=(bld n t ⟨[],[]⟩).f) (σ':=r.set l.t (.dict (putI (bld n t ⟨[],[]⟩).l (.int 3) []))) ⟨L,(af A.2.2.1).trans J,am,fun x W Y=>(af Y).trans (K x W)⟩;refine⟨c,e,by simpa [NF.n] using q,b.ok,?_⟩
   refine⟨by rw [U];show σ.n<=r.n;rw [L];exact o.n,fun x y=>?_⟩
   have O:¬l.ft σ.n x:=fun h=>absurd y (HN.mpr (H x h))
   rw [V x O,af fun e=>O (.inr (.inr (.inr (.inl e)))),K x (G6 y)];exact o.cell x y
  ·refine ax (Ev.const _ _ (.inr ⟨rfl,by simpa [NF.n] using q,g.toExt i j⟩))
 ·rcases h with ⟨c,e,q,k,E⟩ |⟨rfl,q,E⟩
  ·exact⟨_,c,e,D q k c E⟩
  ·exact⟨_,_,.all,I q _ E⟩
end
theorem x9 (x:Int):Kc (Kc x)=x:=by unfold Kc;lia
theorem fF (a b:Nat):JN (a:Int) (b:Int)=((a||| b:Nat):Int):=by
 unfold JN I3;rw [decide_eq_false (by unfold Kc;lia:¬(0<=Builtin.bitNot (a:Int))),decide_eq_false (by unfold Kc;lia:¬(0<=Builtin.bitNot (b:Int)))]
 simp only [x9,I7]
theorem xu (a b:Nat):I3 (a:Int) (b:Int)=((a&&& b:Nat):Int):=by
 unfold I3;rw [decide_eq_true (G9 a),decide_eq_true (G9 b)];simp only [I7]
theorem q8 (a:Nat):I3 (a:Int) 1=((a % 2:Nat):Int):=by
 rw [show(1:Int)=((1:Nat):Int) from rfl,xu,Nat.and_one_is_mod]
theorem rQ (a k:Nat):(a:Int).fdiv (2^((k:Int)).toNat)=((a / 2^k:Nat):Int):=by
 rw [MK _ (OY (by decide)),I7,Int.natCast_ediv,OP];rfl
theorem q0 (k:Nat):(1:Int) * 2^((k:Int)).toNat=((2^k:Nat):Int):=by
 rw [L8,I7,OP];rfl
noncomputable def bitsF:Nat->Nat->Nat->List Nat
 |0,_,_=>[]
 |n+1,m,k=>if m=0 then [] else(if m % 2=1 then [k] else [])++bitsF n (m / 2) (k+1)
noncomputable def a8 (m:Nat):List Nat:=bitsF m m 0
theorem jm (n k:Nat):bitsF n 0 k=[]:=by cases n<;>rfl
theorem sy {x:Nat} {n:Nat}:∀ {m k:Nat},m<=n->(x∈bitsF n m k↔k<=x/\m.testBit (x - k)=Gu):=by
 induction n with
 |zero=>
  intro m k h
  have:m=0:=NG.mp h
  subst this;exact⟨fun h=>(nomatch h),fun h=>by rw [Hq] at h;cases h.2⟩
 |succ n d=>
  intro m k h;unfold bitsF
  by_cases z:m=0
  ·subst z;rw [if_pos rfl,Hq];exact⟨fun h=>(nomatch h),fun h=>by cases h.2⟩
  ·rw [if_neg z,GD,d (by lia)]
   by_cases q:x=k
   ·subst q;rw [Pn,Nat.testBit_zero]
    by_cases o:m % 2=1
    ·rw [if_pos o];simp [o]
    ·rw [if_neg o];simp [o];lia
   ·have e:(x∈if m % 2=1 then [k] else [])↔False:=by
     split
     ·simp [q]
     ·simp
    rw [e,false_or];constructor
    ·rintro⟨b,c⟩
     refine⟨(l2 1861625060112) b,?_⟩;rw [show x - k=(x - (k+1))+1 from(Na (Of b)).symm,Oz]
     exact c
    ·rintro⟨b,c⟩
     have f:k+1<=x:=((l2 1928468722048) (H5 b (Hw q)))
     rw [show x - k=(x - (k+1))+1 from(Na (Of (H5 b (Hw q)))).symm,Oz] at c
     exact⟨f,c⟩
theorem dz {x m:Nat}:x∈a8 m↔m.testBit x=Gu:=by
 rw [sy (GL _)];simp
theorem tq {K:Nat}:∀ {n m k:Nat},m<2^K->(bitsF n m k).length<=K:=by
 induction K with
 |zero=>
  intro n m k h
  have:m=0:=Nat.lt_one_iff.mp h
  subst this;rw [jm];exact GL _
 |succ K b=>
  intro n m k h
  cases n with
  |zero=>exact G4 _
  |succ n=>
   show(if m=0 then _ else _:List Nat).length<=_
   split
   ·exact G4 _
   ·rw [GC]
    have c:=b (n:=n) (m:=m / 2) (k:=k+1) (Nat.div_lt_of_lt_mul (by rw [Nat.mul_comm, <-Po];exact h))
    have d:(if m % 2=1 then [k] else []:List Nat).length<=1:=by split<;>exact Gr rfl
    exact(l3 0x1b1801b211b7182710) d c
theorem oZ {K m:Nat} (h:m<2^K):(a8 m).length<=K:=tq h
theorem bv (l:List Nat):(bA l).length=l.length:=GG _
section
variable {u:U} {d:Nat} {Q:V->Sg->Prop} {X:Sg->Prop} {σ:Sg}
inductive BitI (σ₀:Sg) (M:Nat):Nat->List (Option V)->Sg->Prop where
 |mk (m k n:Nat) (acc:List Nat) (σ:Sg) (hm:m<=n) (e:a8 M=acc++bitsF n m k) (E:a6 σ₀ σ) (hn:σ₀.n<σ.n) (hc:σ.cell σ₀.n=.list (bA acc)):BitI σ₀ M m [Gq (.int M),Gq (.ref σ₀.n),Gq (.int k),Gq (.int m)] σ
theorem pP (F:bg u) {M K:Nat} (B:M<2^K) (C:K<=100000) (i:∀σ',a6 σ σ'->Q (.lst (bA (a8 M))) σ'):ae u (d+1) 80 [.int M] Q X σ:=by
 revert M K;delta u d Q X σ;delta M K;refine qL (F.call 80 _ rfl d _ _ X σ rfl ?_);refine ar (.op .nil (bP (G4 _))) rfl (ar .const rfl (ar (.loc rfl) rfl ?_))
 have D:=oZ B
 refine eS (BitI σ M) (n:=M) (.mk M 0 M [] _ (GL _) rfl (.alloc _ _) (Gx _) ah) fun m G σ' h=>?_;delta m G σ'
 cases h with
 |mk k n f _ H e E j l=>
  delta k n f;refine⟨GI ((m:Int) >0),σ',.of (.op (.cons (.loc rfl) (.cons .const .nil)) rfl) rfl rfl,fun h=>?_,fun h y p Z=>?_⟩
  ·have z:m=0:=by have:=of_decide_eq_false h;lia
   subst z;rw [jm,GY] at e;refine ax (Ev.loc rfl _ _ ⟨_,_,rfl,l,j,?_⟩);rw [<-e];exact i _ (E.kill (GL _))
  ·delta y
   have z:m≠0:=by have:=of_decide_eq_true h;lia
   cases n with
   |zero=>exact absurd (NG.mp H) z
   |succ n=>
    delta n;rw [show bitsF (n+1) m k=(if m % 2=1 then [k] else [])++bitsF n (m / 2) (k+1) by rw [bitsF,if_neg z], <-GK] at e
    have q:(bA f).length<=1000000:=by
     have:=congrArg Jd e
     simp only [GC] at this;rw [bv];exact(l5 0x9d7372101b401b09a969891841b09492949f81) this D C
    have g:∀b c,a6 σ b->σ.n<b.n->b.cell σ.n=.list (bA c)->a8 M=c++bitsF n (m / 2) (k+1)->wpSs tab (ae u d) [.assign (.loc 3) (.op (.bin .shr) [.loc 3,.const (.int 1)]),.assign (.loc 2) (.op (.bin .add) [.loc 2,.const (.int 1)])] [Gq (.int M),Gq (.ref σ.n),Gq (.int k),Gq (.int m)] y X b:=fun b c I r s J=>by
     have L:dT .shr (m:Int) 1=Gq ((m / 2:Nat):Int):=by rw [zT (by decide),show(1:Int)=((1:Nat):Int) from rfl,rQ]
     refine ar (.op (.cons (.loc rfl) (.cons .const .nil)) (aF L)) rfl (ar (.op (.cons (.loc rfl) (.cons .const .nil)) (aF rfl)) rfl (ak ?_));exact(p _ _ _ (Nat.div_lt_self (Ix z) (by decide)) (.mk (m / 2) (k+1) n c b (by lia) J I r s)).1
    have A:aJ tab (.bin .band) [.int m,.int 1] σ'=Gq (.int ((m % 2:Nat):Int),σ'):=aF (congrArg Gq (q8 m))
    by_cases o:m % 2=1
    ·refine aq (t:=Gu) (.of (v:=.bool (((m % 2:Nat):Int) ==1)) (.op (.cons (.op (.cons (.loc rfl) (.cons .const .nil)) A) (.cons .const .nil)) rfl) (by rw [o];rfl) rfl) ?_
     refine aD (Ev.app (.loc rfl) (aM l) (.loc rfl) (bK l j q) _ _ (ak ?_));rw [if_pos o] at e;exact g _ (f++[k]) (E.set (GL _)) j (by unfold bA;rw [GZ];exact am) e
    ·have N:m % 2=0:=by lia
     refine aq (t:=Gw) (.of (v:=.bool (((m % 2:Nat):Int) ==1)) (.op (.cons (.op (.cons (.loc rfl) (.cons .const .nil)) A) (.cons .const .nil)) rfl) (by rw [N];rfl) rfl) (ak ?_)
     rw [if_neg o,GY] at e;exact g _ f E j l e
end
section
variable {u:U} {d:Nat} {Q:V->Sg->Prop} {X:Sg->Prop} {σ σ':Sg}
theorem jD {f:GS} {v w b:V} (e:FrzL σ [w] [b] σ') (m:ae u d f [v,b] Q X σ'):ae u d f [v,w] Q X σ:=kB (.keep e) m
end
structure PF where
 c:Nat
 ms:List Nat
 fo:List Nat
structure PF.Ok (P:PF):Prop where
 len:P.ms.length=P.fo.length
 sz:P.ms.length<=P.c+1
def F3 (a b c x:Nat):Prop:=x=a\/x=b\/x=c
structure aO (a b c:Nat) (most:Nat) (P:PF) (σ:Sg):Prop where
 ok:P.Ok
 m1:most<=1000
 cm:P.c<=most
 inst:σ.cell a=.inst 324 [(0,.int most),(7,.int P.c),(8,bD),(9,.ref b),(10,.ref c)]
 cb:σ.cell b=.list (bA P.ms)
 cc:σ.cell c=.list (bA P.fo)
 ab:a≠b
 ac:a≠c
 bc:b≠c
 la:a<σ.n
 lb:b<σ.n
 lc:c<σ.n
theorem aO.mkl {a b c most:Nat} {P:PF} {σ:Sg} (h:aO a b c most P σ):P.ms.length<=1001:=Gz h.ok.sz (Hn (Gz h.cm h.m1))
theorem aO.fol {a b c most:Nat} {P:PF} {σ:Sg} (h:aO a b c most P σ):P.fo.length<=1001:=h.ok.len▸h.mkl
theorem aO.ext {a b c most:Nat} {P:PF} {σ σ':Sg} (h:aO a b c most P σ) (E:a6 σ σ'):aO a b c most P σ':=
 ⟨h.ok,h.m1,h.cm,(E.cell _ h.la).trans h.inst,(E.cell _ h.lb).trans h.cb,(E.cell _ h.lc).trans h.cc,h.ab,h.ac,h.bc,GN h.la E.n,GN h.lb E.n,GN h.lc E.n⟩
noncomputable def md (f:Nat) (fo:List Nat) (p:Nat):List Nat:=fo.set p (fo.getD p 0||| f)
noncomputable def uP (fo:List Nat) (l f:Nat):List Nat:=(a8 l).foldl (md f) fo
theorem fm (f:Nat) (ps:List Nat):∀(fo:List Nat),(ps.foldl (md f) fo).length=fo.length:=by
 induction ps with
 |nil=>
  intro fo;exact rfl
 |cons p ps b=>
  intro fo;rw [Jv,b];exact L9
theorem fG (fo:List Nat) (l f:Nat):(uP fo l f).length=fo.length:=fm f _ fo
noncomputable def PF.join (P:PF) (l f:Nat):PF:=⟨P.c,P.ms,uP P.fo l f⟩
noncomputable def PF.place (P:PF) (k:Nat):PF:=⟨P.c,P.ms++[k],P.fo++[0]⟩
section
variable {u:U} {d:Nat} {Q:V->Sg->Prop} {X:Sg->Prop} {σ:Sg} {a b c most:Nat} {P:PF}
theorem aO.follow (h:aO a b c most P σ) {fo:List Nat} (e:fo.length=P.fo.length):aO a b c most ⟨P.c,P.ms,fo⟩ (σ.set c (.list (bA fo))):=
 ⟨⟨h.ok.len.trans e.symm,h.ok.sz⟩,h.m1,h.cm,(af h.ac).trans h.inst,(af h.bc).trans h.cb,am,h.ab,h.ac,h.bc,h.la,h.lb,h.lc⟩
theorem xN {l:List Nat} {i:Nat} (h:i<l.length):(bA l)[i]? =Gq (.int (l.getD i 0:Nat)):=by
 rw [Hd,G8 h,Hi,G8 h];rfl
theorem zH {l:List Nat} {i x:Nat}:(bA l).set i (.int x)=bA (l.set i x):=by
 unfold bA;rw [List.map_set]
inductive JoinI (a b c most:Nat) (P:PF) (σ₀:Sg) (f:Nat) (ls:List Nat) (v1:V):List V->List (Option V)->Sg->Prop where
 |mk (xs ys:List Nat) (y3:Option V) (σ:Sg) (e:ls=xs++ys) (h:aO a b c most ⟨P.c,P.ms,xs.foldl (md f) P.fo⟩ σ) (S:aH (F3 a b c) σ₀ (F3 a b c) σ):JoinI a b c most P σ₀ f ls v1 (bA ys) [Gq (.ref a),Gq v1,Gq (.int f),y3,Gs] σ
theorem Ch (F:bg u) (h:aO a b c most P σ) {l f:Nat} (C:l<2^P.fo.length) (o:∀σ',aO a b c most (P.join l f) σ'->aH (F3 a b c) σ (F3 a b c) σ'->Q .none σ'):ae u (d+2) 295 [.ref a,.int l,.int f] Q X σ:=by
 revert l f;delta u d Q X σ a b c most P;delta l f;refine F.call 295 _ rfl (d+1) _ Q X σ rfl ?_
 have D:=h.fol
 refine bL (az (.cons (.loc rfl) .nil) (pP F C (Gz D (by decide)) fun m j=>?_))
 delta m;refine bG (JoinI a b c most P σ f (a8 l) (.int l)) rfl (.mk [] _ _ _ rfl (h.ext j) (.ext j)) (fun Z Z Z Z=>trivial) (fun v r E σ' I p J Z=>?_) (fun E σ' p=>?_)
 ·delta v r E σ' I;generalize A:v::r=z at p;delta z
  cases p with
  |mk i k G _ e n S=>
   delta i k G
   cases k with
   |nil=>cases A
   |cons y k=>
    delta y k;cases A;refine⟨_,rfl,?_⟩
    have g:(i.foldl (md f) P.fo).length=P.fo.length:=fm f i P.fo
    have H:y<(i.foldl (md f) P.fo).length:=by
     rw [g]
     have:l.testBit y=Gu:=dz.mp (by rw [e];simp)
     refine J1 fun q=>?_;rw [JK (GN C (He (by decide) q))] at this
     cases this
    have s:(bA (i.foldl (md f) P.fo)).length<=1000000:=by rw [bv,g];exact Gz D (by decide)
    have t:ji σ' (.int ((((i.foldl (md f) P.fo).getD y 0||| f:Nat)):Int)) (.ref c) (.int y)=Gq (σ'.set c (.list (bA ((i++[y]).foldl (md f) P.fo)))):=by
     rw [fJ n.cc n.lc s (G9 _) (by rw [bv];exact LG.mpr H),I7,zH,HS];rfl
    refine wq (.op (.cons (.loc rfl) .nil) (a7 n.inst rfl)) (.loc rfl) (bC (aA n.cc) s (cY (xN H))) (.loc rfl) (congrArg Gq (fF _ _)) t (ak (J _ _ ?_).1)
    have B:=n.follow (fo:=(i++[y]).foldl (md f) P.fo) (by rw [fm];exact g.symm)
    exact .mk (i++[y]) k _ _ (by rw [e,GK];rfl) B (S.trans (.one (.inr (.inr rfl))))
 ·generalize A:([]:List V)=z at p
  cases p with
  |mk i k G _ e n S=>
   cases k with
   |cons y k=>cases A
   |nil=>
    rw [GY] at e;refine ak (o _ ?_ S);unfold PF.join uP;rw [e];exact n
theorem xF (F:bg u) (h:aO a b c most P σ) (C:P.ms.length<=P.c) {k:Nat} (J:k≠0) (m:∀σ',aO a b c most (P.place k) σ'->aH (F3 a b c) σ (F3 a b c) σ'->Q (.tup [.bool Gw,.int (2^P.ms.length:Nat),.int (2^P.ms.length:Nat)]) σ'):ae u (d+1) 288 [.ref a,.int k] Q X σ:=by
 revert k;delta u d Q X σ a b c most P;delta k;refine F.call 288 _ rfl d _ Q X σ rfl ?_
 have D:((k:Int) ==0)=Gw:=beq_false_of_ne (by lia)
 refine aq (t:=Gw) (.of (v:=.bool ((k:Int) ==0)) (.op (.cons (.loc rfl) (.cons .const .nil)) rfl) (congrArg Gq D) rfl) (ak ?_)
 have r:=h.mkl
 have E:=h.fol
 refine aD (Ev.app (.op (.cons (.loc rfl) .nil) (a7 h.inst rfl)) (aM h.cb) (.loc rfl) (bK h.cb h.lb (by rw [bv];exact Gz r (by decide))) _ _ ?_)
 generalize f:σ.set b _=j;delta j
 have o:∀x,x≠b->j.cell x=σ.cell x:=fun x l=>by rw [<-f];exact af l
 have G:j.cell b=.list (bA (P.ms++[k])):=by rw [<-f];unfold bA;rw [GZ];exact am
 have s:j.n=σ.n:=by rw [<-f];rfl
 have y:=(o a h.ab).trans h.inst
 have z:=(o c h.bc.symm).trans h.cc
 refine aD (Ev.app (.op (.cons (.loc rfl) .nil) (a7 y rfl)) (aM z) .const (bK z (s▸h.lc) (by rw [bv];exact Gz E (by decide))) _ _ ?_)
 generalize g:j.set c _=i;delta i
 have p:∀x,x≠c->i.cell x=j.cell x:=fun x l=>by rw [<-g];exact af l
 have H:i.cell c=.list (bA (P.fo++[0])):=by rw [<-g];unfold bA;rw [GZ];exact am
 have n:i.n=σ.n:=by rw [<-g];exact s
 have A:=(p a h.ac).trans y
 have B:=(p b h.bc).trans G
 have I:((bA (P.ms++[k])).length:Int) - 1=(P.ms.length:Nat):=by rw [bv,GC];show((P.ms.length+1:Nat):Int) - 1=_;lia
 have q:aJ tab (.bin .shl) [.int 1,.int (((bA (P.ms++[k])).length:Int) - 1)] i=Gq (.int (2^P.ms.length:Nat),i):=by
  rw [I,aF (qQ (G9 _) (by lia) (by decide)),q0]
 refine ar (.op (.cons .const (.cons (.op (.cons (.op (.cons (.op (.cons (.loc rfl) .nil) (a7 A rfl)) .nil) (d8 (aA B) (by rw [bv,GC];exact Gz (Hn r) (by decide)))) (.cons .const .nil)) (aF rfl)) .nil)) q) rfl ?_
 refine ax (Ev.op (.cons .const (.cons (.loc rfl) (.cons (.loc rfl) .nil))) (aK (Gr rfl)) _ _ (m i ⟨⟨by unfold PF.place;simp only [GC];rw [h.ok.len];rfl,by unfold PF.place;simp only [GC];exact Hn C⟩,h.m1,h.cm,A,B,H,h.ab,h.ac,h.bc,n▸h.la,n▸h.lb,n▸h.lc⟩ ⟨Kj n.symm,fun x Z l=>(p x fun e=>l (.inr (.inr e))).trans (o x fun e=>l (.inr (.inl e))),fun Z h=>.inl h⟩))
end
structure RT where
 e:Bool
 f:Nat
 l:Nat
noncomputable def RT.v (r:RT):V:=.tup [.bool r.e,.int r.f,.int r.l]
noncomputable def gA (s p:RT):RT:=⟨s.e&&p.e,bif s.e then s.f||| p.f else s.f,bif p.e then s.l||| p.l else p.l⟩
noncomputable def wp (s:PF×RT) (p:RT):PF×RT:=(s.1.join s.2.l p.f,gA s.2 p)
noncomputable def dW (P:PF) (ps:List RT):PF×RT:=ps.foldl wp (P,⟨Gu,0,0⟩)
noncomputable def vV (s p:RT):RT:=⟨s.e||p.e,s.f||| p.f,s.l||| p.l⟩
noncomputable def gN (ps:List RT):RT:=ps.foldl vV ⟨Gw,0,0⟩
def RT.In (r:RT) (n:Nat):Prop:=r.l<2^n
theorem RT.In.up {r:RT} {n m:Nat} (h:r.In n) (q:n<=m):r.In m:=GN h (He (by decide) q)
theorem zD {s p:RT} {n:Nat} (h:s.In n) (h':p.In n):(gA s p).In n:=by
 unfold RT.In gA;cases p.e
 ·exact h'
 ·exact Og h h'
theorem xQ {s p:RT} {n:Nat} (h:s.In n) (h':p.In n):(vV s p).In n:=Og h h'
theorem mC {e:Bool} {n:Nat}:(⟨e,0,0⟩:RT).In n:=Nat.two_pow_pos n
section
variable {u:U} {d:Nat} {Q:V->Sg->Prop} {X:Sg->Prop} {σ:Sg} {a b c most:Nat} {P:PF}
theorem uO (F:bg u) (h:aO a b c most P σ) {ρ:List (Option V)} {k l f:Nat} {e j:E} (m:ρ[k]? =Gq (Gq (.ref a))) (n:Ev (ae u (d+2)) ρ σ e (.int l) σ) (i:Ev (ae u (d+2)) ρ σ j (.int f) σ) (o:l<2^P.fo.length) (g:∀σ',aO a b c most (P.join l f) σ'->aH (F3 a b c) σ (F3 a b c) σ'->Q .none σ'):
  wpE tab (ae u (d+2)) ρ (.callM 45 (.loc k) [e,j]) Q X σ:=
 w_callM (.loc m) (aw h.inst rfl rfl) (.cons n (.cons i .nil)) (Ch F h o g)
inductive RowP (a b c most:Nat) (P:PF) (σ₀:Sg) (rs:List RT) (v1:V):List V->List (Option V)->Sg->Prop where
 |mk (xs ys:List RT) (y5 y6 y7:Option V) (s:PF×RT) (σ:Sg) (e:rs=xs++ys) (es:s=dW P xs) (h:aO a b c most s.1 σ) (hl:s.1.fo.length=P.fo.length) (hi:s.2.In P.fo.length) (S:aH (F3 a b c) σ₀ (F3 a b c) σ):
  RowP a b c most P σ₀ rs v1 (ys.map RT.v) [Gq (.ref a),Gq v1,Gq (.bool s.2.e),Gq (.int s.2.f),Gq (.int s.2.l),y5,y6,y7] σ
theorem Ax (F:bg u) (h:aO a b c most P σ) {rs:List RT} (R:∀r∈rs,r.In P.fo.length) (N:rs.length<=1000000) (n:∀σ',aO a b c most (dW P rs).1 σ'->(dW P rs).1.fo.length=P.fo.length->(dW P rs).2.In P.fo.length->aH (F3 a b c) σ (F3 a b c) σ'->Q (dW P rs).2.v σ'):
  ae u (d+3) 302 [.ref a,.lst (rs.map RT.v)] Q X σ:=by
 revert rs;delta u d Q X σ a b c most P;delta rs;refine F.call 302 _ rfl (d+2) _ Q X σ rfl ?_;refine ar (.op (.cons .const (.cons .const (.cons .const .nil))) (aK (Gr rfl))) rfl ?_;refine bL (Ev.loc rfl _ _ ?_);refine bG (RowP a b c most P σ rs (.lst (rs.map RT.v))) rfl (.mk [] rs Gs Gs Gs (P,⟨Gu,0,0⟩) σ rfl rfl h rfl mC (.refl _ _)) (fun Z Z Z Z=>trivial) (fun v r O σ' C o T Z=>?_) (fun O σ' o=>?_)
 ·delta v r O σ' C;generalize D:v::r=z at o;delta z
  cases o with
  |mk E i k l m s _ e I J G H S=>
   delta E i k l m s
   cases i with
   |nil=>cases D
   |cons y i=>
    delta y i;cases D;refine⟨_,rfl,?_⟩
    have U:=R y (by rw [e];simp)
    have W:wp s y=dW P (E++[y]):=by unfold dW;rw [HS,I];rfl
    refine aD (uO F J rfl (.loc rfl) (.loc rfl) (by rw [G];exact H) fun f p q=>?_)
    delta f
    have K:∀k l m:Option V,C .next [Gq (.ref a),Gq (.lst (rs.map RT.v)),Gq (.bool (s.2.e&&y.e)),Gq (.int (gA s.2 y).f),Gq (.int (gA s.2 y).l),k,l,m] f:=fun k l m=>
     (T _ _ (.mk (E++[y]) i k l m (wp s y) f (by rw [e,GK];rfl) W p ((fG _ _ _).trans G) (zD H U) (S.trans q))).1
    have A:∀L:Nat,L=(gA s.2 y).f->wpSs tab (ae u (d+2)) [.ite (.loc 5) [.aug 4 .bor (.loc 7)] [.assign (.loc 4) (.loc 7)],.assign (.loc 2) (.and (.loc 2) (.loc 5))] [Gq (.ref a),Gq (.lst (rs.map RT.v)),Gq (.bool s.2.e),Gq (.int L),Gq (.int s.2.l),Gq (.bool y.e),Gq (.int y.f),Gq (.int y.l)] C X f:=fun L Y=>by
     subst Y
     have j:∀M:Nat,M=(gA s.2 y).l->wpSs tab (ae u (d+2)) [.assign (.loc 2) (.and (.loc 2) (.loc 5))] [Gq (.ref a),Gq (.lst (rs.map RT.v)),Gq (.bool s.2.e),Gq (.int (gA s.2 y).f),Gq (.int M),Gq (.bool y.e),Gq (.int y.f),Gq (.int y.l)] C X f:=fun M el=>by
      subst el
      have ev:Ev (ae u (d+2)) [Gq (.ref a),Gq (.lst (rs.map RT.v)),Gq (.bool s.2.e),Gq (.int (gA s.2 y).f),Gq (.int (gA s.2 y).l),Gq (.bool y.e),Gq (.int y.f),Gq (.int y.l)] f (.and (.loc 2) (.loc 5)) (.bool (s.2.e&&y.e)) f:=by
       cases B:s.2.e with
       |false=>exact .andF (.loc rfl) rfl
       |true=>exact .andT (.loc rfl) rfl (.loc rfl)
      exact ar ev rfl (ak (K _ _ _))
     cases g:y.e with
     |false=>exact aq (t:=Gw) (.of (.loc rfl) rfl rfl) (ar (.loc rfl) rfl (ak (by rw [<-g];exact j y.l (by unfold gA;rw [g];rfl))))
     |true=>exact aq (t:=Gu) (.of (.loc rfl) rfl rfl) (kN rfl (.loc rfl) (congrArg Gq (fF _ _)) (ak (by rw [<-g];exact j (s.2.l||| y.l) (by unfold gA;rw [g];rfl))))
    cases B:s.2.e with
    |false=>exact aq (t:=Gw) (.of (.loc rfl) rfl rfl) (ak (by rw [<-B];exact A s.2.f (by unfold gA;rw [B];rfl)))
    |true=>exact aq (t:=Gu) (.of (.loc rfl) rfl rfl) (kN rfl (.loc rfl) (congrArg Gq (fF _ _)) (ak (by rw [<-B];exact A (s.2.f||| y.f) (by unfold gA;rw [B];rfl))))
 ·generalize D:([]:List V)=z at o
  cases o with
  |mk E i k l m s _ e I J G H S=>
   cases i with
   |cons y i=>cases D
   |nil=>
    rw [GY] at e;subst e;subst I;exact ax (Ev.op (.cons (.loc rfl) (.cons (.loc rfl) (.cons (.loc rfl) .nil))) (aK (Gr rfl)) _ _ (n _ J G H S))
inductive ChoP (σ₀:Sg) (a:Nat) (rs:List RT) (v1:V):List V->List (Option V)->Sg->Prop where
 |mk (xs ys:List RT) (y5 y6 y7:Option V) (e:rs=xs++ys):ChoP σ₀ a rs v1 (ys.map RT.v) [Gq (.ref a),Gq v1,Gq (.bool (gN xs).e),Gq (.int (gN xs).f),Gq (.int (gN xs).l),y5,y6,y7] σ₀
theorem s9 (F:bg u) {rs:List RT} (n:rs.length<=1000000) (j:Q (gN rs).v σ):ae u (d+1) 309 [.ref a,.lst (rs.map RT.v)] Q X σ:=by
 revert rs;delta u d Q X σ a;delta rs;refine F.call 309 _ rfl d _ Q X σ rfl ?_;refine ar (.op (.cons .const (.cons .const (.cons .const .nil))) (aK (Gr rfl))) rfl ?_;refine bL (Ev.loc rfl _ _ ?_);refine bG (ChoP σ a rs (.lst (rs.map RT.v))) rfl (.mk [] rs Gs Gs Gs rfl) (fun Z Z Z Z=>trivial) (fun v r m i s k t Z=>?_) (fun m i k=>?_)
 ·delta v r m i s;generalize l:v::r=z at k;delta z
  cases k with
  |mk f g o p q e=>
   delta f g o p q
   cases g with
   |nil=>cases l
   |cons y g=>
    delta y g;cases l;refine⟨_,rfl,?_⟩
    have A:vV (gN f) y=gN (f++[y]):=by unfold gN;rw [HS];rfl
    have B:Ev (ae u d) [Gq (.ref a),Gq (.lst (rs.map RT.v)),Gq (.bool (gN f).e),Gq (.int (gN f).f),Gq (.int (gN f).l),Gq (.bool y.e),Gq (.int y.f),Gq (.int y.l)] σ (.or (.loc 2) (.loc 5)) (.bool ((gN f).e||y.e)) σ:=by
     cases C:(gN f).e with
     |true=>exact .orT (.loc rfl) rfl
     |false=>exact .orF (.loc rfl) rfl (.loc rfl)
    refine ar B rfl (kN rfl (.loc rfl) (congrArg Gq (fF _ _)) (kN rfl (.loc rfl) (congrArg Gq (fF _ _)) (ak (t _ _ ?_).1)))
    have:=ChoP.mk (σ₀:=σ) (a:=a) (rs:=rs) (v1:=.lst (rs.map RT.v)) (f++[y]) g (Gq (.bool y.e)) (Gq (.int y.f)) (Gq (.int y.l)) (by rw [e,GK];rfl)
    rw [<-A] at this;exact this
 ·delta m i;generalize l:([]:List V)=z at k
  cases k with
  |mk f g o p q e=>
   cases g with
   |cons y g=>cases l
   |nil=>
    rw [GY] at e;subst e;exact ax (Ev.op (.cons (.loc rfl) (.cons (.loc rfl) (.cons (.loc rfl) .nil))) (aK (Gr rfl)) _ _ j)
theorem lK (F:bg u) (h:aO a b c most P σ) {r:RT} (m:r.In P.fo.length) (g:∀σ',aO a b c most (P.join r.l r.f) σ'->aH (F3 a b c) σ (F3 a b c) σ'->Q r.v σ'):ae u (d+3) 316 [.ref a,r.v] Q X σ:=by
 refine F.call 316 _ rfl (d+2) _ Q X σ rfl ?_
 have l:∀ {k:Int} {v:V},B3 [.bool r.e,.int r.f,.int r.l] k=Gq v->Ev (ae u (d+2)) (dR 2 [0,1] [.ref a,r.v]) σ (.op .idx [.loc 1,.const (.int k)]) v σ:=fun e=>.op (.cons (.loc rfl) (.cons .const .nil)) (bC rfl (Gr rfl) e)
 exact aD (uO F h rfl (l rfl) (l rfl) m fun f i j=>ax (Ev.loc rfl _ _ (g f i j)))
end
noncomputable def rdsF (r:Tr->PF->PF×RT):List Tr->PF->PF×List RT
 |[],P=>(P,[])
 |t::b,P=>((rdsF r b (r t P).1).1,(r t P).2::(rdsF r b (r t P).1).2)
noncomputable def repsF (r:PF->PF×RT):Nat->PF->PF×List RT
 |0,P=>(P,[])
 |k+1,P=>((repsF r k (r P).1).1,(r P).2::(repsF r k (r P).1).2)
noncomputable def RT.opt (r:RT):RT:=⟨Gu,r.f,r.l⟩
noncomputable def C0 (r:PF->PF×RT) (s:PF×List RT):PF×RT:=dW ((r s.1).1.join (r s.1).2.l (r s.1).2.f) (s.2++[(r s.1).2.opt])
noncomputable def AI (r:PF->PF×RT) (k:Nat) (s:PF×List RT):PF×RT:=dW (repsF r k s.1).1 (s.2++(repsF r k s.1).2.map RT.opt)
noncomputable def sq (r:PF->PF×RT) (lo:Nat):Option Nat->PF->PF×RT
 |none,P=>C0 r (repsF r lo P)
 |some hi,P=>AI r (hi - lo) (repsF r lo P)
noncomputable def PF.inc (P:PF):PF:=⟨P.c+1,P.ms,P.fo⟩
noncomputable def rd:Nat->Tr->PF->PF×RT
 |n+1,.cat l r,P=>dW (rdsF (rd n) (spine 22 (.cat l r)) P.inc).1 (rdsF (rd n) (spine 22 (.cat l r)) P.inc).2
 |n+1,.alt l r,P=>((rdsF (rd n) (spine 23 (.alt l r)) P.inc).1,gN (rdsF (rd n) (spine 23 (.alt l r)) P.inc).2)
 |n+1,.star t,P=>((rd n t P.inc).1.join (rd n t P.inc).2.l (rd n t P.inc).2.f,(rd n t P.inc).2.opt)
 |n+1,.plus t,P=>((rd n t P.inc).1.join (rd n t P.inc).2.l (rd n t P.inc).2.f,(rd n t P.inc).2)
 |n+1,.opt t,P=>((rd n t P.inc).1,(rd n t P.inc).2.opt)
 |n+1,.rep t lo hi,P=>sq (rd n t) lo hi P.inc
 |_,.a,P=>(P.inc.place 2,⟨Gw,2^P.ms.length,2^P.ms.length⟩)
 |_,.b,P=>(P.inc.place 4,⟨Gw,2^P.ms.length,2^P.ms.length⟩)
 |_,.empty,P=>(P.inc,⟨Gu,0,0⟩)
 |_,_,P=>(P.inc,⟨Gw,0,0⟩)
theorem AX (xs:List RT):∀(s:PF×RT),(xs.foldl wp s).1.c=s.1.c:=by
 induction xs with
 |nil=>
  intro _;exact rfl
 |cons x xs b=>
  intro s;exact b (wp s x)
theorem qk (P:PF) (xs:List RT):(dW P xs).1.c=P.c:=AX xs _
structure uy (a b c most:Nat) (P:PF) (k:Nat) (s:PF×RT) (σ σ':Sg):Prop where
 at_:aO a b c most s.1 σ'
 st:aH (F3 a b c) σ (F3 a b c) σ'
 cn:s.1.c=P.c+k
 len:P.fo.length<=s.1.fo.length
 in_:s.2.In s.1.fo.length
structure eZ (u:U) (D:Nat) (t:Tr) (r:PF->PF×RT) (k:Nat):Prop where
 call:∀ {Q:V->Sg->Prop} {X:Sg->Prop} {σ:Sg} {a b c most:Nat} {P:PF},aO a b c most P σ->(P.c+k<=most->∀σ',uy a b c most P k (r P) σ σ'->Q (r P).2.v σ')->(most<P.c+k->∀σ',aH (F3 a b c) σ (F3 a b c) σ'->X σ')->ae u D 281 [.ref a,t.node] Q X σ
theorem eZ.up {u:U} {D D':Nat} {t:Tr} {r:PF->PF×RT} {k:Nat} (B:eZ u D t r k) (h:D<=D'):eZ u D' t r k:=⟨fun b p e=>(B.call b p e).up h⟩
section
variable {u:U} {d:Nat} {Q:V->Sg->Prop} {X:Sg->Prop} {σ:Sg} {a b c most:Nat} {P:PF}
theorem dY {C:aC} {ρ:List (Option V)} {n:Nat} {f:GS} {e g:E} {v:V} {σ₁:Sg} (h:Ev C ρ σ e v σ₁) (i:d6 tab n σ₁ v=Gq f) (q:wpE tab C ρ g (fun w σ₂=>C f [v,w] Q X σ₂) X σ₁):wpE tab C ρ (.callM n e [g]) Q X σ:=by
 refine h _ _ ?_;simp only [i];exact q
theorem t9 (h:aO a b c most P σ) {x:Nat} (e:σ.n<=x):¬F3 a b c x:=fun z=>by
 rcases z with rfl|rfl|rfl
 ·exact absurd h.la (HN.mpr e)
 ·exact absurd h.lb (HN.mpr e)
 ·exact absurd h.lc (HN.mpr e)
inductive RdsI (a b c most:Nat) (r:Tr->PF->PF×RT) (k:Tr->Nat) (R:PF×List RT) (σ₀:Sg) (P₀:PF) (n₀:Nat) (ps:List Tr):List V->List V->Sg->Prop where
 |mk (xs ys:List Tr) (rs:List RT) (P:PF) (σ:Sg) (e:ps=xs++ys) (eR:((rdsF r ys P).1,rs++(rdsF r ys P).2)=R) (h:aO a b c most P σ) (S:aH (F3 a b c) σ₀ (F3 a b c) σ) (en:P.c+(ys.map k).sum=n₀) (hl:P₀.fo.length<=P.fo.length) (hi:∀r∈rs,r.In P.fo.length) (el:rs.length=xs.length):
  RdsI a b c most r k R σ₀ P₀ n₀ ps (ys.map Tr.node) (rs.map RT.v) σ
theorem yV (F:bg u) {r:Tr->PF->PF×RT} {k:Tr->Nat} {ps:List Tr} {ρ:List (Option V)} {e:E} (B:∀t∈ps,eZ u d t (r t) (k t)) (p:ps.length<=1000) (M:ρ[0]? =Gq (Gq (.ref a))) (h:aO a b c most P σ)
  (Y:∀ {Q:V->Sg->Prop},(∀σ₁,a6 σ σ₁->Q (.lst (ps.map Tr.node)) σ₁)->wpE tab (ae u d) ρ e Q X σ)
  (g:P.c+(ps.map k).sum<=most->∀σ' i,aO a b c most (rdsF r ps P).1 σ'->aH (F3 a b c) σ (F3 a b c) σ'->(rdsF r ps P).1.c=P.c+(ps.map k).sum->P.fo.length<=(rdsF r ps P).1.fo.length->(∀x∈(rdsF r ps P).2,x.In (rdsF r ps P).1.fo.length)->(rdsF r ps P).2.length=ps.length->σ'.cell i=.list ((rdsF r ps P).2.map RT.v)->i<σ'.n->σ.n<=i->¬F3 a b c i->Q (.ref i) σ')
  (N:most<P.c+(ps.map k).sum->∀σ',aH (F3 a b c) σ (F3 a b c) σ'->X σ'):wpE tab (ae u d) ρ (.comp [Gs,Gs,Gq 0] 1 (.callM 43 (.loc 2) [.loc 1]) e) Q X σ:=by
 revert r k ps ρ e;delta u d Q X σ a b c most P;delta r k ps ρ e;refine jF (Y fun σ₁ j=>?_);delta σ₁;refine fx (RdsI a b c most r k (rdsF r ps P) σ P (P.c+(ps.map k).sum) ps) (jW (by rw [GG];exact Gz p (by decide))) (.mk [] ps [] P σ₁ rfl rfl (h.ext j) (.ext j) rfl (GL _) (fun Z h=>nomatch h) rfl) (fun Z Z Z Z=>trivial) (fun v z s σ' Q' A hQ=>?_) (fun s σ' A=>?_)
 ·delta v z s σ' Q';generalize J:v::z=w at A;delta w
  cases A with
  |mk O l K C _ D m n S o T U W=>
   delta O l K C
   cases l with
   |nil=>cases J
   |cons y l=>
    delta y l;cases J;rw [Hp,H7] at o
    have G:(n8 [Gs,Gs,Gq 0] ρ 1 y.node)[2]? =Gq (Gq (.ref a)):=by unfold n8;simp [M]
    have H:(n8 [Gs,Gs,Gq 0] ρ 1 y.node)[1]? =Gq (Gq y.node):=by unfold n8;simp
    refine w_callM (.loc G) (aw n.inst rfl rfl) (.cons (.loc H) .nil) ((B y (by rw [D];simp)).call n (fun q f L=>hQ _ _ ?_) fun q f S'=>N ((l5 0x1d3772101c71041c34) o q) f (S.trans S'))
    have:=RdsI.mk (a:=a) (b:=b) (c:=c) (most:=most) (r:=r) (k:=k) (R:=rdsF r ps P) (σ₀:=σ) (P₀:=P) (n₀:=P.c+(ps.map k).sum) (ps:=ps) (O++[y]) l (K++[(r y C).2]) (r y C).1 f (by rw [D,GK];rfl) (by rw [GK];exact m) L.at_ (S.trans L.st) (by rw [L.cn];exact(l4 0x1d3772101d372710) o) (Gz T L.len) (fun x I=>by
     rcases GD.mp I with I|I
     ·exact(U x I).up L.len
     ·rw [GF.mp I];exact L.in_) (by rw [GC,GC,W];rfl)
    rw [GZ] at this;exact this
 ·generalize J:([]:List V)=w at A
  cases A with
  |mk O l K C _ D m n S o T U W=>
   cases l with
   |cons y l=>cases J
   |nil=>
    have m:(C,K++[])=rdsF r ps P:=m
    rw [GY] at m D;rw [<-m] at g;subst D;exact g (by have:=n.cm;rw [<-o];exact this) _ _ (n.ext (.alloc _ _)) (S.trans (.ext (.alloc _ _))) o T U W ah (Gx _) S.n (t9 n (GL _))
end
noncomputable def iM (k lo:Nat):Option Nat->Nat
 |none=>(lo+1) * k
 |some hi=>hi * k
theorem aH.tail {P b:Nat->Prop} {σ₀ σ:Sg} (S:aH P σ₀ b σ) {i:Nat} {v:Cell} (d:σ₀.n<=i):aH P σ₀ b (σ.set i v):=
 ⟨S.n,fun x c e=>(af (G6 (GN c d))).trans (S.keep x c e),S.foot⟩
section
variable {u:U} {d:Nat} {Q:V->Sg->Prop} {X:Sg->Prop} {σ:Sg} {a b c most:Nat} {P:PF}
theorem aO.kill (h:aO a b c most P σ) {x:Nat} {v:Cell} (f:¬F3 a b c x):aO a b c most P (σ.set x v):=
 ⟨h.ok,h.m1,h.cm,(af fun e=>f (.inl e.symm)).trans h.inst,(af fun e=>f (.inr (.inl e.symm))).trans h.cb,(af fun e=>f (.inr (.inr e.symm))).trans h.cc,h.ab,h.ac,h.bc,h.la,h.lb,h.lc⟩
theorem qH (F:bg u) {σ₀:Sg} (h:aO a b c most P σ) {rs:List RT} {i:Nat} (g:σ.cell i=.list (rs.map RT.v)) (hi:i<σ.n) (j:¬F3 a b c i) (k:∀r∈rs,r.In P.fo.length) (e:rs.length<=1000000) (S:aH (F3 a b c) σ₀ (F3 a b c) σ) (l:σ₀.n<=i)
  (f:∀σ',aO a b c most (dW P rs).1 σ'->(dW P rs).1.fo.length=P.fo.length->(dW P rs).2.In P.fo.length->aH (F3 a b c) σ₀ (F3 a b c) σ'->Q (dW P rs).2.v σ'):ae u (d+3) 302 [.ref a,.ref i] Q X σ:=by
 exact jD (jG g hi) (Ax F (h.kill j) k e fun σ' m n o p=>f σ' m n o ((S.tail l).trans p))
inductive RepI (a b c most:Nat) (r:PF->PF×RT) (k lo:Nat) (R:PF×List RT) (σ₀:Sg) (P₀:PF) (n₀:Nat):List V->List V->Sg->Prop where
 |mk (x j:Nat) (rs:List RT) (P:PF) (σ:Sg) (e:x+j=lo) (eR:((repsF r j P).1,rs++(repsF r j P).2)=R) (h:aO a b c most P σ) (S:aH (F3 a b c) σ₀ (F3 a b c) σ) (en:P.c+j * k=n₀) (hl:P₀.fo.length<=P.fo.length) (hi:∀r∈rs,r.In P.fo.length) (el:rs.length=x):
  RepI a b c most r k lo R σ₀ P₀ n₀ ((aZ lo).drop x) (rs.map RT.v) σ
inductive Rep2 (a b c most:Nat) (r:PF->PF×RT) (k m:Nat) (R:PF×List RT) (σ₀:Sg) (P₀:PF) (n₀ tl:Nat) (v1:V):List V->List (Option V)->Sg->Prop where
 |mk (x j:Nat) (y2 y4 y5 y6:Option V) (rs:List RT) (P:PF) (σ:Sg) (e:x+j=m) (eR:((repsF r j P).1,rs++(repsF r j P).2.map RT.opt)=R) (h:aO a b c most P σ) (S:aH (F3 a b c) σ₀ (F3 a b c) σ) (en:P.c+j * k=n₀) (hl:P₀.fo.length<=P.fo.length) (hi:∀r∈rs,r.In P.fo.length) (el:rs.length<=1000+x) (ht:tl<σ.n) (hf:¬F3 a b c tl) (hc:σ.cell tl=.list (rs.map RT.v)):
  Rep2 a b c most r k m R σ₀ P₀ n₀ tl v1 ((aZ m).drop x) [Gq (.ref a),Gq v1,y2,Gq (.ref tl),y4,y5,y6,Gs] σ
theorem su (F:bg u) {t:Tr} {r:PF->PF×RT} {k lo:Nat} {hi:Option Nat} (B:eZ u (d+3) t r k) (M:lo<=1000) (hh:∀k,hi=Gq k->lo<=k/\k<=1000) (h:aO a b c most P σ)
  (J:P.c+iM k lo hi<=most->∀σ',uy a b c most P (iM k lo hi) (sq r lo hi P) σ σ'->Q (sq r lo hi P).2.v σ') (N:most<P.c+iM k lo hi->∀σ',aH (F3 a b c) σ (F3 a b c) σ'->X σ'):ae u (d+4) 321 [.ref a,(Tr.rep t lo hi).node] Q X σ:=by
 revert t r k lo hi;delta u d Q X σ a b c most P;delta t r k lo hi
 have d':lo * k<=iM k lo hi:=by
  cases hi with
  |none=>exact J4 k (Hk lo)
  |some h=>exact J4 k (hh h rfl).1
 refine F.call 321 _ rfl (d+3) _ Q X σ rfl ?_
 have K:∀ {ρ:List (Option V)} {σ:Sg} {n i:Nat} {v:V},ρ[i]? =Gq (Gq (Tr.rep t lo hi).node)->eQ tab 862 n [(18,t.node),(19,.int lo),(20,zU hi)]=Gq v->Ev (ae u (d+3)) ρ σ (.op (.attr n) [.loc i]) v σ:=fun h e=>bM (.loc h) rfl e
 refine w_asg (xe (K (i:=1) (v:=.int lo) rfl rfl _ _ ?_));refine s6 (RepI a b c most r k lo (repsF r lo P) σ P (P.c+lo * k)) (G9 _) (by lia) (.mk 0 lo [] P σ (IG _) rfl h (.refl _ _) rfl (GL _) (fun Z h=>nomatch h) rfl) (fun v z c' σ' Q' D hQ=>?_) (fun c' σ' D=>?_)
 ·generalize E:v::z=w at D
  cases D with
  |mk x j l f _ e O h' S T hl G el=>
   obtain⟨rfl,rfl,j,rfl,ej⟩:=dw E e;rw [HX] at T;refine w_callM (.loc rfl) (aw h'.inst rfl rfl) (.cons (K (i:=2) rfl rfl) .nil) (B.call h' (fun q g L=>hQ _ _ ?_) fun q g S'=>N (((l7 0x1d7517746631b251c74301c7210) T d' q)) g (S.trans S'))
   have u1:=RepI.mk (a:=a) (b:=b) (c:=c) (most:=most) (r:=r) (k:=k) (lo:=lo) (R:=repsF r lo P) (σ₀:=σ) (P₀:=P) (n₀:=P.c+lo * k) (x+1) j (l++[(r f).2]) (r f).1 g ej (by rw [GK];exact O) L.at_ (S.trans L.st) (by rw [L.cn];exact(l4 0x1d3771201d372710) T) (Gz hl L.len) (fun y s=>by
    rcases GD.mp s with s|s
    ·exact(G y s).up L.len
    ·rw [GF.mp s];exact L.in_) (by rw [GC,el];rfl)
   rw [GZ] at u1;exact u1
 ·delta c' σ';generalize E:([]:List V)=w at D;delta w
  cases D with
  |mk x j l f _ e O h' S T hl G el=>
   delta x j l f;obtain rfl:=dp E e
   have O:(f,l++[])=repsF r lo P:=O
   have T:f.c=P.c+lo * k:=by rw [Jq] at T;exact T
   rw [GY] at O
   have e':l.length<=1000:=((l3 0x1d270811b89e93821d101b89e9380) e M el)
   refine aB rfl ?_
   have h1:=h'.ext (a6.alloc σ' (.list (l.map RT.v)))
   have S1:=S.trans (.ext (a6.alloc σ' (.list (l.map RT.v))))
   have c1:(σ'.alloc (.list (l.map RT.v))).cell σ'.n=.list (l.map RT.v):=ah
   have f1:=t9 h' (GL _)
   have l1:σ'.n<(σ'.alloc (.list (l.map RT.v))).n:=Gx _
   generalize σ'.alloc (.list (l.map RT.v))=s1 at h1 S1 c1 l1;delta s1
   cases hi with
   |none=>
    refine aq (t:=Gu) (.of (.op (.cons (K (i:=1) rfl rfl) .nil) rfl) rfl rfl) ?_
    have ek:iM k lo Gs=lo * k+k:=HX lo k
    refine w_asg (dY (.loc rfl) (aw h1.inst rfl rfl) (w_callM (.loc rfl) (aw h1.inst rfl rfl) (.cons (K (i:=1) rfl rfl) .nil) (B.call h1 (fun q s2 L=>lK F L.at_ L.in_ fun s3 h3 S3=>aB rfl ?_) fun q g S'=>N (by lia) g (S1.trans S'))))
    revert s3;delta s2;delta s3
    have U:=L.st.trans S3
    obtain⟨o1,o2,o3⟩:=U.other l1 f1
    have c3:=o2.trans c1
    refine aD (Ev.app (.loc rfl) (aM c3) (.op (.cons .const (.cons (.loc rfl) (.cons (.loc rfl) .nil))) (aK (Gr rfl))) (bK c3 o3 (by rw [GG];exact(l3 0x1d270811b89e93821d101b09492949f80) e M el)) _ _ ?_)
    have h4:=h3.kill (v:=.list ((l++[(r f).2.opt]).map RT.v)) f1
    have S4:aH (F3 a b c) σ (F3 a b c) (s3.set σ'.n (.list ((l++[(r f).2.opt]).map RT.v))):=(S1.trans U).tail S.n
    rw [show l.map RT.v++[.tup [.bool Gu,.int (r f).2.f,.int (r f).2.l]]=(l++[(r f).2.opt]).map RT.v by rw [GZ];rfl]
    have pl:((r f).1.join (r f).2.l (r f).2.f).fo.length=(r f).1.fo.length:=fG _ _ _
    refine ax (w_callM (.loc rfl) (aw h4.inst rfl rfl) (.cons (.loc rfl) .nil) (qH F h4 am o3 f1 (fun y s=>?_) (by rw [GC];show l.length+1<=_;exact(l3 0x1d270811b89e93821d101b09492949f87180) e M el) S4 S.n fun W h5 h6 h7 S5=>?_))
    ·rw [pl];rcases GD.mp s with s|s
     ·exact(G y s).up L.len
     ·rw [GF.mp s];exact L.in_
    ·have C:=J (by have u2:=L.at_.cm;have u3:=L.cn;lia) W
     rw [show sq r lo Gs P=C0 r (repsF r lo P) from rfl, <-O] at C
     refine C ⟨h5,S5,?_,?_,?_⟩
     ·show(dW _ _).1.c=_
      rw [qk]
      show(r f).1.c=_
      rw [L.cn];lia
     ·show P.fo.length<=(dW _ _).1.fo.length
      rw [h6,pl];exact Gz hl L.len
     ·show(dW _ _).2.In (dW _ _).1.fo.length
      rw [h6];exact h7
   |some m=>
    delta m;obtain⟨k1,k2⟩:=hh m rfl
    have ek:iM k lo (Gq m)=lo * k+(m - lo) * k:=by
     show m * k=_
     rw [<-Md,Jt k1]
    refine aq (t:=Gw) (.of (.op (.cons (K (i:=1) rfl rfl) .nil) rfl) rfl rfl) (ak ?_)
    have es:(m:Int) - lo=((m - lo:Nat):Int):=by lia
    refine dO (Ev.op (.cons (K (i:=1) (v:=.int m) rfl rfl) (.cons (K (i:=1) (v:=.int lo) rfl rfl) .nil)) (aF (op:=.sub) (r:=((m - lo:Nat):Int)) (congrArg Gq es)) _ _ ?_);refine cO (Rep2 a b c most r k (m - lo) ((repsF r (m - lo) f).1,l++(repsF r (m - lo) f).2.map RT.opt) σ P (P.c+iM k lo (Gq m)) σ'.n (Tr.rep t lo (Gq m)).node) (G9 _) (by lia) (.mk 0 (m - lo) _ _ _ _ l f s1 (IG _) rfl h1 S1 (by lia) hl G e' l1 f1 c1) (fun v z ρ s2 K' D hK Z=>?_) (fun ρ s2 D=>?_)
    ·delta v z ρ s2 K';generalize E:v::z=w at D;injections w;intro E D
     cases D with
     |mk x j y2 y4 y5 y6 A C _ e p Y U o H I b' ht hf hc=>
      injections x j y2 y4 y5 y6 A C;intro e p o H I b' E Y hc;obtain⟨rfl,rfl,j,rfl,ej⟩:=dw E e;injections j;intro ej e p o;rw [HX] at o;refine w_asg (w_callM (.loc rfl) (aw Y.inst rfl rfl) (.cons (K (i:=1) rfl rfl) .nil) (B.call Y (fun q s3 L=>aB rfl ?_) fun q g S'=>N (((l5 0x1d1773421c73201c10) o q)) g (U.trans S')));delta s3;obtain⟨o1,o2,o3⟩:=L.st.other ht hf
      have c3:=o2.trans hc
      refine aD (Ev.app (.loc rfl) (aM c3) (.op (.cons .const (.cons (.loc rfl) (.cons (.loc rfl) .nil))) (aK (Gr rfl))) (bK c3 o3 (by rw [GG];lia)) _ _ (ak ?_))
      rw [show A.map RT.v++[.tup [.bool Gu,.int (r C).2.f,.int (r C).2.l]]=(A++[(r C).2.opt]).map RT.v by rw [GZ];rfl]
      have S4:aH (F3 a b c) σ (F3 a b c) (s3.set σ'.n (.list ((A++[(r C).2.opt]).map RT.v))):=(U.trans L.st).tail S.n
      exact(hK _ _ (.mk (x+1) j _ _ _ _ (A++[(r C).2.opt]) (r C).1 _ ej (by rw [GK];exact p) (L.at_.kill f1) S4 (by rw [L.cn];exact(l4 0x1d3771201d372710) o) (Gz H L.len) (fun y s=>by
       rcases GD.mp s with s|s
       ·exact(I y s).up L.len
       ·rw [GF.mp s];exact L.in_) (by rw [GC];show A.length+1<=_;exact(l2 0x1b7189e93801b7718189e9387180) b') o3 f1 am)).1
    ·delta ρ s2;generalize E:([]:List V)=w at D
     cases D with
     |mk x j y2 y4 y5 y6 A C _ e p Y U o H I b' ht hf hc=>
      obtain rfl:=dp E e
      have p:(C,A++[])=((repsF r (m - lo) f).1,l++(repsF r (m - lo) f).2.map RT.opt):=p
      rw [GY] at p
      have o:C.c=P.c+iM k lo (Gq m):=by rw [Jq] at o;exact o
      refine ax (w_callM (.loc rfl) (aw Y.inst rfl rfl) (.cons (.loc rfl) .nil) (qH F Y hc ht hf I (by lia) U S.n fun W h5 h6 h7 S5=>?_))
      have P3:=J (by have u4:=Y.cm;lia) W
      rw [show sq r lo (Gq m) P=AI r (m - lo) (repsF r lo P) from rfl, <-O] at P3
      rw [show AI r (m - lo) (f,l)=dW (repsF r (m - lo) f).1 (l++(repsF r (m - lo) f).2.map RT.opt) from rfl, <-(KY p).1, <-(KY p).2] at P3
      refine P3 ⟨h5,S5,?_,by rw [h6];exact H,by rw [h6];exact h7⟩
      rw [qk];exact o
end
section
variable {u:U} {d:Nat} {Q:V->Sg->Prop} {X:Sg->Prop} {σ:Sg} {a b c most:Nat} {P:PF}
noncomputable def gG (a:Nat) (t:Tr):List (Option V):=[Gq (.ref a),Gq t.node,Gq (.str t.kd),Gs,Gs,Gs,Gs,Gs,Gs]
theorem PF.Ok.inc {P:PF} (h:P.Ok):P.inc.Ok:=⟨h.len,LF h.sz⟩
theorem dG (F:bg u) {t:Tr} (h:aO a b c most P σ) (e:P.c+1<=most->∀σ',aO a b c most P.inc σ'->aH (F3 a b c) σ (F3 a b c) σ'->wpSs tab (ae u d) (yK.drop 3) (gG a t) (eh Q) X σ') (g:most<P.c+1->∀σ',aH (F3 a b c) σ (F3 a b c) σ'->X σ'):ae u (d+1) 281 [.ref a,t.node] Q X σ:=by
 refine F.call 281 _ rfl d _ Q X σ rfl ?_;refine r4 (.loc rfl) (show ky tab 7 σ (.ref a)=Gq (.int P.c) by unfold ky;simp only [h.inst];rfl) .const rfl (aS h.inst h.la (Gr rfl) rfl) ?_
 generalize f:σ.set a _=s
 have i:s.cell a=.inst 324 [(0,.int most),(7,.int (P.c+1:Nat)),(8,bD),(9,.ref b),(10,.ref c)]:=by rw [<-f];exact am
 have l:∀x,x≠a->s.cell x=σ.cell x:=fun x n=>by rw [<-f];exact af n
 have j:s.n=σ.n:=by rw [<-f];rfl
 have S:aH (F3 a b c) σ (F3 a b c) s:=by rw [<-f];exact .one (.inl rfl)
 have m:∀ {C:aC},Ev C (dR 9 [0,1] [.ref a,t.node]) s (.op (.attr 7) [.loc 0]) (.int (P.c+1:Nat)) s:=.op (.cons (.loc rfl) .nil) (a7 i rfl)
 have k:∀ {C:aC},Ev C (dR 9 [0,1] [.ref a,t.node]) s (.op (.attr 0) [.loc 0]) (.int most) s:=.op (.cons (.loc rfl) .nil) (a7 i rfl)
 by_cases q:P.c+1<=most
 ·refine aq (t:=Gw) (.of (v:=.bool (GI (((P.c+1:Nat):Int) >most))) (.op (.cons m (.cons k .nil)) rfl) (congrArg Gq (decide_eq_false (by lia))) rfl) (ak ?_)
  exact ar (.op (.cons (.loc rfl) .nil) (BC t)) rfl (e q s ⟨h.ok.inc,h.m1,q,i,(l _ h.ab.symm).trans h.cb,(l _ h.ac.symm).trans h.cc,h.ab,h.ac,h.bc,j▸h.la,j▸h.lb,j▸h.lc⟩ S)
 ·refine aq (t:=Gu) (.of (v:=.bool (GI (((P.c+1:Nat):Int) >most))) (.op (.cons m (.cons k .nil)) rfl) (congrArg Gq (decide_eq_true (by lia))) rfl) ?_
  exact ma k (G9 _) (by have:=h.m1;lia) (g ((l2 504372225) q) s S)
theorem cz {C:aC} {t:Tr} (j:Nat) (e:j<=7) (h:∀i,i<j->t.kd≠22+i) (q:wpSs tab C (yK.drop (3+j)) (gG a t) (eh Q) X σ):wpSs tab C (yK.drop 3) (gG a t) (eh Q) X σ:=by
 revert C t j;delta Q X σ a;delta C t j
 induction j with
 |zero=>exact q
 |succ j f=>
  delta j;refine f ((l1 483265827944320) e) (fun i g=>h i ((l2 1928470140944) g)) ?_
  have k:=decide_eq_false (h j (Gx j))
  have:j=0\/j=1\/j=2\/j=3\/j=4\/j=5\/j=6:=by lia
  rcases this with rfl|rfl|rfl|rfl|rfl|rfl|rfl<;>exact aq (t:=Gw) (bU rfl (by decide) k) (ak q)
theorem uy.mk' {k:Nat} {s:PF×RT} {σ σ₁ σ':Sg} (S:aH (F3 a b c) σ (F3 a b c) σ₁) (L:uy a b c most P.inc k s σ₁ σ'):uy a b c most P (k+1) s σ σ':=⟨L.at_,S.trans L.st,by rw [L.cn];show P.c+1+k=_;exact(l2 8293719563399552),L.len,L.in_⟩
theorem kS:P.inc.c=P.c+1:=rfl
theorem rh (F:bg u) {t:Tr} {r:Tr->PF->PF×RT} {k:Tr->Nat} {K:Nat} (j:K=22\/K=23) (g:(spine K t).length<=1000) (B:∀x∈spine K t,eZ u (d+3) x (r x) (k x)) (h:aO a b c most P σ)
  (e:P.c+((spine K t).map k).sum<=most->∀σ' i,aO a b c most (rdsF r (spine K t) P).1 σ'->aH (F3 a b c) σ (F3 a b c) σ'->(rdsF r (spine K t) P).1.c=P.c+((spine K t).map k).sum->P.fo.length<=(rdsF r (spine K t) P).1.fo.length->(∀x∈(rdsF r (spine K t) P).2,x.In (rdsF r (spine K t) P).1.fo.length)->(rdsF r (spine K t) P).2.length=(spine K t).length->σ'.cell i=.list ((rdsF r (spine K t) P).2.map RT.v)->i<σ'.n->σ.n<=i->¬F3 a b c i->Q (.ref i) σ')
  (f:most<P.c+((spine K t).map k).sum->∀σ',aH (F3 a b c) σ (F3 a b c) σ'->X σ'):
  wpE tab (ae u (d+3)) (gG a t) (.comp [Gs,Gs,Gq 0] 1 (.callM 43 (.loc 2) [.loc 1]) (.callF 158 [.loc 1,.const (.str K)])) Q X σ:=
 yV F B g rfl h (fun{Q} l=>az (.cons (.loc rfl) (.cons .const .nil)) (mG F (t:=t) j g l)) e f
theorem yr (F:bg u) {t:Tr} {r:Tr->PF->PF×RT} {k:Tr->Nat} (J:t.kd=22) (H:(spine 22 t).length<=1000) (B:∀x∈spine 22 t,eZ u (d+3) x (r x) (k x)):
  eZ u (d+4) t (fun P=>dW (rdsF r (spine 22 t) P.inc).1 (rdsF r (spine 22 t) P.inc).2) (((spine 22 t).map k).sum+1):=.mk fun{Q X σ a b c most P} h m n=>by
 have I:=kS (P:=P)
 refine dG F h (fun q A e f=>?_) fun q j C=>n ((l3 0x1c718101c7718210) q) j C;refine aq (t:=Gu) (bU rfl (by decide) (decide_eq_true J)) (ax ?_)
 refine dY (.loc rfl) (aw e.inst rfl rfl) (rh F (.inl rfl) H B e (fun D E i o p K s G L M N O R=>?_) fun D j C=>n ((l4 0x1c72101d718311c7718230) D I) j (f.trans C));refine qH F o M N R G (by rw [L];exact Gz H (by decide)) p O fun l v g y z=>m ((l4 0x1b27109d718301b2771813) D I) l (.mk' f ⟨v,z,?_,by rw [g];exact s,by rw [g];exact y⟩)
 rw [qk];exact K
theorem xy {n:Nat} (xs:List RT):∀(s:RT),s.In n->(∀x∈xs,x.In n)->(xs.foldl vV s).In n:=by
 induction xs with
 |nil=>
  intro s h _;exact h
 |cons x xs e=>
  intro s h q;exact e (vV s x) (xQ h (q x (.head _))) fun y f=>q y (.tail _ f)
theorem qc (F:bg u) {t:Tr} {r:Tr->PF->PF×RT} {k:Tr->Nat} (A:t.kd=23) (C:(spine 23 t).length<=1000) (B:∀x∈spine 23 t,eZ u (d+3) x (r x) (k x)):
  eZ u (d+4) t (fun P=>((rdsF r (spine 23 t) P.inc).1,gN (rdsF r (spine 23 t) P.inc).2)) (((spine 23 t).map k).sum+1):=.mk fun{Q X σ a b c most P} h j l=>by
 have D:=kS (P:=P)
 refine dG F h (fun q p e f=>cz 1 (by decide) (fun i E=>by rw [A];exact(l1 0x1c1801d70691879186) E) ?_) fun q g s=>l ((l3 0x1c718101c7718210) q) g s
 refine aq (t:=Gu) (bU rfl (by decide) (decide_eq_true A)) (ax ?_)
 refine dY (.loc rfl) (aw e.inst rfl rfl) (rh F (.inr rfl) C B e (fun v y i m n G o z H I J K L=>?_) fun v g s=>l ((l4 0x1c72101d718311c7718230) v D) g (f.trans s));exact jD (jG I J) (s9 F (by rw [H];exact Gz C (by decide)) (j ((l4 0x1b27109d718301b2771813) v D) _ (.mk' f ⟨m.kill L,n.tail K,G,o,xy _ _ mC z⟩)))
theorem ug (F:bg u) {t l:Tr} {cl:GS} {r:PF->PF×RT} {k:Nat} (A:t.kd=24) (E:t.node=.obj cl [18] [l.node]) (G:eQ tab cl 18 [(18,l.node)]=Gq l.node) (B:eZ u (d+3) l r k):eZ u (d+4) t (fun P=>((r P.inc).1.join (r P.inc).2.l (r P.inc).2.f,(r P.inc).2.opt)) (k+1):=.mk fun{Q X σ a b c most P} h n o=>by
 have C:=kS (P:=P)
 refine dG F h (fun q e f g=>cz 2 (by decide) (fun i H=>by rw [A];exact(l1 0x1c2801d70691889186) H) ?_) fun q j v=>o ((l3 0x1c718101c7718210) q) j v
 have I:Ev (ae u (d+3)) (gG a t) e (.op (.attr 18) [.loc 1]) l.node e:=bM (c:=cl) (ks:=[18]) (vs:=[l.node]) (.loc (by rw [<-E];rfl)) rfl G
 refine aq (t:=Gu) (bU rfl (by decide) (decide_eq_true A)) ?_
 refine w_asg (dY (.loc rfl) (aw f.inst rfl rfl) (w_callM (.loc rfl) (aw f.inst rfl rfl) (.cons I .nil) (B.call f (fun y z L=>lK F L.at_ L.in_ fun m p s=>aB rfl ?_) fun y j v=>o ((l4 0x1c72101d718311c7718230) y C) j (g.trans v))))
 have D:((r P.inc).1.join (r P.inc).2.l (r P.inc).2.f).fo.length=(r P.inc).1.fo.length:=fG _ _ _
 refine ax (Ev.op (.cons .const (.cons (.loc rfl) (.cons (.loc rfl) .nil))) (aK (Gr rfl)) _ _ (n ((l4 0x1b27109d718301b2771813) y C) m (.mk' g ⟨p,L.st.trans s,L.cn,by rw [D];exact L.len,by rw [D];exact L.in_⟩)))
theorem wD (F:bg u) {t l:Tr} {cl:GS} {r:PF->PF×RT} {k:Nat} (A:t.kd=25) (E:t.node=.obj cl [18] [l.node]) (G:eQ tab cl 18 [(18,l.node)]=Gq l.node) (B:eZ u (d+3) l r k):eZ u (d+4) t (fun P=>((r P.inc).1.join (r P.inc).2.l (r P.inc).2.f,(r P.inc).2)) (k+1):=.mk fun{Q X σ a b c most P} h n o=>by
 have C:=kS (P:=P)
 refine dG F h (fun q e f g=>cz 3 (by decide) (fun i H=>by rw [A];exact(l1 0x1c3801d70691899186) H) ?_) fun q j v=>o ((l3 0x1c718101c7718210) q) j v
 have I:Ev (ae u (d+3)) (gG a t) e (.op (.attr 18) [.loc 1]) l.node e:=bM (c:=cl) (ks:=[18]) (vs:=[l.node]) (.loc (by rw [<-E];rfl)) rfl G
 refine aq (t:=Gu) (bU rfl (by decide) (decide_eq_true A)) ?_
 have D:((r P.inc).1.join (r P.inc).2.l (r P.inc).2.f).fo.length=(r P.inc).1.fo.length:=fG _ _ _
 exact ax (dY (.loc rfl) (aw f.inst rfl rfl) (w_callM (.loc rfl) (aw f.inst rfl rfl) (.cons I .nil) (B.call f (fun y z L=>lK F L.at_ L.in_ fun m p s=>n ((l4 0x1b27109d718301b2771813) y C) m (.mk' g ⟨p,L.st.trans s,L.cn,by rw [D];exact L.len,by rw [D];exact L.in_⟩)) fun y j v=>o ((l4 0x1c72101d718311c7718230) y C) j (g.trans v))))
theorem xW (F:bg u) {t l:Tr} {cl:GS} {r:PF->PF×RT} {k:Nat} (v:t.kd=26) (z:t.node=.obj cl [18] [l.node]) (A:eQ tab cl 18 [(18,l.node)]=Gq l.node) (B:eZ u d l r k):eZ u (d+1) t (fun P=>((r P.inc).1,(r P.inc).2.opt)) (k+1):=.mk fun{Q X σ a b c most P} h n o=>by
 have y:=kS (P:=P)
 refine dG F h (fun q e f g=>cz 4 (by decide) (fun i C=>by rw [v];exact(l1 0x1c4801d706918a9186) C) ?_) fun q j p=>o ((l3 0x1c718101c7718210) q) j p
 have D:Ev (ae u d) (gG a t) e (.op (.attr 18) [.loc 1]) l.node e:=bM (c:=cl) (ks:=[18]) (vs:=[l.node]) (.loc (by rw [<-z];rfl)) rfl A
 refine aq (t:=Gu) (bU rfl (by decide) (decide_eq_true v)) ?_
 refine w_asg (w_callM (.loc rfl) (aw f.inst rfl rfl) (.cons D .nil) (B.call f (fun s m L=>aB rfl ?_) fun s j p=>o ((l4 0x1c72101d718311c7718230) s y) j (g.trans p)));exact ax (Ev.op (.cons .const (.cons (.loc rfl) (.cons (.loc rfl) .nil))) (aK (Gr rfl)) _ _ (n ((l4 0x1b27109d718301b2771813) s y) m (.mk' g ⟨L.at_,L.st,L.cn,L.len,L.in_⟩)))
theorem rq (F:bg u) {t:Tr} {r:PF->PF×RT} {k lo:Nat} {hi:Option Nat} (o:lo<=1000) (z:∀k,hi=Gq k->lo<=k/\k<=1000) (B:eZ u (d+3) t r k):eZ u (d+5) (.rep t lo hi) (fun P=>sq r lo hi P.inc) (iM k lo hi+1):=.mk fun{Q X σ a b c most P} h m n=>by
 have y:=kS (P:=P)
 refine dG F h (fun q p f g=>cz 5 (by decide) (fun i hi e=>by have:27=22+i:=e;exact(l1 0x1d706918b9181c5806) this hi) ?_) fun q j s=>n ((l3 0x1c718101c7718210) q) j s
 refine aq (t:=Gu) (bU (t:=.rep t lo hi) rfl (by decide) (decide_eq_true rfl)) (ax (w_callM (.loc rfl) (aw f.inst rfl rfl) (.cons (.loc rfl) .nil) ?_))
 exact su F B o z f (fun v l L=>m ((l4 0x1b27109d718301b2771813) v y) l (.mk' g L)) fun v j s=>n ((l4 0x1c72101d718311c7718230) v y) j (g.trans s)
noncomputable def xO (x:Bool):Nat:=bif x then 4 else 2
theorem lC (F:bg u) (x:Bool) {t:Tr} (s:t.node=.obj 710 [15] [gZ (xq x)]) (r:t.kd=28):eZ u (d+2) t (fun P=>(P.inc.place (xO x),⟨Gw,2^P.ms.length,2^P.ms.length⟩)) 1:=.mk fun{Q X σ a b c most P} h g n=>by
 refine dG F h (fun q o e j=>cz 6 (by decide) (fun i v=>by rw [r];exact(l1 0x1c6801d706918c9186) v) ?_) fun q p y=>n q p y
 have z:∀σ:Sg,Ev (ae u (d+1)) (gG a t) σ (.op (.attr 15) [.loc 1]) (gZ (xq x)) σ:=fun σ=>bM (c:=710) (ks:=[15]) (vs:=[gZ (xq x)]) (.loc (by rw [<-s];rfl)) rfl rfl
 refine aq (t:=Gu) (bU rfl (by decide) (decide_eq_true r)) (ax (dY (.loc rfl) (aw e.inst rfl rfl) ?_))
 refine w_callM (.op (.cons (.loc rfl) .nil) (a7 e.inst rfl)) (eB rfl rfl) (.cons (z _) .nil) (uq F x ?_);rw [show de x=(xO x:Nat) by cases x<;>rfl]
 refine xF F e h.ok.sz (by cases x<;>decide) fun f l m=>g q f (.mk' (k:=0) j ⟨l,m,rfl,?_,?_⟩)
 ·show P.fo.length<=(P.fo++[0]).length
  rw [GC];exact Hk _
 ·show 2^P.ms.length<2^(P.fo++[0]).length
  rw [GC,h.ok.len];exact Nat.pow_lt_pow_right (by decide) (Gx _)
theorem ng (F:bg u) {t:Tr} {y:Bool} (n:t.kd=bif y then 29 else 30):eZ u (d+1) t (fun P=>(P.inc,⟨y,0,0⟩)) 1:=.mk fun{Q X σ a b c most P} h f l=>by
 refine dG F h (fun q e g j=>cz 7 (by decide) (fun i r=>by rw [n];cases y<;>simp<;>lia) ?_) fun q m o=>l q m o
 have p:Ev (ae u d) (gG a t) e (.op (.rel .eq) [.loc 2,.const (.str 29)]) (.bool y) e:=by
  have:(y:Bool)=GI (t.kd=29):=by rw [n];cases y<;>rfl
  rw [this];exact .op (.cons (.loc rfl) (.cons .const .nil)) (iE ⟨t.kd_lt,by decide⟩)
 exact ax (Ev.op (.cons p (.cons .const (.cons .const .nil))) (aK (Gr rfl)) _ _ (f q e (.mk' (k:=0) j ⟨g,.refl _ _,rfl,GL _,mC⟩)))
end
theorem vc {u:U} (F:bg u) (n:Nat) (j:n<=900):∀ {t:Tr},Fam n t->eZ u (2 * n+3) t (rd n t) (cnt n t).2:=by
 have leaf:∀ {n:Nat} {t:Tr},t.leaf->eZ u (2 * n+3) t (rd n t) (cnt n t).2:=fun{n t} e=>by
  have q:(cnt n t).2=1:=by cases t<;>first|exact e.elim|(cases n<;>rfl)
  rw [q]
  cases t with
  |a=>rw [show rd n .a=fun P=>(P.inc.place (xO Gw),⟨Gw,2^P.ms.length,2^P.ms.length⟩) by cases n<;>rfl];have:eZ u (2 * n+2) _ _ _:=lC F (u:=u) (d:=2 * n) (t:=.a) Gw rfl rfl;exact eZ.up (D':=2 * n+3) this (l1 117901914752)
  |b=>rw [show rd n .b=fun P=>(P.inc.place (xO Gu),⟨Gw,2^P.ms.length,2^P.ms.length⟩) by cases n<;>rfl];have:eZ u (2 * n+2) _ _ _:=lC F (u:=u) (d:=2 * n) (t:=.b) Gu rfl rfl;exact eZ.up (D':=2 * n+3) this (l1 117901914752)
  |empty=>rw [show rd n .empty=fun P=>(P.inc,⟨Gu,0,0⟩) by cases n<;>rfl];have:eZ u (2 * n+1) _ _ _:=ng F (u:=u) (d:=2 * n) (t:=.empty) (y:=Gu) rfl;exact eZ.up (D':=2 * n+3) this (l1 117901914496)
  |never=>rw [show rd n .never=fun P=>(P.inc,⟨Gw,0,0⟩) by cases n<;>rfl];have:eZ u (2 * n+1) _ _ _:=ng F (u:=u) (d:=2 * n) (t:=.never) (y:=Gw) rfl;exact eZ.up (D':=2 * n+3) this (l1 117901914496)
  |_=>exact e.elim
 induction n with
 |zero=>
  intro t h
  cases h with
  |leaf e=>exact leaf e
 |succ n f=>
  replace f:=@f ((l1 0x1b49893871801b4989380) j)
  intro t h
  cases h with
  |leaf e=>exact leaf e
  |@cat _ l r e m=>
   obtain⟨o,p⟩:=cx (.inl rfl) (.cat e m) rfl;exact eZ.up (yr F (t:=.cat l r) (d:=2 * n) (r:=rd n) (k:=fun t=>(cnt n t).2) rfl (Gz p ((l1 0x1b49893871801b89e9387280) j)) (fun t c=>f (o t c))) (l1 0x1b738a718028748a028)
  |@alt _ l r e m=>
   obtain⟨o,p⟩:=cx (.inr rfl) (.alt e m) rfl;exact eZ.up (qc F (t:=.alt l r) (d:=2 * n) (r:=rd n) (k:=fun t=>(cnt n t).2) rfl (Gz p ((l1 0x1b49893871801b89e9387280) j)) (fun t c=>f (o t c))) (l1 0x1b738a718028748a028)
  |@star _ t c=>exact eZ.up (ug F (d:=2 * n) (t:=.star t) rfl rfl rfl (f c)) (l1 0x1b738a718028748a028)
  |@plus _ t c=>exact eZ.up (wD F (d:=2 * n) (t:=.plus t) rfl rfl rfl (f c)) (l1 0x1b738a718028748a028)
  |@opt _ t c=>exact eZ.up (xW F (t:=.opt t) rfl rfl rfl (f c)) (l1 0x1b738a718028718738a028)
  |@repN _ t i g c=>
   rw [show(cnt (n+1) (.rep t i Gs)).2=iM (cnt n t).2 i Gs+1 from Ib _ _]
   exact eZ.up (rq F (d:=2 * n) (hi:=Gs) ((l1 7643812228666240) g) (fun Z h=>nomatch h) (f c)) (l1 0x1b738a718028758a028)
  |@repS _ t i hi g s v c=>
   rw [show(cnt (n+1) (.rep t i (Gq hi))).2=iM (cnt n t).2 i (Gq hi)+1 from Ib _ _]
   exact eZ.up (rq F (d:=2 * n) (hi:=Gq hi) ((l1 7643812228666240) g) (fun k h=>by cases h;exact⟨(l2 454040336) s,(l1 7661404414710656) v⟩) (f c)) (l1 0x1b738a718028758a028)
section
variable {u:U} {d:Nat} {Q:V->Sg->Prop} {X:Sg->Prop} {σ:Sg} {m:Nat} {C:aC}
noncomputable def PF.start:PF:=⟨0,[0],[0]⟩
theorem oB {i:Nat} (hi:i<σ.n) (v:σ.cell i=.inst 324 []) (y:m<=1000) (n:∀σ',σ.n<=σ'.n->(∀x,x<σ.n->x≠i->σ'.cell x=σ.cell x)->aO i σ.n (σ.n+1) m .start σ'->Q .none σ'):
  wpSs tab C CW (dR 3 [0,1,2] [.ref i,bD,.int m]) (eh Q) X σ:=by
 revert i;delta Q X σ m C;delta i
 have q:i≠σ.n:=G6 hi
 have r:i≠σ.n+1:=G6 (GB hi)
 refine aG (.loc rfl) (.loc rfl) (aS v hi (G4 _) rfl) (aG .const (.loc rfl) (aS am hi (Gr rfl) rfl) (aG (.loc rfl) (.loc rfl) (aS am hi (Gr rfl) rfl) ?_));generalize j:((σ.set i _).set i _).set i _=k;delta k
 have o:k.n=σ.n:=by rw [<-j];rfl
 have z:k.cell i=.inst 324 [(0,.int m),(7,.int 0),(8,bD)]:=by rw [<-j];exact am
 have A:∀x,x≠i->k.cell x=σ.cell x:=fun x f=>by rw [<-j,af f,af f,af f]
 have s:i<k.n:=o▸hi
 refine aG (.op (.cons .const .nil) (bP (Gr rfl))) (.loc rfl) (aS ((au s).trans z) (GB s) (Gr rfl) rfl) ?_;generalize e:(k.alloc (.list [.int 0])).set i _=g;delta g
 have l:g.n=σ.n+1:=by rw [<-e, <-o];rfl
 have B:g.cell i=.inst 324 [(0,.int m),(7,.int 0),(8,bD),(9,.ref σ.n)]:=by rw [<-e, <-o];exact am
 have D:g.cell σ.n=.list [.int 0]:=by rw [<-e,af q.symm, <-o];exact ah
 have E:∀x,x<σ.n->x≠i->g.cell x=σ.cell x:=fun x f b=>by rw [<-e,af b,au (o▸f)];exact A x b
 have t:i<g.n:=by rw [l];exact GB hi
 refine aG (.op (.cons .const .nil) (bP (Gr rfl))) (.loc rfl) (aS ((au t).trans B) (GB t) (Gr rfl) rfl) ?_;generalize c:(g.alloc (.list [.int 0])).set i _=F
 have p:F.n=σ.n+2:=by rw [<-c];show g.n+1=_;rw [l]
 refine ak (n _ (by rw [p];exact HK _ _) (fun x f b=>by rw [<-c,af b,au (by rw [l];exact GB f)];exact E x f b) ?_)
 refine⟨⟨rfl,GL _⟩,y,G4 _,by rw [<-c, <-l];exact am,?_,by rw [<-c,af r.symm, <-l];exact ah,q,r,G6 (Gx _),?_,?_,?_⟩
 ·rw [<-c,af q.symm,au (by rw [l];exact Gx _)];exact D
 ·rw [p];exact GB (GB hi)
 ·rw [p];exact GB (Gx _)
 ·rw [p];exact Gx _
theorem vN (F:bg u) {ρ:List (Option V)} {e i:E} (j:Ev (ae u (d+1)) ρ σ e bD σ) (c:Ev (ae u (d+1)) ρ σ i (.int m) σ) (k:m<=1000) (b:∀σ',a6 σ σ'->aO σ.n (σ.n+1) (σ.n+2) m .start σ'->Q (.ref σ.n) σ'):wpE tab (ae u (d+1)) ρ (.callC 324 [e,i]) Q X σ:=
 w_callC (.cons j (.cons c .nil)) (f:=276) rfl (F.call 276 _ rfl d _ _ X _ rfl (oB (Gx _) ah k fun σ' l n o=>⟨rfl,b σ' ⟨Gz (Hk _) l,fun x g=>(n x (GB g) (G6 g)).trans (au g)⟩ o⟩))
theorem rY (F:bg u) {ρ:List (Option V)} {e:E} (g:Ev (ae u (d+1)) ρ σ e bD σ) (b:∀σ',a6 σ σ'->aO σ.n (σ.n+1) (σ.n+2) 1000 .start σ'->Q (.ref σ.n) σ'):wpE tab (ae u (d+1)) ρ (.callC 324 [e]) Q X σ:=
 w_callC (.cons g .nil) (f:=276) rfl (F.callD 276 _ 1000 rfl rfl d _ _ X _ rfl (oB (m:=1000) (Gx _) ah (GL _) fun σ' i j k=>⟨rfl,b σ' ⟨Gz (Hk _) i,fun x c=>(j x (GB c) (G6 c)).trans (au c)⟩ k⟩))
theorem qX (F:bg u) {n:Nat} {t:Tr} (r:n<=900) (s:Fam n t) (v:m<=1000)
  (k:(cnt n t).2<=m->∀b c σ',a6 σ σ'->σ'.cell b=.list (bA (rd n t .start).1.ms)->σ'.cell c=.list (bA (rd n t .start).1.fo)->Q (.tup [(rd n t .start).2.v,.ref b,.ref c]) σ') (o:m<(cnt n t).2->∀σ',a6 σ σ'->Q .none σ'):
  ae u (2 * n+4) 932 [t.node,bD,.int m] Q X σ:=by
 have B:=vc F n r s
 refine F.call 932 _ rfl (2 * n+3) _ _ X σ rfl ?_
 have z:PF.start.c=0:=rfl
 refine w_asg (vN (d:=2 * n+2) F (.loc rfl) (.loc rfl) v fun p f g=>aB rfl ?_)
 have i:∀x,F3 σ.n (σ.n+1) (σ.n+2) x->σ.n<=x:=fun x y=>by
  rcases y with rfl|rfl|rfl
  ·exact GL _
  ·exact Hk _
  ·exact HK _ _
 refine uo (w_asg (w_callM (.loc rfl) (aw g.inst rfl rfl) (.cons (.loc rfl) .nil) (B.call g (fun q j L=>aB rfl (ak ?_)) fun q j l=>?_)))
 ·have e:=L.at_
  exact ax (Ev.op (.cons (.loc rfl) (.cons (.op (.cons (.loc rfl) .nil) (a7 e.inst rfl)) (.cons (.op (.cons (.loc rfl) .nil) (a7 e.inst rfl)) .nil))) (aK (Gr rfl)) _ _ (k ((l3 0x1b27100d0801b21) q z) _ _ _ (L.st.toExt f i) e.cb e.cc))
 ·exact ax (Ev.const _ _ (o ((l3 0x1c72101d0811c20) q z) _ (l.toExt f i)))
end
noncomputable def g8 (f:Nat->V) (ks:List Nat):List (Int×V):=ks.map fun(k:Nat)=>((k:Int),f k)
theorem gK (f:Nat->V) (s:Nat) (ks:List Nat):lookI (s:Int) (g8 f ks)=if s∈ks then Gq (f s) else Gs:=by
 induction ks with
 |nil=>rfl
 |cons k ks b=>
  show(if((k:Nat):Int)=(s:Int) then Gq (f k) else lookI (s:Int) (g8 f ks))=_
  by_cases q:k=s
  ·subst q;rw [if_pos rfl,if_pos (.head _)]
  ·rw [if_neg (fun h=>q (Int.ofNat.inj h)),b]
   have:s∈k::ks↔s∈ks:=by rw [GH];exact⟨fun h=>h.elim (fun e=>absurd e.symm q) id,.inr⟩
   by_cases m:s∈ks
   ·rw [if_pos m,if_pos (this.mpr m)]
   ·rw [if_neg m,if_neg fun h=>m (this.mp h)]
theorem mI (f:Nat->V) {s:Nat} {ks:List Nat}:s∉ks->putI (s:Int) (f s) (g8 f ks)=g8 f (ks++[s]):=by
 induction ks with
 |nil=>
  intro _;exact rfl
 |cons k ks b=>
  intro h
  show(if((k:Nat):Int)=(s:Int) then _ else _)=_
  rw [if_neg fun e=>h (by rw [Int.ofNat_inj.mp e];exact .head _)]
  exact congrArg _ (b fun m=>h (.tail _ m))
theorem gq (f:Nat->V) (s:Nat) (ks:List Nat):(lookI (s:Int) (g8 f ks)).isSome=GI (s∈ks):=by
 rw [gK]
 by_cases m:s∈ks
 ·rw [if_pos m,decide_eq_true m];rfl
 ·rw [if_neg m,decide_eq_false m];rfl
theorem i8 (f:Nat->V) (ks:List Nat):(g8 f ks).length=ks.length:=GG _
theorem sk {f g:Nat->V} {ks:List Nat} (h:∀k∈ks,f k=g k):g8 f ks=g8 g ks:=Jr fun k b=>by rw [h k b]
noncomputable def qu (a:Nat) (xs:List Nat):Nat:=xs.foldl (· ||| ·) a
theorem i6 (i:Nat) (xs:List Nat):∀(a:Nat),(qu a xs).testBit i=Gu↔a.testBit i=Gu\/∃x∈xs,x.testBit i=Gu:=by
 induction xs with
 |nil=>
  intro a;exact⟨.inl,fun h=>h.elim id fun h=>nomatch h⟩
 |cons x xs e=>
  intro a
  show(qu (a||| x) xs).testBit i=Gu↔_
  rw [e,Jh,Ii,or_assoc];refine or_congr_right ⟨fun h=>h.elim (fun h=>⟨x,.head _,h⟩) fun d=>by obtain⟨y,b,c⟩:=d;exact⟨y,.tail _ b,c⟩,fun d=>?_⟩
  obtain⟨y,b,c⟩:=d;rcases GH.mp b with rfl|b
  ·exact .inl c
  ·exact .inr ⟨y,b,c⟩
theorem dP {x i:Nat}:(2^x).testBit i=Gu↔x=i:=by rw [Nat.testBit_two_pow,decide_eq_true_iff]
theorem eH {a b:Nat} (h:∀i,a.testBit i=Gu↔b.testBit i=Gu):a=b:=Nat.eq_of_testBit_eq fun i=>Bool.eq_iff_iff.mpr (h i)
inductive Reach (hp:List (List Nat)) (s:Nat):Nat->Prop where
 |refl:Reach hp s s
 |step {y x:Nat} {l:List Nat} (h:Reach hp s y) (e:hp[y]? =Gq l) (m:x∈l):Reach hp s x
theorem NF.Ok.reach {N:NF} (h:N.Ok) {s x:Nat} (b:s<N.n) (r:Reach N.hp s x):x<N.n:=by
 induction r with
 |refl=>exact b
 |step _ e m _=>exact h.hp _ (GJ e) _ m
noncomputable def live (N:NF) (l x:Nat):Bool:=!(N.mv.getD x []).isEmpty||x==l
open Classical in
noncomputable def clo (N:NF) (l s:Nat):Nat:=qu 0 (((Jz N.n).filter fun x=>GI (Reach N.hp s x)&&live N l x).map (2^ ·))
open Classical in
theorem iZ {N:NF} (h:N.Ok) {l s:Nat} (hs:s<N.n) {x:Nat}:(clo N l s).testBit x=Gu↔Reach N.hp s x/\live N l x=Gu:=by
 rw [i6,Hq];constructor
 ·rintro(h|⟨y,h1,h2⟩)
  ·cases h
  ·obtain⟨z,hz,rfl⟩:=Hj.mp h1;obtain rfl:=dP.mp h2
   have:=(HZ.mp hz).2
   rw [HJ,decide_eq_true_iff] at this;exact this
 ·rintro⟨h1,h2⟩
  refine .inr ⟨2^x,Hj.mpr ⟨x,HZ.mpr ⟨JE.mpr (h.reach hs h1),?_⟩,rfl⟩,dP.mpr rfl⟩;rw [HJ,decide_eq_true_iff];exact⟨h1,h2⟩
theorem jN {M n:Nat} (h:∀x,M.testBit x=Gu->x<n):M<2^n:=Nat.lt_pow_two_of_testBit M fun i b=>by
 cases e:M.testBit i with
 |false=>rfl
 |true=>exact absurd (h i e) (HN.mpr b)
theorem vn {N:NF} (h:N.Ok) {l s:Nat} (b:s<N.n):clo N l s<2^N.n:=jN fun x c=>h.reach b ((iZ h b).mp c).1
structure iI (hp:List (List Nat)) (n s:Nat) (ds ts:List Nat) (ok:Nat->Prop):Prop where
 nd:ds.Nodup
 lt:∀x∈ds,x<n
 tm:∀x∈ts,x∈ds
 s0:s∈ds
 re:∀x∈ds,Reach hp s x
 cl:∀x∈ds,x∉ts->ok x->∀l,hp[x]? =Gq l->∀y∈l,y∈ds
theorem iI.done {hp:List (List Nat)} {n s:Nat} {ds:List Nat} (h:iI hp n s ds [] fun Z=>True) (x:Nat):x∈ds↔Reach hp s x:=by
 refine⟨h.re x,fun r=>?_⟩
 induction r with
 |refl=>exact h.s0
 |step _ e m b=>exact h.cl _ b (fun h=>nomatch h) trivial _ e _ m
section
variable {u:U} {d:Nat} {Q:V->Sg->Prop} {X:Sg->Prop} {σ:Sg} {m:Nat} {N:NF} {tags:List Nat} {f:Nat}
noncomputable def uc:Nat->V:=fun Z=>.bool Gu
inductive ClsW (σ₀:Sg) (N:NF) (s:Nat) (v0 v1:V) (D T:Nat):Nat->List (Option V)->Sg->Prop where
 |mk (ds ts:List Nat) (y2 y5 y6 y7:Option V) (σ:Sg) (h:iI N.hp N.n s ds ts fun Z=>True) (E:a6 σ₀ σ) (hD:σ.cell D=.dict (g8 uc ds)) (hT:σ.cell T=.list (bA ts)) (lD:D<σ.n) (lT:T<σ.n) (gD:σ₀.n<=D) (gT:σ₀.n<=T) (DT:D≠T) (tl:ts.length<=ds.length):
  ClsW σ₀ N s v0 v1 D T (2 * (N.n - ds.length)+ts.length) [Gq v0,Gq v1,y2,Gq (.ref D),Gq (.ref T),y5,y6,y7] σ
inductive ClsF (σ₀:Sg) (N:NF) (s:Nat) (v0 v1:V) (D T x m₀:Nat) (hs:List Nat):List V->List (Option V)->Sg->Prop where
 |mk (xs ys ds ts:List Nat) (y5 y6 y7:Option V) (σ:Sg) (e:hs=xs++ys) (h:iI N.hp N.n s ds ts (· ≠x)) (hx:x∈ds) (hxs:∀y∈xs,y∈ds) (E:a6 σ₀ σ) (hD:σ.cell D=.dict (g8 uc ds)) (hT:σ.cell T=.list (bA ts)) (lD:D<σ.n) (lT:T<σ.n) (gD:σ₀.n<=D) (gT:σ₀.n<=T) (DT:D≠T) (ms:2 * (N.n - ds.length)+ts.length<=m₀) (tl:ts.length<ds.length):
  ClsF σ₀ N s v0 v1 D T x m₀ hs (bA ys) [Gq v0,Gq v1,Gq (.int x),Gq (.ref D),Gq (.ref T),y5,y6,y7] σ
theorem iI.push {hp:List (List Nat)} {n s x y:Nat} {ds i l:List Nat} (h:iI hp n s ds i (· ≠x)) (o:x∈ds) (p:hp[x]? =Gq l) (r:y∈l) (t:y<n) (v:y∉ds):iI hp n s (ds++[y]) (i++[y]) (· ≠x):=by
 have g:∀ {z:Nat} {k:List Nat},z∈k++[y]↔z∈k\/z=y:=fun{z k}=>by rw [GD,GF]
 refine⟨I6.mpr ⟨h.nd,by simp,fun a A b B e=>v (by rw [GF.mp B] at e;exact e▸A)⟩,fun z c=>?_,fun z c=>?_,g.mpr (.inl h.s0),fun z c=>?_,fun z c j C k D w E=>?_⟩
 ·rcases g.mp c with c|rfl
  ·exact h.lt z c
  ·exact t
 ·rcases g.mp c with c|rfl
  ·exact g.mpr (.inl (h.tm z c))
  ·exact g.mpr (.inr rfl)
 ·rcases g.mp c with c|rfl
  ·exact h.re z c
  ·exact(h.re x o).step p r
 ·rcases g.mp c with c|rfl
  ·exact g.mpr (.inl (h.cl z c (fun q=>j (g.mpr (.inl q))) C k D w E))
  ·exact absurd (g.mpr (.inr rfl)) j
theorem yM {C:aC} {ρ:List (Option V)} {t:Nat} {e:E} {a:Nat} {i:Int} {σ₁:Sg} (h:Ev C ρ σ e (.ref a) σ₁) (b:σ₁.cell a=.list [.int i]) (q:Q (.ref σ₁.n) (σ₁.alloc (.dict [(i,.bool Gu)]))):wpE tab C ρ (.dtrue t e) Q X σ:=by
 exact h _ _ ⟨_,_,rfl,b,q⟩
theorem kQ {C:aC} {ρ:List (Option V)} {e:E} {a:Nat} {ks:List Nat} {g:Nat->V} {σ₁:Sg} (h:Ev C ρ σ e (.ref a) σ₁) (c:σ₁.cell a=.dict (g8 g ks)) (i:ks.length<=200) (q:∀l:List Nat,l.Perm ks->Q (.tup (bA l)) (σ₁.alloc (.list (bA l)))):wpE tab C ρ (.tsorted e) Q X σ:=by
 refine h _ _ ⟨_,_,rfl,c,by rw [i8];exact i,fun l b=>?_⟩
 rw [show(g8 g ks).map (·.1)=ks.map fun(k:Nat)=>(k:Int) by rw [HG];rfl] at b
 have j:l=(l.map L4).map fun(k:Nat)=>(k:Int):=by
  rw [HG];refine(Ny l).symm.trans (Jr fun x n=>?_);obtain⟨k,_,rfl⟩:=Hj.mp (b.mem_iff.mp n);rfl
 have o:(l.map L4).Perm ks:=by
  have:=b.map L4
  rw [HG,show(L4∘fun(k:Nat)=>(k:Int))=id from rfl,Ny] at this
  exact this
 have p:l.map V.int=bA (l.map L4):=(congrArg (My V.int) j).trans (HG ..)
 rw [p];exact q _ o
theorem CA {σ:Sg} {x:Nat} {c:List Nat} {C:aC} {ρ:List (Option V)} {e g:E} (h:N.hp[x]? =Gq c) (i:N.hp.length<=200) (j:Ev C ρ σ e (bn m N tags f) σ) (b:Ev C ρ σ g (.int x) σ):Ev C ρ σ (.op .idx [.op (.attr 2) [e],g]) (.lst (bA c)) σ:=
 .op (.cons (.op (.cons j .nil) (bH rfl rfl)) (.cons b .nil)) (bC (l:=(N.hp.map bA).map .lst) rfl (by rw [GG,GG];exact Gz i (by decide)) (cY (by rw [Hd,Hd,h];rfl)))
theorem th (F:bg u) (hN:N.Ok) (B:N.n<=200) {s b:Nat} (W:s<N.n) (hb:σ.cell b=.list [.int s]) (b':∀(l:List Nat) σ',a6 σ σ'->(∀x,x∈l↔Reach N.hp s x)->l.length<=200->Q (.tup (bA l)) σ'):
  ae u (d+1) 198 [bn m N tags f,.ref b] Q X σ:=by
 revert s b;delta u d Q X σ m N tags f;delta s b;refine F.call 198 _ rfl d _ Q X σ rfl ?_;refine w_asg (yM (.loc rfl) hb (aB rfl ?_));generalize R:σ.alloc (.dict [((s:Int),.bool Gu)])=J;delta J
 have Y:J.cell σ.n=.dict (g8 uc [s]):=by rw [<-R];exact ah
 have E1:a6 σ J:=by rw [<-R];exact .alloc _ _
 have n1:J.n=σ.n+1:=by rw [<-R];rfl
 refine ar (.op (.cons (.loc rfl) .nil) (sW Y (Gr rfl))) rfl ?_
 have pg:∀ {S M:List Nat} {ok:Nat->Prop},iI N.hp N.n s S M ok->S.length<=N.n:=fun h=>pB _ _ h.nd h.lt
 have hl:=hN.len
 refine eS (ClsW σ N s (bn m N tags f) (.ref b) σ.n J.n) (n:=2 * (N.n - 1)+1) (.mk [s] [s] Gs Gs Gs Gs _ ⟨by simp,fun x O=>by rw [GF.mp O];exact W,fun Z h=>h,.head _,fun x O=>by rw [GF.mp O];exact .refl,fun x O h=>absurd O h⟩ (E1.trans (.alloc _ _)) ((au (by rw [n1];exact Gx _)).trans Y) (ah.trans (by rw [show iH (My (fun x=>x.fst) (g8 uc [s]))=[(s:Int)] from List.mergeSort_singleton _];rfl)) (by show σ.n<J.n+1;rw [n1];exact GB (Gx _)) (Gx _) (GL _) E1.n (by rw [n1];exact G6 (Gx _)) (GL _)) fun k ρ σ' h=>?_
 delta k ρ σ'
 cases h with
 |mk S M y2 y5 y6 y7 _ h E Y hT lD lT gD gT T U=>
  injections S M y2 y5 y6 y7;intro h U Y hT
  have dn:=pg h
  refine⟨!(bA M).isEmpty,σ',.of (.loc rfl) (j0 hT (by rw [bv];exact(l3 0x1b89c821b211b101b09492949f80) B dn U)) rfl,fun e=>?_,fun e K' hK Z=>?_⟩
  ·have:M=[]:=by cases M with|nil=>rfl|cons _ _=>cases e
   subst this;refine ax (kQ (.loc rfl) Y (Gz dn B) fun l hp=>b' l _ (E.trans (.alloc _ _)) (fun x=>hp.mem_iff.trans (h.done x)) (by rw [hp.length_eq];exact Gz dn B))
  ·delta K'
   have nt:M≠ []:=fun q=>by rw [q] at e;cases e
   obtain⟨o,x,rfl⟩:∃o x,M=o++[x]:=⟨_,_,(List.dropLast_concat_getLast nt).symm⟩;delta o x;rw [GC] at U
   have U:o.length+1<=S.length:=U
   have O:=h.tm x (by simp)
   obtain⟨W,K⟩:∃l,N.hp[x]? =Gq l:=⟨_,G8 (by rw [hl];exact h.lt x O)⟩
   delta W
   have g':σ'.cell J.n=.list (bA o++[.int x]):=by rw [hT];unfold bA;rw [GZ];rfl
   refine ar (.op (.cons (.loc rfl) .nil) (DH g' lT (by rw [bv];exact(l3 0x1b271801b121b89c811c09492949f80) U dn B))) rfl ?_
   refine bL (CA K (by rw [hl];exact B) (.loc rfl) (.loc rfl) _ _ ?_)
   refine bG (ClsF σ N s (bn m N tags f) (.ref b) σ.n J.n x (2 * (N.n - S.length)+o.length) W) rfl (.mk [] W S o y5 y6 y7 _ rfl ⟨h.nd,h.lt,fun z c=>h.tm z (by simp [c]),h.s0,h.re,fun z c B hk=>h.cl z c (fun q=>by
    rcases GD.mp q with q|q
    ·exact B q
    ·exact hk (GF.mp q)) trivial⟩ O (fun Z h=>nomatch h) ⟨E.n,fun z c=>(af (G6 (GN c gT))).trans (E.cell z c)⟩ ((af T).trans Y) am lD lT gD gT T (GL _) U) (fun Z Z Z Z=>trivial) (fun v r ρ j c' hI d' Z=>?_) (fun ρ j hI=>?_)
   ·delta v r ρ j c';generalize c:v::r=z at hI;delta z
    cases hI with
    |mk xs L g i y5 y6 y7 _ e C D G E' t p H I _ _ _ ms A=>
     injections xs L g i y5 y6 y7;intro e C D G ms A c t p
     cases L with
     |nil=>cases c
     |cons y L=>
      injections y L;intro e c;cases c;refine⟨_,rfl,?_⟩
      have P:y∈W:=by rw [e];simp
      have e':=pg C
      have tb:eA (ae u d) [Gq (bn m N tags f),Gq (.ref b),Gq (.int x),Gq (.ref σ.n),Gq (.ref J.n),Gq (.int y),y6,y7] j (.op .notIn [.loc 5,.loc 3]) (!GI (y∈g)) j:=by
       have:=gq uc y g
       exact .of (v:=.bool (!GI (y∈g))) (.op (.cons (.loc rfl) (.cons (.loc rfl) .nil)) (by rw [<-this];exact fy (bu t))) rfl rfl
      by_cases q:y∈g
      ·rw [decide_eq_true q] at tb
       exact aq tb (ak (bm (d' _ _ (.mk (xs++[y]) L g i _ _ _ _ (by rw [e,GK];rfl) C D (fun z c=>by
        rcases GD.mp c with c|c
        ·exact G z c
        ·rw [GF.mp c];exact q) E' t p H I gD gT T ms A)).1))
      ·rw [decide_eq_false q] at tb;refine aq tb (bS .const (.loc rfl) (.loc rfl) (cy t H (by rw [i8];exact(l2 0x1b89c811b101b09492949f80) B e')) ?_)
       rw [show putI (y:Int) (.bool Gu) (g8 uc g)=g8 uc (g++[y]) from mI uc q]
       have f':(j.set σ.n (.dict (g8 uc (g++[y])))).cell J.n=.list (bA i):=(af T.symm).trans p
       refine aD (Ev.app (.loc rfl) (aM f') (.loc rfl) (bK f' I (by rw [bv];exact(l3 0x1c201b121b89c811b09492949f80) A e' B)) _ _ (ak (bm (d' _ _ ?_).1)))
       have h3:=C.push D K P (hN.hp _ (GJ K) y P) q
       have d3:=pg h3
       rw [show bA i++[.int y]=bA (i++[y]) by unfold bA;rw [GZ];rfl]
       refine .mk (xs++[y]) L (g++[y]) (i++[y]) _ _ _ _ (by rw [e,GK];rfl) h3 (by simp [D]) (fun z c=>?_) ⟨E'.n,fun z c=>?_⟩ ((af T).trans am) am H I gD gT T ?_ ?_
       ·rcases GD.mp c with c|c
        ·exact Lf _ (G z c)
        ·exact La _ c
       ·exact(af (G6 (GN c gT))).trans ((af (G6 (GN c gD))).trans (E'.cell z c))
       ·rw [GC] at d3;rw [GC,GC]
        have d3:g.length+1<=N.n:=d3
        show 2 * (N.n - (g.length+1))+(i.length+1)<=_
        exact(l6 0x1b271a5282b73542d47718301b277181a028) ms (wY _ _) (G7 d3)
       ·rw [GC,GC];exact Nat.succ_lt_succ A
   ·generalize c:([]:List V)=z at hI
    cases hI with
    |mk xs L g i y5 y6 y7 _ e C D G E' t p H I _ _ _ ms A=>
     cases L with
     |cons y L=>cases c
     |nil=>
      rw [GY] at e;subst e;refine ak (hK _ _ _ ?_ (.mk g i _ _ _ _ _ ⟨C.nd,C.lt,C.tm,C.s0,C.re,fun z c B Z=>?_⟩ E' t p H I gD gT T (Ia A))).1
      ·rw [GC];show _<_+(o.length+1);exact(l3 0x1b72101c7718210) ms
      ·by_cases q:z=x
       ·subst q;intro l el w hw;rw [K] at el;cases el;exact G w hw
       ·exact C.cl z c B q
end
structure bj (a b:Nat) (m:Nat) (N:NF) (l f:Nat) (ks:List Nat) (σ:Sg):Prop where
 ok:N.Ok
 n200:N.n<=200
 inst:σ.cell a=.inst 257 [(5,bn m N [l] f),(6,.ref b)]
 cb:σ.cell b=.dict (g8 (fun s=>.int (clo N l s:Nat)) ks)
 nd:ks.Nodup
 lt:∀s∈ks,s<N.n
 ab:a≠b
 la:a<σ.n
 lb:b<σ.n
section
variable {u:U} {d:Nat} {Q:V->Sg->Prop} {X:Sg->Prop} {σ:Sg} {a b m:Nat} {N:NF} {l f:Nat} {ks:List Nat}
theorem bj.ext {σ':Sg} (h:bj a b m N l f ks σ) (E:a6 σ σ'):bj a b m N l f ks σ':=
 ⟨h.ok,h.n200,(E.cell _ h.la).trans h.inst,(E.cell _ h.lb).trans h.cb,h.nd,h.lt,h.ab,GN h.la E.n,GN h.lb E.n⟩
theorem bj.len (h:bj a b m N l f ks σ):ks.length<=200:=Gz (pB _ _ h.nd h.lt) h.n200
theorem bj.ev (h:bj a b m N l f ks σ) {C:aC} {ρ:List (Option V)} {i:Nat} (hi:ρ[i]? =Gq (Gq (.ref a))):Ev C ρ σ (.op (.attr 5) [.loc i]) (bn m N [l] f) σ:=.op (.cons (.loc hi) .nil) (a7 h.inst rfl)
theorem vG {σ:Sg} {x:Nat} {g:List (Int×Int)} {tags:List Nat} {C:aC} {ρ:List (Option V)} {e i:E} (h:N.mv[x]? =Gq g) (j:N.n<=200) (k:Ev C ρ σ e (bn m N tags f) σ) (c:Ev C ρ σ i (.int x) σ):Ev C ρ σ (.op .idx [.op (.attr 1) [e],i]) (.lst (sw g)) σ:=
 .op (.cons (.op (.cons k .nil) (bH rfl rfl)) (.cons c .nil)) (bC (l:=(N.mv.map sw).map .lst) rfl (by rw [GG,GG];exact Gz j (by decide)) (cY (by rw [Hd,Hd,h];rfl)))
theorem NF.Ok.mvl {N:NF} (h:N.Ok) {x:Nat} {c:List (Int×Int)} (e:N.mv[x]? =Gq c):c.length<=1:=by
 rcases h.mv c (GJ e) with rfl|⟨_,_,rfl,_⟩<;>exact Gr rfl
theorem vZ {σ:Sg} {x:Nat} {C:aC} {ρ:List (Option V)} {e g:E} (i:Ev C ρ σ e (bn m N [l] f) σ) (c:Ev C ρ σ g (.int x) σ):Ev C ρ σ (.op .inn [g,.op (.attr 3) [e]]) (.bool (x==l)) σ:=by
 refine .op (.cons c (.cons (.op (.cons i .nil) (bH rfl rfl)) .nil)) ?_;rw [CE (kvs:=g8 (fun Z=>.int 3) [l]) rfl,gq];refine congrArg (fun b=>Gq (V.bool b,σ)) ?_
 by_cases q:x=l
 ·subst q;simp
 ·simp [q]
inductive CloI (σ₀:Sg) (N:NF) (l:Nat) (v0 v1:V) (ls:List Nat):List V->List (Option V)->Sg->Prop where
 |mk (xs ys:List Nat) (y3 y4:Option V) (σ:Sg) (e:ls=xs++ys) (E:a6 σ₀ σ):CloI σ₀ N l v0 v1 ls (bA ys) [Gq v0,Gq v1,Gq (.int (qu 0 ((xs.filter (live N l)).map (2^ ·)):Nat)),y3,y4] σ
theorem oW (xs:List Nat) (y:Nat):qu 0 (xs++[y])=qu 0 xs||| y:=HS
theorem Bj {xs:List Nat} (g:N.Ok) {s:Nat} (j:s<N.n) (h:∀x,x∈xs↔Reach N.hp s x):qu 0 ((xs.filter (live N l)).map (2^ ·))=clo N l s:=eH fun i=>by
 rw [iZ g j,i6,Hq];constructor
 ·rintro(h|⟨y,c,e⟩)
  ·cases h
  ·obtain⟨z,k,rfl⟩:=Hj.mp c;obtain rfl:=dP.mp e;obtain⟨n,o⟩:=HZ.mp k;exact⟨(h z).mp n,o⟩
 ·rintro⟨c,e⟩
  exact .inr ⟨2^i,Hj.mpr ⟨i,HZ.mpr ⟨(h i).mpr c,e⟩,rfl⟩,dP.mpr rfl⟩
theorem eT (F:bg u) (h:bj a b m N l f ks σ) {s:Nat} (O:s<N.n) (G:∀j σ',bj a b m N l f j σ'->aH (· =b) σ (· =b) σ'->Q (.int (clo N l s:Nat)) σ'):
  ae u (d+2) 226 [.ref a,.int s] Q X σ:=by
 revert f ks s;delta u d Q X σ a b m N l;revert s;delta f ks;delta s;refine F.call 226 _ rfl (d+1) _ Q X σ rfl ?_
 have P:eA (ae u (d+1)) (dR 5 [0,1] [.ref a,.int s]) σ (.op .notIn [.loc 1,.op (.attr 6) [.loc 0]]) (!GI (s∈ks)) σ:=by
  have:=gq (fun s=>.int (clo N l s:Nat)) s ks
  exact .of (v:=.bool (!GI (s∈ks))) (.op (.cons (.loc rfl) (.cons (.op (.cons (.loc rfl) .nil) (a7 h.inst rfl)) .nil)) (by rw [<-this];exact fy (bu h.cb))) rfl rfl
 have H:∀ {ρ:List (Option V)} {j:List Nat} {σ':Sg},ρ[0]? =Gq (Gq (.ref a))->ρ[1]? =Gq (Gq (.int s))->bj a b m N l f j σ'->s∈j->aH (· =b) σ (· =b) σ'->wpSs tab (ae u (d+1)) [.ret (.op .idx [.op (.attr 6) [.loc 0],.loc 1])] ρ (eh Q) X σ':=fun h0 h1 c ms S=>
  ax (Ev.op (.cons (.op (.cons (.loc h0) .nil) (a7 c.inst rfl)) (.cons (.loc h1) .nil)) (jI (cC c.cb) (bu c.cb) (by rw [gK,if_pos ms])) _ _ (G _ _ c S))
 by_cases q:s∈ks
 ·rw [decide_eq_true q] at P;exact aq P (ak (H rfl rfl h q (.refl _ _)))
 ·rw [decide_eq_false q] at P;refine aq P (ar .const rfl (bL ?_));refine az (.cons (h.ev rfl) (.cons (.op (.cons (.loc rfl) .nil) (bP (Gr rfl))) .nil)) ?_;refine th F h.ok h.n200 O ah fun U g I J ll=>?_;delta U g
  have K:=(a6.alloc σ (.list [.int s])).trans I
  refine bG (CloI σ N l (.ref a) (.int s) U) rfl (.mk [] U Gs Gs g rfl K) (fun Z Z Z Z=>trivial) (fun v r ρ σ' Y L hK Z=>?_) (fun ρ σ' L=>?_)
  ·delta v r ρ σ' Y;generalize R:v::r=z at L;delta z
   cases L with
   |mk o n y3 A _ e E=>
    delta o n y3 A
    cases n with
    |nil=>cases R
    |cons y n=>
     delta y n;cases R;refine⟨_,rfl,?_⟩
     have c:=h.ext E
     have yn:y<N.n:=h.ok.reach O ((J y).mp (by rw [e];simp))
     obtain⟨B,D⟩:∃k,N.mv[y]? =Gq k:=⟨_,G8 yn⟩;delta B
     have el:live N l y=(!(sw B).isEmpty||y==l):=by
      unfold live;rw [Hi,D];cases B<;>rfl
     have ml:(sw B).length<=1000000:=by rw [GG];exact Gz (h.ok.mvl D) (by decide)
     have W:eA (ae u (d+1)) [Gq (.ref a),Gq (.int s),Gq (.int (qu 0 ((o.filter (live N l)).map (2^ ·)):Nat)),Gq (.int y),A] σ' (.or (.op .idx [.op (.attr 1) [.op (.attr 5) [.loc 0]],.loc 3]) (.op .inn [.loc 3,.op (.attr 3) [.op (.attr 5) [.loc 0]]])) (live N l y) σ':=by
      have T:=eA.of (t:=!(sw B).isEmpty) (vG (C:=ae u (d+1)) (ρ:=[Gq (.ref a),Gq (.int s),Gq (.int (qu 0 ((o.filter (live N l)).map (2^ ·)):Nat)),Gq (.int y),A]) D h.n200 (c.ev (i:=0) rfl) (.loc (k:=3) rfl)) (sO ml) rfl
      have e2:=eA.of (t:=y==l) (vZ (C:=ae u (d+1)) (ρ:=[Gq (.ref a),Gq (.int s),Gq (.int (qu 0 ((o.filter (live N l)).map (2^ ·)):Nat)),Gq (.int y),A]) (x:=y) (c.ev (i:=0) rfl) (.loc (k:=3) rfl)) rfl rfl
      rw [el]
      cases D:(sw B).isEmpty with
      |true=>rw [D] at T;exact .orF T e2
      |false=>rw [D] at T;exact .orT T
     have go:∀M:Nat,M=qu 0 (((o++[y]).filter (live N l)).map (2^ ·))->Y .next [Gq (.ref a),Gq (.int s),Gq (.int M),Gq (.int y),A] σ':=fun M eM=>by
      rw [eM];exact(hK _ _ (.mk (o++[y]) n _ _ σ' (by rw [e,GK];rfl) E)).1
     refine aq W ?_
     cases lv:live N l y with
     |false=>exact ak (bm (go _ (by rw [IQ,Jm,lv,Jy,if_neg (by decide),GY])))
     |true=>
      refine kN rfl (.op (.cons .const (.cons (.loc rfl) .nil)) (aF (qQ (G9 _) (by have:=h.n200;lia) (by decide)))) (by rw [q0];exact congrArg Gq (fF _ _)) (ak (bm (go _ ?_)))
      rw [IQ,Jm,lv,Jy,if_pos rfl,GZ];exact(oW _ _).symm
  ·generalize R:([]:List V)=z at L
   cases L with
   |mk o n y3 A _ e E=>
    cases n with
    |cons y n=>cases R
    |nil=>
     rw [GY] at e;subst e
     have c:=h.ext E
     have kl:=h.len
     refine bS (.loc rfl) (.op (.cons (.loc rfl) .nil) (a7 c.inst rfl)) (.loc rfl) (cy c.cb c.lb (by rw [i8];exact(l1 0x1b89c801b09492949f80) kl)) (ak ?_)
     rw [Bj h.ok O J];refine H rfl rfl ⟨h.ok,h.n200,(af h.ab).trans c.inst,am.trans (congrArg _ (mI (fun s=>.int (clo N l s:Nat)) q)),I6.mpr ⟨h.nd,by simp,fun x p y hy e=>q (by rw [GF.mp hy] at e;exact e▸p)⟩,fun x p=>?_,h.ab,c.la,c.lb⟩ (by simp) ((aH.ext E).trans (.one rfl))
     rcases GD.mp p with p|p
     ·exact h.lt x p
     ·rw [GF.mp p];exact O
end
noncomputable def wZ (N:NF) (s:Nat):List (Nat×Nat):=(N.mv.getD s []).map fun p=>(p.1.toNat,p.2.toNat)
noncomputable def fj (N:NF) (l s:Nat):List (Nat×Nat):=(wZ N s).map fun p=>(p.1,clo N l p.2)
noncomputable def bJ (N:NF) (l:Nat) (xs:List Nat):List (Nat×Nat):=xs.flatMap (fj N l)
noncomputable def cG (b:List (Nat×Nat)):List V:=b.map fun p=>.tup [.int p.1,.int p.2]
noncomputable def tQ (M l:Nat):List Nat:=if M.testBit l then [3] else []
section
variable {u:U} {d:Nat} {Q:V->Sg->Prop} {X:Sg->Prop} {σ:Sg} {a b m:Nat} {N:NF} {l f:Nat} {ks:List Nat}
theorem lz {C:aC} {t:kw} {e c:List S} {ρ:List (Option V)} {K:cU} {v:V} (g:aX v σ=Gq []) (i:∀σ',b9 v [] σ') (q:wpSs tab C c ρ K X σ):pi C t e c ρ K X v σ:=by
 unfold pi;simp only [g];exact⟨i _,q⟩
theorem oQ {C:aC} {t:kw} {n o:List S} {ρ e:List (Option V)} {K:cU} {v i:V} (p:aX v σ=Gq [i]) (g:∀σ',b9 v [i] σ') (r:eY ρ t i σ=Gq e) (q:∀j:cU,(∀c σ',wpSs tab C o c K X σ'->j .next c σ'/\j .cont c σ')->wpSs tab C n e j X σ):pi C t n o ρ K X v σ:=by
 unfold pi;simp only [p];refine⟨g _,?_⟩;simp only [r];refine q _ fun c σ' k=>?_;exact⟨⟨g _,k⟩,g _,k⟩
theorem oz (F:bg u) {ρ:List (Option V)} {e:E} (o:N.Ok) (p:N.n<=200) (q:Ev (ae u (d+1)) ρ σ e (bn m N [l] f) σ) (j:∀σ',a6 σ σ'->bj σ.n (σ.n+1) m N l f [] σ'->Q (.ref σ.n) σ'):wpE tab (ae u (d+1)) ρ (.callC 257 [e]) Q X σ:=by
 refine w_callC (.cons q .nil) (f:=219) rfl (F.call 219 _ rfl d _ _ X _ rfl ?_);refine aG (.loc rfl) (.loc rfl) (aS ah (Gx _) (G4 _) rfl) ?_;generalize g:(σ.alloc (.inst 257 [])).set σ.n _=c
 have k:c.n=σ.n+1:=by rw [<-g];rfl
 have r:c.cell σ.n=.inst 257 [(5,bn m N [l] f)]:=by rw [<-g];exact am
 have s:∀x,x<σ.n->c.cell x=σ.cell x:=fun x i=>by rw [<-g,af (G6 i)];exact au i
 have n:σ.n<c.n:=by rw [k];exact Gx _
 refine aG (v:=.ref σ.n) (x:=.ref c.n) (σ₁:=c.alloc (.dict [])) (.op .nil rfl) (.loc rfl) (aS ((au n).trans r) (GB n) (Gr rfl) rfl) (ak ⟨rfl,?_⟩);refine j _ ⟨by show σ.n<=c.n+1;rw [k];lia,fun x i=>by rw [af (G6 i),au (JJ i n)];exact s x i⟩ ⟨o,p,by rw [<-k];exact am,by rw [af (HH (Gx _))];show(c.alloc (Cell.dict [])).cell (σ.n+1)=_;rw [<-k];exact ah,.nil,(fun Z h=>nomatch h),G6 (Gx _),GB n,by show _<c.n+1;rw [k];exact Gx _⟩
theorem rJ (F:bg u) (h:bj a b m N l f ks σ) (g:f<N.n) (c:∀e σ',bj a b m N l f e σ'->aH (· =b) σ (· =b) σ'->Q (.int (clo N l f:Nat)) σ'):ae u (d+3) 233 [.ref a] Q X σ:=
 F.call 233 _ rfl (d+2) _ Q X σ rfl (ax (w_callM (.loc rfl) (aw h.inst rfl rfl) (.cons (.op (.cons (h.ev rfl) .nil) (bH rfl rfl)) .nil) (eT F h g c)))
inductive WayI (σ₀:Sg) (a b W m:Nat) (N:NF) (l f:Nat) (v1:V) (ls:List Nat):List V->List (Option V)->Sg->Prop where
 |mk (xs ys ks:List Nat) (y3 y4 y5 y6:Option V) (σ:Sg) (e:ls=xs++ys) (h:bj a b m N l f ks σ) (S:aH (· =b) σ₀ (· =b) σ) (hW:σ.cell W=.list (cG (bJ N l xs))) (lW:W<σ.n) (gW:σ₀.n<=W) (hl:(bJ N l xs).length<=xs.length):WayI σ₀ a b W m N l f v1 ls (bA ys) [Gq (.ref a),Gq v1,Gq (.ref W),y3,y4,y5,y6] σ
theorem eo (N:NF) (l:Nat) (xs:List Nat) (y:Nat):bJ N l (xs++[y])=bJ N l xs++fj N l y:=by
 unfold bJ;rw [NH,JG,List.flatMap_nil,GY]
theorem wg (F:bg u) (h:bj a b m N l f ks σ) {M:Nat} (W:M<2^N.n) (G:∀s σ',bj a b m N l f s σ'->aH (· =b) σ (· =b) σ'->Q (.lst (cG (bJ N l (a8 M)))) σ'):ae u (d+3) 240 [.ref a,.int M] Q X σ:=by
 revert f ks M;delta u d Q X σ a b m N l;revert M;delta f ks;delta M;refine qL (F.call 240 _ rfl (d+2) _ _ X σ rfl ?_);refine ar (.op .nil (bP (G4 _))) rfl (bL (az (.cons (.loc rfl) .nil) (pP F W (Gz h.n200 (by decide)) fun j t=>?_)))
 delta j
 have E0:=(a6.alloc σ (.list [])).trans t
 have bl:=oZ W
 have Y:j.cell σ.n=.list []:=(t.cell _ (Gx _)).trans ah
 refine bG (WayI σ a b σ.n m N l f (.int M) (a8 M)) rfl (.mk [] _ ks _ _ _ _ j rfl (h.ext E0) (.ext E0) Y (GN (Gx _) t.n) (GL _) (GL _)) (fun Z Z Z Z=>trivial) (fun v r ρ σ' K' H hK Z=>?_) (fun ρ σ' H=>?_)
 ·delta v r ρ σ' K';generalize K:v::r=z at H;delta z
  cases H with
  |mk E A s y3 L O y6 _ e o S I P R hl=>
   delta E A s y3 L O y6
   cases A with
   |nil=>cases K
   |cons y A=>
    delta y A;cases K;refine⟨_,rfl,?_⟩
    have ym:y∈a8 M:=by rw [e];simp
    have yn:y<N.n:=J1 fun q=>by
     have:=dz.mp ym
     rw [JK (GN W (He (by decide) q))] at this
     cases this
    have xl:E.length<=200:=by
     rw [e,GC] at bl
     have:=h.n200
     exact(l3 0x1b17201b89c811b89c80) bl this
    obtain⟨mv,T⟩:∃k,N.mv[y]? =Gq k:=⟨_,G8 yn⟩;delta mv
    have eg:N.mv.getD y []=mv:=by rw [Hi,T];rfl
    have B:∀ {L O ks₂ i},bj a b m N l f ks₂ i->aH (· =b) σ (· =b) i->i.cell σ.n=.list (cG (bJ N l (E++[y])))->σ.n<i.n->K' .next [Gq (.ref a),Gq (.int M),Gq (.ref σ.n),Gq (.int y),L,O,y6] i:=fun c p n C=>
     (hK _ _ (.mk (E++[y]) A _ _ _ _ _ _ (by rw [e,GK];rfl) c p n C R (by
      rw [eo,GC,GC]
      have:(fj N l y).length<=1:=by
       rw [GG,GG,eg];exact h.ok.mvl T
      show _<=E.length+1
      exact(l3 0x1b1811b201b7182710) this hl))).1
    refine bL (vG T h.n200 (o.ev rfl) (.loc rfl) _ _ ?_);rcases h.ok.mv mv (GJ T) with rfl|⟨k,g,rfl,kk,gn⟩
    ·refine lz rfl (fun Z=>trivial) (ak (B o S ?_ P));rw [eo,show fj N l y=[] by unfold fj wZ;rw [eg];rfl,GY];exact I
    ·delta k g;refine oQ rfl (fun Z=>trivial) rfl fun J D=>aD ?_;delta J;refine CH ?_;refine Ev.loc rfl _ _ ⟨aM I,?_⟩;refine oR ?_;refine Ev.loc rfl _ _ ?_;refine w_callM (.loc rfl) (aw o.inst rfl rfl) (.cons (.loc rfl) .nil) (eT F o gn fun ks₂ i c p=>?_);refine eV ?_;simp only [aK (Gr rfl:[V.int k,V.int (clo N l g:Nat)].length<=1000)]
     have U:σ.n≠b:=fun q=>absurd h.lb (by rw [<-q];exact HA _)
     have o2:=p.other P U
     have n:=o2.2.1.trans I
     simp only [bK n o2.2.2 (by rw [GG];exact(l2 0x1b89c811b101b09492949f80) xl hl)]
     have S3:=S.trans p
     refine ak (D _ _ (ak (B (ks₂:=ks₂) ⟨c.ok,c.n200,(af fun q=>?_).trans c.inst,(af U.symm).trans c.cb,c.nd,c.lt,c.ab,c.la,c.lb⟩ (S3.tail R) (am.trans ?_) o2.2.2))).1
     ·exact absurd h.la (by rw [q];exact HA _)
     ·have kn:k=((k.toNat:Nat):Int):=by rcases kk with rfl|rfl<;>rfl
      rw [eo,show fj N l y=[(k.toNat,clo N l g)] by unfold fj wZ;rw [eg];rfl]
      unfold cG;rw [GZ,Hp,List.map_nil, <-kn]
 ·generalize K:([]:List V)=z at H
  cases H with
  |mk E A s y3 L O y6 _ e o S I P R hl=>
   cases A with
   |cons y A=>cases K
   |nil=>
    rw [GY] at e;subst e;refine ax (Ev.loc rfl _ _ ⟨_,_,rfl,I,P,G s _ ?_ (S.tail R)⟩)
    have U:σ.n≠b:=fun q=>absurd h.lb (by rw [<-q];exact HA _)
    have na:a≠σ.n:=fun q=>absurd h.la (by rw [q];exact HA _)
    exact⟨o.ok,o.n200,(af na).trans o.inst,(af U.symm).trans o.cb,o.nd,o.lt,o.ab,o.la,o.lb⟩
end
noncomputable def cZ (k c:Nat):Bool:=k / 2^c % 2==1
noncomputable def pZ (b:List (Nat×Nat)) (c:Nat):Nat:=qu 0 ((b.filter fun p=>cZ p.1 c).map (·.2))
section
variable {u:U} {d:Nat} {Q:V->Sg->Prop} {X:Sg->Prop} {σ:Sg} {a b m:Nat} {N:NF} {l f:Nat} {ks:List Nat}
theorem mR {C:aC} {ρ:List (Option V)} {i j k c:Nat} (hi:ρ[i]? =Gq (Gq (.int k))) (g:ρ[j]? =Gq (Gq (.int c))):eA C ρ σ (.op (.bin .band) [.op (.bin .shr) [.loc i,.loc j],.const (.int 1)]) (cZ k c) σ:=by
 refine .of (v:=.int ((k / 2^c % 2:Nat):Int)) (.op (.cons (.op (.cons (.loc hi) (.cons (.loc g) .nil)) (aF (r:=((k / 2^c:Nat):Int)) (by rw [zT (G9 _),rQ]))) (.cons .const .nil)) (aF (op:=.band) (a:=((k / 2^c:Nat):Int)) (b:=1) (congrArg Gq (q8 _)))) ?_ rfl
 show Gq (!(((k / 2^c % 2:Nat):Int) ==0))=Gq (k / 2^c % 2==1)
 rcases Nat.mod_two_eq_zero_or_one (k / 2^c) with e|e<;>rw [e]<;>rfl
inductive AftI (σ₀:Sg) (v0 v1:V) (ws:List (Nat×Nat)) (c:Nat):List V->List (Option V)->Sg->Prop where
 |mk (xs ys:List (Nat×Nat)) (y4 y5:Option V) (e:ws=xs++ys):AftI σ₀ v0 v1 ws c (cG ys) [Gq v0,Gq v1,Gq (.int c),Gq (.int (pZ xs c:Nat)),y4,y5] σ₀
theorem rG (F:bg u) {v0:V} {g:List (Nat×Nat)} {c:Nat} (k:Q (.int (pZ g c:Nat)) σ):ae u (d+1) 247 [v0,.lst (cG g),.int c] Q X σ:=by
 revert v0 g c;delta u d Q X σ;delta v0 g c;refine F.call 247 _ rfl d _ Q X σ rfl ?_;refine aq (t:=Gw) (.of (v:=.bool (GI ((c:Int) <0))) (.op (.cons (.loc rfl) (.cons .const .nil)) rfl) (congrArg Gq (decide_eq_false (by lia))) rfl) (ak (ar .const rfl (bL (Ev.loc rfl _ _ ?_))))
 refine bG (AftI σ v0 (.lst (cG g)) g c) rfl (.mk [] g Gs Gs rfl) (fun Z Z Z Z=>trivial) (fun v r s n A o E Z=>?_) (fun s n o=>?_)
 ·delta v r s n A;generalize p:v::r=z at o;delta z
  cases o with
  |mk q i B C e=>
   delta q i B C
   cases i with
   |nil=>cases p
   |cons y i=>
    delta y i;cases p;refine⟨_,rfl,?_⟩
    have j:∀M:Nat,M=pZ (q++[y]) c->A .next [Gq v0,Gq (.lst (cG g)),Gq (.int c),Gq (.int M),Gq (.int y.1),Gq (.int y.2)] σ:=fun M G=>by
     rw [G];exact(E _ _ (.mk (q++[y]) i _ _ (by rw [e,GK];rfl))).1
    refine aq (mR rfl rfl) ?_;unfold pZ at j;rw [IQ,Jm,Jy] at j
    cases D:cZ y.1 c with
    |false=>
     rw [D,if_neg (by decide),GY] at j
     exact ak (bm (j _ rfl))
    |true=>
     rw [D,if_pos rfl,GZ] at j;exact kN rfl (.loc rfl) (congrArg Gq (fF _ _)) (ak (bm (j _ (oW _ _).symm)))
 ·generalize p:([]:List V)=z at o
  cases o with
  |mk q i B C e=>
   cases i with
   |cons y i=>cases p
   |nil=>
    rw [GY] at e;subst e;exact ax (Ev.loc rfl _ _ k)
theorem ua (F:bg u) {v0 v1:V} {c:Int} (g:c<0) (e:Q (.int 0) σ):ae u (d+1) 247 [v0,v1,.int c] Q X σ:=
 F.call 247 _ rfl d _ Q X σ rfl (aq (t:=Gu) (.of (v:=.bool (GI (c<0))) (.op (.cons (.loc rfl) (.cons .const .nil)) rfl) (congrArg Gq (decide_eq_true g)) rfl) (ax (Ev.const _ _ e)))
inductive TagI (σ₀:Sg) (l:Nat) (v0 v1:V) (ls:List Nat):List V->List (Option V)->Sg->Prop where
 |mk (xs ys:List Nat) (y3 y4 y5:Option V) (σ:Sg) (e:ls=xs++ys) (E:a6 σ₀ σ) (hD:σ.cell σ₀.n=.dict (g8 uc (if l∈xs then [3] else []))) (lD:σ₀.n<σ.n):TagI σ₀ l v0 v1 ls (bA ys) [Gq v0,Gq v1,Gq (.ref σ₀.n),y3,y4,y5] σ
theorem vr (F:bg u) {ls:List Nat} (i:∀σ',a6 σ σ'->Q (.tup (bA (if l∈ls then [3] else []))) σ'):ae u (d+1) 205 [bn m N [l] f,.lst (bA ls)] Q X σ:=by
 revert ls;delta u d Q X σ m N l f;delta ls;refine F.call 205 _ rfl d _ Q X σ rfl ?_;refine ar (v:=.ref σ.n) (σ₁:=σ.alloc (.dict [])) (.op .nil rfl) rfl (bL (Ev.loc rfl _ _ ?_));refine bG (TagI σ l (bn m N [l] f) (.lst (bA ls)) ls) rfl (.mk [] ls Gs Gs Gs _ rfl (.alloc _ _) ah (Gx _)) (fun Z Z Z Z=>trivial) (fun v r B σ' K j C Z=>?_) (fun B σ' j=>?_)
 ·delta v r B σ' K;generalize n:v::r=z at j;delta z
  cases j with
  |mk c g D G H _ e E o s=>
   delta c g D G H
   cases g with
   |nil=>cases n
   |cons y g=>
    delta y g;cases n;refine⟨_,rfl,?_⟩
    have I:l∈c++[y]↔l∈c\/l=y:=by rw [GD,GF]
    refine aq (t:=y==l) (.of (vZ (.loc rfl) (.loc rfl)) rfl rfl) ?_
    by_cases q:y=l
    ·subst q;rw [beq_self_eq_true]
     have L:((g8 uc (if y∈c then [3] else [])).length)<=1000000:=by split<;>exact Gr rfl
     refine bS .const (.loc rfl) (.op (.cons (.op (.cons (.loc rfl) .nil) (bH rfl rfl)) (.cons (.loc rfl) .nil)) (jI (kvs:=g8 (fun Z=>.int 3) [y]) rfl rfl (by rw [gK,if_pos (.head _)]))) (cy o s L) (ak (bm (C _ _ ?_).1))
     refine .mk (c++[y]) g _ _ _ _ (by rw [e,GK];rfl) ⟨E.n,fun x J=>(af (G6 J)).trans (E.cell x J)⟩ (am.trans ?_) s
     rw [if_pos (I.mpr (.inr rfl))]
     split<;>rfl
    ·rw [beq_false_of_ne q];refine ak (bm (C _ _ (.mk (c++[y]) g _ _ _ _ (by rw [e,GK];rfl) E (o.trans ?_) s)).1)
     have:l∈c++[y]↔l∈c:=I.trans ⟨fun h=>h.elim id fun e=>absurd e.symm q,.inl⟩
     by_cases p:l∈c
     ·rw [if_pos p,if_pos (this.mpr p)]
     ·rw [if_neg p,if_neg fun h=>p (this.mp h)]
 ·generalize n:([]:List V)=z at j
  cases j with
  |mk c g D G H _ e E o s=>
   cases g with
   |cons y g=>cases n
   |nil=>
    rw [GY] at e;subst e;refine ax (kQ (.loc rfl) o (by split<;>exact Gr rfl) fun k A=>?_)
    have:k=if l∈ls then [3] else []:=by
     by_cases p:l∈ls
     ·rw [if_pos p] at A ⊢;exact List.perm_singleton.mp A
     ·rw [if_neg p] at A ⊢;exact List.perm_nil.mp A
    subst this;exact i _ (E.trans (.alloc _ _))
theorem Cf (F:bg u) (h:bj a b m N l f ks σ) {M:Nat} (n:M<2^N.n) (e:∀σ',a6 σ σ'->Q (.tup (bA (tQ M l))) σ'):ae u (d+2) 254 [.ref a,.int M] Q X σ:=by
 refine F.call 254 _ rfl (d+1) _ Q X σ rfl (ax ?_);refine gU ?_;refine h.ev rfl _ _ ?_;refine az (.cons (.loc rfl) .nil) (pP F n (Gz h.n200 (by decide)) fun j g=>?_)
 refine vr F fun c i=>?_
 have:=e c (g.trans i)
 unfold tQ at this
 have k:l∈a8 M↔M.testBit l=Gu:=dz
 by_cases p:l∈a8 M
 ·rw [if_pos p];rw [if_pos (k.mp p)] at this;exact this
 ·rw [if_neg p];rw [if_neg fun h=>p (k.mpr h)] at this;exact this
end
noncomputable def dF (b:List Nat) (w:Nat):List Nat:=if w=0\/w∈b then b else b++[w]
noncomputable def Cy (b:List Nat) (w:Nat):Int:=if w=0 then -1 else((b.idxOf w:Nat):Int)
noncomputable def fp (nx:Nat->Nat) (s:List Nat×List Int) (c:Nat):List Nat×List Int:=(dF s.1 (nx c),s.2++[Cy (dF s.1 (nx c)) (nx c)])
noncomputable def bX (N:NF) (l M c:Nat):Nat:=pZ (bJ N l (a8 M)) c
noncomputable def us (nx:Nat->Nat->Nat) (s0:Nat):Nat->List Nat×List (List Int)
 |0=>([s0],[])
 |k+1=>(([0,1,2].foldl (fp (nx ((us nx s0 k).1.getD k 0))) ((us nx s0 k).1,[])).1,(us nx s0 k).2++[([0,1,2].foldl (fp (nx ((us nx s0 k).1.getD k 0))) ((us nx s0 k).1,[])).2])
structure Fin (nx:Nat->Nat->Nat) (s0 K:Nat):Prop where
 e:(us nx s0 K).1.length=K
 lt:∀k,k<K->k<(us nx s0 k).1.length
theorem vT (b:List Nat) (w:Nat):b.length<=(dF b w).length:=by
 unfold dF;split
 ·exact GL _
 ·rw [GC];exact HK _ _
theorem nF (nx:Nat->Nat) (b:List Nat):∀(s:List Nat×List Int),s.1.length<=(b.foldl (fp nx) s).1.length:=by
 induction b with
 |nil=>
  intro _;exact GL _
 |cons c b d=>
  intro s;exact Gz (vT s.1 (nx c)) (d (fp nx s c))
theorem qM (nx:Nat->Nat->Nat) (s0 k:Nat):(us nx s0 k).1.length<=(us nx s0 (k+1)).1.length:=nF (nx ((us nx s0 k).1.getD k 0)) [0,1,2] ((us nx s0 k).1,[])
theorem mO (nx:Nat->Nat->Nat) (s0:Nat) {k j:Nat} (h:k<=j):(us nx s0 k).1.length<=(us nx s0 j).1.length:=by
 induction j with
 |zero=>rw [NG.mp h];exact GL _
 |succ j b=>
  rcases LI k (j+1) with q|q
  ·exact Gz (b (LH q)) (qM nx s0 j)
  ·rw [IE h q];exact GL _
theorem us_rows (nx:Nat->Nat->Nat) (s0:Nat):∀k,(us nx s0 k).2.length=k
 |0=>rfl
 |k+1=>by
  show((us nx s0 k).2++[_]).length=_
  rw [GC,us_rows nx s0 k];rfl
theorem AZ {N:NF} (h:N.Ok) {l M c:Nat} (m:M<2^N.n):bX N l M c<2^N.n:=jN fun x b=>by
 unfold bX pZ at b;rw [i6,Hq] at b;rcases b with b|⟨y,n,e⟩
 ·cases b
 ·obtain⟨p,o,rfl⟩:=Hj.mp n;obtain⟨s,r,d⟩:=It.mp (HZ.mp o).1
  have t:s<N.n:=J1 fun q=>by
   have:=dz.mp r
   rw [JK (GN m (He (by decide) q))] at this
   cases this
  obtain⟨f,i⟩:∃k,N.mv[s]? =Gq k:=⟨_,G8 t⟩
  have u:N.mv.getD s []=f:=by rw [Hi,i];rfl
  unfold fj wZ at d;rw [u] at d;rcases h.mv f (GJ i) with rfl|⟨k,g,rfl,v,j⟩
  ·cases d
  ·rw [GF.mp d] at e;exact h.reach j ((iZ h j).mp e).1
structure da (σ₀:Sg) (a b S D R m:Nat) (N:NF) (l f:Nat) (ks rs:List Nat) (s:List Nat×List (List Int)) (σ:Sg):Prop where
 sub:bj a b m N l f ks σ
 E:a6 σ₀ σ
 cS:σ.cell S=.list (bA s.1)
 cD:σ.cell D=.dict (g8 (fun w=>.int (s.1.idxOf w:Nat)) s.1)
 cR:σ.cell R=.list (rs.map .ref)
 rl:rs.length=s.2.length
 rc:∀(i:Nat) x r,rs[i]? =Gq x->s.2[i]? =Gq r->σ.cell x=.list (r.map .int)
 nd:rs.Nodup
 fr:∀x∈rs,R<x/\x<σ.n
 h1:σ₀.n<=a
 h2:a<b
 h3:b<S
 h4:S<D
 h5:D<R
 h6:R<σ.n
 ms:∀w∈s.1,w<2^N.n
section
variable {σ₀ σ σ':Sg} {a b S D R m:Nat} {N:NF} {l f:Nat} {ks rs:List Nat} {s:List Nat×List (List Int)}
theorem da.step {d:List Nat} (h:da σ₀ a b S D R m N l f ks rs s σ) (st:aH (· =b) σ (· =b) σ') (h':bj a b m N l f d σ'):da σ₀ a b S D R m N l f d rs s σ':=by
 have o:=h.h1;have p:=h.h2;have e:=h.h3;have g:=h.h4;have j:=h.h5;have k:=h.h6
 have n:∀x,b<x->x<σ.n->σ'.cell x=σ.cell x:=fun x q c=>st.keep x c (HH q)
 exact⟨h',⟨Gz h.E.n st.n,fun x c=>(st.keep x (GN c h.E.n) (by show x≠b;exact(l4 0x1c101b211c329d306) c o p)).trans (h.E.cell x c)⟩,(n _ e ((l4 0x1c101c211c321c30) g j k)).trans h.cS,(n _ ((l3 30855516986400) e g) ((l3 30855516986400) j k)).trans h.cD,(n _ ((l4 0x1c101c211c321c30) e g j) k).trans h.cR,h.rl,
  fun i x r c t=>(n x (by have:=h.fr x (GJ c);exact(l5 0x1c401c341c231c121c10) e g j this.1) (h.fr x (GJ c)).2).trans (h.rc i x r c t),h.nd,fun x c=>⟨(h.fr x c).1,GN (h.fr x c).2 st.n⟩,o,p,e,g,j,GN k st.n,h.ms⟩
theorem da.ext (h:da σ₀ a b S D R m N l f ks rs s σ) (E:a6 σ σ'):da σ₀ a b S D R m N l f ks rs s σ':=h.step (.ext E) (h.sub.ext E)
theorem bj.put (h:bj a b m N l f ks σ) {x:Nat} {v:Cell} (c:b<x) (d:a<b):bj a b m N l f ks (σ.set x v):=
 ⟨h.ok,h.n200,(af ((l3 493688272310790) d c)).trans h.inst,(af ((l2 7533613318) c)).trans h.cb,h.nd,h.lt,h.ab,h.la,h.lb⟩
theorem da.put (h:da σ₀ a b S D R m N l f ks rs s σ) {x:Nat} {v:Cell} (c:R<x) (p:x∉rs):da σ₀ a b S D R m N l f ks rs s (σ.set x v):=by
 have o:=h.h1;have k:=h.h2;have n:=h.h3;have j:=h.h4;have d:=h.h5;have q:=h.h6
 exact⟨h.sub.put ((l5 0x1c101c211c321c431c40) n j d c) k,⟨h.E.n,fun y g=>(af (((l8 0x1c141b7621c66761c5661c351c431c209d106) c o k n j d g))).trans (h.E.cell y g)⟩,(af ((l4 0x1c101c211c329d306) j d c)).trans h.cS,(af ((l3 493688272310790) d c)).trans h.cD,(af ((l2 7533613318) c)).trans h.cR,h.rl,
  fun i y r g t=>(af fun e=>p (by rw [<-e];exact GJ g)).trans (h.rc i y r g t),h.nd,h.fr,o,k,n,j,d,q,h.ms⟩
theorem da.add (h:da σ₀ a b S D R m N l f ks rs s σ) {w:Nat} (p:w∉s.1) (q:w<2^N.n):da σ₀ a b S D R m N l f ks rs (s.1++[w],s.2) ((σ.set D (.dict (putI (w:Int) (.int (s.1.length:Nat)) (g8 (fun w=>.int (s.1.idxOf w:Nat)) s.1)))).set S (.list (bA s.1++[.int w]))):=by
 have o:=h.h1;have e:=h.h2;have g:=h.h3;have c:=h.h4;have j:=h.h5;have t:=h.h6
 refine⟨(h.sub.put ((l3 30855516986400) g c) e).put ((l2 470817808) g) e,⟨h.E.n,fun y d=>(af ((l5 0x1c101c211c431b049d236) e g d o)).trans ((af ((l6 0x1b101c211c321c431c059d456) o e g c d)).trans (h.E.cell y d))⟩,am.trans (by unfold bA;rw [GZ];rfl),(af ((l2 7533088790) c)).trans (am.trans (congrArg _ ?_)),(af ((l3 493688271786022) c j)).trans ((af ((l2 7533088790) j)).trans h.cR),h.rl,
  fun i y r d u=>by
   have:=h.fr y (GJ d)
   exact(af ((l4 0x1c311c231c021d106) c j this.1)).trans ((af ((l3 494856470384902) j this.1)).trans (h.rc i y r d u)),h.nd,h.fr,o,e,g,c,j,t,fun x n=>?_⟩
 ·have v:g8 (fun w=>.int (s.1.idxOf w:Nat)) s.1=g8 (fun x=>.int ((s.1++[w]).idxOf x:Nat)) s.1:=sk fun k z=>by
   rw [N4,if_pos z]
  have A:(s.1++[w]).idxOf w=s.1.length:=by rw [N4,if_neg p,Nz,IG]
  rw [v]
  have:=mI (fun x=>.int ((s.1++[w]).idxOf x:Nat)) p
  rw [A] at this;exact this
 ·rcases GD.mp n with n|n
  ·exact h.ms x n
  ·rw [GF.mp n];exact q
theorem da.row (h:da σ₀ a b S D R m N l f ks rs s σ) {W:Nat} {r:List Int} (u:R<W) (A:W∉rs) (B:W<σ.n) (C:σ.cell W=.list (r.map .int)):da σ₀ a b S D R m N l f ks (rs++[W]) (s.1,s.2++[r]) (σ.set R (.list (rs.map .ref++[.ref W]))):=by
 have v:=h.h1;have p:=h.h2;have t:=h.h3;have o:=h.h4;have g:=h.h5;have E:=h.h6
 refine⟨h.sub.put ((l4 0x1c101c211c321c30) t o g) p,⟨h.E.n,fun y c=>(af (((l7 0x1b6621c5661c451c341c131c209d106) v p t o g c))).trans (h.E.cell y c)⟩,(af ((l3 493688272310790) o g)).trans h.cS,(af ((l2 7533613318) g)).trans h.cD,am.trans (by rw [GZ];rfl),by rw [GC,GC,h.rl];rfl,
  fun i y q c j=>?_,I6.mpr ⟨h.nd,by simp,fun x d y c e=>A (by rw [GF.mp c] at e;exact e▸d)⟩,fun x d=>?_,v,p,t,o,g,E,h.ms⟩
 ·rcases LI i rs.length with n|n
  ·rw [IB n] at c;rw [IB (h.rl▸n)] at j
   have:=h.fr y (GJ c)
   exact(af ((l2 7517360390) this.1)).trans (h.rc i y q c j)
  ·rw [Iw n] at c;rw [Iw (h.rl▸n), <-h.rl] at j
   cases z:i - rs.length with
   |zero=>
    rw [z] at c j;cases c;cases j;exact(af ((l2 7533088790) u)).trans C
   |succ k=>rw [z] at c;cases c
 ·rcases GD.mp d with d|d
  ·exact h.fr x d
  ·rw [GF.mp d];exact⟨u,B⟩
end
section
variable {u:U} {d:Nat} {Q:V->Sg->Prop} {X:Sg->Prop} {σ₀ σ:Sg} {a b S D R m:Nat} {N:NF} {l f:Nat} {ks rs:List Nat} {s:List Nat×List (List Int)} {mx:Nat}
noncomputable def dZ (v0:V) (mx a S D R:Nat) (y7 y8 y9 y10:Option V) (tl:List (Option V)):List (Option V):=Gq v0::Gq (.int 3)::Gq (.int mx)::Gq (.ref a)::Gq (.ref S)::Gq (.ref D)::Gq (.ref R)::y7::y8::y9::y10::tl
inductive RowW (σ₀:Sg) (a b S D R m:Nat) (N:NF) (l f:Nat) (mx W:Nat) (rs:List Nat) (s:List Nat×List (List Int)) (M:Nat) (v0:V) (tl:List (Option V)):List V->List (Option V)->Sg->Prop where
 |mk (xs ys ks:List Nat) (y9 y10:Option V) (t:List Nat×List Int) (σ:Sg) (e:[0,1,2]=xs++ys) (et:t=xs.foldl (fp (bX N l M)) (s.1,[])) (h:da σ₀ a b S D R m N l f ks rs (t.1,s.2) σ) (hW:R<W) (nW:W∉rs) (lW:W<σ.n) (cW:σ.cell W=.list (t.2.map .int)) (hm:t.1.length<=mx) (hl:t.2.length<=xs.length):
  RowW σ₀ a b S D R m N l f mx W rs s M v0 tl (bA ys) (dZ v0 mx a S D R (Gq (.lst (cG (bJ N l (a8 M))))) (Gq (.ref W)) y9 y10 tl) σ
theorem C9 (F:bg u) {v0:V} {tl:List (Option V)} {y9 y10:Option V} {W M:Nat} {rest:List Mine.S} {K:cU} (h:da σ₀ a b S D R m N l f ks rs s σ) (O:R<W) (P:W∉rs) (G:W<σ.n) (C:σ.cell W=.list []) (T:mx<=10000) (E:s.1.length<=mx) (hM:M<2^N.n)
  (U:∀o y9 y10 σ' (t:List Nat×List Int),t=[0,1,2].foldl (fp (bX N l M)) (s.1,[])->t.1.length<=mx->da σ₀ a b S D R m N l f o rs (t.1,s.2) σ'->W<σ'.n->σ'.cell W=.list (t.2.map .int)->wpSs tab (ae u (d+1)) rest (dZ v0 mx a S D R (Gq (.lst (cG (bJ N l (a8 M))))) (Gq (.ref W)) y9 y10 tl) K X σ')
  (f':mx<([0,1,2].foldl (fp (bX N l M)) (s.1,[])).1.length->∀σ',a6 σ₀ σ'->X σ'):
  wpSs tab (ae u (d+1)) (.forR 9 (.loc 1) [.assign (.loc 10) (.callM 42 (.loc 3) [.loc 7,.loc 9]),.ite (.op (.rel .eq) [.loc 10,.const (.int 0)]) [.expr (.app (.loc 8) (.const (.int (-1)))),.cont] [],.ite (.op .notIn [.loc 10,.loc 5]) [.ite (.op (.rel .ge) [.op .len [.loc 4],.loc 2]) [.raise (.loc 2)] [],.setIdx (.loc 5) (.loc 10) (.op .len [.loc 4]),.expr (.app (.loc 4) (.loc 10))] [],.expr (.app (.loc 8) (.op .idx [.loc 5,.loc 10]))]::rest) (dZ v0 mx a S D R (Gq (.lst (cG (bJ N l (a8 M))))) (Gq (.ref W)) y9 y10 tl) K X σ:=by
 revert m N l f ks rs s mx v0 tl y9 y10 W M rest K;delta u d X σ₀ σ a b S D R;revert y9 y10 W M rest K;delta m N l f ks rs s mx v0 tl;delta y9 y10 W M rest K;refine dO (Ev.loc rfl _ _ ?_);refine cO (n:=3) (RowW σ₀ a b S D R m N l f mx W rs s M v0 tl) (by decide) (by decide) (.mk [] [0,1,2] ks y9 y10 (s.1,[]) σ rfl rfl h O P G C E (GL _)) (fun v r ρ σ' K' Y hK Z=>?_) (fun ρ σ' Y=>?_)
 ·delta v r ρ σ' K';generalize hz:v::r=z at Y;delta z
  cases Y with
  |mk J B o y9 y10 t _ e et c O P G C E hl=>
   injections J B o y9 y10 t;intro e et E hl hz c C
   cases B with
   |nil=>cases hz
   |cons y B=>
    delta y B;cases hz
    have ll:J.length<=3:=by
     have:=congrArg Jd e
     rw [GC] at this
     have:3=J.length+(B.length+1):=this
     exact(l2 0x9d710381b380) this
    have b':(t.2.map V.int).length<=1000000:=by rw [GG];exact(l2 0x1b3801b011b09492949f81) ll hl
    have c':(bA t.1).length<=1000000:=by rw [bv];exact(l2 0x1b0919792801b011b09492949f81) T E
    have nx:fp (bX N l M) t y=(J++[y]).foldl (fp (bX N l M)) (s.1,[]):=by rw [HS,et];rfl
    have e':[0,1,2]=(J++[y])++B:=by rw [e,GK];rfl
    refine w_asg (w_callM (.loc rfl) (aw c.sub.inst rfl rfl) (.cons (.loc rfl) (.cons (.loc rfl) .nil)) (rG F (aB rfl ?_)));generalize hw:pZ (bJ N l (a8 M)) y=w;delta w
    have L:bX N l M y=w:=hw
    have wl:w<2^N.n:=L▸AZ h.sub.ok hM
    have H:∀ {ks₂:List Nat} {σ₂:Sg},da σ₀ a b S D R m N l f ks₂ rs (dF t.1 w,s.2) σ₂->W<σ₂.n->σ₂.cell W=.list ((t.2++[Cy (dF t.1 w) w]).map .int)->(dF t.1 w).length<=mx->K' .next (dZ v0 mx a S D R (Gq (.lst (cG (bJ N l (a8 M))))) (Gq (.ref W)) (Gq (.int y)) (Gq (.int w)) tl) σ₂/\K' .cont (dZ v0 mx a S D R (Gq (.lst (cG (bJ N l (a8 M))))) (Gq (.ref W)) (Gq (.int y)) (Gq (.int w)) tl) σ₂:=fun k i j p=>
     hK _ _ (.mk (J++[y]) B _ _ _ (dF t.1 w,t.2++[Cy (dF t.1 w) w]) _ e' (by rw [<-nx, <-L];rfl) k O P i j p (by rw [GC,GC];exact Hn hl))
    by_cases w0:w=0
    ·refine aq (t:=Gu) (.of (v:=.bool ((w:Int) ==0)) (.op (.cons (.loc rfl) (.cons .const .nil)) rfl) (by rw [w0];rfl) rfl) ?_
     refine aD (Ev.app (.loc rfl) (aM C) .const (bK C G b') _ _ (Cq ?_))
     have A:dF t.1 w=t.1:=if_pos (.inl w0)
     have ee:Cy t.1 w= -1:=if_pos w0
     refine(H (ks₂:=o) (σ₂:=σ'.set W (.list (t.2.map .int++[.int (-1)]))) ?_ G (am.trans ?_) ?_).2
     ·rw [A];exact c.put O P
     ·rw [A,ee,GZ];rfl
     ·rw [A];exact E
    ·refine aq (t:=Gw) (.of (v:=.bool ((w:Int) ==0)) (.op (.cons (.loc rfl) (.cons .const .nil)) rfl) (congrArg Gq (beq_false_of_ne (by lia))) rfl) (ak ?_)
     have tb:eA (ae u (d+1)) (dZ v0 mx a S D R (Gq (.lst (cG (bJ N l (a8 M))))) (Gq (.ref W)) (Gq (.int y)) (Gq (.int w)) tl) σ' (.op .notIn [.loc 10,.loc 5]) (!GI (w∈t.1)) σ':=by
      have:=gq (fun w=>.int (t.1.idxOf w:Nat)) w t.1
      exact .of (v:=.bool (!GI (w∈t.1))) (.op (.cons (.loc rfl) (.cons (.loc rfl) .nil)) (by rw [<-this];exact fy (bu c.cD))) rfl rfl
     have I:∀ {ks₂:List Nat} {σ₂:Sg},da σ₀ a b S D R m N l f ks₂ rs (dF t.1 w,s.2) σ₂->W<σ₂.n->σ₂.cell W=.list (t.2.map .int)->(dF t.1 w).length<=mx->w∈dF t.1 w->wpSs tab (ae u (d+1)) [.expr (.app (.loc 8) (.op .idx [.loc 5,.loc 10]))] (dZ v0 mx a S D R (Gq (.lst (cG (bJ N l (a8 M))))) (Gq (.ref W)) (Gq (.int y)) (Gq (.int w)) tl) K' X σ₂:=fun k i j p g'=>
      aD (Ev.app (.loc rfl) (aM j) (.op (.cons (.loc rfl) (.cons (.loc rfl) .nil)) (jI (cC k.cD) (bu k.cD) (by rw [gK,if_pos g']))) (bK j i b') _ _ (ak (H (k.put O P) i (am.trans (by
       rw [show Cy (dF t.1 w) w=(((dF t.1 w).idxOf w:Nat):Int) from if_neg w0,GZ];rfl)) p).1))
     by_cases q:w∈t.1
     ·rw [decide_eq_true q] at tb
      have A:dF t.1 w=t.1:=if_pos (.inr q)
      exact aq tb (ak (I (ks₂:=o) (by rw [A];exact c) G C (by rw [A];exact E) (by rw [A];exact q)))
     ·rw [decide_eq_false q] at tb
      have A:dF t.1 w=t.1++[w]:=if_neg fun h=>h.elim w0 q
      refine aq tb ?_
      have el:Ev (ae u (d+1)) (dZ v0 mx a S D R (Gq (.lst (cG (bJ N l (a8 M))))) (Gq (.ref W)) (Gq (.int y)) (Gq (.int w)) tl) σ' (.op .len [.loc 4]) (.int (t.1.length:Nat)) σ':=.op (.cons (.loc rfl) .nil) (by
       have:=d8 (aA c.cS) c'
       rw [bv] at this;exact this)
      by_cases g:mx<=t.1.length
      ·refine aq (t:=Gu) (.of (v:=.bool (GI ((t.1.length:Int) >=mx))) (.op (.cons el (.cons (.loc rfl) .nil)) rfl) (congrArg Gq (decide_eq_true (by lia))) rfl) ?_
       refine ma (.loc rfl) (G9 _) (by lia) (f' ?_ _ c.E)
       rw [e',HS, <-nx]
       have:=nF (bX N l M) B (fp (bX N l M) t y)
       have e3:(fp (bX N l M) t y).1=t.1++[w]:=by
        show dF t.1 (bX N l M y)=_
        rw [L,A]
       rw [e3,GC] at this
       have:t.1.length+1<=_:=this
       exact(l3 0x1b171800b201b021c12) this E g
      ·refine aq (t:=Gw) (.of (v:=.bool (GI ((t.1.length:Int) >=mx))) (.op (.cons el (.cons (.loc rfl) .nil)) rfl) (congrArg Gq (decide_eq_false (by lia))) rfl) (ak ?_)
       have lS:S<σ'.n:=JJ (JJ c.h4 c.h5) c.h6
       refine bS el (.loc rfl) (.loc rfl) (cy c.cD (JJ c.h5 c.h6) (by rw [i8];show t.1.length<=_;exact(l2 0x1b0919792801e101b09492949f81) T g)) ?_
       have d':(σ'.set D (.dict (putI (w:Int) (.int (t.1.length:Nat)) (g8 (fun w=>.int (t.1.idxOf w:Nat)) t.1)))).cell S=.list (bA t.1):=(af (G6 c.h4)).trans c.cS
       refine aD (Ev.app (.loc rfl) (aM d') (.loc rfl) (bK d' lS c') _ _ (ak ?_))
       have h3:=c.add q wl
       have gD:W≠D:=by have:=c.h5;lia
       have gS:W≠S:=by have:=c.h5;have:=c.h4;lia
       exact I (ks₂:=o) (by rw [A];exact h3) G ((af gS).trans ((af gD).trans C)) (by rw [A,GC];show t.1.length+1<=_;exact(l2 2061881143680) g) (by rw [A];simp)
 ·generalize hz:([]:List V)=z at Y
  cases Y with
  |mk J B o y9 y10 t _ e et c O P G C E hl=>
   cases B with
   |cons y B=>cases hz
   |nil=>
    rw [GY] at e;subst e;exact U _ _ _ _ t et E c G C
end
noncomputable def jb (s:List Nat×List (List Int)) (l:Nat):V:=.obj 624 [14,3] [.lst ((s.2.map fun r=>r.map V.int).map .lst),.lst (s.1.map fun M=>.tup (bA (tQ M l)))]
section
variable {u:U} {d:Nat} {Q:V->Sg->Prop} {X:Sg->Prop} {σ₀ σ:Sg} {a b S D R m:Nat} {N:NF} {l f:Nat} {ks rs:List Nat} {s:List Nat×List (List Int)} {mx:Nat}
theorem BI {C:aC} {ρ:List (Option V)} {e c:E} {i:Int} {v:V} (h:Ev C ρ (σ.alloc (.dict [])) e (.int i) (σ.alloc (.dict []))) (h':Ev C ρ (σ.alloc (.dict [])) c v (σ.alloc (.dict []))) (q:Q (.ref σ.n) ((σ.alloc (.dict [])).set σ.n (.dict [(i,v)]))):wpE tab C ρ (.dct1 e c) Q X σ:=by
 refine h _ _ (h' _ _ ?_);exact⟨i,rfl,ah,q⟩
inductive DfW (σ₀:Sg) (a b S D R m:Nat) (N:NF) (l f mx K:Nat) (v0:V) (tl:List (Option V)):Nat->List (Option V)->Sg->Prop where
 |mk (k:Nat) (ks rs:List Nat) (y7 y8 y9 y10:Option V) (σ:Sg) (hk:k<=K) (h:da σ₀ a b S D R m N l f ks rs (us (bX N l) (clo N l f) k) σ) (hm:(us (bX N l) (clo N l f) k).1.length<=mx):
  DfW σ₀ a b S D R m N l f mx K v0 tl (K - k) (dZ v0 mx a S D R y7 y8 y9 y10 tl) σ
theorem An (F:bg u) {K:Nat} (T:K<=10000) (j:Fin (bX N l) (clo N l f) K) (U:mx<=10000) (h1:1<=mx) {v0:V} {tl:List (Option V)} {y7 y8 y9 y10:Option V} {A:List Mine.S} {B:cU} (h:da σ₀ a b S D R m N l f ks [] ([clo N l f],[]) σ)
  (C:K<=mx->∀ks rs y7 y8 y9 y10 σ',da σ₀ a b S D R m N l f ks rs (us (bX N l) (clo N l f) K) σ'->wpSs tab (ae u (d+3)) A (dZ v0 mx a S D R y7 y8 y9 y10 tl) B X σ') (W:mx<K->∀σ',a6 σ₀ σ'->X σ'):
  wpSs tab (ae u (d+3)) (.while (.op (.rel .lt) [.op .len [.loc 6],.op .len [.loc 4]]) [.assign (.loc 7) (.callM 41 (.loc 3) [.op .idx [.loc 4,.op .len [.loc 6]]]),.assign (.loc 8) (.op .lst []),.forR 9 (.loc 1) [.assign (.loc 10) (.callM 42 (.loc 3) [.loc 7,.loc 9]),.ite (.op (.rel .eq) [.loc 10,.const (.int 0)]) [.expr (.app (.loc 8) (.const (.int (-1)))),.cont] [],.ite (.op .notIn [.loc 10,.loc 5]) [.ite (.op (.rel .ge) [.op .len [.loc 4],.loc 2]) [.raise (.loc 2)] [],.setIdx (.loc 5) (.loc 10) (.op .len [.loc 4]),.expr (.app (.loc 4) (.loc 10))] [],.expr (.app (.loc 8) (.op .idx [.loc 5,.loc 10]))],.expr (.app (.loc 6) (.loc 8))]::A) (dZ v0 mx a S D R y7 y8 y9 y10 tl) B X σ:=by
 revert m N l f ks mx K v0 tl y7 y8 y9 y10 A B;delta u d X σ₀ σ a b S D R;revert v0 tl y7 y8 y9 y10 A B;delta m N l f ks mx K;delta v0 tl y7 y8 y9 y10 A B;refine eS (DfW σ₀ a b S D R m N l f mx K v0 tl) (n:=K - 0) (.mk 0 ks [] _ _ _ _ σ (G4 _) h h1) fun n ρ σ' hI=>?_;delta n ρ σ'
 cases hI with
 |mk k Y rs y7 y8 y9 y10 _ hk o hm=>
  delta k Y rs y7 y8 y9 y10
  have rk:=us_rows (bX N l) (clo N l f) k
  have up:=mO (bX N l) (clo N l f) hk
  rw [j.e] at up
  have rl:rs.length=k:=o.rl.trans rk
  have lr:Ev (ae u (d+3)) (dZ v0 mx a S D R y7 y8 y9 y10 tl) σ' (.op .len [.loc 6]) (.int (k:Nat)) σ':=.op (.cons (.loc rfl) .nil) (by
   have:=d8 (aA o.cR) (by rw [GG];exact(l3 0x1d101b211b0919792821b09492949f80) rl hk T)
   rw [GG,rl] at this;exact this)
  have G:(bA (us (bX N l) (clo N l f) k).1).length<=1000000:=by rw [bv];exact(l2 0x1b0919792801b011b09492949f81) T up
  have ls:Ev (ae u (d+3)) (dZ v0 mx a S D R y7 y8 y9 y10 tl) σ' (.op .len [.loc 4]) (.int ((us (bX N l) (clo N l f) k).1.length:Nat)) σ':=.op (.cons (.loc rfl) .nil) (by
   have:=d8 (aA o.cS) G
   rw [bv] at this;exact this)
  refine⟨GI ((k:Int) <((us (bX N l) (clo N l f) k).1.length:Nat)),σ',.of (.op (.cons lr (.cons ls .nil)) rfl) rfl rfl,fun e=>?_,fun e H p Z=>?_⟩
  ·have:=of_decide_eq_false e
   have I:k=K:=IE hk (HL fun q=>this (LG.mpr (j.lt k q)))
   subst I;exact C (by have:=j.e;exact(l3 0x9d101b201b21) this hm) _ _ _ _ _ _ _ o
  ·delta H
   have kl:k<(us (bX N l) (clo N l f) k).1.length:=LG.mp (of_decide_eq_true e)
   have I:k<K:=by lia
   have eM:(us (bX N l) (clo N l f) k).1[k]? =Gq ((us (bX N l) (clo N l f) k).1.getD k 0):=by
    rw [Hi,G8 kl];rfl
   have hM:=o.ms _ (GJ eM)
   generalize b':(us (bX N l) (clo N l f) k).1.getD k 0=M at eM hM;delta M;refine w_asg (w_callM (.loc rfl) (aw o.sub.inst rfl rfl) (.cons (.op (.cons (.loc rfl) (.cons lr .nil)) (bC (aA o.cS) G (cY (by rw [Hd,eM];rfl)))) .nil) (wg F o.sub hM fun r c v J=>aB rfl ?_))
   delta r c
   have L:=o.step J v
   have h3:=L.ext (.alloc c (.list []))
   have nR:c.n∉rs:=fun q=>absurd (L.fr _ q).2 (HA _)
   refine ar (.op .nil (bP (G4 _))) rfl ?_
   have O:us (bX N l) (clo N l f) (k+1)=(([0,1,2].foldl (fp (bX N l M)) ((us (bX N l) (clo N l f) k).1,[])).1,(us (bX N l) (clo N l f) k).2++[([0,1,2].foldl (fp (bX N l M)) ((us (bX N l) (clo N l f) k).1,[])).2]):=by rw [<-b'];rfl
   have y:=mO (bX N l) (clo N l f) (k:=k+1) I
   rw [j.e] at y;refine C9 F h3 L.h6 nR (Gx _) ah U hm hM (fun z y9 y10 i t et tm P l4 c4=>?_) fun g i E=>W (by rw [O] at y;exact GN g y) i E
   refine aD (Ev.app (.loc rfl) (aM P.cR) (.loc rfl) (bK P.cR P.h6 (by rw [GG];exact(l3 0x1c101b0919792811d021b09492949f82) I T rl)) _ _ (ak ?_))
   have h5:=P.row L.h6 nR l4 c4
   refine(p (K - (k+1)) _ _ (by lia) ?_).1
   rw [<-et] at O;exact .mk (k+1) z _ _ _ _ _ _ I (by rw [O];exact h5) (by rw [O];exact tm)
end
section
variable {u:U} {d:Nat} {Q:V->Sg->Prop} {X:Sg->Prop} {σ₀ σ:Sg} {a b S D R m:Nat} {N:NF} {l f:Nat} {ks rs:List Nat} {s:List Nat×List (List Int)} {mx:Nat}
noncomputable def jy (l:Nat) (s:List Nat):List V:=s.map fun M=>.tup (bA (tQ M l))
theorem yL (h:da σ₀ a b S D R m N l f ks rs s σ) {i T:Nat} (hi:R<i) (E:R<T) (F:i≠T) (G:i∉rs) (H:T∉rs) (I:i<σ.n) (J:T<σ.n) (K:σ.cell i=.inst 624 [(14,.ref R),(3,.ref T)]) (L:σ.cell T=.list (jy l s.1)):∃g,FrzL σ [.ref i] [jb s l] g/\a6 σ₀ g:=by
 have o:=h.h1;have p:=h.h2;have t:=h.h3;have v:=h.h4;have y:=h.h5;have M:=h.h6
 obtain⟨n,O,B,C⟩:=i9 (xs:=rs) (ls:=s.2.map fun r=>r.map V.int) (σ:=(σ.set i .dead).set R .dead) (by rw [GG,h.rl]) h.nd (fun j x k c P=>by
  obtain⟨r,U,rfl⟩:=GV.mp ((Hd).symm.trans P)
  have mx:=GJ c
  have:=h.fr x mx
  rw [af (by exact(l2 7517360390) this.1),af fun e=>G (by rw [<-e];exact mx)]
  exact h.rc j x r c U) (fun x c=>(h.fr x c).2)
 have Y:R∉rs:=fun q=>absurd (h.fr R q).1 (HA _)
 have z:n.cell T=.list (jy l s.1):=by rw [C T H,af (by exact(l2 7533088790) E),af F.symm];exact L
 have A:T<n.n:=by rw [B];exact J
 have W:(σ.set i .dead).cell R=.list (rs.map .ref):=(af ((l2 7533613318) hi)).trans h.cR
 refine⟨n.set T .dead,?_,⟨by show σ₀.n<=n.n;rw [B];exact h.E.n,fun x c=>?_⟩⟩
 ·exact .inst K I (.list W M O (.list z A .all .nil)) .nil
 ·have:x∉rs:=fun q=>by have:=h.fr x q;exact(l7 0x1b6621c5661c451c341c031c211c106) o p t v y c this.1
  rw [af (by lia),C x this,af (((l7 0x1b6621c5661c451c341c131c209d106) o p t v y c)),af (((l8 0x1c141b7621c66761c5661c351c431c209d106) hi o p t v y c))]
  exact h.E.cell x c
inductive TgsI (σ₀:Sg) (S:Nat) (l:Nat) (s:List Nat):List V->List V->Sg->Prop where
 |mk (xs ys:List Nat) (σ:Sg) (e:s=xs++ys) (E:a6 σ₀ σ) (lS:S<σ.n) (cS:σ.cell S=.list (bA s)):TgsI σ₀ S l s (bA ys) (jy l xs) σ
def EV (N:NF) (l f K mx:Nat) (σ:Sg) (v:V) (σ':Sg):Prop:=K<=mx/\∃c,FrzL σ' [v] [jb (us (bX N l) (clo N l f) K) l] c/\a6 σ c
theorem zO (F:bg u) (hN:N.Ok) (hn:N.n<=200) (hf:f<N.n) {K:Nat} (hK:K<=10000) (P:Fin (bX N l) (clo N l f) K) (c':mx<=10000) (h1:1<=mx) (d':mx<K->∀σ',a6 σ σ'->X σ'):
  wpSs tab (ae u (d+3)) C1 (dR 18 [0,1,2] [bn m N [l] f,.int 3,.int mx]) (eh (EV N l f K mx σ)) X σ:=by
 revert K;delta u d X σ m N l f mx;delta K;refine w_asg (oz (d:=d+2) F hN hn (.loc rfl) fun C U p=>aB rfl (w_asg ?_));delta C;refine w_callM (.loc rfl) (aw p.inst rfl rfl) .nil (rJ F p hf fun n c t W=>?_);delta n c;refine eV ?_;simp only [bP (Gr rfl:[V.int (clo N l f:Nat)].length<=1000)];refine aB rfl ?_
 have Y:a6 σ c:=W.toExt U fun x O=>by rw [show x=_ from O];exact Hk _
 have lb:=t.lb
 generalize G:c.alloc (.list [.int (clo N l f:Nat)])=k;delta k
 have E3:a6 c k:=by rw [<-G];exact .alloc _ _
 have c3:k.cell c.n=.list (bA [clo N l f]):=by rw [<-G];exact ah
 have n3:k.n=c.n+1:=by rw [<-G];rfl
 have l3:c.n<k.n:=by rw [n3];exact Gx _
 refine w_asg (BI (.op (.cons (.loc rfl) (.cons .const .nil)) (bC (aA ((au l3).trans c3)) (Gr rfl) rfl)) .const (aB rfl ?_));generalize H:(k.alloc (.dict [])).set k.n (.dict [((clo N l f:Nat),.int 0)])=o;delta o
 have E4:a6 k o:=by rw [<-H];exact⟨Hk _,fun x O=>(af (G6 O)).trans (au O)⟩
 have c4:o.cell k.n=.dict (g8 (fun w=>.int ([clo N l f].idxOf w:Nat)) [clo N l f]):=by
  rw [<-H];refine am.trans ?_
  show _=Cell.dict [(((clo N l f:Nat):Int),V.int ((([clo N l f].idxOf (clo N l f)):Nat):Int))]
  rw [Nz];rfl
 have n4:o.n=k.n+1:=by rw [<-H];rfl
 have l4:k.n<o.n:=by rw [n4];exact Gx _
 refine ar (.op .nil (bP (G4 _))) rfl ?_
 have E5:=a6.alloc o (.list [])
 have I:=E4.trans E5
 have D0:da σ σ.n (σ.n+1) c.n k.n o.n m N l f n [] ([clo N l f],[]) (o.alloc (.list [])):=
  ⟨t.ext (E3.trans I),Y.trans (E3.trans I),(I.cell _ l3).trans c3,(E5.cell _ l4).trans c4,ah,rfl,(fun i x r h=>by cases i<;>cases h),.nil,(fun Z h=>nomatch h),GL _,Gx _,lb,l3,l4,Gx _,fun w hw=>by rw [GF.mp hw];exact vn hN hf⟩
 refine An F hK P c' h1 (v0:=bn m N [l] f) (y7:=Gs) (y8:=Gs) (y9:=Gs) (y10:=Gs) (tl:=[Gs,Gs,Gs,Gs,Gs,Gs,Gs]) D0 (fun q ks rs y7 y8 y9 y10 j g=>?_) d';delta ks rs y7 y8 y9 y10 j
 have ul:(us (bX N l) (clo N l f) K).1.length<=10000:=by rw [P.e];exact hK
 have e':c.n<j.n:=JJ (JJ g.h4 g.h5) g.h6
 refine ax ?_;refine iR ?_;refine Ev.loc rfl _ _ ?_;refine jF (Ev.loc rfl _ _ ?_);refine fx (TgsI j c.n l (us (bX N l) (clo N l f) K).1) (oq g.cS (by rw [bv];exact(l1 0x1b0919792801b09492949f80) ul)) (.mk [] _ j rfl (.refl _) e' g.cS) (fun r J σ' L=>?_) (fun v r J σ' Q' L hQ=>?_) (fun J σ' L=>?_)
 ·cases L with|mk xs A _ e E lS cS=>exact⟨lS,cS⟩
 ·generalize hz:v::r=z at L
  cases L with
  |mk xs A _ e E lS cS=>
   cases A with
   |nil=>cases hz
   |cons y A=>
    cases hz
    have h6:=g.ext E
    refine w_callM (.loc rfl) (aw h6.sub.inst rfl rfl) (.cons (.loc rfl) .nil) (Cf F h6.sub (g.ms y (by rw [e];simp)) fun b' E'=>hQ _ _ ?_)
    have:=TgsI.mk (σ₀:=j) (S:=c.n) (l:=l) (s:=(us (bX N l) (clo N l f) K).1) (xs++[y]) A b' (by rw [e,GK];rfl) (E.trans E') (GN lS E'.n) ((E'.cell _ lS).trans cS)
    unfold jy at this ⊢;rw [GZ] at this;exact this
 ·delta J σ';generalize hz:([]:List V)=z at L;delta z
  cases L with
  |mk xs A _ e E lS cS=>
   delta xs A
   cases A with
   |cons y A=>cases hz
   |nil=>
    rw [GY] at e;rw [<-e];generalize M:σ'.alloc (.list (jy l (us (bX N l) (clo N l f) K).1))=B;delta B
    have E7:a6 j B:=by rw [<-M];exact E.trans (.alloc _ _)
    have c7:B.cell σ'.n=.list (jy l (us (bX N l) (clo N l f) K).1):=by rw [<-M];exact ah
    have n7:B.n=σ'.n+1:=by rw [<-M];rfl
    show ae u (d+3) 588 _ _ _ _
    refine F.call 588 _ rfl (d+2) _ _ X _ rfl ?_;refine aG (.loc rfl) (.loc rfl) (aS ah (Gx _) (G4 _) rfl) (aG (.loc rfl) (.loc rfl) (aS am (Gx _) (Gr rfl) rfl) (ak ⟨rfl,q,?_⟩))
    have h7:=g.ext (E7.trans (.alloc B (.inst 624 [])))
    have R5:=g.h6
    have En:=E.n
    have nr:∀x,j.n<=x->x∉rs:=fun x O q=>absurd (g.fr x q).2 (HN.mpr O)
    have h8:=((h7.put (x:=B.n) (v:=.inst 624 [(14,.ref o.n)]) (by lia) (nr _ (by lia))).put (x:=B.n) (v:=.inst 624 [(14,.ref o.n),(3,.ref σ'.n)]) (by lia) (nr _ (by lia)))
    refine yL h8 (T:=σ'.n) (by lia) (by lia) (((l2 0x9d718101d106) n7)) (nr _ (by lia)) (nr _ (((l2 454040336) En))) (Gx _) ?_ am ?_
    ·show σ'.n<B.n+1;exact(l2 0x9d718101c71801) n7
    ·rw [af (by exact(l2 0x9d718109d016) n7),af (by exact(l2 0x9d718109d016) n7),au (by exact(l2 0x9d718101c01) n7)];exact c7
theorem CK (F:bg u) (n:N.Ok) (o:N.n<=200) (p:f<N.n) {K:Nat} (r:K<=10000) (i:Fin (bX N l) (clo N l f) K) (j:mx<=10000) (t:1<=mx) (g:K<=mx->∀σ',a6 σ σ'->Q (jb (us (bX N l) (clo N l f) K) l) σ') (k:mx<K->∀σ',a6 σ σ'->X σ'):
  ae u (d+4) 634 [bn m N [l] f,.int 3,.int mx] Q X σ:=
 mcall_frz (F.call 634 _ rfl (d+3) _ _ X σ rfl (zO F n o p r i j t k)) fun v σ' y=>by obtain⟨q,c,e,E⟩:=y;exact⟨_,c,e,g q c E⟩
theorem Bm (F:bg u) (k:N.Ok) (n:N.n<=200) (o:f<N.n) {K:Nat} (j:K<=10000) (i:Fin (bX N l) (clo N l f) K) (g:∀σ',a6 σ σ'->Q (jb (us (bX N l) (clo N l f) K) l) σ'):
  ae u (d+4) 634 [bn m N [l] f,.int 3] Q X σ:=
 mcall_frz (F.callD 634 _ 10000 rfl rfl (d+3) _ _ X σ rfl (zO (mx:=10000) F k n o j i (GL _) (Gr rfl) fun q=>absurd q (HN.mpr j))) fun v σ' p=>by obtain⟨q,c,e,E⟩:=p;exact⟨_,c,e,g c E⟩
end
noncomputable def iF (s:List Nat×List (List Int)) (l:Nat):V:=.tup [.tup (s.2.map fun r=>.tup (r.map V.int)),.tup (jy l s.1)]
theorem wi (nx:Nat->Nat) (b:List Nat):∀(s:List Nat×List Int),(b.foldl (fp nx) s).2.length=s.2.length+b.length:=by
 induction b with
 |nil=>
  intro _;exact rfl
 |cons c b d=>
  intro s;rw [Jv,d]
  show(s.2++[_]).length+b.length=s.2.length+(b.length+1)
  rw [GC,IZ,Ib b.length 1];rfl
theorem rS (nx:Nat->Nat->Nat) (s0:Nat) (k):∀r∈(us nx s0 k).2,r.length<=3:=by
 induction k with
 |zero=>exact fun Z h=>nomatch h
 |succ k b=>
  intro r h;rcases GD.mp (show r∈(us nx s0 k).2++[_] from h) with h|h
  ·exact b r h
  ·rw [GF.mp h,wi];exact GL _
section
variable {u:U} {d:Nat} {Q:V->Sg->Prop} {X:Sg->Prop} {σ:Sg} {m:Nat} {N:NF} {l f:Nat} {s:List Nat×List (List Int)} {mx:Nat}
theorem oF (F:bg u) {ρ:List (Option V)} {i:Nat} (h:ρ[i]? =Gq (Gq (bn m N [l] f))) (b:N.n<=200):Ev (ae u (d+1)) ρ σ (.callM 38 (.loc i) []) (.int N.n) σ:=fun Q X q=>
 w_callM (.loc h) (eB rfl rfl) .nil (F.call 137 _ rfl d _ Q X σ rfl (ax (Ev.op (.cons (.op (.cons (.loc rfl) .nil) (bH rfl rfl)) .nil) (by
  have:=d8 (σ:=σ) (w:=DX N) (l:=(N.mv.map sw).map .lst) rfl (by rw [GG,GG];exact Gz b (by decide))
  rw [GG,GG] at this;exact this) _ _ q)))
theorem sg (F:bg u) {ρ:List (Option V)} {i:Nat} (h:ρ[i]? =Gq (Gq (jb s l))) (b:s.2.length<=10000):Ev (ae u (d+1)) ρ σ (.callM 38 (.loc i) []) (.int (s.2.length:Nat)) σ:=fun Q X q=>
 w_callM (.loc h) (eB rfl rfl) .nil (F.call 602 _ rfl d _ Q X σ rfl (ax (Ev.op (.cons (.op (.cons (.loc rfl) .nil) (bH rfl rfl)) .nil) (by
  have:=d8 (σ:=σ) (w:=.lst ((s.2.map fun r=>r.map V.int).map .lst)) (l:=(s.2.map fun r=>r.map V.int).map .lst) rfl (by rw [GG,GG];exact Gz b (by decide))
  rw [GG,GG] at this;exact this) _ _ q)))
inductive TldI (σ₀:Sg) (rows:List (List Int)):List V->List V->Sg->Prop where
 |mk (xs ys:List (List Int)) (e:rows=xs++ys):TldI σ₀ rows (ys.map fun r=>.lst (r.map V.int)) (xs.map fun r=>.tup (r.map V.int)) σ₀
theorem uw (F:bg u) (o:s.1.length<=10000) (k:s.2.length<=10000) (p:∀r∈s.2,r.length<=3) (c:∀σ',a6 σ σ'->Q (iF s l) σ'):ae u (d+1) 621 [jb s l] Q X σ:=by
 delta u d Q X σ l s;refine F.call 621 _ rfl d _ Q X σ rfl (ax ?_)
 have t:(s.2.map fun r=>r.map V.int).map V.lst=s.2.map fun r=>.lst (r.map V.int):=by rw [HG];rfl
 have A:Ev (ae u d) (dR 2 [0] [jb s l]) σ (.op .tupleOf [.comp [Gs,Gs,Gs] 1 (.op .tupleOf [.loc 1]) (.op (.attr 14) [.loc 0])]) (.tup (s.2.map fun r=>.tup (r.map V.int))) (σ.alloc (.list (s.2.map fun r=>.tup (r.map V.int)))):=by
  refine .op (.cons (v:=.ref σ.n) (fun Q X q=>jF (Ev.op (.cons (.loc rfl) .nil) (bH rfl rfl) _ _ ?_)) .nil) (kW ah (by rw [GG];exact(l1 0x1b0919792801b09492949f80) k))
  refine fx (TldI σ s.2) (jW (by rw [GG,GG];exact(l1 0x1b0919792801b09492949f80) k)) (by rw [t];exact .mk [] _ rfl) (fun Z Z Z Z=>trivial) (fun v r j σ' C g B=>?_) (fun j σ' g=>?_)
  ·generalize i:v::r=z at g
   cases g with
   |mk n b e=>
    cases b with
    |nil=>cases i
    |cons y b=>
     cases i;refine Ev.op (.cons (.loc rfl) .nil) (jA (by rw [GG];have:=p y (by rw [e];simp);exact(l1 0x1b3801b09492949f80) this)) _ _ (B _ _ ?_)
     have:=TldI.mk (σ₀:=σ) (rows:=s.2) (n++[y]) b (by rw [e,GK];rfl)
     rw [GZ] at this;exact this
  ·generalize i:([]:List V)=z at g
   cases g with
   |mk n b e=>
    cases b with
    |cons y b=>cases i
    |nil=>rw [e,GY] at q;exact q
 refine A _ _ ?_;refine Ev.op (.cons (.op (.cons (.loc rfl) .nil) (bH rfl rfl)) .nil) (jA (by rw [GG];exact(l1 0x1b0919792801b09492949f80) o)) _ _ ?_
 exact c _ (.alloc _ _)
theorem xj (F:bg u) (k:N.Ok) (n:N.n<=200) (o:f<N.n) {K:Nat} (e:K<=10000) (b:Fin (bX N l) (clo N l f) K) (g:mx<=10000) (p:1<=mx) (c:K<=mx->∀σ',a6 σ σ'->Q (iF (us (bX N l) (clo N l f) K) l) σ') (i:mx<K->∀σ',a6 σ σ'->Q .none σ'):
  ae u (d+5) 939 [bn m N [l] f,.int mx] Q X σ:=by
 refine F.call 939 _ rfl (d+4) _ Q X σ rfl (uo (ax ?_));refine az (.cons (.loc rfl) (.cons .const (.cons (.loc rfl) .nil))) (CK F k n o e b g p (fun q σ' E=>?_) fun q σ' E=>ax (Ev.const _ _ (i q _ E)));rw [show d6 tab 51 σ' (jb (us (bX N l) (clo N l f) K) l)=Gq 621 from eB rfl rfl]
 exact uw F (by rw [b.e];exact e) (by rw [us_rows];exact e) (rS _ _ _) fun j r=>c q _ (E.trans r)
end
noncomputable def bT (N:NF) (l:Nat) (c:Int) (xs:List Nat):Nat:=if 0<=c/\c<3 then pZ (bJ N l xs) c.toNat else 0
theorem fI {b:List (Nat×Nat)} {c i:Nat}:(pZ b c).testBit i=Gu↔∃p∈b,cZ p.1 c=Gu/\p.2.testBit i=Gu:=by
 delta b c i;rw [i6,Hq];constructor
 ·rintro(h|⟨y,d,e⟩)
  ·cases h
  ·obtain⟨p,f,rfl⟩:=Hj.mp d;obtain⟨g,j⟩:=HZ.mp f;exact⟨p,g,j,e⟩
 ·rintro⟨p,d,e,k⟩
  exact .inr ⟨p.2,Hj.mpr ⟨p,HZ.mpr ⟨d,e⟩,rfl⟩,k⟩
theorem sH {N:NF} {l c:Nat} {xs b:List Nat} (h:∀s,s∈xs↔s∈b):pZ (bJ N l xs) c=pZ (bJ N l b) c:=eH fun i=>by
 rw [fI,fI];unfold bJ;simp only [It,h]
theorem pF {N:NF} {l:Nat} {c:Int} {xs b:List Nat} (h:∀s,s∈xs↔s∈b):bT N l c xs=bT N l c b:=by
 unfold bT;split
 ·exact sH h
 ·rfl
theorem vm (b vs:List (Nat×Nat)) (c:Nat):pZ (b++vs) c=qu (pZ b c) ((vs.filter fun p=>cZ p.1 c).map (·.2)):=by
 unfold pZ qu;rw [IQ,GZ,HS]
theorem ub {k c:Nat} (b:k=2\/k=4) (d:3<=c):cZ k c=Gw:=by
 have e:2^3<=2^c:=He (by decide) d
 have:k / 2^c=0:=Nat.div_eq_of_lt (by rcases b with rfl|rfl<;>lia)
 unfold cZ;rw [this];rfl
section
variable {u:U} {d:Nat} {Q:V->Sg->Prop} {X:Sg->Prop} {σ₀ σ:Sg} {a b m:Nat} {N:NF} {l f:Nat} {ks:List Nat}
theorem rN (i:N.Ok) {s:Nat} {p:Nat×Nat} (h:p∈fj N l s):p.1=2\/p.1=4:=by
 revert s p;delta N l;delta s p;unfold fj wZ at h;rw [HG] at h;obtain⟨q,c,rfl⟩:=Hj.mp h;delta q
 have j:N.mv.getD s []=[]\/N.mv.getD s []∈N.mv:=by
  rw [Hi]
  cases e:N.mv[s]? with
  |none=>exact .inl rfl
  |some k=>exact .inr (GJ e)
 rcases j with e|e
 ·rw [e] at c;cases c
 ·rcases i.mv _ e with e|⟨k,g,e,n,_⟩
  ·rw [e] at c;cases c
  ·rw [e] at c;rw [GF.mp c];rcases n with rfl|rfl
   ·exact .inl rfl
   ·exact .inr rfl
theorem vB (F:bg u) (A:N.Ok) {ρ:List (Option V)} {i j k:Nat} {c:Int} {xs:List Nat} (h:bj a b m N l f ks σ) (hi:ρ[i]? =Gq (Gq (.ref a))) (n:ρ[j]? =Gq (Gq (.lst (cG (bJ N l xs))))) (o:ρ[k]? =Gq (Gq (.int c))):Ev (ae u (d+1)) ρ σ (.callM 42 (.loc i) [.loc j,.loc k]) (.int (bT N l c xs:Nat)) σ:=fun Q X q=>by
 refine w_callM (.loc hi) (aw h.inst rfl rfl) (.cons (.loc n) (.cons (.loc o) .nil)) ?_;unfold bT at q
 by_cases z:c<0
 ·rw [if_neg (by lia)] at q
  exact ua F z q
 ·obtain⟨e,rfl⟩:=IM (Int.not_lt.mp z);refine rG F ?_
  by_cases y:e<3
  ·rw [if_pos (by lia)] at q;exact q
  ·rw [if_neg (by lia)] at q
   have:pZ (bJ N l xs) e=0:=eH fun i=>by
    rw [fI,Hq];refine⟨fun r=>?_,fun h=>nomatch h⟩;obtain⟨p,t,g,_⟩:=r;obtain⟨s,_,v⟩:=It.mp t;rw [ub (rN h.ok v) (by exact(l1 134083620920) y)] at g
    cases g
   rw [this];exact q
theorem eA.chain {C:aC} {ρ:List (Option V)} {i j k:Int} {e g n:E} {t:Bool} (o:Ev C ρ σ e (.int i) σ) (p:Ev C ρ σ g (.int j) σ) (r:Ev C ρ σ n (.int k) σ) (s:GI (i<=j/\j<k)=t):eA C ρ σ (.chain e g n) t σ:=fun Q X q=>by
 refine o _ _ (p _ _ ?_)
 show if i<=j then _ else _
 subst s
 by_cases c:i<=j
 ·rw [if_pos c];refine r _ _ ?_
  show Q (GI (j<k)) σ
  rw [show GI (j<k)=GI (i<=j/\j<k) by by_cases v:j<k<;>simp [c,v]]
  exact q
 ·rw [if_neg c];rw [show GI (i<=j/\j<k)=Gw from decide_eq_false fun h=>c h.1] at q
  exact q
noncomputable def iJ (M j:Nat):List Nat:=(Jz j).filter (M.testBit ·)
theorem jY (M j:Nat):iJ M (j+1)=iJ M j++if M.testBit j then [j] else []:=by
 unfold iJ;rw [List.range_succ,IQ,Jm,Jy]
theorem yj {M n:Nat} (c:M<2^n) (s:Nat):s∈iJ M n↔s∈a8 M:=by
 rw [HZ,JE,dz];refine⟨fun h=>h.2,fun h=>⟨J1 fun q=>?_,h⟩⟩;rw [JK (GN c (He (by decide) q))] at h
 cases h
noncomputable def gu (v0:V) (a M:Nat) (e:V) (c:Int) (g y6 y7 y8:Option V) (tl:List (Option V)):List (Option V):=Gq v0::Gq (.ref a)::Gq (.int M)::Gq e::Gq (.int c)::g::y6::y7::y8::tl
inductive ArI (σ₀:Sg) (a b m:Nat) (N:NF) (l f M:Nat) (c:Int) (tl:List (Option V)):List V->List (Option V)->Sg->Prop where
 |mk (j k:Nat) (ks:List Nat) (y6 y7 y8:Option V) (σ:Sg) (e:j+k=N.n) (h:bj a b m N l f ks σ) (S:aH (· =b) σ₀ (· =b) σ):ArI σ₀ a b m N l f M c tl ((aZ N.n).drop j) (gu (bn m N [l] f) a M (.lst (cG (bJ N l (a8 M)))) c (Gq (.int (bT N l c (iJ M j):Nat))) y6 y7 y8 tl) σ
theorem Be (F:bg u) {M:Nat} {c:Int} {tl:List (Option V)} {y6 y7 y8:Option V} {rest:List Mine.S} {K:cU} (h:bj a b m N l f ks σ) (S:aH (· =b) σ₀ (· =b) σ)
  (C:∀ks y6 y7 y8 σ',bj a b m N l f ks σ'->aH (· =b) σ₀ (· =b) σ'->wpSs tab (ae u (d+2)) rest (gu (bn m N [l] f) a M (.lst (cG (bJ N l (a8 M)))) c (Gq (.int (bT N l c (iJ M N.n):Nat))) y6 y7 y8 tl) K X σ'):
  wpSs tab (ae u (d+2)) (.forR 6 (.callM 38 (.loc 0) []) [.for (.locs [7,8]) (.op .idx [.op (.attr 1) [.loc 0],.loc 6]) [.ite (.and (.op (.bin .band) [.op (.bin .shr) [.loc 2,.loc 6],.const (.int 1)]) (.and (.chain (.const (.int 0)) (.loc 4) (.const (.int 3))) (.op (.bin .band) [.op (.bin .shr) [.loc 7,.loc 4],.const (.int 1)]))) [.assign (.loc 5) (.op (.bin .bor) [.loc 5,.callM 39 (.loc 1) [.loc 8]])] []]]::rest) (gu (bn m N [l] f) a M (.lst (cG (bJ N l (a8 M)))) c (Gq (.int 0)) y6 y7 y8 tl) K X σ:=by
 revert f ks M c tl y6 y7 y8 rest K;delta u d X σ₀ σ a b m N l;delta f ks M c tl y6 y7 y8 rest K
 have w0:bT N l c (iJ M 0)=0:=by
  unfold bT;split<;>rfl
 have hn:=h.n200
 refine dO (oF F rfl h.n200 _ _ ?_);refine cO (n:=N.n) (ArI σ₀ a b m N l f M c tl) (G9 _) (by lia) (by rw [show(V.int 0)=.int (bT N l c (iJ M 0):Nat) by rw [w0];rfl];exact .mk 0 N.n ks y6 y7 y8 σ (IG _) h S) (fun v z ρ σ' K' L hK Z=>?_) (fun ρ σ' L=>?_)
 ·delta v z ρ σ' K';generalize hz:v::z=w at L;delta w
  cases L with
  |mk j k O y6 y7 y8 _ e J P=>
   delta j k O y6 y7 y8;obtain⟨rfl,rfl,k,rfl,ej⟩:=dw hz e;delta k
   have jn:j<N.n:=(l3 512859654069280) ej
   obtain⟨mv,em⟩:∃k,N.mv[j]? =Gq k:=⟨_,G8 jn⟩;delta mv
   have eg:N.mv.getD j []=mv:=by rw [Hi,em];rfl
   have R:∀ {r:List Nat} {y7 y8:Option V} {i:Sg} (W:Nat),W=bT N l c (iJ M (j+1))->bj a b m N l f r i->aH (· =b) σ₀ (· =b) i->K' .next (gu (bn m N [l] f) a M (.lst (cG (bJ N l (a8 M)))) c (Gq (.int W)) (Gq (.int j)) y7 y8 tl) i:=fun W G s y=>by
    rw [G];exact(hK _ _ (.mk (j+1) k _ _ _ _ _ ej s y)).1
   have wb:M.testBit j=Gw->bT N l c (iJ M j)=bT N l c (iJ M (j+1)):=fun h=>by rw [jY,h,if_neg (by decide),GY]
   have wS:fj N l j=[]->bT N l c (iJ M j)=bT N l c (iJ M (j+1)):=fun h=>by
    rw [jY]
    by_cases q:M.testBit j=Gu
    ·rw [if_pos q];unfold bT;rw [eo,h,GY]
    ·rw [if_neg q,GY]
   refine bL (vG em h.n200 (.loc rfl) (.loc rfl) _ _ ?_);rcases h.ok.mv mv (GJ em) with rfl|⟨o,g,rfl,kk,gn⟩
   ·refine lz rfl (fun Z=>trivial) (ak (R _ (wS ?_) J P));unfold fj wZ;rw [eg];rfl
   ·delta o g;refine oQ rfl (fun Z=>trivial) rfl fun D A=>?_;delta D
    have ws:fj N l j=[(o.toNat,clo N l g)]:=by unfold fj wZ;rw [eg];rfl
    have kn:o=((o.toNat:Nat):Int):=by rcases kk with rfl|rfl<;>rfl
    have H:eA (ae u (d+2)) (gu (bn m N [l] f) a M (.lst (cG (bJ N l (a8 M)))) c (Gq (.int (bT N l c (iJ M j):Nat))) (Gq (.int j)) (Gq (.int o)) (Gq (.int g)) tl) σ' (.op (.bin .band) [.op (.bin .shr) [.loc 2,.loc 6],.const (.int 1)]) (M.testBit j) σ':=by
     have:cZ M j=M.testBit j:=by
      rw [LJ];rfl
     rw [<-this];exact mR rfl rfl
    have I:∀t,GI ((0:Int)<=c/\c<3)=t->eA (ae u (d+2)) (gu (bn m N [l] f) a M (.lst (cG (bJ N l (a8 M)))) c (Gq (.int (bT N l c (iJ M j):Nat))) (Gq (.int j)) (Gq (.int o)) (Gq (.int g)) tl) σ' (.chain (.const (.int 0)) (.loc 4) (.const (.int 3))) t σ':=fun t ht=>.chain .const (.loc rfl) .const ht
    have T:bT N l c (iJ M j)=bT N l c (iJ M (j+1))->D .next (gu (bn m N [l] f) a M (.lst (cG (bJ N l (a8 M)))) c (Gq (.int (bT N l c (iJ M j):Nat))) (Gq (.int j)) (Gq (.int o)) (Gq (.int g)) tl) σ':=fun e=>(A _ _ (ak (R _ e J P))).1
    by_cases U:M.testBit j=Gu
    ·rw [U] at H
     by_cases E:0<=c/\c<3
     ·have I:=I Gu (decide_eq_true E)
      obtain⟨B,rfl⟩:=IM E.1;injections B;intro C w0 hK R wb wS H I T E I
      have Y:eA (ae u (d+2)) (gu (bn m N [l] f) a M (.lst (cG (bJ N l (a8 M)))) B (Gq (.int (bT N l B (iJ M j):Nat))) (Gq (.int j)) (Gq (.int o)) (Gq (.int g)) tl) σ' (.op (.bin .band) [.op (.bin .shr) [.loc 7,.loc 4],.const (.int 1)]) (cZ o.toNat B) σ':=by
       refine mR (k:=o.toNat) ?_ rfl;rw [<-kn];rfl
      have G:bT N l B (iJ M (j+1))=qu (bT N l B (iJ M j)) (([(o.toNat,clo N l g)].filter fun p=>cZ p.1 B).map (·.2)):=by
       rw [jY,if_pos U];unfold bT;rw [if_pos E,if_pos E,eo,ws];exact vm _ _ _
      rw [Jm,Jy] at G
      cases q3:cZ o.toNat B with
      |false=>
       rw [q3] at Y;rw [q3,if_neg (by decide)] at G
       exact aq (.andT H (.andT I Y)) (ak (bm (T G.symm)))
      |true=>
       rw [q3] at Y;rw [q3,if_pos rfl] at G;refine aq (.andT H (.andT I Y)) (w_asg ?_);refine oR ?_;refine Ev.loc rfl _ _ ?_;refine w_callM (.loc rfl) (aw J.inst rfl rfl) (.cons (.loc rfl) .nil) (eT F J gn fun r i s y=>?_);refine eV ?_;simp only [aF (σ:=i) (show dT .bor ((bT N l B (iJ M j):Nat):Int) ((clo N l g:Nat):Int)=Gq _ from congrArg Gq (fF _ _))]
       refine aB rfl (ak (bm (A _ _ (ak (R _ G.symm s (P.trans y)))).1))
     ·exact aq (.andT H (.andF (I Gw (decide_eq_false E)))) (ak (bm (T (by unfold bT;rw [if_neg E,if_neg E]))))
    ·rw [LB.mpr U] at H;exact aq (.andF H) (ak (bm (T (wb (LB.mpr U)))))
 ·generalize hz:([]:List V)=w at L
  cases L with
  |mk j k O y6 y7 y8 _ e J P=>
   obtain rfl:=dp hz e;rw [LK] at e;subst e;exact C _ _ _ _ _ J P
end
section
variable {u:U} {d:Nat} {Q:V->Sg->Prop} {X:Sg->Prop} {σ₀ σ:Sg} {a b m:Nat} {N:NF} {l f:Nat} {ks:List Nat}
inductive RgtI (σ₀:Sg) (a b m:Nat) (N:NF) (l f M:Nat) (tl:List (Option V)):List V->List (Option V)->Sg->Prop where
 |mk (ys:List Int) (y4 y5 y6 y7 y8:Option V) (ks:List Nat) (σ:Sg) (h:bj a b m N l f ks σ) (S:aH (· =b) σ₀ (· =b) σ):RgtI σ₀ a b m N l f M tl (ys.map .int) (Gq (bn m N [l] f)::Gq (.ref a)::Gq (.int M)::Gq (.lst (cG (bJ N l (a8 M))))::y4::y5::y6::y7::y8::tl) σ
theorem zv (F:bg u) (K:N.Ok) (hn:N.n<=200) (T:f<N.n) (A:∀σ',a6 σ σ'->Q (.bool Gu) σ'):ae u (d+5) 946 [bn m N [l] f] Q X σ:=by
 delta u d Q X σ m N l f;refine F.call 946 _ rfl (d+4) _ Q X σ rfl ?_;refine w_asg (oz (d:=d+3) F K hn (.loc rfl) fun e B o=>aB rfl (w_asg ?_));delta e;refine w_callM (.loc rfl) (aw o.inst rfl rfl) .nil ((rJ (d:=d+1) F o T fun r y p C=>aB rfl (w_asg ?_)));delta r y
 have U:clo N l f<2^N.n:=vn K T
 refine w_callM (.loc rfl) (aw p.inst rfl rfl) (.cons (.loc rfl) .nil) (wg (d:=d+1) F p U fun g n D E=>aB rfl ?_);delta g n
 have L:=C.trans E
 refine bL (Ev.op (.cons .const (.cons .const (.cons .const (.cons .const (.cons .const (.cons .const (.cons .const .nil))))))) (aK (Gr rfl)) _ _ ?_);refine bG (RgtI e σ.n (σ.n+1) m N l f (clo N l f) [Gs,Gs]) rfl (.mk [-1,0,1,2, -40,3,70] Gs Gs Gs Gs Gs g n D L) (fun Z Z Z Z=>trivial) (fun v z ρ σ' K' G hK Z=>?_) (fun ρ σ' G=>?_)
 ·delta v z ρ σ' K';generalize O:v::z=w at G;delta w
  cases G with
  |mk H W Y y6 y7 y8 I _ h' P=>
   delta H W Y y6 y7 y8 I
   cases H with
   |nil=>cases O
   |cons c H=>
    cases O;refine⟨_,rfl,ar .const rfl ?_⟩;refine Be (d:=d+2) F (M:=clo N l f) (c:=c) (tl:=[Gs,Gs]) (y6:=y6) (y7:=y7) (y8:=y8) h' P fun R y6 y7 y8 S q J=>?_
    have ew:bT N l c (a8 (clo N l f))=bT N l c (iJ (clo N l f) N.n):=pF fun s=>(yj U s).symm
    have ea:=vB (u:=u) (d:=d+3) (ρ:=gu (bn m N [l] f) σ.n (clo N l f) (.lst (cG (bJ N l (a8 (clo N l f))))) c (Gq (.int (bT N l c (iJ (clo N l f) N.n):Nat))) y6 y7 y8 [Gs,Gs]) F K (i:=1) (j:=3) (k:=4) (c:=c) q rfl rfl rfl
    rw [ew] at ea;exact aq (t:=Gw) (.of (v:=.bool (!(((bT N l c (iJ (clo N l f) N.n):Nat):Int) ==((bT N l c (iJ (clo N l f) N.n):Nat):Int)))) (.op (.cons ea (.cons (.loc rfl) .nil)) rfl) (by rw [beq_self_eq_true];rfl) rfl) (ak (bm (hK _ _ (.mk H _ _ _ _ _ _ _ q J)).1))
 ·generalize O:([]:List V)=w at G
  cases G with
  |mk H W Y y6 y7 y8 I _ h' P=>
   refine ax (Ev.const _ _ (A _ (P.toExt B fun x hx=>by rw [show x=_ from hx];exact Hk _)))
end
section
variable {σ:Sg} {x y:V} {d:MC} {n:Nat} {xs:List V} {ds:List MC}
theorem same_of (h:Vw σ 8 x d) (h':Vw σ 8 y d):jV σ x y=Gu:=@decide_eq_true _ (Kp _) ⟨d,h,h'⟩
theorem xm {b:Bool}:Vw σ n (.bool b) (.bool b):=⟨rfl,G4 _,fun Z r=>gr r▸⟨_,.bool _⟩⟩
theorem hV {i:Int}:Vw σ n (.int i) (.int i):=⟨rfl,G4 _,fun Z r=>let ⟨_,e⟩:=aE r;e▸⟨_,.int _ _⟩⟩
theorem qG.nil:qG σ n [] []:=⟨rfl,G4 _,fun Z r=>by exact r▸⟨_,.nil⟩⟩
theorem qG.cons (h:Vw σ n x d) (t:qG σ n xs ds):qG σ n (x::xs) (d::ds):=⟨GX.mpr ⟨h.lay,t.lay⟩,Nat.max_le.mpr ⟨h.dep,t.dep⟩,fun a r=>by
 obtain⟨y,c,e,b,r⟩:=r;obtain⟨f,q⟩:=h.rd a b;obtain⟨g,p⟩:=t.rd a r;exact e▸⟨_,.cons q p⟩⟩
theorem qG.map {b:Type} {g:b->V} {h:b->MC} {l:List b} (q:∀x∈l,Vw σ n (g x) (h x)):qG σ n (l.map g) (l.map h):=by
 induction l with
 |nil=>exact .nil
 |cons x l c=>exact .cons (q x (.head _)) (c fun y e=>q y (.tail _ e))
theorem qG.two {b β:Type} {g:b->V} {h:β->MC} {l:List b}:∀ {k:List β},l.length=k.length->(∀(i:Nat) x y,l[i]? =Gq x->k[i]? =Gq y->Vw σ n (g x) (h y))->qG σ n (l.map g) (k.map h):=by
 induction l with
 |nil=>exact fun{k} e _=>MZ.mp e.symm▸.nil
 |cons x l c=>
  intro k e q;obtain⟨y,k,rfl⟩:=List.exists_cons_of_length_eq_add_one e.symm;exact .cons (q 0 x y rfl rfl) (c (Mv e) fun i x y=>q (i+1) x y)
theorem du (h:qG σ n xs ds):Vw σ (n+1) (.tup xs) (.tuple ds):=⟨h.lay,Hn h.dep,fun a r=>by
 obtain⟨b,c,k,e,z,f⟩:=fK r;obtain⟨g,q⟩:=h.rd a f;exact e▸⟨_,.tuple (a.inv.froz _ _ z) rfl rfl q⟩⟩
theorem mM (h:qG σ n xs ds):Vw σ (n+1) (.lst xs) (.list ds):=⟨h.lay,Hn h.dep,fun a r=>by
 obtain⟨b,c,k,e,z,f⟩:=eJ r;obtain⟨g,q⟩:=h.rd a f;exact e▸⟨_,.list (a.inv.froz _ _ z) rfl rfl q⟩⟩
theorem fz {i:Nat} (c:σ.cell i=.list xs) (h:qG σ n xs ds):Vw σ (n+1) (.ref i) (.list ds):=⟨h.lay,Hn h.dep,fun a r=>by
 obtain⟨f,e⟩:=aU r;obtain⟨l,b,k,g,j⟩:=a.cell f c (fun h=>nomatch h);obtain⟨m,q⟩:=h.rd a j;exact e▸⟨_,.list g rfl rfl q⟩⟩
noncomputable def Gf (l:List (Int×Int)):MC:=.list (l.map fun p=>.tuple [.int p.1,.int p.2])
noncomputable def ET (l:List Nat):MC:=.list (l.map fun(i:Nat)=>.int i)
theorem uY {l:List (Int×Int)}:qG σ (n+1) (sw l) (l.map fun p=>.tuple [.int p.1,.int p.2]):=.map fun p Z=>du (.cons hV (.cons hV .nil))
theorem fY {l:List Nat}:qG σ n (bA l) (l.map fun(i:Nat)=>.int i):=.map fun p Z=>hV
theorem yf {l:List Int}:qG σ n (l.map .int) (l.map .int):=.map fun p Z=>hV
theorem tH {a m:Nat} {N:NF} {p:FP} (h:be a m N p σ):jV σ (.tup [.ref p.b,.ref p.c]) (.tup [DX N,Ff N])=Gu:=
 same_of (d:=.tuple [.list (N.mv.map Gf),.list (N.hp.map ET)]) (du (.cons (fz h.cb (.two h.lb fun i x l b c=>fz (h.cm i x l b c) uY)) (.cons (fz h.cc (.two (by rw [h.lc,h.ok.len]) fun i x l b c=>fz (h.ch i x l b c) fY)) .nil)))
  (du (.cons (mM (by rw [HG];exact .map fun l Z=>mM uY)) (.cons (mM (by rw [HG];exact .map fun l Z=>mM fY)) .nil)))
theorem sI {r:RT} {b c i j:Nat} {e fo:List Nat} (l:σ.cell b=.list (bA e)) (m:σ.cell c=.list (bA fo)) (f:σ.cell i=.list (bA e)) (g:σ.cell j=.list (bA fo)):jV σ (.tup [r.v,.ref b,.ref c]) (.tup [r.v,.ref i,.ref j])=Gu:=
 have k:Vw σ 7 r.v (.tuple [.bool r.e,.int r.f,.int r.l]):=du (.cons xm (.cons hV (.cons hV .nil)))
 same_of (d:=.tuple [.tuple [.bool r.e,.int r.f,.int r.l],ET e,ET fo]) (du (.cons k (.cons (fz l fY) (.cons (fz m fY) .nil)))) (du (.cons k (.cons (fz f fY) (.cons (fz g fY) .nil))))
theorem sj {s:List Nat×List (List Int)} {l:Nat}:jV σ (iF s l) (iF s l)=Gu:=
 have h:Vw σ 8 (iF s l) (.tuple [.tuple (s.2.map fun r=>.tuple (r.map .int)),.tuple (s.1.map fun M=>.tuple ((tQ M l).map fun(i:Nat)=>.int i))]):=
  du (.cons (du (.map fun r Z=>du yf)) (.cons (du (.map fun M Z=>du fY)) .nil))
 same_of h h
end
section
variable {u:U} {d:Nat} {Q:V->Sg->Prop} {X:Sg->Prop} {σ:Sg} {K:cU}
noncomputable def d0 (v0 v1 e f g i j k l m b c:Option V):List (Option V):=[v0,v1,e,f,g,i,j,k,l,m,b,c,Gs,Gs,Gs,Gs,Gs,Gs,Gs,Gs,Gs,Gs,Gs,Gs,Gs,Gs]
theorem B8 (F:bg u) {is:List Int} (E:is.length<=1000000) (o:∀t σ' G,Fam 3 t->wpSs tab (ae u 20) (mD.drop 5) (d0 (Gq (.lst (is.map .int))) G (Gq t.v) (Gq t.node) (Gq bD) (Gq (.int (cnt 3 t).1)) (Gq (.int (cnt 3 t).2)) Gs Gs Gs Gs Gs) K X σ'):
  wpSs tab (ae u 20) mD (dR 26 [0] [.lst (is.map .int)]) K X σ:=by
 revert is;delta u X σ K;delta is;refine w_asg (az (.cons (.loc rfl) .nil) (zl (d:=19) F E fun a m f q=>aB rfl ?_));delta a m f;refine w_asg (az (.cons (.loc rfl) .nil) (AJ (d:=17) F q fun t g s=>aB rfl ?_));delta t g;refine w_asg ?_;refine az (.cons (.loc rfl) .nil) ((Ao F s fun j v=>?_).up (by decide))
 delta j;refine lY ?_;refine oR ?_;refine lY ?_;refine gU ?_;refine az (.cons .const .nil) (BN (d:=17) F (k:=31) (c:=97) rfl (by decide) (by decide) fun l y=>?_)
 delta l;refine az (.cons .const .nil) (BN (d:=17) F (k:=32) (c:=98) rfl (by decide) (by decide) fun b z=>?_)
 delta b;simp only [bP (Gr rfl:[gZ 97,gZ 98].length<=1000)];refine sD (d:=19) F (i:=b.n+1) (p:=b.n) (Gx _) ah (GB (Gx _)) (G6 (Gx _)) ((au (Gx _)).trans ah) fun e H L r A B C=>⟨rfl,?_⟩;delta e;refine eV ?_;simp only [aK (Gr rfl:[t.node,V.ref (b.alloc (.list [gZ 97,gZ 98])).n].length<=1000)];refine aB rfl ?_
 have I:((b.alloc (.list [gZ 97,gZ 98])).alloc (.inst 570 [])).n=b.n+2:=rfl
 rw [I] at H r A B C
 have J:FrzL e [.ref (b.alloc (.list [gZ 97,gZ 98])).n] [bD] (((e.set (b.n+1) .dead).set (b.n+2+1) .dead).set (b.n+2+2) .dead):=
  .inst (show e.cell ((b.alloc (.list [gZ 97,gZ 98])).n)=.inst 570 [(12,.ref (b.n+2+1)),(13,.ref (b.n+2+2)),(7,.int 3)] from A) (by show b.n+1<_;exact(l2 0x1c172872801c17180) r)
   (.list ((af (l1 8287570799044614)).trans B) (by show _<e.n;exact(l2 7906759943483776) r) .all (.list ((af (l1 2023332718598)).trans ((af (l1 8287570815821830)).trans C)) (by show _<e.n;exact(l2 470817808) r) .all (.keep .nil))) .nil
 refine CU rfl J ?_;exact w_asg (az (.cons (.loc rfl) .nil) ((t7 F 3 (by decide) s fun n D=>aB rfl (o t n _ s)).up (by decide)))
end
section
variable {u:U} {d:Nat} {Q:V->Sg->Prop} {X:Sg->Prop} {σ σ₁:Sg} {K:cU} {C:aC} {ρ:List (Option V)} {e a b:E} {l l₁:List S} {c:Bool->Sg->Prop}
def CJ (C:aC) (l₁ f l:List S) (ρ:List (Option V)) (K:cU) (X:Sg->Prop):Bool->Sg->Prop:=fun t g=>match t with
 |true=>wpSs tab C l₁ ρ (iu C l K X) X g
 |false=>wpSs tab C f ρ (iu C l K X) X g
theorem mf {f:List S} (h:wpB tab C ρ e (CJ C l₁ f l ρ K X) X σ):wpSs tab C (.ite e l₁ f::l) ρ K X σ:=h
theorem iV (q:wpSs tab C l ρ K X σ):CJ C l₁ [] l ρ K X Gw σ:=ak (C:=C) (X:=X) (K:=iu C l K X) (ρ:=ρ) (σ:=σ) q
def Gk (c:Bool->Sg->Prop):V->Sg->Prop:=fun v f=>match b6 f v with
 |some t=>c t f
 |none=>False
theorem mh (hp:jX e=Gu) (h:wpE tab C ρ e (Gk c) X σ):wpB tab C ρ e c X σ:=by
 rw [iw hp];exact h
def F1 (C:aC) (ρ:List (Option V)) (b:E) (c:Bool->Sg->Prop) (X:Sg->Prop):Bool->Sg->Prop:=fun t f=>match t with
 |true=>c Gu f
 |false=>wpB tab C ρ b c X f
theorem Aw (h:wpB tab C ρ a (F1 C ρ b c X) X σ):wpB tab C ρ (.or a b) c X σ:=h
theorem C6 (h:eA C ρ σ a Gu σ₁) (q:wpB tab C ρ b c X σ₁):wpB tab C ρ (.and a b) c X σ:=h _ _ q
theorem qg {f:GS} {g:List E} {vs:List V} (h:vg C ρ σ g vs σ₁) (m:∀Q:V->Sg->Prop,(∀σ',a6 σ₁ σ'->Q .none σ')->C f vs Q X σ₁) (q:∀σ',a6 σ₁ σ'->c Gw σ'):wpB tab C ρ (.op .notNone [.callF f g]) c X σ:=by
 refine mh rfl ?_;refine az h (m _ fun σ' E=>?_);exact q σ' E
theorem rf {n:Nat} (h:1<=n) {i:Nat} (hi:ρ[i]? =Gq (Gq (.int n))):Ev C ρ σ (.op (.bin .sub) [.loc i,.const (.int 1)]) (.int ((n - 1:Nat):Int)) σ:=
 .op (.cons (.loc hi) (.cons .const .nil)) (aF (congrArg Gq (by lia)))
noncomputable def dc (t:Tr):BR:=bld 3 t ⟨[],[]⟩
theorem AB (F:bg u) {t:Tr} (D:Fam 3 t) (J:1<=(cnt 3 t).1) (G:(cnt 3 t).1<=200) {v0 v1 k o:Option V} (y:(dc t).N.Ok->∀σ' T,wpSs tab (ae u 20) (mD.drop 9) (d0 v0 v1 k (Gq t.node) (Gq bD) (Gq (.int (cnt 3 t).1)) o (Gq (bn (cnt 3 t).1 (dc t).N [(dc t).l] (dc t).f)) T Gs Gs Gs) K X σ'):
  wpSs tab (ae u 20) (mD.drop 5) (d0 v0 v1 k (Gq t.node) (Gq bD) (Gq (.int (cnt 3 t).1)) o Gs Gs Gs Gs Gs) K X σ:=by
 revert t v0 v1 k o;delta u X σ K;revert v0 v1 k o;delta t;delta v0 v1 k o;refine w_asg ?_;refine az (.cons (.loc rfl) (.cons (.loc rfl) (.cons (.loc rfl) .nil))) ((ro F (by decide) D (m:=(cnt 3 t).1) ((l1 0x1b89c801b091979280) G) (fun Z U σ₁ L=>?_) fun q=>absurd q (HA _)).up (by decide))
 delta σ₁;refine sQ (d:=19) F fun p j M z O=>?_;delta p j;refine eV ?_;simp only [aK (Gr rfl:[bn (cnt 3 t).1 (bld 3 t ⟨[],[]⟩).N [(bld 3 t ⟨[],[]⟩).l] (bld 3 t ⟨[],[]⟩).f,V.ref σ₁.n].length<=1000)];refine aB rfl (mf (Aw ?_))
 have W:=(i7 F 3 (by decide) D).adds ⟨[],[]⟩
 have P:(dc t).N.n=(cnt 3 t).1:=W.1.trans (IG _)
 refine eA.of (t:=Gw) (.op (.cons (.loc rfl) .nil) rfl) rfl rfl _ _ (Aw ?_)
 have R:=oF (u:=u) (d:=19) (σ:=j) (m:=(cnt 3 t).1) (N:=(dc t).N) (l:=(dc t).l) (f:=(dc t).f) (i:=7) (ρ:=d0 v0 v1 k (Gq t.node) (Gq bD) (Gq (.int (cnt 3 t).1)) o (Gq (bn (cnt 3 t).1 (dc t).N [(dc t).l] (dc t).f)) (Gq (.ref σ₁.n)) Gs Gs Gs) F rfl ((l2 0x1d101b89c811b89c80) P G)
 rw [P] at R;refine eA.of (v:=.bool (!(((cnt 3 t).1:Int) ==((cnt 3 t).1:Int)))) (t:=Gw) (.op (.cons R (.cons (.loc rfl) .nil)) rfl) (by rw [beq_self_eq_true];rfl) rfl _ _ ?_
 refine qg (.cons (.loc rfl) (.cons (.loc rfl) (.cons (rf J rfl) .nil))) (fun Q Y=>(ro F (by decide) D (m:=(cnt 3 t).1 - 1) ((l2 0x1b89c811b101b091979280) G (HR _ _)) (fun q=>absurd q ((l2 1994769112592) (G7 J))) fun Z σ' E=>Y σ' E).up (by decide)) fun s A=>iV ?_
 delta s
 have B:=z.ext A
 refine aD (az (.cons (.loc rfl) (.cons (.loc rfl) (.cons (.loc rfl) .nil))) (((i7 F 3 (by decide) D).call B (fun q H g r S=>?_) fun q=>absurd q (by show¬(10000<0+(cnt 3 t).1);exact(l1 0x1b89c801f700809197928) G)).up (by decide)))
 delta H g
 have I:∀ {n:Nat} {v:V},eQ tab 147 n [(0,.int 10000),(1,.ref H.b),(2,.ref H.c),(3,.ref H.t),(4,.int 0)]=Gq v->Ev (ae u 20) (d0 v0 v1 k (Gq t.node) (Gq bD) (Gq (.int (cnt 3 t).1)) o (Gq (bn (cnt 3 t).1 (dc t).N [(dc t).l] (dc t).f)) (Gq (.ref σ₁.n)) Gs Gs Gs) g (.op (.attr n) [.loc 8]) v g:=fun h=>.op (.cons (.loc rfl) .nil) (a7 r.inst h)
 have e9:Ev (ae u 20) (d0 v0 v1 k (Gq t.node) (Gq bD) (Gq (.int (cnt 3 t).1)) o (Gq (bn (cnt 3 t).1 (dc t).N [(dc t).l] (dc t).f)) (Gq (.ref σ₁.n)) Gs Gs Gs) g (.op .tup [.op (.attr 1) [.loc 7],.op (.attr 2) [.loc 7]]) (.tup [DX (dc t).N,Ff (dc t).N]) g:=.op (.cons (.op (.cons (.loc rfl) .nil) (bH rfl rfl)) (.cons (.op (.cons (.loc rfl) .nil) (bH rfl rfl)) .nil)) (aK (Gr rfl))
 refine aq (t:=Gw) (.orF (.of (v:=.bool Gw) (.op (.cons (.op (.cons (I rfl) (.cons (I rfl) .nil)) (aK (Gr rfl))) (.cons e9 .nil)) (Ai (tH r) (fun Z h=>nomatch h) (fun Z h=>nomatch h))) rfl rfl) (.of (v:=.bool Gw) (.op (.cons (I rfl) (.cons .const .nil)) rfl) rfl rfl)) (ak ?_);exact y U g _
end
section
variable {u:U} {d:Nat} {Q:V->Sg->Prop} {X:Sg->Prop} {σ σ₁:Sg} {K:cU}
theorem Bw (F:bg u) {t:Tr} (G:Fam 3 t) (J:1<=(cnt 3 t).2) (H:(cnt 3 t).2<=1000) {v0 v1 l o p s:Option V} (y:∀σ' O i,wpSs tab (ae u 20) (mD.drop 13) (d0 v0 v1 l (Gq t.node) (Gq bD) o (Gq (.int (cnt 3 t).2)) p s O i Gs) K X σ'):
  wpSs tab (ae u 20) (mD.drop 9) (d0 v0 v1 l (Gq t.node) (Gq bD) o (Gq (.int (cnt 3 t).2)) p s Gs Gs Gs) K X σ:=by
 revert t v0 v1 l o p s;delta u X σ K;revert v0 v1 l o p s;delta t;delta v0 v1 l o p s;refine w_asg (rY (d:=19) F (.loc rfl) fun σ₁ M g=>aB rfl ?_);delta σ₁;refine w_asg (w_callM (.loc rfl) (aw g.inst rfl rfl) (.cons (.loc rfl) .nil) (((vc F 3 (by decide) G).call g (fun q j L=>aB rfl ?_) fun q=>absurd q (by show¬(1000<0+(cnt 3 t).2);exact(l1 0x1b89e93801f700889e938) H)).up (by decide)))
 delta j
 have z:=L.at_
 have A:(rd 3 t .start).1.c=(cnt 3 t).2:=L.cn.trans (IG _)
 refine mf (Aw (mh rfl ?_));refine az (.cons (.loc rfl) (.cons (.loc rfl) (.cons (.loc rfl) .nil))) ((qX F (by decide) G H (fun Z b c e B P R=>?_) fun q=>absurd q (HA _)).up (by decide))
 delta b c e
 have f:=z.ext B
 have N:∀ {i:Option V} {n:Nat} {v:V},eQ tab 324 n [(0,.int 1000),(7,.int (rd 3 t .start).1.c),(8,bD),(9,.ref (σ.n+1)),(10,.ref (σ.n+2))]=Gq v->Ev (ae u 20) (d0 v0 v1 l (Gq t.node) (Gq bD) o (Gq (.int (cnt 3 t).2)) p s (Gq (.ref σ.n)) i Gs) e (.op (.attr n) [.loc 9]) v e:=fun h=>.op (.cons (.loc rfl) .nil) (a7 f.inst h)
 refine Ev.op (.cons (.loc rfl) (.cons (N rfl) (.cons (N rfl) .nil))) (aK (Gr rfl)) _ _ ?_;refine eV ?_;simp only [Ai (sI (r:=(rd 3 t .start).2) P R f.cb f.cc) (fun Z h=>nomatch h) (fun Z h=>nomatch h)]
 show F1 _ _ _ _ _ Gw e
 refine qg (.cons (.loc rfl) (.cons (.loc rfl) (.cons (rf J rfl) .nil))) (fun Q S=>(qX F (by decide) G (m:=(cnt 3 t).2 - 1) ((l2 0x1b89e93811b101b89e9380) H (HR _ _)) (fun q=>absurd q ((l2 1994769112592) (G7 J))) fun Z σ' E=>S σ' E).up (by decide)) fun k C=>iV ?_
 have D:=f.ext C
 have I:=D.inst
 rw [A] at I;refine aq (t:=Gw) (.orF (.of (v:=.bool (!(((cnt 3 t).2:Int) ==((cnt 3 t).2:Int)))) (.op (.cons (.op (.cons (.loc rfl) .nil) (a7 I rfl)) (.cons (.loc rfl) .nil)) rfl) (by rw [beq_self_eq_true];rfl) rfl) (.of (v:=.bool Gw) (.op (.cons (.op (.cons (.loc rfl) .nil) (a7 I rfl)) (.cons .const .nil)) rfl) rfl rfl)) (ak ?_)
 exact y k _ _
theorem AP (F:bg u) {N:NF} {l f m b:Nat} (L:N.Ok) (M:N.n<=200) (O:f<N.n) (n:b<=10000) (j:Fin (bX N l) (clo N l f) b) {v0 v1 o y z A B C D c:Option V} (H:∀σ' ρ,K (.ret (.bool Gu)) ρ σ'):
  wpSs tab (ae u 20) (mD.drop 13) (d0 v0 v1 o y z A B (Gq (bn m N [l] f)) C D c Gs) K X σ:=by
 revert N l f m b v0 v1 o y z A B C D c;delta u X σ K;revert v0 v1 o y z A B C D c;delta N l f m b;delta v0 v1 o y z A B C D c
 have S:1<=b:=by
  have:=mO (bX N l) (clo N l f) (G4 b)
  rw [j.e] at this;exact this
 refine w_asg (az (.cons (.loc rfl) (.cons .const .nil)) (Bm (d:=16) F L M O n j fun σ₁ T=>aB rfl (mf (mh rfl ?_))));delta σ₁;generalize I:us (bX N l) (clo N l f) b=s;delta s
 have P:s.2.length=b:=by rw [<-I];exact us_rows _ _ _
 have s1:s.1.length=b:=by rw [<-I];exact j.e
 have s3:∀r∈s.2,r.length<=3:=by rw [<-I];exact rS _ _ _
 have J:∀ {σ:Sg},Ev (ae u 20) (d0 v0 v1 o y z A B (Gq (bn m N [l] f)) C D c (Gq (jb s l))) σ (.callM 38 (.loc 11) []) (.int (b:Nat)) σ:=fun{σ}=>by
  have:=sg (u:=u) (d:=19) (σ:=σ) (s:=s) (l:=l) (i:=11) (ρ:=d0 v0 v1 o y z A B (Gq (bn m N [l] f)) C D c (Gq (jb s l))) F rfl ((l2 0x1d101b0919792811b091979280) P n)
  rw [P] at this;exact this
 have U:∀ {mx:Nat} {Q:V->Sg->Prop} {X:Sg->Prop} {σ:Sg},mx<=10000->1<=mx->(b<=mx->∀σ',a6 σ σ'->Q (iF s l) σ')->(mx<b->∀σ',a6 σ σ'->Q .none σ')->ae u 20 939 [bn m N [l] f,.int mx] Q X σ:=fun h1 h2 p e=>(xj (d:=15) F L M O n j h1 h2 (by rw [I];exact p) e)
 refine az (.cons (.loc rfl) (.cons J .nil)) (U n S (fun Z G W=>?_) fun q=>absurd q (HA _));delta G;refine w_callM (.loc rfl) (eB rfl rfl) .nil (uw (d:=19) F ((l2 0x1d101b0919792811b091979280) s1 n) ((l2 0x1d101b0919792811b091979280) P n) s3 fun g Y=>?_);delta g;refine eV ?_;simp only [Ai (σ:=g) (v:=iF s l) (x:=iF s l) sj (fun Z h=>nomatch h) (fun Z h=>nomatch h)];refine iV (l₁:=[.ret (.const (.bool Gw))]) ?_
 have k:∀ {σ:Sg},wpSs tab (ae u 20) (mD.drop 16) (d0 v0 v1 o y z A B (Gq (bn m N [l] f)) C D c (Gq (jb s l))) K X σ:=ax (az (.cons (.loc rfl) .nil) (zv (d:=15) F L M O fun σ' E=>H σ' _))
 by_cases q:1<b
 ·refine mf (C6 (.of (v:=.bool (GI ((b:Int) >1))) (.op (.cons J (.cons .const .nil)) rfl) (congrArg Gq (decide_eq_true (by lia))) rfl) ?_)
  refine qg (.cons (.loc rfl) (.cons (.op (.cons J (.cons .const .nil)) (aF (r:=((b - 1:Nat):Int)) (congrArg Gq (by lia)))) .nil)) (fun Q hQ=>U (mx:=b - 1) ((l2 0x1b0919792811b101b091979280) n (HR _ _)) ((l2 0x1c1181b718011b018) q (wY _ _)) (fun q=>absurd q ((l2 1994769112592) (G7 S))) fun Z σ' E=>hQ σ' E) fun R b'=>iV k
 ·exact aq (t:=Gw) (.andF (.of (v:=.bool (GI ((b:Int) >1))) (.op (.cons J (.cons .const .nil)) rfl) (congrArg Gq (decide_eq_false (by lia))) rfl)) (ak k)
end
structure mH (t:Tr):Prop where
 s1:1<=(cnt 3 t).1
 s2:(cnt 3 t).1<=200
 n1:1<=(cnt 3 t).2
 n2:(cnt 3 t).2<=1000
 fin:(dc t).N.Ok->(dc t).N.n=(cnt 3 t).1->(dc t).f<(dc t).N.n->∃K,K<=10000/\Fin (bX (dc t).N (dc t).l) (clo (dc t).N (dc t).l (dc t).f) K
theorem Dh {u:U} (F:bg u) (b:∀t,Fam 3 t->mH t) {X:Sg->Prop} {σ:Sg} {is:List Int} (n:is.length<=1000000):ae u 21 953 [.lst (is.map .int)] (fun v Z=>v=.bool Gu) X σ:=by
 refine F.call 953 _ rfl 20 _ _ X σ rfl ?_;refine B8 F n fun t d r c=>?_
 have P:=b t c
 refine AB F c P.s1 P.s2 fun k e s=>?_
 have l:=(i7 F 3 (by decide) c).adds ⟨[],[]⟩
 have f:(dc t).N.n=(cnt 3 t).1:=l.1.trans (IG _)
 have m:(dc t).f<(dc t).N.n:=by rw [f, <-IG (cnt 3 t).1];exact l.2.1
 obtain⟨K,o,g⟩:=P.fin k f m
 have p:=P.s2
 exact Bw F c P.n1 P.n2 fun i y q=>AP F k (by rw [f];exact p) m o g fun j z=>rfl
theorem yG {b:Type} [DecidableEq b] {l:List b}:∀ {L:List b},l.Nodup->(∀x∈l,x∈L)->l.length<=L.length:=by
 induction l with
 |nil=>
  intro _ _ _;exact G4 _
 |cons x l i=>
  intro L c h;rw [IW] at c
  have d:=i (L:=L.erase x) c.2 fun y f=>(List.mem_erase_of_ne fun e=>c.1 (by rw [<-e];exact f)).mpr (h y (.tail _ f))
  have g:=h x (.head _)
  rw [MW g] at d
  have:=List.length_pos_of_mem g
  show l.length+1<=_
  exact(l3 0x1b201d171821b17180) d (G7 this)
theorem yp {b:List Nat} {w:Nat} (h:b.Nodup):(dF b w).Nodup:=by
 unfold dF;split
 ·exact h
 ·rename_i q;exact I6.mpr ⟨h,by simp,fun x c y d e=>q (.inr (by rw [GF.mp d] at e;exact e▸c))⟩
theorem tN {nx:Nat->Nat} {L:List Nat} (i:∀c∈[0,1,2],nx c=0\/nx c∈L) (d:List Nat):∀(s:List Nat×List Int),(∀c∈d,c∈[0,1,2])->s.1.Nodup->(∀w∈s.1,w∈L)->(d.foldl (fp nx) s).1.Nodup/\∀w∈(d.foldl (fp nx) s).1,w∈L:=by
 induction d with
 |nil=>
  intro s _ f e;exact⟨f,e⟩
 |cons c d j=>
  intro s g f e;refine j (fp nx s c) (fun x k=>g x (.tail _ k)) (yp f) fun w b=>?_
  have b:w∈dF s.1 (nx c):=b
  unfold dF at b
  split at b
  ·exact e w b
  ·rename_i q;rcases GD.mp b with b|b
   ·exact e w b
   ·rw [GF.mp b];exact(i c (g c (.head _))).elim (fun z=>absurd (.inl z) q) id
theorem wV {nx:Nat->Nat->Nat} {s0:Nat} {L:List Nat} (r:s0∈L) (s:∀M∈L,∀c∈[0,1,2],nx M c=0\/nx M c∈L):∃K,K<=L.length/\Fin nx s0 K:=by
 have g:∀k,(∀j,j<k->j<(us nx s0 j).1.length)->(us nx s0 k).1.Nodup/\∀w∈(us nx s0 k).1,w∈L:=fun k=>by
  induction k with
  |zero=>exact fun Z=>⟨by show [s0].Nodup;simp,fun w t=>by rw [GF.mp t];exact r⟩
  |succ k d=>
   intro h;obtain⟨i,e⟩:=d fun j b=>h j (GB b)
   have o:=h k (Gx k)
   refine tN (s _ (e _ ?_)) [0,1,2] ((us nx s0 k).1,[]) (fun c u=>u) i e;rw [Hi,G8 o];exact List.getElem_mem o
 have v:∃k,k<=L.length/\(∀j,j<k->j<(us nx s0 j).1.length)/\(us nx s0 k).1.length<=k:=by
  refine LM fun y=>?_
  have l:∀n,n<=L.length+1->∀j,j<n->j<(us nx s0 j).1.length:=fun n=>by
   induction n with
   |zero=>exact fun Z j b=>absurd b (Mn _)
   |succ n d=>
    intro m j b;rcases LI j n with q|q
    ·exact d ((l2 1861625060112) m) j q
    ·have:j=n:=IE ((l2 1954613828368) b) ((l2 454040336) q)
     subst this;exact J1 fun z=>y ⟨j,(l2 7724625140128528) m,d ((l2 1861625060112) m),z⟩
  have f:=l (L.length+1) (GL _)
  obtain⟨i,e⟩:=g L.length fun j b=>f j (GB b);exact absurd (f L.length (Gx _)) (HN.mpr (yG i e))
 obtain⟨k,f,p,A⟩:=v;refine⟨k,f,IE A ?_,p⟩
 cases k with
 |zero=>exact G4 _
 |succ k=>exact Gz (p k (Gx k)) (qM nx s0 k)
noncomputable def tg (N:NF) (k:Int):List Nat:=N.mv.flatMap fun l=>(l.filter fun p=>p.1==k).map fun p=>p.2.toNat
theorem fk (N:NF) (k:Int):tg N.add k=tg N k:=by
 unfold tg NF.add;rw [NH];exact GY _
theorem oM {b β:Type} {f:b->List β} {g:b->b} {c:Nat} (d:∀x,(f (g x)).length<=(f x).length+c) (l:List b):∀s:Nat,((l.modify s g).flatMap f).length<=(l.flatMap f).length+c:=by
 induction l with
 |nil=>intro s;cases s<;>exact G4 _
 |cons x l e=>
  intro s
  cases s with
  |zero=>
   show((g x::l).flatMap f).length<=_
   rw [JG,JG,GC,GC]
   have:=d x
   lia
  |succ s=>
   show((x::l.modify s g).flatMap f).length<=_
   rw [JG,JG,GC,GC]
   have:=e s
   lia
theorem rA (N:NF) (k b:Int) (s g:Nat):(tg (N.move s b g) k).length<=(tg N k).length+if b=k then 1 else 0:=by
 refine oM (fun l=>?_) N.mv s;rw [IQ,GZ,GC,Jm,Jy]
 by_cases q:b=k
 ·subst q;simp
 ·simp [q]
noncomputable def ml (x:Bool):Tr->Nat
 |.a=>if x then 0 else 1
 |.b=>if x then 1 else 0
 |.cat l r|.alt l r=>ml x l+ml x r
 |.star t|.plus t|.opt t=>ml x t
 |.rep t lo Gs=>(lo+1) * ml x t
 |.rep t lo (Gq hi)=>hi * ml x t
 |_=>0
theorem m7 (x:Bool) (k:Nat) (t:Tr):((spine k t).map (ml x)).sum=ml x t:=by
 have b:∀ {c:List Tr} {r:Tr},((c++[r]).map (ml x)).sum=(c.map (ml x)).sum+ml x r:=fun{c r}=>by
  rw [GZ,Mc];rfl
 induction t with
 |cat l r d _=>
  show((if k=22 then _ else _:List Tr).map (ml x)).sum=_
  split
  ·rw [b,d];rfl
  ·exact LK _
 |alt l r d _=>
  show((if k=23 then _ else _:List Tr).map (ml x)).sum=_
  split
  ·rw [b,d];rfl
  ·exact LK _
 |_=>exact LK _
def eX (x:Bool) (b:NF->BR) (c:Nat):Prop:=∀N,(tg (b N).N (de x)).length<=(tg N (de x)).length+c
section
variable {x:Bool}
theorem Dg {b:Tr->NF->BR} {c:Tr->Nat} {ps:List Tr}:∀(r:BR),(∀t∈ps,eX x (b t) (c t))->(tg (rowB b ps r).N (de x)).length<=(tg r.N (de x)).length+(ps.map c).sum:=by
 induction ps with
 |nil=>
  intro r _;exact GL _
 |cons t ps d=>
  intro r h
  have d:=d ⟨(b t r.N).N.hop r.l (b t r.N).f,r.f,(b t r.N).l⟩ fun y e=>h y (.tail _ e)
  have f:=h t (.head _) r.N
  rw [Hp,H7]
  have d:(tg (rowB b (t::ps) r).N (de x)).length<=(tg (b t r.N).N (de x)).length+(ps.map c).sum:=d
  exact(l5 0x1b72101b74311b772430) d f
theorem DN {b:Tr->NF->BR} {c:Tr->Nat} {first:Nat} {ps:List Tr}:∀(N:NF) (d:List Nat),(∀t∈ps,eX x (b t) (c t))->(tg (brsB b first ps N d).1 (de x)).length<=(tg N (de x)).length+(ps.map c).sum:=by
 induction ps with
 |nil=>
  intro N d _;exact GL _
 |cons t ps e=>
  intro N d h
  have e:=e ((b t N).N.hop first (b t N).f) (d++[(b t N).l]) fun y f=>h y (.tail _ f)
  have g:=h t (.head _) N
  rw [Hp,H7]
  have e:(tg (brsB b first (t::ps) N d).1 (de x)).length<=(tg (b t N).N (de x)).length+(ps.map c).sum:=e
  exact(l5 0x1b72101b74311b772430) e g
theorem sY (k:Int) (b:Nat) (c:List Nat):∀(N:NF),tg (hopsTo b c N) k=tg N k:=by
 induction c with
 |nil=>
  intro _;exact rfl
 |cons t c d=>
  intro N;exact d (N.hop t b)
theorem tB {b:Tr->NF->BR} {c:Tr->Nat} {ps:List Tr} (h:∀t∈ps,eX x (b t) (c t)):eX x (cu b ps) (ps.map c).sum:=fun N=>by
 show(tg (hopsTo _ _ _) _).length<=_
 rw [sY,fk]
 have:=DN (first:=N.n) N.add [] h
 rw [fk] at this;exact this
theorem wL (k:Int) (c b:Bool) (first:Nat) (r:BR):tg (n6 c b first r) k=tg r.N k:=by
 cases c<;>cases b<;>exact fk _ _
theorem lX {b:NF->BR} {c:Nat} (h:eX x b c) (e d:Bool):eX x (cg b e d) c:=fun N=>by
 rw [wL]
 have:=h N.add
 rw [fk] at this;exact this
theorem CF {b:NF->BR} {c:Nat} (h:eX x b c) (k:Nat):∀(r:NF×Nat),(tg (lowB b k r).1 (de x)).length<=(tg r.1 (de x)).length+k * c:=by
 induction k with
 |zero=>
  intro r;rw [Jq];exact GL _
 |succ k e=>
  intro r
  have d:=e ((b r.1).N.hop r.2 (b r.1).f,(b r.1).l)
  have d:(tg (lowB b (k+1) r).1 (de x)).length<=(tg (b r.1).N (de x)).length+k * c:=d
  have:=h r.1
  rw [HX];exact(l5 0x1b72101b74311b774230) d this
theorem Dj {b:NF->BR} {c e:Nat} (h:eX x b c) (k:Nat):∀(r:NF×Nat),(tg (optB b e k r).1 (de x)).length<=(tg r.1 (de x)).length+k * c:=by
 induction k with
 |zero=>
  intro r;rw [Jq];exact GL _
 |succ k f=>
  intro r
  have d:=f (((b r.1).N.hop r.2 (b r.1).f).hop (b r.1).l e,(b r.1).l)
  have d:(tg (optB b e (k+1) r).1 (de x)).length<=(tg (b r.1).N (de x)).length+k * c:=d
  have:=h r.1
  rw [HX];exact(l5 0x1b72101b74311b774230) d this
theorem zK {b:NF->BR} {c lo:Nat} {hi:Option Nat} (h:eX x b c) (g:∀k,hi=Gq k->lo<=k):eX x (kM b lo hi) (iM c lo hi):=fun N=>by
 have f:=CF h lo (N.add,N.n)
 have f:_<=(tg N.add (de x)).length+lo * c:=f
 rw [fk] at f
 cases hi with
 |none=>
  have d:=lX h Gu Gu (lowB b lo (N.add,N.n)).1
  show(tg (cg b Gu Gu (lowB b lo (N.add,N.n)).1).N (de x)).length<=_+(lo+1) * c
  rw [HX];exact(l5 0x1b72101b74311b772430) d f
 |some k=>
  have i:=g k rfl
  have d:=Dj (e:=(lowB b lo (N.add,N.n)).1.n) h (k - lo) ((lowB b lo (N.add,N.n)).1.add.hop (lowB b lo (N.add,N.n)).2 (lowB b lo (N.add,N.n)).1.n,(lowB b lo (N.add,N.n)).2)
  have d:_<=(tg (lowB b lo (N.add,N.n)).1.add (de x)).length+_:=d
  rw [fk] at d
  have e:k * c=lo * c+(k - lo) * c:=by rw [<-Md,Jt i]
  show(tg (optB b _ (k - lo) _).1 (de x)).length<=_+k * c
  rw [e];exact(l5 0x1b72101b74311b772430) d f
theorem zZ (n:Nat):∀ {t:Tr},Fam n t->eX x (bld n t) (ml x t):=by
 have leaf:∀ {n:Nat} {t:Tr},t.leaf->eX x (bld n t) (ml x t):=fun{n t} f N=>by
  have m:tg N.add.add (de x)=tg N (de x):=(fk _ _).trans (fk _ _)
  cases t with
  |a=>rw [show bld n .a N=b8 (fun N s=>N.move s 2 (s+1)) N by cases n<;>rfl, <-m];exact Gz (rA _ _ _ _ _) (NS (by cases x<;>decide) _)
  |b=>rw [show bld n .b N=b8 (fun N s=>N.move s 4 (s+1)) N by cases n<;>rfl, <-m];exact Gz (rA _ _ _ _ _) (NS (by cases x<;>decide) _)
  |empty=>rw [show bld n .empty N=b8 (fun N s=>N.hop s (s+1)) N by cases n<;>rfl, <-m];exact GL _
  |never=>rw [show bld n .never N=b8 (fun N Z=>N) N by cases n<;>rfl, <-m];exact GL _
  |_=>exact f.elim
 induction n with
 |zero=>
  intro t h
  cases h with
  |leaf f=>exact leaf f
 |succ n g=>
  intro t h
  cases h with
  |leaf f=>exact leaf f
  |@cat _ l r f o=>
   obtain⟨i,A⟩:=cx (.inl rfl) (.cat f o) rfl
   have B:spine 22 (.cat l r)=spine 22 l++[r]:=rfl
   intro N
   have v:=m7 x 22 (.cat l r)
   cases j:spine 22 (.cat l r) with
   |nil=>rw [B] at j;cases C:spine 22 l<;>rw [C] at j<;>cases j
   |cons y ps=>
    rw [j] at i v
    have q:=g (i y (.head _)) N
    have z:=Dg (x:=x) (b:=bld n) (c:=ml x) (ps:=ps) (bld n y N) fun t d=>g (i t (.tail _ d))
    have e:bld (n+1) (.cat l r) N=rowB (bld n) ps (bld n y N):=by
     show(match spine 22 (.cat l r) with
      |p::ps=>rowB (bld n) ps (bld n p N)
      |[]=>⟨N,0,0⟩)=_
     rw [j]
    rw [e, <-v,Hp,H7];exact(l5 0x1b72101b74311b772430) z q
  |@alt _ l r f o=>
   obtain⟨i,A⟩:=cx (.inr rfl) (.alt f o) rfl
   have:=tB (x:=x) (b:=bld n) (c:=ml x) (ps:=spine 23 (.alt l r)) fun t d=>g (i t d)
   rw [m7] at this;exact this
  |star d=>exact lX (g d) Gu Gu
  |plus d=>exact lX (g d) Gw Gu
  |opt d=>exact lX (g d) Gu Gw
  |repN u d=>exact zK (g d) (fun Z h=>nomatch h)
  |repS u q z d=>exact zK (g d) (fun k h=>by cases h;exact q)
end
noncomputable def allOr:List Nat->List Nat
 |[]=>[0]
 |x::xs=>allOr xs++(allOr xs).map (x||| ·)
theorem allOr_len:∀xs:List Nat,(allOr xs).length=2^xs.length
 |[]=>rfl
 |x::xs=>by
  show(allOr xs++(allOr xs).map (x||| ·)).length=2^(xs.length+1)
  rw [GC,GG,allOr_len xs,Po];lia
theorem Ey (P:Nat->Prop) (xs:List Nat):∃y∈allOr xs,∀i,y.testBit i=Gu↔∃x∈xs,P x/\x.testBit i=Gu:=by
 induction xs with
 |nil=>exact⟨0,.head _,fun i=>by rw [Hq];exact⟨fun h=>(nomatch h),fun h=>by obtain⟨_,h,_⟩:=h;cases h⟩⟩
 |cons x xs g=>
  obtain⟨y,e,f⟩:=g
  by_cases p:P x
  ·refine⟨x||| y,La _ (Hj.mpr ⟨y,e,rfl⟩),fun i=>?_⟩
   rw [Jh,Ii,f i];refine⟨fun h=>h.elim (fun h=>⟨x,.head _,p,h⟩) fun h=>?_,fun h=>?_⟩
   ·obtain⟨z,b,c⟩:=h;exact⟨z,.tail _ b,c⟩
   ·obtain⟨z,b,c,d⟩:=h;rcases GH.mp b with rfl|b
    ·exact .inl d
    ·exact .inr ⟨z,b,c,d⟩
  ·refine⟨y,Lf _ e,fun i=>?_⟩;rw [f i];refine⟨fun h=>?_,fun h=>?_⟩
   ·obtain⟨z,b,c⟩:=h;exact⟨z,.tail _ b,c⟩
   ·obtain⟨z,b,c,d⟩:=h;rcases GH.mp b with rfl|b
    ·exact absurd c p
    ·exact⟨z,b,c,d⟩
section
variable {N:NF} {l f:Nat}
theorem Cd (n:N.Ok) {x:Bool} {c:Nat} (m:cZ 2 c= !x/\cZ 4 c=x) {xs:List Nat} {p:Nat×Nat} (h:p∈bJ N l xs) (b:cZ p.1 c=Gu):p.2∈(tg N (de x)).map (clo N l):=by
 revert x c xs p;delta N l;revert xs p;delta x c;delta xs p;obtain⟨s,_,j⟩:=It.mp h;delta s;unfold fj wZ at j;rw [HG] at j;obtain⟨q,d,rfl⟩:=Hj.mp j;delta q;rw [Hi] at d
 cases e:N.mv[s]? with
 |none=>rw [e] at d;cases d
 |some k=>
  delta k;rw [e] at d
  have i:=GJ e
  refine Hj.mpr ⟨q.2.toNat,It.mpr ⟨k,i,Hj.mpr ⟨q,HZ.mpr ⟨d,?_⟩,rfl⟩⟩,rfl⟩;rcases n.mv k i with rfl|⟨r,g,rfl,o,_⟩
  ·cases d
  ·rw [GF.mp d] at b ⊢;rcases o with rfl|rfl
   ·have b:cZ 2 c=Gu:=b
    rw [m.1] at b
    cases x with
    |false=>rfl
    |true=>cases b
   ·have b:cZ 4 c=Gu:=b
    rw [m.2] at b;subst b;rfl
theorem rE (g:N.Ok) {x:Bool} {c M:Nat} (j:cZ 2 c= !x/\cZ 4 c=x):bX N l M c∈allOr ((tg N (de x)).map (clo N l)):=by
 revert x c M;delta N l;delta x c M;obtain⟨y,k,m⟩:=Ey (fun w=>∃p∈bJ N l (a8 M),cZ p.1 c=Gu/\p.2=w) ((tg N (de x)).map (clo N l))
 have:bX N l M c=y:=eH fun i=>by
  rw [fI,m i];constructor
  ·rintro⟨p,b,d,e⟩
   exact⟨p.2,Cd g j b d,⟨p,b,d,rfl⟩,e⟩
  ·rintro⟨w,_,⟨p,b,d,rfl⟩,e⟩
   exact⟨p,b,d,e⟩
 rw [this];exact k
theorem uF (g:N.Ok) {c M:Nat} (d:cZ 2 c=Gw/\cZ 4 c=Gw):bX N l M c=0:=eH fun i=>by
 rw [fI,Hq];refine⟨fun j=>?_,fun h=>nomatch h⟩;obtain⟨p,k,b,n⟩:=j;obtain⟨s,_,m⟩:=It.mp k;rcases rN g m with e|e<;>rw [e] at b
 ·rw [d.1] at b;cases b
 ·rw [d.2] at b;cases b
theorem yA (d:N.Ok) {A B:Nat} (g:(tg N 2).length<=A) (i:(tg N 4).length<=B) (h:1+2^A+2^B<=10000):∃K,K<=10000/\Fin (bX N l) (clo N l f) K:=by
 obtain⟨K,j,e⟩:=wV (nx:=bX N l) (s0:=clo N l f) (L:=clo N l f::(allOr ((tg N 2).map (clo N l))++allOr ((tg N 4).map (clo N l)))) (.head _) fun M n c b=>by
  rcases GH.mp b with rfl|b
  ·exact .inl (uF d ⟨rfl,rfl⟩)
  ·rcases GH.mp b with rfl|b
   ·exact .inr (.tail _ (Lf _ (rE (x:=Gw) d ⟨rfl,rfl⟩)))
   ·rw [GF.mp b];exact .inr (.tail _ (La _ (rE (x:=Gu) d ⟨rfl,rfl⟩)))
 refine⟨K,Gz j ?_,e⟩;rw [HC,GC,allOr_len,allOr_len,GG,GG]
 have k:2^(tg N 2).length<=2^A:=He (by decide) g
 have m:2^(tg N 4).length<=2^B:=He (by decide) i
 exact(l4 0x1b091979287170181b021b131b09197928718732) h k m
end
structure nQ (n B C:Nat) (t:Tr):Prop where
 s:∀m,n<=m->1<=(cnt m t).1/\(cnt m t).1<=B
 c:∀m,n<=m->1<=(cnt m t).2/\(cnt m t).2<=C
 ss:∀k m,n<=m->((spine k t).map fun p=>(cnt m p).1).sum<=B
 cs:∀k m,n<=m->((spine k t).map fun p=>(cnt m p).2).sum<=C
theorem lB {n B C:Nat} {t:Tr} (h:∀k,spine k t=[t]) (s:∀m,n<=m->1<=(cnt m t).1/\(cnt m t).1<=B) (c:∀m,n<=m->1<=(cnt m t).2/\(cnt m t).2<=C):nQ n B C t:=
 ⟨s,c,fun k m b=>by rw [h k];exact(s m b).2,fun k m b=>by rw [h k];exact(c m b).2⟩
theorem lw {n:Nat} {t:Tr} (h:t.leaf):nQ n 2 1 t:=by
 have e:∀m,cnt m t=(2,1):=fun m=>by cases t<;>first|exact h.elim|(cases m<;>rfl)
 refine lB (fun k=>by cases t<;>first|exact h.elim|rfl) (fun m Z=>by rw [e];decide) fun m Z=>by rw [e];decide
theorem nj (g:Tr->Nat) (xs:List Tr) (r:Tr):((xs++[r]).map g).sum=(xs.map g).sum+g r:=by
 rw [GZ,Mc];rfl
noncomputable def Bd:Nat->Nat×Nat
 |0=>(2,1)
 |n+1=>(3+3 * (Bd n).1,1+3 * (Bd n).2)
theorem vu:∀n,2<=(Bd n).1/\1<=(Bd n).2
 |0=>by decide
 |n+1=>by show 2<=3+_/\1<=1+_;exact⟨(l1 460339240),(l1 460331032)⟩
theorem vK:∀(n:Nat) {t:Tr},Fam n t->nQ n (Bd n).1 (Bd n).2 t:=fun n=>by
 have G:∀ {n:Nat} {t:Tr},t.leaf->nQ n (Bd n).1 (Bd n).2 t:=fun{n t} h=>by
  obtain⟨s,c,T,U⟩:=lw (n:=n) h
  have A:=vu n
  exact⟨fun m b=>⟨(s m b).1,Gz (s m b).2 A.1⟩,fun m b=>⟨(c m b).1,Gz (c m b).2 A.2⟩,fun k m b=>Gz (T k m b) A.1,fun k m b=>Gz (U k m b) A.2⟩
 induction n with
 |zero=>
  intro t h
  cases h with
  |leaf g=>exact G g
 |succ n o=>
  have B:(Bd (n+1)).1=3+3 * (Bd n).1:=rfl
  have C:(Bd (n+1)).2=1+3 * (Bd n).2:=rfl
  have H:=vu n
  have u:∀ {t l r:Tr} {k0 d:Nat},nQ n (Bd n).1 (Bd n).2 l->r.leaf->d<=2->spine k0 t=spine k0 l++[r]->(∀k,k≠k0->spine k t=[t])->(∀m,cnt (m+1) t=(((spine k0 t).map fun p=>(cnt m p).1).sum+d,((spine k0 t).map fun p=>(cnt m p).2).sum+1))->nQ (n+1) (Bd (n+1)).1 (Bd (n+1)).2 t:=fun{t l r k0 d} L v V I f y=>by
   obtain⟨W,X,_,_⟩:=lw (n:=n) v
   have J:∀m,n<=m->((spine k0 t).map fun p=>(cnt m p).1).sum<=(Bd n).1+2/\1<=((spine k0 t).map fun p=>(cnt m p).1).sum:=fun m b=>by
    rw [I,nj]
    have Y:=L.ss k0 m b;have K:=W m b;exact⟨(l3 0x1b2811b201b7282710) K.2 Y,(l2 29762004652056) K.1⟩
   have M:∀m,n<=m->((spine k0 t).map fun p=>(cnt m p).2).sum<=(Bd n).2+1/\1<=((spine k0 t).map fun p=>(cnt m p).2).sum:=fun m b=>by
    rw [I,nj]
    have Z:=L.cs k0 m b;have N:=X m b;exact⟨(l3 0x1b1811b201b7182710) N.2 Z,(l2 29762004652056) N.1⟩
   have O:∀m,n+1<=m->1<=(cnt m t).1/\(cnt m t).1<=(Bd (n+1)).1:=fun m b=>by
    cases m with
    |zero=>lia
    |succ m=>
     rw [y m]
     have P:=J m ((l2 7724625140128528) b)
     show 1<=_+d/\_+d<=_
     exact⟨(l2 29693285175320) P.2,(l4 0x1b3289d7a3383821b2811b728301b2710) H.1 B V P.1⟩
   have Q:∀m,n+1<=m->1<=(cnt m t).2/\(cnt m t).2<=(Bd (n+1)).2:=fun m b=>by
    cases m with
    |zero=>lia
    |succ m=>
     rw [y m]
     have u7:=M m ((l2 7724625140128528) b)
     show 1<=_+1/\_+1<=_
     exact⟨(l1 460423192),(l3 0x1b2189d7a2381811b718201b17180) H.2 C u7.1⟩
   refine⟨O,Q,fun k m b=>?_,fun k m b=>?_⟩
   ·by_cases q:k=k0
    ·subst q;have u8:=J m ((l2 1861625060112) b);exact(l3 0x9d7a2383811b728201b10) B u8.1
    ·rw [f k q];exact(O m b).2
   ·by_cases q:k=k0
    ·subst q;have u9:=M m ((l2 1861625060112) b);exact(l3 0x9d7a2381811b718201b10) C u9.1
    ·rw [f k q];exact(Q m b).2
  have e:∀ {t l:Tr} {i j a:Nat},nQ n (Bd n).1 (Bd n).2 l->1<=i->i<=3->j<=1->1<=j->a<=3->(∀k,spine k t=[t])->(∀m,(cnt (m+1) t).1=i+a * (cnt m l).1/\(cnt (m+1) t).2=j+a * (cnt m l).2)->nQ (n+1) (Bd (n+1)).1 (Bd (n+1)).2 t:=fun{t l i j a} L R D h3 h4 S f y=>by
   refine lB f (fun m b=>?_) fun m b=>?_
   ·cases m with
    |zero=>lia
    |succ m=>
     rw [(y m).1,B]
     have E:=Ks S (L.s m ((l2 7724625140128528) b)).2
     exact⟨(l2 29693285175320) R,(l3 0x1b3801b211b7238710) D E⟩
   ·cases m with
    |zero=>lia
    |succ m=>
     rw [(y m).2,C]
     have F:=Ks S (L.c m ((l2 7724625140128528) b)).2
     exact⟨(l2 29693285175320) h4,(l3 0x1b1801b211b7218710) h3 F⟩
  intro t h
  cases h with
  |leaf g=>exact G g
  |cat g v=>exact u (k0:=22) (d:=0) (o g) v (by decide) rfl (fun k f=>if_neg f) fun m=>rfl
  |alt g v=>exact u (k0:=23) (d:=2) (o g) v (by decide) rfl (fun k f=>if_neg f) fun m=>rfl
  |star h=>exact e (i:=2) (j:=1) (a:=1) (o h) (by decide) (by decide) (by decide) (by decide) (by decide) (fun k=>rfl) fun m=>by rw [KH,KH,Ib 2,Ib 1];exact⟨rfl,rfl⟩
  |plus h=>exact e (i:=2) (j:=1) (a:=1) (o h) (by decide) (by decide) (by decide) (by decide) (by decide) (fun k=>rfl) fun m=>by rw [KH,KH,Ib 2,Ib 1];exact⟨rfl,rfl⟩
  |opt h=>exact e (i:=2) (j:=1) (a:=1) (o h) (by decide) (by decide) (by decide) (by decide) (by decide) (fun k=>rfl) fun m=>by rw [KH,KH,Ib 2,Ib 1];exact⟨rfl,rfl⟩
  |repN z h=>exact e (i:=3) (j:=1) (o h) (by decide) (by decide) (by decide) (by decide) (Hn z) (fun k=>rfl) fun m=>⟨rfl,rfl⟩
  |repS z R D h=>exact e (i:=2) (j:=1) (o h) (by decide) (by decide) (by decide) (by decide) D (fun k=>rfl) fun m=>⟨rfl,rfl⟩
noncomputable def lf (x:Bool):Tr:=bif x then .b else .a
noncomputable def Rk:Nat->List (Nat×Option Nat)
 |3=>[(2,Gs),(0,Gq 3),(1,Gq 3),(2,Gq 3)]
 |2=>[(1,Gs),(0,Gq 2),(1,Gq 2),(2,Gq 2)]
 |_=>[]
inductive iG (k:Nat) (t u:Tr):Prop where
 |mk (lo:Nat) (hi:Option Nat) (h:(lo,hi)∈Rk k) (e:t=.rep u lo hi)
inductive Cc (x:Bool) (t:Tr):Prop where
 |two (w v:Tr) (h1:iG 3 t w) (h2:iG 3 w v) (h:v=.cat (lf x) (lf x)\/v=.alt (lf x) (lf x))
 |three (w v:Tr) (i j k:Nat) (h1:iG i t w) (h2:iG j w v) (h3:iG k v (lf x)) (h:(i,j,k)∈[(3,3,3),(3,3,2),(3,2,3),(2,3,3)])
inductive Ew (x:Bool) (n:Nat) (t:Tr):Prop where
 |leaf (h:t.leaf)
 |two (l r:Tr) (hl:Fam n l) (hr:r.leaf) (e:t=.cat l r\/t=.alt l r) (m:ml x t=ml x l+ml x r)
 |one (u:Tr) (h:Fam n u) (m:ml x t=ml x u)
 |rep (u:Tr) (k:Nat) (h:Fam n u) (m:ml x t=k * ml x u) (hk:k<=3) (hr:2<=k->iG k t u)
theorem Bs (x:Bool) {n:Nat} {t:Tr} (h:Fam (n+1) t):Ew x n t:=by
 cases h with
 |leaf h=>exact .leaf h
 |cat f g=>exact .two _ _ f g (.inl rfl) rfl
 |alt f g=>exact .two _ _ f g (.inr rfl) rfl
 |star h=>exact .one _ h rfl
 |plus h=>exact .one _ h rfl
 |opt h=>exact .one _ h rfl
 |@repN _ u c d h=>
  refine .rep u (c+1) h rfl (Hn d) fun q=>⟨c,Gs,?_,rfl⟩
  have:c=1\/c=2:=by lia
  rcases this with rfl|rfl<;>exact .head _
 |@repS _ u c e d j i h=>
  refine .rep u e h rfl i fun q=>⟨c,Gq e,?_,rfl⟩
  have a:e=2\/e=3:=by lia
  have b:c=0\/c=1\/c=2:=by lia
  rcases a with rfl|rfl<;>rcases b with rfl|rfl|rfl<;>simp [Rk]
theorem eO {x:Bool} {t:Tr} (h:t.leaf):ml x t<=1/\(1<=ml x t->t=lf x):=by
 cases t<;>first|exact h.elim|(cases x<;>first|exact⟨G4 _,fun q=>absurd q (by decide)⟩ |exact⟨GL _,fun Z=>rfl⟩)
theorem Bh {k m c:Nat} (b:k<=3) (d:m<=c):k * m<=3 * c:=Ks b d
theorem Fh {x:Bool} {t:Tr} (h:Fam 0 t):ml x t<=1/\(1<=ml x t->t=lf x):=by
 cases h with
 |leaf h=>exact eO h
theorem D7 {x:Bool} {t:Tr} (h:Fam 1 t):ml x t<=3/\(2<=ml x t->((t=.cat (lf x) (lf x)\/t=.alt (lf x) (lf x))/\ml x t=2)\/∃k,iG k t (lf x)/\ml x t=k):=by
 delta x t
 cases Bs x h with
 |leaf h=>
  have i:=(eO (x:=x) h).1
  exact⟨(l1 116366881664) i,fun q=>by lia⟩
 |two l r j b e m=>
  delta l r;obtain⟨c,d⟩:=Fh (x:=x) j;obtain⟨f,n⟩:=eO (x:=x) b;refine⟨(l3 0x1d72101b1811b1821b380) m c f,fun q=>.inl ⟨?_,IE ((l3 0x1d71201b1821b1811b280) m c f) ((l1 116006170664) q)⟩⟩
  have o:=d ((l3 0x1b0281d72101b1821b118) q m f)
  have p:=n ((l3 0x1b0281d72101b1811b218) q m c)
  rw [o,p] at e;exact e
 |one u h m=>
  have s:=(Fh (x:=x) h).1
  exact⟨(l2 8180482878583680) m s,fun q=>by lia⟩
 |rep u k h m g b=>
  injections u k;intro h m g b;obtain⟨c,d⟩:=Fh (x:=x) h
  have v:ml x u=0\/ml x u=1:=by lia
  rcases v with z|z
  ·rw [z] at m;exact⟨by lia,fun q=>by lia⟩
  ·rw [z,Nat.mul_one] at m;exact⟨(l2 8180483415454592) m g,fun q=>.inr ⟨k,d ((l1 674712629272) z)▸b ((l2 7602580951773480) q m),m⟩⟩
theorem Fa {x:Bool} {t:Tr} (h:Fam 2 t):ml x t<=9/\(5<=ml x t->∃k u,iG k t u/\Fam 1 u/\ml x t=k * ml x u/\k<=3):=by
 cases Bs x h with
 |leaf h=>
  have f:=(eO (x:=x) h).1
  exact⟨(l1 116366883200) f,fun q=>by lia⟩
 |two l r g c e m=>
  have i:=(D7 (x:=x) g).1
  have j:=(eO (x:=x) c).1
  exact⟨((l3 0x1d71201b3821b1811b980) m i j),fun q=>by lia⟩
 |one u h m=>
  have n:=(D7 (x:=x) h).1
  exact⟨(l2 8180483415456128) m n,fun q=>by lia⟩
 |rep u k h m d c=>
  have a:=(D7 (x:=x) h).1
  have b:=Bh d a
  refine⟨(l2 0x1d101ba383811b980) m b,fun q=>⟨k,u,c ?_,h,m,d⟩⟩
  have o:k≠0:=fun z=>by rw [z] at m;exact(l2 475367477413894) q m
  have p:k≠1:=fun z=>by rw [z] at m;exact(l2 0x1b0581da11801b3816) q m a
  lia
theorem FV {x:Bool} {t:Tr} (h:Fam 3 t) (g:13<=ml x t):Cc x t:=by
 delta x t
 cases Bs x h with
 |leaf h=>
  have P:=(eO (x:=x) h).1
  lia
 |two l r B b e m=>
  have Q:=(Fa (x:=x) B).1
  have R:=(eO (x:=x) b).1
  lia
 |one u h m=>
  have S:=(Fa (x:=x) h).1
  lia
 |rep u k h m y b=>
  injections u k;intro h m y b;obtain⟨C,D⟩:=Fa (x:=x) h
  have E:2<=k:=HL fun z=>by
   have F:=Ks (show k<=1 by exact(l1 120930283904) z) C
   exact(l2 0x1b1d81d011ba981806) g m F
  have d:5<=ml x u:=HL fun z=>by
   have G:=Bh y (show ml x u<=4 by exact(l1 121735591040) z)
   exact(l2 0x1b1d81d011ba483806) g m G
  obtain⟨j,v,A,H,c,I⟩:=D d;delta j v;obtain⟨J,K⟩:=D7 (x:=x) H
  have L:2<=ml x v:=HL fun z=>by
   have M:=Bh I (show ml x v<=1 by exact(l1 120930283904) z)
   exact(l2 0x1b1581d011ba183806) d c M
  have T:2<=j:=HL fun z=>by
   have N:=Ks (show j<=1 by exact(l1 120930283904) z) J
   exact(l2 0x1b1581d011ba381806) d c N
  rcases K L with ⟨e,f⟩ |⟨i,O,f⟩
  ·rw [f] at c
   have n:j=3:=by lia
   subst n;rw [c] at m
   have o:k=3:=by lia
   subst o;exact .two u v (b (by decide)) A e
  ·delta i;rw [c,f] at m;delta i
   have p:i=2\/i=3:=by lia
   have q:j=2\/j=3:=by lia
   have s:k=2\/k=3:=by lia
   refine .three u v k j i (b E) A O ?_;rcases p with rfl|rfl<;>rcases q with rfl|rfl<;>rcases s with rfl|rfl<;>first|(exfalso;lia) |simp
theorem um (d:∀t x,Cc x t->Fam 3 t->(dc t).N.Ok->∃K,K<=10000/\Fin (bX (dc t).N (dc t).l) (clo (dc t).N (dc t).l (dc t).f) K) {t:Tr} (h:Fam 3 t):mH t:=by
 have C:=vK 3 h
 refine⟨(C.s 3 (GL _)).1,Gz (C.s 3 (GL _)).2 (by decide),(C.c 3 (GL _)).1,Gz (C.c 3 (GL _)).2 (by decide),fun c Z Z=>?_⟩
 by_cases a:13<=ml Gw t
 ·exact d t Gw (FV h a) h c
 ·by_cases b:13<=ml Gu t
  ·exact d t Gu (FV h b) h c
  ·have e:=zZ (x:=Gw) 3 h ⟨[],[]⟩
   have f:=zZ (x:=Gu) 3 h ⟨[],[]⟩
   exact yA c (A:=12) (B:=12) (Gz e (by show 0+ml Gw t<=12;exact(l1 528693760389128) a)) (Gz f (by show 0+ml Gu t<=12;exact(l1 528693760389128) b)) (by decide)
structure FN where
 n:Nat
 mv:List (Nat×Nat)
 hp:List (Nat×Nat)
structure i5 where
 N:FN
 f:Nat
 l:Nat
noncomputable def FN.add (F:FN):FN:=⟨F.n+1,F.mv,F.hp⟩
noncomputable def FN.move (F:FN) (s g:Nat):FN:=⟨F.n,(s,g)::F.mv,F.hp⟩
noncomputable def FN.hop (F:FN) (s g:Nat):FN:=⟨F.n,F.mv,(s,g)::F.hp⟩
noncomputable def bF (F:FN):i5:=⟨F.add.add.move F.n (F.n+1),F.n,F.n+1⟩
noncomputable def wW (F:FN):i5:=⟨(bF (bF F).N).N.hop (bF F).l (bF (bF F).N).f,(bF F).f,(bF (bF F).N).l⟩
noncomputable def vb (F:FN) (c:i5) (b:i5):i5:=⟨(((b.N.hop F.n b.f).add).hop c.l b.N.n).hop b.l b.N.n,F.n,b.N.n⟩
noncomputable def yR (F:FN):i5:=vb F (bF F.add) (bF ((bF F.add).N.hop F.n (bF F.add).f))
noncomputable def oG (first:Nat) (r:i5):i5:=⟨((((r.N.add).hop first r.f).hop r.l r.N.n).hop r.l r.f).hop first r.N.n,first,r.N.n⟩
noncomputable def fLow (b:FN->i5):Nat->FN×Nat->FN×Nat
 |0,r=>r
 |k+1,r=>fLow b k ((b r.1).N.hop r.2 (b r.1).f,(b r.1).l)
noncomputable def fOpt (b:FN->i5) (e:Nat):Nat->FN×Nat->FN×Nat
 |0,r=>r
 |k+1,r=>fOpt b e k (((b r.1).N.hop r.2 (b r.1).f).hop (b r.1).l e,(b r.1).l)
noncomputable def vq (first b:Nat) (r:i5):i5:=⟨r.N.hop b r.f,first,r.l⟩
noncomputable def eK (b:FN->i5) (lo:Nat):Option Nat->FN->i5
 |none,F=>vq F.n (fLow b lo (F.add,F.n)).2 (oG (fLow b lo (F.add,F.n)).1.n (b (fLow b lo (F.add,F.n)).1.add))
 |some hi,F=>⟨(fOpt b (fLow b lo (F.add,F.n)).1.n (hi - lo) ((fLow b lo (F.add,F.n)).1.add.hop (fLow b lo (F.add,F.n)).2 (fLow b lo (F.add,F.n)).1.n,(fLow b lo (F.add,F.n)).2)).1,F.n,(fLow b lo (F.add,F.n)).1.n⟩
structure gY (x:Bool) (N:NF) (F:FN):Prop where
 n:N.n=F.n
 len:N.hp.length=N.n
 hp:∀s t,(∃l,N.hp[s]? =Gq l/\t∈l)↔(s,t)∈F.hp
 mv:∀s p,(∃l,N.mv[s]? =Gq l/\p∈l)↔∃g,p=(de x,((g:Nat):Int))/\(s,g)∈F.mv
theorem nM {d:Type} {l:List (List d)} {s:Nat} {p:d}:(∃k,(l++[[]])[s]? =Gq k/\p∈k)↔∃k,l[s]? =Gq k/\p∈k:=by
 constructor
 ·rintro⟨k,b,c⟩
  rcases LI s l.length with q|q
  ·rw [IB q] at b;exact⟨k,b,c⟩
  ·rw [Iw q] at b
   cases z:s - l.length with
   |zero=>rw [z] at b;cases b;cases c
   |succ j=>rw [z] at b;cases b
 ·rintro⟨k,b,c⟩
  have q:=(HP.mp b).1
  exact⟨k,by rw [IB q];exact b,c⟩
theorem rK {c:Type} {l:List (List c)} {s:Nat} {p q:c} {f:List c->List c} (j:s<l.length) (d:∀k,p∈f k↔p∈k\/p=q) (b:Nat):(∃k,(l.modify s f)[b]? =Gq k/\p∈k)↔(∃k,l[b]? =Gq k/\p∈k)\/(b=s/\p=q):=by
 have m:(l.modify s f)[b]? =if s=b then(l[b]?).map f else l[b]? :=by
  rw [Jf]
  by_cases e:s=b
  ·rw [if_pos e];simp only [if_pos e];rfl
  ·rw [if_neg e];simp only [if_neg e];exact Option.map_id' ..
 rw [m]
 by_cases e:s=b
 ·subst e;obtain⟨k,n⟩:∃k,l[s]? =Gq k:=⟨_,G8 j⟩;rw [if_pos rfl,n];constructor
  ·rintro⟨_,g,i⟩
   cases g;exact((d k).mp i).imp (fun h=>⟨k,rfl,h⟩) fun h=>⟨rfl,h⟩
  ·rintro(⟨_,g,i⟩ |⟨_,h⟩)
   ·cases g;exact⟨_,rfl,(d k).mpr (.inl i)⟩
   ·exact⟨_,rfl,(d k).mpr (.inr h)⟩
 ·rw [if_neg e];exact⟨.inl,fun h=>h.elim id fun h=>absurd h.1.symm e⟩
section
variable {x:Bool} {N:NF} {F:FN}
theorem gY.add (h:gY x N F):gY x N.add F.add:=by
 refine⟨?_,?_,fun s t=>nM.trans (h.hp s t),fun s p=>nM.trans (h.mv s p)⟩
 ·rw [NF.add_n,h.n];rfl
 ·rw [NF.add_n, <-h.len];rw [GC];rfl
theorem gY.hop (h:gY x N F) {s g:Nat} (c:s<N.n):gY x (N.hop s g) (F.hop s g):=by
 refine⟨h.n,?_,fun b t=>?_,h.mv⟩
 ·show(N.hp.modify s _).length=_
  rw [NR];exact h.len
 ·refine(rK (f:=ed g) (q:=g) (by rw [h.len];exact c) (fun k=>k9) b).trans ?_
  rw [h.hp]
  show _↔(b,t)∈(s,g)::F.hp
  rw [GH,Ml];exact or_comm
theorem gY.move (h:gY x N F) {s g:Nat} (j:s<N.n):gY x (N.move s (de x) g) (F.move s g):=by
 have e:(N.move s (de x) g).n=N.n:=NF.move_n _ _ _ _
 refine⟨e.trans h.n,h.len.trans e.symm,h.hp,fun i p=>?_⟩;refine(rK (f:=(· ++[(de x,(g:Int))])) (q:=(de x,(g:Int))) j (fun k=>by rw [GD,GF]) i).trans ?_
 rw [h.mv];constructor
 ·rintro(⟨b,c,d⟩ |⟨rfl,h⟩)
  ·exact⟨b,c,.tail _ d⟩
  ·exact⟨g,h,.head _⟩
 ·rintro⟨b,c,d⟩
  rcases GH.mp (show(i,b)∈(s,g)::F.mv from d) with q|q
  ·cases q;exact .inr ⟨rfl,c⟩
  ·exact .inl ⟨b,c,q⟩
def fe (x:Bool) (b:NF->BR) (c:FN->i5):Prop:=∀N F,gY x N F->gY x (b N).N (c F).N/\(b N).f=(c F).f/\(b N).l=(c F).l/\(b N).f<(b N).N.n/\(b N).l<(b N).N.n/\N.n<=(b N).N.n
theorem o5:fe x (b8 (fun N s=>N.move s (de x) (s+1))) bF:=fun N F h=>by
 have e:(N.add.add.move N.n (de x) (N.n+1)).n=N.n+2:=by rw [NF.move_n,NF.add_n,NF.add_n]
 have b:=h.add.add.move (s:=N.n) (g:=N.n+1) (by rw [NF.add_n,NF.add_n];exact(l1 122163763200))
 rw [h.n] at b;refine⟨?_,h.n,congrArg (· +1) h.n,?_,?_,?_⟩
 ·show gY x (N.add.add.move N.n (de x) (N.n+1)) (F.add.add.move F.n (F.n+1))
  rw [h.n];exact b
 ·show N.n<NF.n _;rw [show(b8 (fun N s=>N.move s (de x) (s+1)) N).N.n=N.n+2 from e];exact(l1 29829120)
 ·show N.n+1<NF.n _;rw [show(b8 (fun N s=>N.move s (de x) (s+1)) N).N.n=N.n+2 from e];exact(l1 122180104576)
 ·rw [show(b8 (fun N s=>N.move s (de x) (s+1)) N).N.n=N.n+2 from e];exact(l1 28780544)
theorem uJ {b:NF->BR} {e:FN->i5} (j:fe x b e):fe x (cg b Gu Gu) (fun F=>oG F.n (e F.add)):=fun N F h=>by
 obtain⟨s,k,l,m,f,d⟩:=j _ _ h.add;rw [NF.add_n] at d
 have i:(b N.add).N.n=(e F.add).N.n:=s.n
 have c:=NF.add_n (b N.add).N
 have r:=(((s.add.hop (s:=N.n) (g:=(b N.add).f) ((l3 0x1b171809d718121c20) d c)).hop (s:=(b N.add).l) (g:=(b N.add).N.n) (by rw [NF.hop_n];exact(l3 0x1c109d718121c20) f c)).hop (s:=(b N.add).l) (g:=(b N.add).f) (by rw [NF.hop_n,NF.hop_n];exact(l3 0x1c109d718121c20) f c)).hop (s:=N.n) (g:=(b N.add).N.n) (by rw [NF.hop_n,NF.hop_n,NF.hop_n];exact(l3 0x1b171809d718121c20) d c)
 refine⟨?_,h.n,i,?_,?_,?_⟩
 ·show gY x (n6 Gu Gu N.n (b N.add)) (oG F.n (e F.add)).N
  unfold oG;rw [<-k, <-l, <-i, <-h.n];exact r
 ·show N.n<(b N.add).N.add.n;exact(l3 0x1b171809d718121c20) d c
 ·show(b N.add).N.n<(b N.add).N.add.n;exact(l2 0x9d718101c01) c
 ·show N.n<=(b N.add).N.add.n;exact(l3 0x1b171809d718121b20) d c
theorem yu {b:NF->BR} {c:FN->i5} (j:fe x b c) (k:Nat):∀(r:NF×Nat) (q:FN×Nat),gY x r.1 q.1->r.2=q.2->r.2<r.1.n->gY x (lowB b k r).1 (fLow c k q).1/\(lowB b k r).2=(fLow c k q).2/\(lowB b k r).2<(lowB b k r).1.n/\r.1.n<=(lowB b k r).1.n:=by
 induction k with
 |zero=>
  intro r q h e l;exact⟨h,e,l,GL _⟩
 |succ k m=>
  intro r q h e l;obtain⟨s,d,n,p,o,f⟩:=j _ _ h
  have i:=s.hop (s:=r.2) (g:=(b r.1).f) ((l3 30855500209184) l f)
  rw [d,e] at i
  have:=m ((b r.1).N.hop r.2 (b r.1).f,(b r.1).l) ((c q.1).N.hop q.2 (c q.1).f,(c q.1).l) (by rw [d,e];exact i) n o
  exact⟨this.1,this.2.1,this.2.2.1,Gz f this.2.2.2⟩
theorem xE {b:NF->BR} {c:FN->i5} (j:fe x b c) {e:Nat} (k:Nat):∀(r:NF×Nat) (q:FN×Nat),gY x r.1 q.1->r.2=q.2->r.2<r.1.n->gY x (optB b e k r).1 (fOpt c e k q).1/\r.1.n<=(optB b e k r).1.n:=by
 induction k with
 |zero=>exact fun r q h Z l=>⟨h,GL _⟩
 |succ k m=>
  intro r q h n l;obtain⟨s,o,d,t,f,i⟩:=j _ _ h
  have p:=(s.hop (s:=r.2) (g:=(b r.1).f) ((l3 30855500209184) l i)).hop (s:=(b r.1).l) (g:=e) (by rw [NF.hop_n];exact f)
  have:=m (((b r.1).N.hop r.2 (b r.1).f).hop (b r.1).l e,(b r.1).l) (((c q.1).N.hop q.2 (c q.1).f).hop (c q.1).l e,(c q.1).l) (by rw [<-o, <-d, <-n];exact p) d f
  exact⟨this.1,Gz i this.2⟩
theorem gk {b:NF->BR} {c:FN->i5} (i:fe x b c) (lo:Nat) (hi:Option Nat):fe x (kM b lo hi) (eK c lo hi):=fun N F h=>by
 have p:=NF.add_n N
 obtain⟨s,e,l,n⟩:=yu i lo (N.add,N.n) (F.add,F.n) h.add h.n (by show N.n<N.add.n;exact(l2 0x9d718101c01) p)
 have n:N.add.n<=(lowB b lo (N.add,N.n)).1.n:=n
 cases hi with
 |none=>
  obtain⟨j,q,r,u,t,m⟩:=uJ i _ _ s
  have f:=j.hop (s:=(lowB b lo (N.add,N.n)).2) (g:=(cg b Gu Gu (lowB b lo (N.add,N.n)).1).f) ((l3 30855500209184) l m)
  refine⟨?_,h.n,r,?_,t,?_⟩
  ·show gY x (repN b N.n (lowB b lo (N.add,N.n))).N (vq F.n (fLow c lo (F.add,F.n)).2 (oG (fLow c lo (F.add,F.n)).1.n (c (fLow c lo (F.add,F.n)).1.add))).N
   unfold repN vq;rw [<-e, <-q];exact f
  ·show N.n<(cg b Gu Gu (lowB b lo (N.add,N.n)).1).N.n;lia
  ·show N.n<=(cg b Gu Gu (lowB b lo (N.add,N.n)).1).N.n;lia
 |some k=>
  have o:=NF.add_n (lowB b lo (N.add,N.n)).1
  have j:=s.add.hop (s:=(lowB b lo (N.add,N.n)).2) (g:=(lowB b lo (N.add,N.n)).1.n) ((l3 0x1c109d718121c20) l o)
  obtain⟨f,d⟩:=xE i (e:=(lowB b lo (N.add,N.n)).1.n) (k - lo) ((lowB b lo (N.add,N.n)).1.add.hop (lowB b lo (N.add,N.n)).2 (lowB b lo (N.add,N.n)).1.n,(lowB b lo (N.add,N.n)).2) ((fLow c lo (F.add,F.n)).1.add.hop (fLow c lo (F.add,F.n)).2 (fLow c lo (F.add,F.n)).1.n,(fLow c lo (F.add,F.n)).2) (by rw [<-e, <-s.n];exact j) e (by show _<(lowB b lo (N.add,N.n)).1.add.n;lia)
  have d:(lowB b lo (N.add,N.n)).1.add.n<=_:=d
  refine⟨?_,h.n,s.n,?_,?_,?_⟩
  ·show gY x (repS b (k - lo) N.n (lowB b lo (N.add,N.n))).N (i5.N ⟨(fOpt c (fLow c lo (F.add,F.n)).1.n (k - lo) ((fLow c lo (F.add,F.n)).1.add.hop (fLow c lo (F.add,F.n)).2 (fLow c lo (F.add,F.n)).1.n,(fLow c lo (F.add,F.n)).2)).1,F.n,(fLow c lo (F.add,F.n)).1.n⟩)
   rw [<-s.n] at f ⊢;exact f
  ·show N.n<NF.n _;exact GN (by lia) d
  ·show(lowB b lo (N.add,N.n)).1.n<NF.n _;exact GN ((l2 0x9d718101c01) o) d
  ·exact Gz (by lia) d
theorem zx {b:Tr->NF->BR} {p:Tr} (n:fe x (b p) bF):fe x (fun N=>rowB b [p] (b p N)) wW:=fun N F h=>by
 obtain⟨o,d,e,f,i,j⟩:=n _ _ h;obtain⟨q,k,l,r,m,c⟩:=n _ _ o
 have t:=q.hop (s:=(b p N).l) (g:=(b p (b p N).N).f) ((l3 30855500209184) i c)
 refine⟨?_,d,l,?_,m,Gz j c⟩
 ·show gY x ((b p (b p N).N).N.hop (b p N).l (b p (b p N).N).f) (wW F).N
  unfold wW;rw [<-e, <-k];exact t
 ·show(b p N).f<(b p (b p N).N).N.n;exact(l3 30855500209184) f c
theorem yQ {b:Tr->NF->BR} {p:Tr} (C:fe x (b p) bF):fe x (cu b [p,p]) yR:=fun N F h=>by
 have k:=NF.add_n N
 obtain⟨D,l,m,E,n,f⟩:=C _ _ h.add
 have G:=D.hop (s:=N.n) (g:=(b p N.add).f) ((l3 0x9d718101b201c21) k f)
 have o:gY x ((b p N.add).N.hop N.n (b p N.add).f) ((bF F.add).N.hop F.n (bF F.add).f):=by rw [<-l, <-h.n];exact G
 obtain⟨q,r,t,H,u,d⟩:=C _ _ o;generalize v:b p N.add=j at *;generalize y:bF F.add=z at *;generalize A:b p (j.N.hop N.n j.f)=c at *;generalize B:bF (z.N.hop F.n z.f)=I at *
 have d:j.N.n<=c.N.n:=d
 have J:=q.hop (s:=N.n) (g:=c.f) ((l4 0x9d718101b201b321c31) k f d)
 have i:=NF.add_n (c.N.hop N.n c.f)
 rw [NF.hop_n] at i
 have K:=(J.add.hop (s:=j.l) (g:=c.N.n) ((l4 0x1c101b219d718231c30) n d i)).hop (s:=c.l) (g:=c.N.n) (by rw [NF.hop_n];exact(l3 0x1c109d718121c20) u i)
 have e:cu b [p,p] N=⟨(((c.N.hop N.n c.f).add.hop j.l c.N.n).hop c.l c.N.n),N.n,c.N.n⟩:=by
  subst A;subst v;rfl
 have L:yR F=vb F z I:=by subst B;subst y;rfl
 rw [e,L];unfold vb;refine⟨?_,h.n,q.n,?_,?_,?_⟩
 ·rw [<-m, <-t, <-r, <-q.n, <-h.n];exact K
 ·show N.n<(c.N.hop N.n c.f).add.n;exact(l5 0x9d718101b201b329d718341c41) k f d i
 ·show c.N.n<(c.N.hop N.n c.f).add.n;exact(l2 0x9d718101c01) i
 ·show N.n<=(c.N.hop N.n c.f).add.n;exact(l5 0x9d718101b201b329d718341b41) k f d i
end
noncomputable def rP (a:Nat) (xs:List Nat):Nat:=xs.foldl (fun H i=>Ij H (Hx 1 i)) a
theorem k8 (i:Nat) (xs:List Nat):∀(a:Nat),(rP a xs).testBit i=Gu↔a.testBit i=Gu\/i∈xs:=by
 induction xs with
 |nil=>
  intro a;exact⟨.inl,fun h=>h.elim id fun h=>nomatch h⟩
 |cons x xs b=>
  intro a
  show(rP (a||| 1 <<< x) xs).testBit i=Gu↔_
  rw [b,Jh,Ii,or_assoc,KI,dP,GH,eq_comm (a:=x)]
noncomputable def hsOf (H s:Nat):Nat:=Oh (Li H (Nat.mul 128 s)) 340282366920938463463374607431768211456
noncomputable def sat (H:Nat):Nat->Nat->Nat->Nat
 |0,_,_=>0
 |n+1,todo,done=>cond (Ht todo 0) done (sat H n (Pp (Ij (Ij todo (hsOf H (MN todo))) (Ij done (Hx 1 (MN todo)))) (Ij done (Hx 1 (MN todo)))) (Ij done (Hx 1 (MN todo))))
noncomputable def yW (ps:List (Nat×Nat)) (M:Nat):Nat:=ps.foldl (fun b p=>cond (Ht (Oh (Li M p.1) 2) 1) (Ij b p.2) b) 0
noncomputable def memN (x:Nat):List Nat->Bool
 |[]=>Gw
 |y::b=>cond (Ht x y) Gu (memN x b)
noncomputable def runN (ps:List (Nat×Nat)):Nat->Nat->List Nat->Bool
 |0,_,_=>Gw
 |n+1,S,acc=>cond (Ht S 0) Gu (cond (memN S acc) Gu (runN ps n (yW ps S) (S::acc)))
noncomputable def kG (F:FN):Nat:=rP 0 (F.hp.map fun p=>Nat.add (Nat.mul 128 p.1) p.2)
noncomputable def tc (F:FN) (l:Nat):Nat:=rP 0 (l::F.mv.map (·.1))
noncomputable def allT {b:Type} (f:b->Bool):List b->Bool
 |[]=>Gu
 |x::xs=>cond (f x) (allT f xs) Gw
theorem fQ {c:Type} {f:c->Bool} {xs:List c}:allT f xs=Gu->∀x∈xs,f x=Gu:=by
 induction xs with
 |nil=>
  intro _ _ h;exact nomatch h
 |cons y g d=>
  intro h x b;unfold allT at h
  cases e:f y with
  |false=>rw [e] at h;cases h
  |true=>
   rw [e] at h;rcases GH.mp b with rfl|b
   ·exact e
   ·exact d h x b
noncomputable def D2 (H g:Nat):Bool:=Mz 1 (sat H 128 (Hx 1 g) 0)
noncomputable def pS (H b g:Nat):Nat:=Nat.land (sat H 128 (Hx 1 g) 0) b
noncomputable def Dn (F:FN) (l f H b:Nat):Bool:=cond (allT (fun p=>Mz p.2 127) F.hp) (cond (D2 H f) (cond (allT (fun p=>D2 H p.2) F.mv) (cond (Mz 1 (pS H b f)) (runN (F.mv.map fun p=>(p.1,pS H b p.2)) 100 (pS H b f) []) Gw) Gw) Gw) Gw
noncomputable def chk (r:i5):Bool:=Dn r.N r.l r.f (kG r.N) (tc r.N r.l)
theorem vh (M s:Nat):Ht (Oh (Li M s) 2) 1=M.testBit s:=by
 show Ht ((M >>> s) % 2) 1=_
 rw [Nat.shiftRight_eq_div_pow,LJ]
 cases e:GI (M / 2^s % 2=1) with
 |true=>rw [of_decide_eq_true e];rfl
 |false=>exact LB.mpr fun h=>of_decide_eq_false e (JU h)
theorem va (M i:Nat) (ps:List (Nat×Nat)):∀(a:Nat),(ps.foldl (fun acc p=>cond (Ht (Oh (Li M p.1) 2) 1) (Ij acc p.2) acc) a).testBit i=Gu↔a.testBit i=Gu\/∃p∈ps,M.testBit p.1=Gu/\p.2.testBit i=Gu:=by
 induction ps with
 |nil=>exact fun a=>⟨.inl,fun h=>h.elim id fun h=>h.elim fun Z h=>nomatch h.1⟩
 |cons p ps f=>
  intro a;rw [Jv,f,vh]
  cases e:M.testBit p.1 with
  |false=>
   refine or_congr_right ⟨fun⟨q,b,c⟩=>⟨q,.tail _ b,c⟩,fun⟨q,b,c,d⟩=>?_⟩;rcases GH.mp b with rfl|b
   ·rw [e] at c;cases c
   ·exact⟨q,b,c,d⟩
  |true=>
   show(a||| p.2).testBit i=Gu\/_↔_
   rw [Jh,Ii,or_assoc];refine or_congr_right ⟨fun h=>h.elim (fun h=>⟨p,.head _,e,h⟩) fun⟨q,b,c⟩=>⟨q,.tail _ b,c⟩,fun⟨q,b,c,d⟩=>?_⟩;rcases GH.mp b with rfl|b
   ·exact .inl d
   ·exact .inr ⟨q,b,c,d⟩
theorem xU {x:Nat} {b:List Nat}:memN x b=Gu->x∈b:=by
 induction b with
 |nil=>intro h;cases h
 |cons y b c=>
  intro h;unfold memN at h
  cases e:Ht x y with
  |true=>rw [JU e];exact .head _
  |false=>rw [e] at h;exact .tail _ (c h)
theorem xZ {ps:List (Nat×Nat)} {n:Nat}:∀ {S:Nat} {acc:List Nat},runN ps n S acc=Gu->∃L:List Nat,(∀M∈acc,M∈L)/\(S=0\/S∈L)/\L.length<=acc.length+n/\∀M∈L,M∈acc\/yW ps M=0\/yW ps M∈L:=by
 induction n with
 |zero=>exact fun h=>nomatch h
 |succ n g=>
  intro S acc h;unfold runN at h
  cases e:Ht S 0 with
  |true=>exact⟨acc,fun Z h=>h,.inl (JU e),HK _ _,fun Z h=>.inl h⟩
  |false=>
   rw [e] at h
   cases c:memN S acc with
   |true=>exact⟨acc,fun Z h=>h,.inr (xU c),HK _ _,fun Z h=>.inl h⟩
   |false=>
    rw [c] at h;obtain⟨L,d,i,f,j⟩:=g h;refine⟨L,fun M b=>d M (.tail _ b),.inr (d S (.head _)),by rw [HC] at f;exact(l3 0x1b72718101b7718210) f,fun M b=>?_⟩
    rcases j M b with q|q
    ·rcases GH.mp q with rfl|q
     ·exact .inr i
     ·exact .inl q
    ·exact .inr q
section
variable {hp:List (List Nat)} {H:Nat}
theorem BX (i:∀s t,(hsOf H s).testBit t=Gu↔∃l,hp[s]? =Gq l/\t∈l) {g n:Nat}:∀ {todo done:Nat},(∀x,todo.testBit x=Gu\/done.testBit x=Gu->Reach hp g x)->(todo.testBit g=Gu\/done.testBit g=Gu)->(∀s,done.testBit s=Gu->∀t,(hsOf H s).testBit t=Gu->todo.testBit t=Gu\/done.testBit t=Gu)->1<=sat H n todo done->∀x,(sat H n todo done).testBit x=Gu↔Reach hp g x:=by
 induction n with
 |zero=>exact fun Z Z Z h=>absurd h (by show¬1<=0;decide)
 |succ n d=>
  intro todo done c j k h x;unfold sat at h ⊢
  cases e:Ht todo 0 with
  |true=>
   have z:=JU e
   subst z
   have o:∀x,(0:Nat).testBit x=Gu\/done.testBit x=Gu↔done.testBit x=Gu:=fun x=>by
    rw [Hq];exact⟨fun h=>h.elim (fun h=>nomatch h) id,.inr⟩
   refine⟨fun f=>c x (.inr f),fun r=>?_⟩
   show done.testBit x=Gu
   induction r with
   |refl=>exact(o _).mp j
   |step _ e m d=>exact(o _).mp (k _ d _ ((i _ _).mpr ⟨_,e,m⟩))
  |false=>
   rw [e] at h
   have z:todo≠0:=fun z=>by rw [z] at e;cases e
   have p:=Nat.testBit_log2 z
   generalize D:MN todo=s at h p ⊢
   have u:∀x,(Ij done (Hx 1 s)).testBit x=Gu↔done.testBit x=Gu\/s=x:=fun x=>by
    show(done||| 1 <<< s).testBit x=Gu↔_
    rw [Jh,Ii,KI,dP]
   have B:∀x,(Pp (Ij (Ij todo (hsOf H s)) (Ij done (Hx 1 s))) (Ij done (Hx 1 s))).testBit x=Gu↔(todo.testBit x=Gu\/(hsOf H s).testBit x=Gu)/\¬(Ij done (Hx 1 s)).testBit x=Gu:=fun x=>by
    show((todo||| hsOf H s||| Nat.lor done (Hx 1 s)) ^^^ Ij done (Hx 1 s)).testBit x=Gu↔_
    rw [Nat.testBit_xor,Jh,Jh];cases todo.testBit x<;>cases(hsOf H s).testBit x<;>cases(Ij done (Hx 1 s)).testBit x<;>decide
   have b:∀x,(Pp (Ij (Ij todo (hsOf H s)) (Ij done (Hx 1 s))) (Ij done (Hx 1 s))).testBit x=Gu\/(Ij done (Hx 1 s)).testBit x=Gu↔(todo.testBit x=Gu\/(hsOf H s).testBit x=Gu)\/(done.testBit x=Gu\/s=x):=fun x=>by
    rw [B,u]
    by_cases q:done.testBit x=Gu\/s=x<;>simp [q]
   have v:Reach hp g s:=c s (.inl p)
   refine d (fun x f=>?_) ?_ (fun y C t A=>?_) h x
   ·rcases(b x).mp f with (q|q) |q|q
    ·exact c x (.inl q)
    ·obtain⟨l,e,m⟩:=(i s x).mp q;exact v.step e m
    ·exact c x (.inr q)
    ·exact q▸v
   ·exact(b g).mpr (j.elim (fun q=>.inl (.inl q)) fun q=>.inr (.inl q))
   ·rcases(u y).mp C with q|q
    ·exact(b t).mpr ((k y q t A).elim (fun q=>.inl (.inl q)) fun q=>.inr (.inl q))
    ·subst q;exact(b t).mpr (.inl (.inr A))
end
section
variable {x:Bool} {N:NF} {F:FN} {l f:Nat}
theorem zj (h:gY x N F) (c:∀p∈F.hp,Mz p.2 127=Gu) (s t:Nat):(hsOf (kG F) s).testBit t=Gu↔∃k,N.hp[s]? =Gq k/\t∈k:=by
 rw [h.hp]
 show((kG F >>> (128 * s)) % 2^128).testBit t=Gu↔_
 rw [Nat.testBit_mod_two_pow,HJ,decide_eq_true_iff,Nat.testBit_shiftRight];rw [k8,Hq];constructor
 ·rintro⟨j,g|g⟩
  ·cases g
  ·obtain⟨p,d,e⟩:=Hj.mp g
   have e:128 * p.1+p.2=128 * s+t:=e
   have m:=Gr (c p d)
   have a:p.1=s:=by lia
   have b:p.2=t:=by lia
   rw [<-a, <-b];exact d
 ·intro d
  have i:=Gr (c _ d)
  exact⟨KG i,.inr (Hj.mpr ⟨_,d,rfl⟩)⟩
theorem ju (h:gY x N F) (s:Nat) (q:Int×Int):q∈N.mv.getD s []↔∃g,q=(de x,((g:Nat):Int))/\(s,g)∈F.mv:=by
 rw [<-h.mv,Hi]
 cases e:N.mv[s]? with
 |none=>exact⟨fun h=>(nomatch h),fun b=>by obtain⟨_,h,_⟩:=b;exact(nomatch h)⟩
 |some k=>exact⟨fun h=>⟨k,rfl,h⟩,fun b=>by obtain⟨_,h,m⟩:=b;cases h;exact m⟩
theorem zI (h:gY x N F) (s:Nat):(tc F l).testBit s=Gu↔live N l s=Gu:=by
 rw [k8,Hq,Ii,beq_iff_eq,GH]
 have c:(!(N.mv.getD s []).isEmpty)=Gu↔s∈F.mv.map (·.1):=by
  constructor
  ·intro e
   cases z:N.mv.getD s [] with
   |nil=>rw [z] at e;cases e
   |cons q k=>
    obtain⟨g,_,m⟩:=(ju h s q).mp (by rw [z];exact .head _)
    exact Hj.mpr ⟨_,m,rfl⟩
  ·intro m;obtain⟨p,d,rfl⟩:=Hj.mp m
   have b:=(ju h p.1 (de x,((p.2:Nat):Int))).mpr ⟨p.2,rfl,d⟩
   cases z:N.mv.getD p.1 [] with
   |nil=>rw [z] at b;cases b
   |cons q k=>rfl
 rw [c];exact⟨fun h=>h.elim (fun h=>nomatch h) fun h=>h.symm,fun h=>.inr h.symm⟩
theorem lH (e:N.Ok) (h:gY x N F) (c:∀p∈F.hp,Mz p.2 127=Gu) {g:Nat} (j:g<N.n) (k:D2 (kG F) g=Gu):pS (kG F) (tc F l) g=clo N l g:=eH fun i=>by
 have m:=BX (hp:=N.hp) (H:=kG F) (zj h c) (g:=g) (n:=128) (todo:=Hx 1 g) (done:=0) (fun y b=>by
  rw [Hq] at b;rcases b with b|b
  ·have:(1 <<< g).testBit y=Gu:=b
   rw [KI,dP] at this;rw [<-this];exact .refl
  ·cases b) (.inl (by show(1 <<< g).testBit g=Gu;rw [KI,dP])) (fun s d=>by rw [Hq] at d;cases d) (Gr k) i
 show(sat (kG F) 128 (Hx 1 g) 0&&& tc F l).testBit i=Gu↔_
 rw [Nat.testBit_and,HJ,m,zI h,iZ e j]
theorem xP (r:N.Ok) (h:gY x N F) (c:∀p∈F.hp,Mz p.2 127=Gu) (k:∀p∈F.mv,D2 (kG F) p.2=Gu) (M n:Nat):bX N l M n=if cZ (xO x) n then yW (F.mv.map fun p=>(p.1,pS (kG F) (tc F l) p.2)) M else 0:=by
 revert M n;delta x N F l;delta M n
 have t:∀i,(bX N l M n).testBit i=Gu↔cZ (xO x) n=Gu/\∃p∈F.mv,M.testBit p.1=Gu/\(clo N l p.2).testBit i=Gu:=fun i=>by
  rw [fI];constructor
  ·rintro⟨p,j,b,d⟩
   obtain⟨s,A,u⟩:=It.mp j;unfold fj wZ at u;rw [HG] at u;obtain⟨q,v,rfl⟩:=Hj.mp u;obtain⟨g,rfl,m⟩:=(ju h s q).mp v;refine⟨?_,_,m,dz.mp A,d⟩
   have b:cZ (de x).toNat n=Gu:=b
   rw [show(de x).toNat=xO x by cases x<;>rfl] at b
   exact b
  ·rintro⟨B,p,j,b,d⟩
   refine⟨(xO x,clo N l p.2),It.mpr ⟨p.1,dz.mpr b,?_⟩,B,d⟩;unfold fj wZ;rw [HG];exact Hj.mpr ⟨(de x,((p.2:Nat):Int)),(ju h _ _).mpr ⟨p.2,rfl,j⟩,by cases x<;>rfl⟩
 refine eH fun i=>(t i).trans ?_;delta i
 cases e:cZ (xO x) n with
 |false=>rw [if_neg (by decide),Hq];exact⟨fun h=>(nomatch h.1),fun h=>(nomatch h)⟩
 |true=>
  rw [if_pos rfl];rw [va,Hq]
  have y:∀p∈F.mv,p.2<N.n:=fun p o=>by
   have m:=(ju h p.1 (de x,((p.2:Nat):Int))).mpr ⟨p.2,rfl,o⟩
   rw [Hi] at m
   cases z:N.mv[p.1]? with
   |none=>rw [z] at m;cases m
   |some k=>
    rw [z] at m;rcases r.mv k (GJ z) with rfl|⟨D,g,rfl,_,C⟩
    ·cases m
    ·have:=GF.mp m
     cases this;exact C
  constructor
  ·rintro⟨_,p,j,b,d⟩
   exact .inr ⟨_,Hj.mpr ⟨p,j,rfl⟩,b,by show(pS _ _ p.2).testBit i=Gu;rw [lH r h c (y p j) (k p j)];exact d⟩
  ·rintro(h|⟨q,j,b,d⟩)
   ·cases h
   ·obtain⟨p,o,rfl⟩:=Hj.mp j
    have d:(pS _ _ p.2).testBit i=Gu:=d
    rw [lH r h c (y p o) (k p o)] at d;exact⟨rfl,p,o,b,d⟩
theorem cond_true {b c:Bool} (h:cond b c Gw=Gu):b=Gu/\c=Gu:=by
 cases b
 ·cases h
 ·exact⟨rfl,h⟩
theorem xC (g:N.Ok) (h:gY x N F) (k:f<N.n) (c:Dn F l f (kG F) (tc F l)=Gu):∃K,K<=10000/\Fin (bX N l) (clo N l f) K:=by
 delta x N F l f;obtain⟨b,c⟩:=cond_true c;obtain⟨m,c⟩:=cond_true c;obtain⟨d,c⟩:=cond_true c;obtain⟨i,c⟩:=cond_true c
 have b:=fQ b
 have d:=fQ d
 have n:=lH (l:=l) g h b k m
 obtain⟨L,_,j,o,p⟩:=xZ c;delta L;rw [n] at j i;delta L
 have z:=Gr i
 obtain⟨K,q,e⟩:=wV (nx:=bX N l) (s0:=clo N l f) (L:=L) (j.elim (fun h=>by lia) id) fun M r s t=>by
  rw [xP g h b d]
  split
  ·exact(p M r).elim (fun h=>nomatch h) id
  ·exact .inl rfl
 exact⟨K,Gz q (Gz o (by decide)),e⟩
end
noncomputable def F0:FN:=⟨0,[],[]⟩
theorem Ex (x:Bool):gY x ⟨[],[]⟩ F0:=⟨rfl,rfl,fun s t=>⟨fun b=>by obtain⟨_,h,_⟩:=b;exact(nomatch h),fun h=>(nomatch h)⟩,fun s p=>⟨fun⟨_,h,_⟩=>(nomatch h),fun b=>by obtain⟨_,_,h⟩:=b;exact(nomatch h)⟩⟩
theorem rR {x:Bool} {b:NF->BR} {d:FN->i5} (e:fe x b d) (f:(b ⟨[],[]⟩).N.Ok) (c:chk (d F0)=Gu):∃K,K<=10000/\Fin (bX (b ⟨[],[]⟩).N (b ⟨[],[]⟩).l) (clo (b ⟨[],[]⟩).N (b ⟨[],[]⟩).l (b ⟨[],[]⟩).f) K:=by
 obtain⟨s,g,i,j,_,_⟩:=e _ _ (Ex x);refine xC f s j ?_;rw [g,i];exact c
noncomputable def D6 (b:FN->i5) (c:Nat×Option Nat):Bool:=allT (fun d=>chk (eK (eK b d.1 d.2) c.1 c.2 F0)) (Rk 3)
noncomputable def kA (j k:Nat) (b:Nat×Option Nat):Bool:=allT (fun c=>allT (fun d=>chk (eK (eK (eK bF d.1 d.2) c.1 c.2) b.1 b.2 F0)) (Rk k)) (Rk j)
theorem FQ:allT (D6 wW) (Rk 3)=Gu:=by decide+kernel
theorem EA:allT (D6 yR) (Rk 3)=Gu:=by decide+kernel
theorem AD:kA 3 3 (2,Gs)=Gu:=by decide+kernel
theorem Ae:kA 3 3 (0,Gq 3)=Gu:=by decide+kernel
theorem Cg:kA 3 3 (1,Gq 3)=Gu:=by decide+kernel
theorem AY:kA 3 3 (2,Gq 3)=Gu:=by decide+kernel
theorem AH:kA 3 2 (2,Gs)=Gu:=by decide+kernel
theorem Bx:kA 3 2 (0,Gq 3)=Gu:=by decide+kernel
theorem Cn:kA 3 2 (1,Gq 3)=Gu:=by decide+kernel
theorem Bl:kA 3 2 (2,Gq 3)=Gu:=by decide+kernel
theorem BJ:kA 2 3 (2,Gs)=Gu:=by decide+kernel
theorem Al:kA 2 3 (0,Gq 3)=Gu:=by decide+kernel
theorem Ag:kA 2 3 (1,Gq 3)=Gu:=by decide+kernel
theorem Ca:kA 2 3 (2,Gq 3)=Gu:=by decide+kernel
theorem De:kA 3 3 (1,Gs)=Gu:=by decide+kernel
theorem C7:kA 3 3 (0,Gq 2)=Gu:=by decide+kernel
theorem DS:kA 3 3 (1,Gq 2)=Gu:=by decide+kernel
theorem DR:kA 3 3 (2,Gq 2)=Gu:=by decide+kernel
theorem xT {P:Nat×Option Nat->Prop} {a b c d:Nat×Option Nat} (e:P a) (f:P b) (g:P c) (hd:P d):∀r∈[a,b,c,d],P r:=fun r h=>by
 rcases GH.mp h with rfl|h
 ·exact e
 ·rcases GH.mp h with rfl|h
  ·exact f
  ·rcases GH.mp h with rfl|h
   ·exact g
   ·rw [GF.mp h];exact hd
theorem w6:∀r∈Rk 3,kA 3 3 r=Gu:=xT AD Ae Cg AY
theorem xK:∀r∈Rk 3,kA 3 2 r=Gu:=xT AH Bx Cn Bl
theorem x6:∀r∈Rk 3,kA 2 3 r=Gu:=xT BJ Al Ag Ca
theorem x5:∀r∈Rk 2,kA 3 3 r=Gu:=xT De C7 DS DR
theorem qt (x:Bool):fe x (bld 0 (lf x)) bF:=by
 cases x
 ·exact o5
 ·exact o5
theorem yd (x:Bool) {v:Tr} (h:v=.cat (lf x) (lf x)\/v=.alt (lf x) (lf x)):(fe x (bld 1 v) wW)\/fe x (bld 1 v) yR:=by
 rcases h with rfl|rfl
 ·refine .inl ?_
  have:=zx (b:=bld 0) (p:=lf x) (qt x)
  cases x<;>exact this
 ·refine .inr ?_
  have:=yQ (b:=bld 0) (p:=lf x) (qt x)
  cases x<;>exact this
theorem Aa {g:FN->i5} {v:Tr} {x:Bool} {b d:Nat} {c e:Option Nat} (j:allT (D6 g) (Rk 3)=Gu) (k:(b,c)∈Rk 3) (l:(d,e)∈Rk 3) (m:fe x (bld 1 v) g) (n:(dc (.rep (.rep v d e) b c)).N.Ok):∃K,K<=10000/\Fin (bX (dc (.rep (.rep v d e) b c)).N (dc (.rep (.rep v d e) b c)).l) (clo (dc (.rep (.rep v d e) b c)).N (dc (.rep (.rep v d e) b c)).l (dc (.rep (.rep v d e) b c)).f) K:=by
 have o:D6 g (b,c)=Gu:=fQ j _ k
 have p:=fQ (f:=fun i:Nat×Option Nat=>chk (eK (eK g i.1 i.2) b c F0)) (xs:=Rk 3) o _ l
 have q:fe x (bld 3 (.rep (.rep v d e) b c)) (eK (eK g d e) b c):=gk (gk m d e) b c
 exact rR q n p
theorem wH {t:Tr} {x:Bool} (s:Cc x t) (r:(dc t).N.Ok):∃K,K<=10000/\Fin (bX (dc t).N (dc t).l) (clo (dc t).N (dc t).l (dc t).f) K:=by
 delta t x
 cases s with
 |two w v u y h=>
  obtain⟨b,c,l,rfl⟩:=u;obtain⟨d,g,q,rfl⟩:=y;rcases yd x h with o|o
  ·exact Aa FQ l q o r
  ·exact Aa EA l q o r
 |three w v i j k u y A h=>
  delta w v i j k;obtain⟨b,c,l,rfl⟩:=u;obtain⟨d,g,q,rfl⟩:=y;obtain⟨m,n,B,rfl⟩:=A
  have e:kA j k (b,c)=Gu:=by
   rcases GH.mp h with h|h
   ·cases h;exact w6 _ l
   ·rcases GH.mp h with h|h
    ·cases h;exact xK _ l
    ·rcases GH.mp h with h|h
     ·cases h;exact x6 _ l
     ·cases GF.mp h;exact x5 _ l
  have C:=fQ (f:=fun z:Nat×Option Nat=>allT (fun p:Nat×Option Nat=>chk (eK (eK (eK bF p.1 p.2) z.1 z.2) b c F0)) (Rk k)) (xs:=Rk j) e _ q
  have D:=fQ (f:=fun p:Nat×Option Nat=>chk (eK (eK (eK bF p.1 p.2) d g) b c F0)) (xs:=Rk k) C _ B
  have o:fe x (bld 3 (.rep (.rep (.rep (lf x) m n) d g) b c)) (eK (eK (eK bF m n) d g) b c):=gk (gk (gk (qt x) m n) d g) b c
  exact rR o r D
theorem sV {t:Tr} (h:Fam 3 t):mH t:=um (fun t x s Z b=>wH s b) h
theorem to {vs:List Gy} {c:List Int} (d:KS vs c) {xs:Array G5} (hp:xs.Perm (pairsOf vs)):∃b,KS (xs.map (·.2)).toList b/\b.Perm c:=by
 have e:(xs.map (·.2)).toList.Perm vs:=by
  rw [Array.toList_map]
  have:=(Hu.mp hp).map Prod.snd
  rw [pairsOf_toList,List.map_snd_zip (GL _)] at this;exact this
 refine⟨_,intsAre_map _ fun v f=>d.all v (e.mem_iff.mp f),?_⟩;rw [<-d.nums];exact e.map numOf
theorem zm {u:U}:f8 u:=fun w A s D f G n P E j p g k l=>by
 refine Ld Nm ⟨_,j,rfl⟩ M0 ?_ (Nn _);rw [PX]
 have t:D<s.heap.objs.size:=Hy j
 refine Gv (listItems_at j rfl ?_);refine Gv (LR j rfl ?_);obtain⟨q,m⟩:∃q,(s.heap.update D (Hs fun Z=> #[])).get? D=Gq (I4 "list" #[] q):=⟨_,PY j (fun Z=> #[])⟩;refine Gv (MT m rfl (Gv (wpAny_newTuple (Gv (NC (Ha ?_))))))
 have o:(((s.heap.update D (Hs fun Z=> #[])).push (I4 "tuple" f.toArray 0)).push (I4 "list" #[] 0)).get? D=Gq (I4 "list" #[] q):=by
  rw [KC _ _ _ (by rw [OU,JS];exact G6 (GB t)),KC _ _ _ (by rw [JS];exact G6 t)]
  exact m
 show G0 (GO u.prog w) _ _ _ E {s with heap:=((s.heap.update D (Hs fun Z=> #[])).push (I4 "tuple" f.toArray 0)).push (I4 "list" #[] 0)}
 dsimp only
 have v:¬f.toArray.size<2:=by rw [KB];exact(l1 29689305494144) g
 rw [if_neg v,if_neg v]
 obtain⟨b,c,d,rfl⟩:∃b c d,f=b::c::d:=by
  cases f with
  |nil=>cases g
  |cons b f=>
   cases f with
   |nil=>exact absurd g (show¬64<=1 by decide)
   |cons c d=>exact⟨_,_,_,rfl⟩
 rw [keyKind_ints p];refine Gv (GR (Gv (G1 (oJ (a₀:=pairsOf (b::c::d)) (st:=O2 H9 ((b::c::d).toArray.zip (b::c::d).toArray) #[] 7 Gs) (Q:=fun Z i=>SW (pairsOf (b::c::d)) i) p.intKeys ⟨⟨Array.Perm.refl _,rfl,rfl⟩,rfl⟩ fun i h=>h) ?_ fun Z Z e=>e)))
 rintro⟨⟨⟩,i⟩ H ⟨rfl,y⟩
 have B:=y.failed
 have z:=y.perm
 dsimp only;refine Gv (MT o rfl ?_);refine Gv (LR o rfl ?_ (hsz2:=by refine Gz (Kj ((Array.size_map ..).trans (z.size_eq.trans (pairsOf_size _)))) ?_;rw [JP];exact(l1 0x1b89c801b718090909090909180) k))
 rw [B];simp only [bne_self_eq_false,Hz,if_false];obtain⟨r,C,F⟩:=to p z;exact GR ⟨.none,rfl,l _ r C F⟩
end
section
section
open Builtin Builtin.ObjectAttr
noncomputable def fS:List (Hb×G2):=[("self",.local),("what",.local),("at",.local),("Exception",.globalImplicit)]
structure kJ (K:I0) (te f:GS):Prop where
 cls:∃tb nm q N bs sn sub ab col dd k0 k1 k2 k3 k5,K.lookup te=Gq (excClassObj nm q te N bs [.ref tb,.type "Exception",.type "BaseException",.type "object"] Gu sn sub ab col dd k0 k1 k2 k3 k5 "Exception.__new__")
 init:J7 K (.ref te) "__init__"=Gq (Gq (.ref f))
 fn:typeIn K (.ref f)=Gq (.type "function")
 set:J7 K (.ref te) "__setattr__"=Gq (Gq (.builtin "object.__setattr__"))
 wh:J7 K (.ref te) "what"=Gq Gs
 at_:J7 K (.ref te) "at"=Gq Gs
 ei:findCls K (.type "Exception") (.type "type") "__init__"=Gq (.val (.builtin "Exception.__init__"))
 kp:K3 K (.ref te)=Gu
section
variable {prog:Il} {w:Hh} {A:Hf} {K:I0} {c m f e:GS} {R:ME->GA->Prop} {E:Gy->GA->Prop} {h:HV} {g:Array GenState} {d:Drawn} {t:Nat} {l:NU} {s:GA}
variable {D q:Hb} {N:GS} {G:List Gy} {H:List Hb} {i:List Gy} {I:Bool} {j:Option Bool} {n:Option GS} {k0 u y B C:Option Gy}
theorem xY {rest:List Gy} (b:h.get? c=Gq (excClassObj D q c N G [.ref m,.type "Exception",.type "BaseException",.type "object"] Gu H i I j n k0 u y B C "Exception.__new__"))
  (J:R (.ok (.ret (.ref (h.objs.size+1)))) ⟨(h.push {cls:=.type "tuple",data:=.seq rest.toArray}).push {cls:=.ref c,data:=.fields #[.ref h.objs.size,.none,.none,.none,.bool Gw,.none]},g,d,t,l⟩) (o:rest.length<=JY):
  IP (GO prog w) A (.call (.builtin "Exception.__new__") ⟨.ref c::rest,[]⟩) R ⟨h,g,d,t,l⟩:=by
 revert l D q N G H i I j n k0 u y B C rest;delta prog w A c m R h g d t;revert k0 u y B C rest;delta l D q N G H i I j n;delta k0 u y B C rest
 have F:=Km
 have r:=F.noStar
 have v:=F.ends
 have k:([.ref c,.ref m,.type "Exception",.type "BaseException",.type "object"]:List Gy).contains (.type "Exception")=Gu:=by simp
 have hcA:([.ref c,.ref m,.type "Exception",.type "BaseException",.type "object"]:List Gy).contains (.type "AttributeError")=Gw:=by simp
 have hcN:([.ref c,.ref m,.type "Exception",.type "BaseException",.type "object"]:List Gy).contains (.type "NameError")=Gw:=by simp
 refine codeAny_call_builtin_code (NT _ F.quiet) ?_;simp only [Pq,F.newKind,F.newSplit,F.newRow]
 repeat (first|refine Iq b ?_|(refine Kv b ?_;rw [k]) |refine wpAny_staticBase_exc b ?_|refine Pr b ?_|simp only [bne_self_eq_false,Hz,if_false] |wp_step)
 refine codeAny_builtinAt F.entry ?_;unfold Builtin.«BaseException.__new__»;refine Oi ?_
 show PySem.wpAt _ _ _ (stack >>= _) _ _ _
 refine Oi (PySem.wpAt_stack fun p z=>NA ?_)
 wp_walk
 refine NA ?_;rw [F.owner]
 repeat (first|with_reducible refine wpAny_madeHere_exc F.canon b ?_|with_reducible refine Iq b ?_|(with_reducible refine Kv b ?_;first|rw [k] |rw [hcA] |rw [hcN]) |wp_step)
 show R _ _
 rw [JF];exact J
noncomputable abbrev b5 (c t:GS) (n:Option GS):JH:={cls:=.ref c,dict:=n,data:=.fields #[.ref t,.none,.none,.none,.bool Gw,.none]}
theorem wd {rest:List Gy} (X:K.In h) (k:kJ K c f) (p:rest.length<=JY)
  (S:IP (GO prog w) (A.under (.builtin "type.__call__" ⟨.ref c::rest,[]⟩)) (.call (.ref f) ⟨.ref (h.objs.size+1)::rest,[]⟩) (InitBack (h.objs.size+1) R)
   ⟨(h.push {cls:=.type "tuple",data:=.seq rest.toArray}).push (b5 c h.objs.size Gs),g,d,t,l⟩):IP (GO prog w) A (.call (.ref c) ⟨rest,[]⟩) R ⟨h,g,d,t,l⟩:=by
 revert t l rest;delta prog w A K c f R h g d;delta t l rest;obtain⟨m,D,q,N,G,H,i,I,j,n,k0,u,y,B,C,P⟩:=k.cls;revert k0 u y B C;delta m D q N G H i I j n;delta k0 u y B C
 have F:=X c _ P
 have Y:=tc_lookup
 have Z:=tc_bind (.ref c)
 have hT:(⟨h,g,d,t,l⟩:GA).TypeIs (.ref c) "type":=⟨_,F,rfl⟩
 refine codeAny_of_tree ?_
 show G0 _ _ (callAny (.ref c) _) _ _ _
 repeat (any_goals (first|assumption|with_reducible refine Iq F ?_|wp_step))
 refine⟨rfl,?_⟩;refine codeAny_call_builtin_at (NT _ (by decide+kernel)) entry_typeCall (wpAny_check_type_call_sub F ?_)
 unfold Builtin.«type.__call__»
 repeat (first|with_reducible refine Iq F ?_|with_reducible refine Pr F ?_|wp_step)
 refine xY F ?_ p
 have L:∀b o,h.get? b=Gq o->((h.push {cls:=.type "tuple",data:=.seq rest.toArray}).push (b5 c h.objs.size Gs)).get? b=Gq o:=fun b o e=>GQ _ (GQ _ e)
 have O:=L _ _ F
 have J:((h.push {cls:=.type "tuple",data:=.seq rest.toArray}).push (b5 c h.objs.size Gs)).get? (h.objs.size+1)=Gq (b5 c h.objs.size Gs):=by heap_get
 have T:(Jg c::[.ref m,.type "Exception",.type "BaseException",.type "object"]).contains (.ref c)=Gu:=by simp
 have Q:Ls (GO prog w) ((h.push {cls:=.type "tuple",data:=.seq rest.toArray}).push (b5 c h.objs.size Gs)) (OW (.ref (h.objs.size+1))) (.ref c):=(Mk J).andThen .now
 have U:=KD (M:=GO prog w) (X.keeps L) k.init
 have V:=bind_fn (M:=GO prog w) (X.keeps L) (.ref (h.objs.size+1)) k.fn
 have W:Ls (GO prog w) ((h.push {cls:=.type "tuple",data:=.seq rest.toArray}).push (b5 c h.objs.size Gs)) (OX (.ref (h.objs.size+1)) (.ref c)) Gu:=
  Q.andThen (looks_mroIn (X.keeps L) (by unfold mroIn clsIn;rw [P];simp))
 refine Gv (W.at ?_);refine Gv (Ha (Gv (Gv (Q.at (U.at ?_)))));refine Ha (Gv (V.at ?_));refine Gv (J8 ?_);refine IJ S fun r s' z=>?_;rcases r with e|(v|_|_|_)<;>first|exact z|exact z.elim|skip
 obtain⟨rfl,z⟩:=z;exact GR (GR z)
end
end
section
open Builtin Builtin.ObjectAttr
section
variable {prog:Il} {w:Hh} {A:Hf} {K:I0} {c f e:GS} {E:Gy->GA->Prop} {s:GA} {name:Hb} {v:Gy}
theorem zo {i:JH} (X:K.In s.heap) (k:kJ K c f) (J:s.heap.get? e=Gq i) (hc:i.cls=.ref c) (W:∃vs,i.data=.fields vs) (hn:J7 K (.ref c) name=Gq Gs) {Q:Unit->GA->Prop}
  (hd:i.dict=Gs\/∃j L M,i.dict=Gq j/\j≠e/\s.heap.Ns1 j L/\Within L M/\M.length<=1)
  (h:∀h' tk j L M,h'.get? e=Gq {i with dict:=Gq j}->j≠e->(s.heap.get? j=Gs\/i.dict=Gq j)->h'.Ns1 j L->Within L M->(i.dict=Gs->M.length<=1)->(∀b o,b≠e->b≠j->s.heap.get? b=Gq o->h'.get? b=Gq o)->Q () {s with heap:=h',toks:=tk}):
  G0 (GO prog w) A (setAttr (.ref e) name v) Q E s:=by
 revert v i Q;delta prog w A K c f e E s name;revert Q;delta v i;delta Q;obtain⟨d,g,dr,l,os⟩:=s;delta d g dr l os;dsimp only at X J hd h;obtain⟨tb,nm,q,N,bs,sn,u,ab,Y,dd,k0,k1,k2,k3,k5,hl⟩:=k.cls;revert k0 k1 k2 k3 k5;delta tb nm q N bs sn u ab Y dd;delta k0 k1 k2 k3 k5;obtain⟨vs,P⟩:=W;delta vs
 have y:=PySem.F.store_Exception
 have V:Ls (GO prog w) d (OW (.ref e)) (.ref c):=(Mk J).andThen (by rw [hc];exact .now)
 have b':∃O,clsIn K c=Gq O/\O.mro=[.ref c,.ref tb,.type "Exception",.type "BaseException",.type "object"]/\O.hasDict=Gu:=⟨_,by unfold clsIn;rw [hl],rfl,rfl⟩
 obtain⟨O,B,t,C⟩:=b';delta O;refine Gv (wpAny_mkText (Gv (Gv (Gv (V _ _ _ _ (fun Z Z e=>e) (KD X k.set _ _ _ _ (fun Z Z e=>e) (Ha ?_)))))));rw [y.slot.bind];refine Gv (GR (Gv (J8 (IJ (R:=fun r s'=>match r with|.ok (.ret _)=>Q () s'|.ok _=>False|.error e=>E e s') ?_ fun r s' z=>by rcases r with e|(v|_|_|_)<;>first|exact z|exact GR (GR z)))))
 have u:Ls (GO prog w) d (OX (.ref e) (.type "object")) Gu:=V.andThen (looks_mroIn X (by unfold mroIn;rw [B,NP,t];simp))
 show IP _ _ (.call (.builtin "object.__setattr__") ⟨[.ref e,.str name l,v],[]⟩) _ _
 refine Lx y.slot.plain y.entry (@check_slot (GO prog w) _ _ _ "object.__setattr__" "object" "__setattr__" (.ref e) [.str name l,v] [] _ y.kind y.split u (y.args (.ref e) (.str name l) v) ?_)
 have hm:Ls (GO prog w) d (mroOf (.ref c)) O.mro:=(Ou X B).andThen .now
 rw [osa_eq,refuse_eq];refine Gv (Gv (V.at (Gv (hm.at ?_))));rw [t,refuseLoop_ref,refuseLoop_ref,y.passes];refine GR (Gv (V.at (Gv ((KD X hn).at (Gv (GR ?_))))));refine Gv (GR (Gv (Gv (Ni J ?_))));rw [hc];refine Gv ((Ou X B).at ?_);rw [C];rcases hd with c'|⟨j,L,M,p,S,d',hw,e'⟩
 ·simp only [c',P]
  have m:(d.push {cls:=.type "dict",data:=.dict #[]}).get? e=Gq i:=GQ _ J
  have D:e≠d.objs.size:=G6 (Hy J)
  refine Gv (wpAny_alloc' ?_);refine Gv (wpAny_update' m ?_);refine GR ?_
  have f':((d.push {cls:=.type "dict",data:=.dict #[]}).update e fun o=>{cls:=o.cls,dict:=Gq d.objs.size,data:=o.data,slots:=o.slots}).get? d.objs.size=Gq {cls:=.type "dict",data:=.dict #[]}:=
   (NI _ _ _ _ D.symm).trans (Heap.get?_push_at rfl rfl)
  have g':((d.push {cls:=.type "dict",data:=.dict #[]}).update e fun o=>{cls:=o.cls,dict:=Gq d.objs.size,data:=o.data,slots:=o.slots}).Ns d.objs.size (fun Z=>Gs):=
   ⟨_, #[],_,f',rfl,fun e he=>absurd he (by simp),fun Z=>rfl⟩
  show G0 _ _ (storeInDict d.objs.size (.str name l) name v) _ _ _
  refine Gv (GR (Gv (wpAny_nsSet1 (Heap.Ns1.of_empty g') fun h' n T=>?_)));obtain⟨oD,i',j',F,G,H⟩:=n.count (LL name v O9);refine Gv (MF F (by rw [G];exact MG (Gz H (by rw [HC,Jx,JP];exact(l0 0x1b7180909090909091871808)))) ?_)
  refine GR (h h' _ d.objs.size _ _ ?_ D.symm (.inl (aN _)) n (LL name v O9) (fun Z=>by simp) fun b ob U I hb=>?_)
  ·refine(T.2 e D).trans (H4 _ m ?_);obtain⟨oc,od,k',l'⟩:=i;cases P;rfl
  ·exact(T.2 b I).trans ((NI _ _ _ _ U).trans (GQ _ hb))
 ·simp only [p];refine GR ?_
  show G0 _ _ (storeInDict j (.str name l) name v) _ _ _
  refine Gv (GR (Gv (wpAny_nsSet1 d' fun h' n T=>?_)));obtain⟨oD,i',j',F,G,H⟩:=n.count (LL name v hw);refine Gv (MF F (by rw [G];exact MG (Gz H (by rw [HC,JP];exact(l1 0x1b1801b718090909090909187180) e'))) ?_)
  refine GR (h h' _ j _ _ ?_ S (.inr p) n (LL name v hw) (fun e=>by rw [p] at e;cases e) fun b ob U I hb=>(T.2 b I).trans hb)
  rw [(T.2 e S.symm).trans J];obtain⟨oc,od,k',l'⟩:=i;cases p;rfl
end
end
section
open Builtin Builtin.ObjectAttr
noncomputable def AC (b c d e f g i j k l m n o p:HO):List Iy:=
 [.Expr (.Call (.Attribute (.Name "Exception" b) "__init__" c) [.Name "self" d,.Name "what" e] [] f) g,
  .Assign [.Attribute (.Name "self" i) "what" j] (.Name "what" k) l,
  .Assign [.Attribute (.Name "self" m) "at" n] (.Name "at" o) p]
inductive A6 (K:I0) (f:GS):Prop where
 |mk (p1 p2 p3 p4 p5 p6 a1 a2 a3 a4 b1 b2 b3 b4:HO) (fo:JH) (fd:Kl) (hp:(p2.endLine==p5.line)=Gu) (hf:K.lookup f=Gq fo) (hfd:fo.data=.func fd) (FN:CN K fd (AC p1 p2 p3 p4 p5 p6 a1 a2 a3 a4 b1 b2 b3 b4)) (nm:fd.scope.names=fS) (bd:iC K fd ["self","what","at"] 2 [.none])
section
variable {u:U} {w:Hh} {A:Hf} {K:I0} {i f e:GS} {E:Gy->GA->Prop} {s:GA} {v:Gy} {c base:HV} {env:J2}
theorem pO (X:K.In s.heap) (k:kJ K i f) {pl:Kw Bool} {Q:Gy×List Gy->GA->Prop} (h:Q (.builtin "Exception.__init__",[]) {s with toks:=s.toks+1}):
  G0 (GO u.prog w) A (NO (.type "Exception") "__init__" pl) Q E s:=by
 have j:Manifest.isStub "Exception"=Gw:=by decide+kernel
 have b:MO (.type "Exception")=HE Gs:=by unfold MO;dsimp only;rw [j];rfl
 have d:Ls (GO u.prog w) s.heap (OW (.type "Exception")) (.type "type"):=MI rfl
 have g:J7 K (.type "type") "__getattribute__"=Gq (Gq (.builtin "type.__getattribute__")):=type_tga
 refine Gv (Gv (d.here ((KD X g).here ?_)));dsimp only;rw [if_pos canon_tga];refine Gv (G1 (Q:=fun v=>Q (v,[])) (E:=E) ?_ (fun Z Z z=>GR z) fun Z Z z=>z)
 have l:Ls (GO u.prog w) s.heap (MO (.type "Exception")) Gs:=MI b
 exact cls_open X l d g (looks_hook X (r:=Gs) (by rfl)) (by show subIn K _ _=_;rfl) k.ei
  (GR (by show G0 _ _ (handedOut _) _ _ _;rw [handedOut_of (by rfl)];exact GR h))
structure mo (c:HV) (env:J2) (x at_:Gy) (i e:GS) (s₀:GA) (s:GA) (dd:Option GS):Prop where
 ns:∃m,s.heap.Ns env.locals m/\m "self"=Gq (.ref e)/\m "what"=Gq x/\m "at"=Gq at_
 keep:∀b o,c.get? b=Gq o->s.heap.get? b=Gq o
 obj:∃t,s.heap.get? e=Gq (b5 i t dd)
 dn:∀dx,dd=Gq dx->c.get? dx=Gs/\dx≠env.locals
 gens:s.gens=s₀.gens
 os:s.os=s₀.os
def ud (e:GS) (s:GA) (d:Option GS):Prop:=d=Gs\/∃b g j,d=Gq b/\b≠e/\s.heap.Ns1 b g/\Within g j/\j.length<=1
theorem mo.name {x b:Gy} {d:GA} {j:Option GS} (k:env.scope.kind=.function) (I:mo c env x b i e d s j) {n:Hb} {y:Gy} {p:HO} {Q:Gy->GA->Prop} (l:env.kindOf n=Gq .local)
  (g:(n="self"/\y=.ref e)\/(n="what"/\y=x)\/(n="at"/\y=b)) (h:Q y s):G0 (GO u.prog w) A (J3 (.Name n p) env) Q E s:=by
 obtain⟨m,o,r,t,z⟩:=I.ns
 have q:(n==("__debug__":Hb))=Gw:=by rcases g with ⟨rfl,_⟩ |⟨rfl,_⟩ |⟨rfl,_⟩<;>decide+kernel
 refine wpAny_Name (Lq k l o ?_ h) q;rcases g with ⟨rfl,rfl⟩ |⟨rfl,rfl⟩ |⟨rfl,rfl⟩<;>assumption
theorem jL {x p:Gy} {j:GA} {F:Option GS} (J:env.scope.kind=.function) (P:env.scope.names=fS) (X:K.In c) (k:kJ K i f) (R:c.get? e=Gs) (S:env.locals≠e) (I:mo c env x p i e j s F) (D:ud e s F) (n:Hb) (y:Gy) {G H T U:HO} (V:J7 K (.ref i) n=Gq Gs)
  (L:(n="what"/\y=x)\/(n="at"/\y=p)) {Q:Nb->GA->Prop} (h:∀s' g,mo c env x p i e j s' (Gq g)->(F=Gs->ud e s' (Gq g))->Q .next s'):
  G0 (GO u.prog w) A (exec (.Assign [.Attribute (.Name "self" G) n H] (.Name n T) U) env) Q E s:=by
 have M:∀z:Hb,z="self"\/z="what"\/z="at"->env.kindOf z=Gq .local:=fun z W=>by
  unfold Ik;rw [P];rcases W with rfl|rfl|rfl<;>decide+kernel
 refine OM (I.name J (M n (.inr (L.imp (·.1) (·.1)))) (.inr L) ?_) rfl (by rfl)
 show G0 _ _ (JR y [Ju (.Attribute (.Name "self" G) n H) env]) _ _ _
 have r:G0 (GO u.prog w) A (Ju (.Attribute (.Name "self" G) n H) env y) (fun Z=>Q .next) E s:=by
  rw [Ph];refine Gv (Ha (I.name J (M _ (.inl rfl)) (.inl ⟨rfl,rfl⟩) (Gv (HQ (Gv (Ha ?_))))));obtain⟨t,Y⟩:=I.obj;refine zo (X.keeps I.keep) k Y rfl ⟨_,rfl⟩ V D fun h' tk g mA ns g1 g2 d g4 g5 g6 N=>wpAny_release (h _ g ?_ fun q=>.inr ⟨g,mA,ns,rfl,g2,g4,g5,g6 q⟩)
  have O:∀b o,s.heap.get? b=Gq o->(c.get? b≠Gs\/b=env.locals)->b≠g:=fun b o l B q=>by
   rcases d with d|d
   ·rw [q,d] at l;cases l
   ·have:=I.dn g d
    rcases B with B|B
    ·exact B (q▸this.1)
    ·exact this.2 (q▸B)
  obtain⟨m,⟨oL,es,ep,C,rL⟩,hm⟩:=I.ns;refine⟨⟨m,⟨oL,es,ep,N _ _ S (O _ _ C (.inr rfl)) C,rL⟩,hm⟩,fun b o l=>N b o (fun q=>by rw [q,R] at l;cases l) (O b o (I.keep b o l) (.inl fun q=>by rw [l] at q;cases q)) (I.keep b o l),⟨t,g1⟩,fun b' e'=>?_,I.gens,I.os⟩
  cases e';rcases d with d|d
  ·refine⟨?_,fun q=>by rw [<-q,d] at C;cases C⟩
   cases q:c.get? g with
   |none=>rfl
   |some o=>have:=I.keep _ _ q;rw [d] at this;cases this
  ·exact I.dn g d
 first
  |exact Gv (Ha (G1 r (fun Z s' k=>wpAny_pure k) fun Z Z x=>x))
  |exact Gv (G1 r (fun Z s' k=>wpAny_pure k) fun Z Z x=>x)
  |exact r
theorem kD {rest:List Gy} {h:HV} {g:Array GenState} {d:Drawn} {tk:Nat} {j:NU} {t₀:GS} {R:ME->GA->Prop} (X:K.In h) (k:kJ K i f) (y:h.get? e=Gq (b5 i t₀ Gs)) (m:rest.length<=JY)
  (J:∀h' L,(∀b o,b≠e->h.get? b=Gq o->h'.get? b=Gq o)->h'.get? e=Gq (b5 i L Gs)->R (.ok (.ret .none)) ⟨h',g,d,tk,j⟩):IP (GO u.prog w) A (.call (.builtin "Exception.__init__") ⟨.ref e::rest,[]⟩) R ⟨h,g,d,tk,j⟩:=by
 revert rest h g d tk j t₀ R;delta u w A K i f e;delta rest h g d tk j t₀ R;obtain⟨z,M,q,N,O,P,p,Q,r,S,B,C,D,G,H,T⟩:=k.cls;revert B C D G H;delta z M q N O P p Q r S;delta B C D G H
 have I:=X i _ T
 have F:=Km
 have l:=F.noStar
 have t:([.ref i,.ref z,.type "Exception",.type "BaseException",.type "object"]:List Gy).contains (.type "Exception")=Gu:=by simp
 refine Lx F.init.plain F.initEntry ?_;simp only [Pq,F.initKind,F.initSplit,F.initRow]
 repeat (first|with_reducible refine Iq y ?_|with_reducible refine Iq I ?_|(with_reducible refine Kv I ?_;rw [t]) |wp_step)
 refine wpAny_onRaise ?_
 rw [show∀(a b:String) (n:Nat),Bind.check ⟨.positional,"*","Exception",.self,[⟨"args",.varPos,Gw⟩]⟩ a b n (My (fun x=>x.fst) ({pos:=Jg e::rest}:Args).kw)=HE () from
  fun a b n=>check_star_args _ _ _ _ _ _]
 refine GR ?_
 wp_walk
 refine J _ h.objs.size (fun b o U V=>?_) ?_
 ·rw [Hl _ _ (Hw U)];exact GQ _ V
 ·rw [H4 _ (GQ _ y) rfl];rfl
theorem tt {x l:Gy} {j:GA} (y:env.scope.kind=.function) (O:env.scope.names=fS) (B:∃C,s.heap.Ns env.globals C/\C "Exception"=Gs) (D:∃G,s.heap.Ns env.builtins G/\G "Exception"=Gq (.type "Exception")) (X:K.In c) (k:kJ K i f) (he:c.get? e=Gs) (hL:env.locals≠e) (I:mo c env x l i e j s Gs) {R H S T n p6:HO} (hp:(H.endLine==n.line)=Gu)
  {Q:Nb->GA->Prop} (h:∀U,mo c env x l i e j U Gs->Q .next U):
  G0 (GO u.prog w) A (exec (.Expr (.Call (.Attribute (.Name "Exception" R) "__init__" H) [.Name "self" S,.Name "what" T] [] n) p6) env) Q E s:=by
 have V:∀z:Hb,z="self"\/z="what"\/z="at"->env.kindOf z=Gq .local:=fun z hz=>by
  unfold Ik;rw [O];rcases hz with rfl|rfl|rfl<;>decide+kernel
 obtain⟨C,B,J⟩:=B;obtain⟨G,D,L⟩:=D
 have F:=Km
 refine wpAny_Expr_any ?_ (by unfold interactive;simp [y]) rfl
 rw [ND,show∀p env (t:Kw Gy),LQ _ p env t=t from fun Z Z Z=>rfl]
 refine Gv (HW y (by unfold Ik;rw [O];decide+kernel) (OS B J D L ?_) (by decide+kernel))
 refine Gv (HQ ?_)
 have M:No 2 (K4 n (II [LV "self" S,LV "what" T] env)) (Mj n (KW [] env))=Gu:=rfl
 have r:Kg Gu (.Name "Exception" R) env H n=HE n:=by unfold Kg;simp [hp]
 refine Gv (Ha (pO (X.keeps I.keep) k ?_));refine Gv (MV r ?_);obtain⟨t,hx⟩:=I.obj
 have W:mo c env x l i e j {s with toks:=s.toks+1} Gs:=⟨I.ns,I.keep,I.obj,I.dn,I.gens,I.os⟩
 refine KV (P:=fun Z=>True) rfl (cH _) (JZ (Jw (W.name y (V _ (.inl rfl)) (.inl ⟨rfl,rfl⟩) (Jw (W.name y (V _ (.inr (.inl rfl))) (.inr (.inl ⟨rfl,rfl⟩)) (KT ⟨trivial,?_⟩))))));refine J8 ?_;obtain⟨hp,g,d,tk,os⟩:=s;refine kD (X.keeps I.keep) k hx (by simp [JP]) fun h' t' Y k2=>h _ ⟨?_,fun b o N=>Y b o (fun q=>by rw [q,he] at N;cases N) (I.keep b o N),⟨t',k2⟩,fun dx e'=>(by cases e'),I.gens,I.os⟩
 obtain⟨m,⟨oL,es,ep,eL,rL⟩,hm⟩:=I.ns;exact⟨m,⟨oL,es,ep,Y _ _ hL eL,rL⟩,hm⟩
end
end
section
open Builtin Builtin.ObjectAttr
section
variable {u:U} {w:Hh} {A:Hf} {d f e:GS} {E:Gy->GA->Prop} {s:GA} {c base:HV} {R:ME->GA->Prop}
theorem yT {x:Gy} {t₀:GS} (g:Gd u w base) (st:base.StaysIn c) (k:kJ (u.Kf w.params) d f) (FX:A6 (u.Kf w.params) f) (he:c.get? e=Gs) (hk:∀b o,c.get? b=Gq o->s.heap.get? b=Gq o) (hx:s.heap.get? e=Gq (b5 d t₀ Gs)) (hA:A.depth<KP)
  (hR:∀G t' H,(∀b o,c.get? b=Gq o->G.heap.get? b=Gq o)->G.heap.get? e=Gq (b5 d t' (Gq H))->G.gens=s.gens->G.os=s.os->R (.ok (.ret .none)) G):
  IP (GO u.prog w) A (.call (.ref f) ⟨[.ref e,x],[]⟩) R s:=by
 obtain⟨p1,p2,p3,p4,p5,p6,a1,a2,a3,a4,b1,b2,b3,b4,fo,fd,hp,hf,b',r,nm,bd⟩:=FX
 have m:(u.Kf w.params).In c:=g.inK.keeps st
 have X:=m.keeps hk
 have xd:(["self","what","at"]:List Hb).Nodup:=by decide+kernel
 have nd:(fS.map (·.1)).Nodup:=by decide+kernel
 refine Ob hA (X f fo hf) b' r.co r.gen r.body (codeRec_of X r.code) (nS X bd _ _ _ _ ?_);rw [r.clo]
 have zz:(["self","what","at"]:List Hb).zip ([.ref e,x]++[.none])=([("self",.ref e),("what",x),("at",.none)]:List (Hb×Gy)):=rfl
 have kl:∀z:Hb,z="self"\/z="what"\/z="at"->fS.lookup z=Gq .local:=fun z J=>by rcases J with rfl|rfl|rfl<;>decide+kernel
 refine Np r.kind (fun b K=>.inl ?_) fun j t G B=>?_
 ·rw [zz] at K;rw [nm];refine kl _ ?_;simp only [GH,List.not_mem_nil,or_false] at K;rcases K with rfl|rfl|rfl
  ·exact .inl rfl
  ·exact .inr (.inl rfl)
  ·exact .inr (.inr rfl)
 have L:j.locals=s.heap.objs.size:=by rw [t];rfl
 have M:j.scope=fd.scope:=by rw [t];rfl
 have c':j.globals=Iz:=by rw [t];exact r.glob
 have d':j.builtins=KM:=by rw [t];exact r.bi
 have C:j.scope.kind=.function:=by rw [M];exact r.kind
 have y:j.scope.names=fS:=by rw [M];exact nm
 obtain⟨h',tk,rfl⟩:=B.toInCall.same
 have n:=B.toInCall.keep
 have hL:j.locals≠e:=fun q=>by rw [<-q,L,aN] at hx;cases hx
 have kd:∀z:Hb,z="self"\/z="what"\/z="at"->j.kindOf z=Gq .local:=fun z J=>by unfold Ik;rw [y];exact kl z J
 have D:∀(i:Nat) (z:Hb) v,(["self","what","at"]:List Hb)[i]? =Gq z->([.ref e,x]++[.none]:List Gy)[i]? =Gq v->(z="self"\/z="what"\/z="at")->bindL j.kindOf ((["self","what","at"]:List Hb).zip ([.ref e,x]++[.none])) (fun Z=>Gs) z=Gq v:=fun i z v e1 e2 J=>nv xd e1 e2 (kd z J)
 have I:mo c j x .none d e s {s with heap:=h',toks:=tk} Gs:=⟨⟨_,B.toInCall.ns,D 0 _ _ rfl rfl (.inl rfl),D 1 _ _ rfl rfl (.inr (.inl rfl)),D 2 _ _ rfl rfl (.inr (.inr rfl))⟩,fun b o N=>n b o (hk b o N),⟨t₀,n _ _ hx⟩,fun H e'=>(by cases e'),rfl,rfl⟩
 obtain⟨mg,hg,_,F⟩:=g.globals;obtain⟨mb,K,O⟩:=g.builtins
 have P:(Ho "Exception")∈dg:=by decide
 have S:s.heap.NoLimit:=g.lim.keeps fun b o N=>hk b o (st b o N)
 refine⟨S.keeps n,codeAny_func (G1 (Q:=fun fl p=>fl=.next/\∃H,mo c j x .none d e s p (Gq H)) (E:=fun Z Z=>False) ?_ (fun fl p ⟨q,H,I'⟩=>?_) fun Z Z x=>x.elim)⟩
 ·have l:∀b o,base.get? b=Gq o->h'.get? b=Gq o:=fun b o N=>n b o (hk b o (st b o N))
  refine IU (tt C y ⟨mg,by rw [c'];exact hg.keeps l,F _ P⟩ ⟨mb,by rw [d'];exact K.keeps l,(O _ P).trans (by decide+kernel)⟩ m k he hL I hp fun g' T=>?_)
  refine IU (jL C y m k he hL T (.inl rfl) "what" x k.wh (.inl ⟨rfl,rfl⟩) fun p i' U V=>?_);refine IU (jL C y m k he hL U (V rfl) "at" .none k.at_ (.inr ⟨rfl,rfl⟩) fun j' W Y k'=>?_);exact Kq ⟨rfl,W,Y⟩
 ·subst q;obtain⟨t',f'⟩:=I'.obj;exact hR p t' H I'.keep f' I'.gens I'.os
end
end
section
open Builtin Builtin.ObjectAttr
theorem wG {M:Model} {A:Hf} {K:I0} {i f:GS} {env:J2} {E:Gy->GA->Prop} {s:GA} {x:Kw Gy} {Q:Nb->GA->Prop} (k:kJ K i f) (o:A.handled=Gs)
  (h:G0 M A x (fun v b=>∃e t l,v=.ref e/\K.In b.heap/\b.heap.get? e=Gq (b5 i t l)/\E (.ref e) b) E s):G0 M A (raiseStmt env (Gq x) Gs) Q E s:=by
 obtain⟨p,C,q,N,D,F,r,G,u,l,H,I,J,L,O,y⟩:=k.cls
 have j:([.ref i,.ref p,.type "Exception",.type "BaseException",.type "object"]:List Gy).contains (.type "BaseException")=Gu:=by simp
 refine Gv (G1 h (fun v b c=>?_) fun Z Z x=>x);obtain⟨e,t,m,rfl,X,z,B⟩:=c
 have n:=X i _ y
 obtain⟨P,g,d,R,S⟩:=b
 repeat (first|with_reducible refine Iq z ?_|with_reducible refine Iq n ?_|(with_reducible refine Kv n ?_;rw [j]) |wp_step)
 exact wpAny_raiseNew_none o B
section
variable {u:U}
set_option tactic.hygienic true in
theorem wv {f:GS} (kx:∀w:Hh,kJ (u.Kf w.params) u.te f) (FX:∀w:Hh,A6 (u.Kf w.params) f):rI u:=by
 revert f;delta u;delta f;intro d I x y H J k1 k2 p1 p2 p3 p4 p5 p6 p7 p8 p9 e e' hx hd b' hy c' S ns K w A c W hn g rm cf L G Y s Q X a h;revert p3 p4 p5 p6 p7 p8 p9 e e' w A c L G Y s Q X;delta d I x y H J k1 k2 p1 p2;revert w A c L G Y s Q X;delta p3 p4 p5 p6 p7 p8 p9 e e';revert L G Y s Q X;delta w A c;delta L G Y s Q X;subst c'
 have k:=kx w
 obtain⟨mg,hg,hv,_⟩:=g.globals;delta mg
 have h1:s.heap.Ns c.env.globals mg:=by rw [W.glob];exact hg.keeps a.inv.stays
 rw [arm_exec_Raise];refine Gv (HQ (wG k rm.handled (Gv (G1 (Jl (HW W.kind (by unfold Ik;rw [hn];exact hx) (Jk h1 (hv x _ b') ?_) hd)) (fun v i' M=>Gv (HQ (GR M))) fun Z Z x=>x))))
 refine KV (P:=(u.Kf w.params).In) rfl (nA k.kp) (JZ (Jw ?_));refine Oq (Oq (LY (cP hy (by decide) (by decide+kernel) (by decide+kernel) ns (.inr ⟨"str",rfl⟩) W hn g (a.tok _) (ay S W hn g rm (a.tok _) h fun v B C p z l j' N O=>?_))))
 delta v B C p z;obtain⟨i,rfl,i0,i1,hX⟩:=O;delta i;obtain⟨t,rfl⟩:=aE N;delta t
 have R:(Ho (Ln i)).length<=10:=toString_length_le i0 (by decide) (by omega)
 have sz:JY=JY:=rfl
 refine P.str_of_int ?_ (Me (fun t' tk=>LY (Me (fun F d'=>KT ?_) ?_)) ?_)
 ·by_cases q:i.natAbs=0
  ·rw [q];decide
  ·have:=(NB q).mpr (show i.natAbs<2^30 by omega)
   exact(l1 0x1ce91801c0989780) this
 ·delta tk F d'
  have D:(u.Kf w.params).In B.heap:=g.inK.keeps l.inv.stays
  refine⟨D,?_⟩;obtain⟨r,gs,dr,f',os⟩:=B;delta r gs dr f' os
  have st:=l.inv.stays
  have E:r.get? (r.objs.size+1)=Gs:=by
   cases e:r.get? (r.objs.size+1) with
   |none=>rfl
   |some o=>exact absurd (Hy e) (HN.mpr (Hk _))
  have kp:∀b o,r.get? b=Gq o->((r.push {cls:=.type "tuple",data:=.seq [P5 (H++Str.ofString (Ln i)++J) F].toArray}).push (b5 u.te r.objs.size Gs)).get? b=Gq o:=fun b o e=>GQ _ (GQ _ e)
  have T:((r.push {cls:=.type "tuple",data:=.seq [P5 (H++Str.ofString (Ln i)++J) F].toArray}).push (b5 u.te r.objs.size Gs)).get? (r.objs.size+1)=Gq (b5 u.te r.objs.size Gs):=by heap_get
  have g':(A.under (.builtin "type.__call__" ⟨[.ref u.te,.str (H++Str.ofString (Ln i)++J) F],[]⟩)).depth<KP:=by
   have h1:=rm.depth
   have h2:KP=1000:=rfl
   show A.depth+1<KP
   exact(l3 0x1b498938749187209d89e93811c17180) h1 h2
  refine J8 (wd D k (by simp [JP]) (yT (t₀:=r.objs.size) g st k (FX w) E kp T g' fun s' t' dx kk gx gg oo=>⟨rfl,?_⟩))
  have n:At c L C p s':=by
   have:=l.grow (h':=s'.heap) (t:=s'.toks) kk
   exact⟨this.inv,this.envr,this.adv,gg.trans l.gens,oo.trans l.os,this.pins⟩
  have U:=l.free E
  have V:=n.toOwn ⟨_,gx⟩ ⟨U.1.1,U.1.2.1⟩ fun j hj b hb=>by
   rcases hb with rfl|rfl
   ·exact(U.2.1 j hj).1
   ·exact(U.2.1 j hj).2
  obtain⟨m,hm,_⟩:=n.envr;refine⟨_,_,_,rfl,D.keeps kk,gx,C,p,[r.objs.size+1],V.inv,n.adv,n.gens,n.os,⟨_,_,_,rfl,gx,rfl,rfl,.inl ⟨rfl,rfl⟩⟩,fun b hb=>?_,⟨m,hm⟩,hX⟩;rw [GF.mp hb];exact U.2.2
 ·rw [Str.length_append]
  have e1:(H.cps.size:Nat)=H.length:=rfl
  have e2:(J.cps.size:Nat)=J.length:=rfl
  rw [JP];exact(l5 0x1b89e9387349d049d231ba811b0909090909091872710) K e1 e2 R
 ·have e1:(H.cps.size:Nat)=H.length:=rfl
  rw [JP];exact(l4 0x1b89e9387329d021ba811b09090909090918710) K e1 R
end
end
noncomputable def tF (K:I0) (b:Kl) (F:Fn) (xs:List Hb):Bool:=(b.scope.kind==.function)&&(!b.scope.isCoroutine&&(!b.scope.isGenerator&&(b.globals==Iz&&(b.builtins==KM&&(b.closure.isEmpty&&(codeIn K b.code b.qualname&&
 (GI (b.scope.names.map (·.1)).Nodup&&(GI xs.Nodup&&(slots b.scope.names xs F.ks&&GI (b.scope.names.length=F.n))))))))))
noncomputable def CQ (K:I0):Gy->MY
 |.ref T=>match K.lookup T with
  |some ⟨_,_,.seq ⟨[.int _ t]⟩ _,_⟩=>t
  |_=>0
 |_=>0
noncomputable def Cm (K:I0) (b:Kl) (xs:List Hb) (n:Nat):Option Int->Prop
 |none=>True
 |some i=>iC K b xs n [.int i (CQ K b.defaults)]
inductive CP (u:U) (K:I0) (f:GS) (F:Fn):Prop where
 |mk (fo:JH) (fd:Kl) (b:List Iy) (e1:K.lookup f=Gq fo) (e2:fo.data=.func fd) (e3:fd.body=.stmts b) (c:tF K fd F (fd.params.args.map (·.arg))=Gu) (b0:iC K fd (fd.params.args.map (·.arg)) F.ks.length []) (b1:Cm K fd (fd.params.args.map (·.arg)) (F.ks.length - 1) F.d) (S:∀d,f3 u d fd.scope.names b F.body)
theorem kU {u:U} {K:I0} {f:GS} {F:Fn} (h:CP u K f F) (d:Nat) {k:Nat} {ds:List V} (z:∀ {g xs},iC K g xs F.ks.length []->Cm K g xs (F.ks.length - 1) F.d->∃e,iC K g xs k e/\∀G,VReps G ds e):vI u d K f k F.n F.ks F.body ds:=by
 revert d k ds;delta u K f F;delta d k ds;obtain⟨i,g,b,A,B,C,c,D,E,S⟩:=h;delta i g b;obtain⟨e,q,r⟩:=z D E;delta e
 have j:=aa c
 have l:=aa j.2
 have m:=aa l.2
 have n:=aa m.2
 have o:=aa n.2
 have p:=aa o.2
 have s:=aa p.2
 have t:=aa s.2
 have v:=aa t.2
 have y:=aa v.2
 exact⟨_,b,i,g,e,A,B,⟨beq_iff_eq.mp j.1,kE l.1,kE m.1,beq_iff_eq.mp n.1,beq_iff_eq.mp o.1,List.isEmpty_iff.mp p.1,C,s.1⟩,of_decide_eq_true t.1,of_decide_eq_true v.1,oh y.1,S d,of_decide_eq_true y.2,q,r⟩
theorem B0 {u:U} (g:u.T=tab) (b:∀w:Hh,∀e∈fq,CP u (u.Kf w.params) e.1 e.2):bg u where
 T:=g
 call:=fun f F j d c Q X m k h=>nE (ds:=[]) (fun w=>kU (b w _ (b7 j)) d fun n Z=>⟨[],k▸n,fun Z=>.nil⟩) (by rw [g,GY];exact h)
 callD:=fun f F i j o d c Q X m k h=>nE (ds:=[.int i]) (fun w=>kU (b w _ (b7 j)) d fun{p q} _ l=>by
  rw [o, <-k] at l;exact⟨_,l,fun G=>.cons (bz i _) .nil⟩) (by rw [g];exact h)
set_option tactic.hygienic true in
theorem jx {K:I0} {h:HV} {N:GS} {b:Hb->Option Gy} {n:Hb} {v:Gy} (X:K.In h) (G:h.Ns N b) (e:nsIn K N n=Gq (Gq v)):b n=Gq v:=by
 delta K h N b n v;obtain⟨o,k,l,c,d,_,f⟩:=G;unfold nsIn at e
 split at e
 ·rename_i g m p i
  have:=X _ _ i
  rw [c] at this;cases this;cases d;rw [<-f];unfold nsFind findBy;rw [<-Array.find?_toList]
  split at e
  ·rename_i q j;rw [j];exact JI e
  ·split at e<;>cases e
 ·cases e
noncomputable def DQ (K:I0):Bool:=zP.all fun e=>match e.2 with
 |.ref f=>(lookC f tab.inits).isSome||keepIn K (.ref f)
 |_=>Gu
theorem kX {x:Hb} {v:Gy} {l:List (Hb×Gy)}:lookS x l=Gq v->(x,v)∈l:=by
 induction l with
 |nil=>
  intro h;cases h
 |cons e r b=>
  intro h;change ite _ _ _=_ at h
  split at h
  ·rename_i q;cases h;cases q;exact .head _
  ·exact .tail _ (b h)
structure we (K:I0):Prop where
 inits:tab.inits.all (fun e=>kq K e.1 e.2)=Gu
 fields:tab.fields.all (fun e=>iX K e.1&&e.2.all fun n=>rB K e.1 n)=Gu
 consts:tab.consts.all (fun e=>lP K e.1.1 e.1.2 e.2)=Gu
 meths:tab.meths.all (fun e=>wz K e.1.1 e.1.2 e.2)=Gu
 kp:DQ K=Gu
 sf:∀e∈DZ,ClsG K e.1.1 e.1.2 e.2
 exc:ExcOK K 71
 gl:zP.all (fun e=>nsIn K Iz e.1==Gq (Gq e.2))=Gu
 bi:dg.all (fun x=>nsIn K Iz x==Gq Gs)=Gu
 law:nsIn K Iz "law"=Gq (Gq (.ref 953))
 ex:kJ K 71 36
 exF:A6 K 36
noncomputable def Bu (p:Il) (b:Params->I0):U:=⟨p,tab,b,zP,71⟩
section
variable {p:Il} {c:Params->I0}
theorem zu (H:∀P,we (c P)):UO (Bu p c) where
 gl:=rfl
 T:=rfl
 te:=rfl
 tab:=fun w=>⟨(H _).inits,(H _).fields,(H _).consts,(H _).meths⟩
 so:=zm
 kp:=fun w x f d b=>by
  have:=Hg.mp (H w.params).kp _ (kX d)
  have b:lookC f Mine.tab.inits=Gs:=b
  simp only [b,Option.isSome_none,MU] at this;exact this
 sf:=fun w e g=>(H w.params).sf e g
 exc:=fun w=>(H _).exc
 rs:=wv (fun w=>(H w.params).ex) fun w=>(H w.params).exF
theorem vA (H:∀P,we (c P)) (Q:∀ {u},UO u->∀P,∀e∈fq,CP u (c P) e.1 e.2) {w:Hh} {s:GA} {y z:Hb->Option Gy} {A:Hf} (S:D3 A 21 []) (X:(c w.params).In s.heap) (m:s.heap.Ns Iz y) (T:s.heap.Ns KM z) (B:∀x:Hb,x≠"__name__"->z x=Kz x) (U:s.heap.NoLimit)
  (V:∃N,s.heap.Ns KL N) {L C:GS} {items:Array Gy} {is:List Int} {n:Nat} (W:y "law"=Gq (.ref C)) (D:s.heap.get? L=Gq (HM items n)) (hi:KS items.toList is) (Y:is.length<=63)
  {R:ME->GA->Prop} (hR:∀d,(∀b o,s.heap.get? b=Gq o->d.heap.get? b=Gq o)->d.gens=s.gens->d.os=s.os->R (.ok (.ret (.bool Gu))) d):IP (GO p w) A (.call (.ref C) ⟨[.ref L],[]⟩) R s:=by
 have F:bg (Bu p c):=B0 rfl fun w=>Q (zu H) w.params
 have E:C=953:=by
  have:=jx X m (H _).law
  rw [W] at this;cases this<;>rfl
 subst E
 have M:=Dh F (fun t h=>sV h) (X:=fun Z=>False) (σ:=⟨0,fun Z=>.dead⟩) (is:=is) ((l1 0x1bf93801b09492949f80) Y)
 have l:∀i,¬aT (⟨0,fun Z=>.dead⟩:Sg) i:=fun i h=>absurd h.1 (Mn _)
 have g:Gd (Bu p c) w s.heap:=by
  refine⟨X,⟨y,m,fun x v h=>?_,fun x G=>?_⟩,⟨z,T,fun x G=>B x ?_⟩,U⟩
  ·have:=Hg.mp (H w.params).gl _ (kX h)
   exact jx X m (beq_iff_eq.mp this)
  ·have:=Hg.mp (H w.params).bi _ G
   exact ns_none_of X m (beq_iff_eq.mp this)
  ·have h:dg.all (fun x=>GI (x≠"__name__"))=Gu:=by decide+kernel
   exact of_decide_eq_true (Hg.mp h x G)
 obtain⟨N,om,es,ep,O,I,_⟩:=V
 have ne:L≠KL:=fun q=>by
  rw [q,O] at D;cases D;cases I
 have iv:ff s.heap [] [] ⟨0,fun Z=>0,fun Z=>0,fun a=>if a=L then Gq (HM items n) else Gs⟩ ⟨0,fun Z=>.dead⟩ s.heap:=by
  refine⟨rfl,fun Z Z e=>e,trivial,fun i h=>absurd h (l i),fun i h=>absurd h (l i),fun i h=>absurd h (l i),fun i j h=>absurd h (l i),fun a o e=>?_,fun b h=>(nomatch h),fun e h=>(nomatch h),⟨om,O⟩,if_neg (Hw ne)⟩;simp only at e
  split at e
  ·rename_i q;cases e;rw [q];exact D
  ·cases e
 have rv:VReps ⟨0,fun Z=>0,fun Z=>0,fun a=>if a=L then Gq (HM items n) else Gs⟩ [.lst (is.map .int)] [.ref L]:=
  .cons (by exact⟨L,items,n,rfl,if_pos rfl,jr hi⟩) .nil
 refine IJ (M w A s.heap [] [] _ s _ g S iv (GL _) rv) fun r d k=>?_;unfold eE at k
 split at k
 ·obtain⟨G',b',x,c',av,J,K,rx,rfl⟩:=k;cases gr rx;refine hR d (fun b o e=>?_) J K;obtain⟨o',e',h⟩:=av.keep b o e fun i h=>absurd h (l i);rcases h with rfl|⟨h,_⟩
  ·exact e'
  ·cases h
 ·exact k.elim
 ·obtain⟨_,_,_,_,_,_,_,_,_,f⟩:=k;exact f.elim
end
noncomputable section
universe v1
variable {i β:Type}
theorem bE {p:Prop} [Decidable p] {f:p->Bool} (h:(if x:p then f x else Gw)=Gu):p:=by
 by_cases q:p
 ·exact q
 ·rw [dif_neg q] at h;cases h
noncomputable def o0 (l:List i) (b:Bool):Bool:=H8 l b fun Z Z=>Gw
noncomputable def oC (l:List i) (f:i->List i->Bool):Bool:=H8 l Gw f
noncomputable def o1 (l:List i) (f:i->Bool):Bool:=oC l fun a r=>o0 r (f a)
noncomputable def o2 (l:List i) (f:i->i->Bool):Bool:=oC l fun a r=>o1 r (f a)
noncomputable def oS (o:Option i) (f:i->Bool):Bool:=Kh o Gw f
noncomputable def oN (o:Option i) (b:Bool):Bool:=Kh o b fun Z=>Gw
@[elab_as_elim] theorem db {l:List i} {b:Bool} {P:List i->Prop} (h:o0 l b=Gu) (k:b=Gu->P []):P l:=H8 (motive:=fun l=>o0 l b=Gu->P l) l k (fun Z Z h=>nomatch h) h
@[elab_as_elim] theorem k7 {l:List i} {f:i->List i->Bool} {P:List i->Prop} (h:oC l f=Gu) (k:∀a r,f a r=Gu->P (a::r)):P l:=H8 (motive:=fun l=>oC l f=Gu->P l) l (fun h=>nomatch h) k h
@[elab_as_elim] theorem aW {l:List i} {f:i->Bool} {P:List i->Prop} (h:o1 l f=Gu) (k:∀a,f a=Gu->P [a]):P l:=k7 h fun a Z h=>db (P:=fun r=>P (a::r)) h (k a)
@[elab_as_elim] theorem dN {l:List i} {f:i->i->Bool} {P:List i->Prop} (h:o2 l f=Gu) (k:∀a b,f a b=Gu->P [a,b]):P l:=k7 h fun a Z h=>aW (P:=fun r=>P (a::r)) h (k a)
@[elab_as_elim] theorem lp {o:Option i} {f:i->Bool} {P:Option i->Prop} (h:oS o f=Gu) (k:∀a,f a=Gu->P (Gq a)):P o:=Kh (motive:=fun l=>oS l f=Gu->P l) o (fun h=>nomatch h) k h
@[elab_as_elim] theorem ly {o:Option i} {b:Bool} {P:Option i->Prop} (h:oN o b=Gu) (k:b=Gu->P Gs):P o:=Kh (motive:=fun l=>oN l b=Gu->P l) o k (fun Z h=>nomatch h) h
noncomputable def mZ (e:GW) (f:BoolOp->List GW->HO->Bool):Bool:=if h:e.ctorIdx=0 then M3 (motive_1:=fun Z=>Bool) e h f else Gw
noncomputable def s8 (e:GW) (f:GW->Lp->GW->HO->Bool):Bool:=if h:e.ctorIdx=2 then Nq (motive_1:=fun Z=>Bool) e h f else Gw
noncomputable def Fm (e:GW) (f:UnaryOp->GW->HO->Bool):Bool:=if h:e.ctorIdx=3 then MP (motive_1:=fun Z=>Bool) e h f else Gw
noncomputable def FR (e:GW) (f:GW->GW->GW->HO->Bool):Bool:=if h:e.ctorIdx=5 then Nr (motive_1:=fun Z=>Bool) e h f else Gw
noncomputable def qZ (e:GW) (f:List (Option GW)->List GW->HO->Bool):Bool:=if h:e.ctorIdx=6 then NJ (motive_1:=fun Z=>Bool) e h f else Gw
noncomputable def Ct (e:GW) (f:GW->List JD->IN->HO->Bool):Bool:=if h:e.ctorIdx=8 then Mo (motive_1:=fun Z=>Bool) e h f else Gw
noncomputable def EM (e:GW) (f:GW->GW->List JD->IN->HO->Bool):Bool:=if h:e.ctorIdx=10 then Mp (motive_1:=fun Z=>Bool) e h f else Gw
noncomputable def lN (e:GW) (f:GW->List CmpOp->List GW->HO->Bool):Bool:=if h:e.ctorIdx=15 then MQ (motive_1:=fun Z=>Bool) e h f else Gw
noncomputable def qJ (e:GW) (f:GW->List GW->List J0->HO->Bool):Bool:=if h:e.ctorIdx=16 then NK (motive_1:=fun Z=>Bool) e h f else Gw
noncomputable def fW (e:GW) (f:OA->Nat->HO->Bool):Bool:=if h:e.ctorIdx=19 then Mq (motive_1:=fun Z=>Bool) e h f else Gw
noncomputable def Ac (e:GW) (f:GW->Hb->HO->Bool):Bool:=if h:e.ctorIdx=20 then L5 (motive_1:=fun Z=>Bool) e h f else Gw
noncomputable def m8 (e:GW) (f:GW->GW->HO->Bool):Bool:=if h:e.ctorIdx=21 then L6 (motive_1:=fun Z=>Bool) e h f else Gw
noncomputable def fh (e:GW) (f:Hb->HO->Bool):Bool:=if h:e.ctorIdx=23 then NL (motive_1:=fun Z=>Bool) e h f else Gw
noncomputable def Fq (e:GW) (f:List GW->HO->Bool):Bool:=if h:e.ctorIdx=24 then NM (motive_1:=fun Z=>Bool) e h f else Gw
noncomputable def Cw (e:GW) (f:List GW->Nat->HO->Bool):Bool:=if h:e.ctorIdx=25 then Nt (motive_1:=fun Z=>Bool) e h f else Gw
noncomputable def D1 (e:GW) (f:Option GW->Option GW->Option GW->HO->Bool):Bool:=if h:e.ctorIdx=26 then Nu (motive_1:=fun Z=>Bool) e h f else Gw
@[elab_as_elim] theorem dk {a b:i} [Decidable (a=b)] {P:i->Prop} (h:GI (a=b)=Gu) (k:P b):P a:=of_decide_eq_true h▸k
variable {e:GW} {P:GW->Prop}
@[elab_as_elim] theorem jw {f} (h:mZ e f=Gu) (k:∀a b c,f a b c=Gu->P (.BoolOp a b c)):P e:=M3 (motive_1:=fun e=>mZ e f=Gu->P e) e (bE h) k h
@[elab_as_elim] theorem iS {f} (h:s8 e f=Gu) (k:∀a b c d,f a b c d=Gu->P (.BinOp a b c d)):P e:=Nq (motive_1:=fun e=>s8 e f=Gu->P e) e (bE h) k h
@[elab_as_elim] theorem AR {f} (h:Fm e f=Gu) (k:∀a b c,f a b c=Gu->P (.UnaryOp a b c)):P e:=MP (motive_1:=fun e=>Fm e f=Gu->P e) e (bE h) k h
@[elab_as_elim] theorem BD {f} (h:FR e f=Gu) (k:∀a b c d,f a b c d=Gu->P (.IfExp a b c d)):P e:=Nr (motive_1:=fun e=>FR e f=Gu->P e) e (bE h) k h
@[elab_as_elim] theorem nk {f} (h:qZ e f=Gu) (k:∀a b c,f a b c=Gu->P (.Dict a b c)):P e:=NJ (motive_1:=fun e=>qZ e f=Gu->P e) e (bE h) k h
@[elab_as_elim] theorem mF {f} (h:Ct e f=Gu) (k:∀a b c d,f a b c d=Gu->P (.ListComp a b c d)):P e:=Mo (motive_1:=fun e=>Ct e f=Gu->P e) e (bE h) k h
@[elab_as_elim] theorem AV {f} (h:EM e f=Gu) (k:∀a b c d g,f a b c d g=Gu->P (.DictComp a b c d g)):P e:=Mp (motive_1:=fun e=>EM e f=Gu->P e) e (bE h) k h
@[elab_as_elim] theorem eD {f} (h:lN e f=Gu) (k:∀a b c d,f a b c d=Gu->P (.Compare a b c d)):P e:=MQ (motive_1:=fun e=>lN e f=Gu->P e) e (bE h) k h
@[elab_as_elim] theorem wP {f} (h:qJ e f=Gu) (k:∀a b c d,f a b c d=Gu->P (.Call a b c d)):P e:=NK (motive_1:=fun e=>qJ e f=Gu->P e) e (bE h) k h
@[elab_as_elim] theorem bN {f} (h:fW e f=Gu) (k:∀a b c,f a b c=Gu->P (.Constant a b c)):P e:=Mq (motive_1:=fun e=>fW e f=Gu->P e) e (bE h) k h
@[elab_as_elim] theorem ii {f} (h:Ac e f=Gu) (k:∀a b c,f a b c=Gu->P (.Attribute a b c)):P e:=L5 (motive_1:=fun e=>Ac e f=Gu->P e) e (bE h) k h
@[elab_as_elim] theorem fH {f} (h:m8 e f=Gu) (k:∀a b c,f a b c=Gu->P (.Subscript a b c)):P e:=L6 (motive_1:=fun e=>m8 e f=Gu->P e) e (bE h) k h
@[elab_as_elim] theorem aQ {f} (h:fh e f=Gu) (k:∀a b,f a b=Gu->P (.Name a b)):P e:=NL (motive_1:=fun e=>fh e f=Gu->P e) e (bE h) k h
@[elab_as_elim] theorem Bz {f} (h:Fq e f=Gu) (k:∀a b,f a b=Gu->P (.List a b)):P e:=NM (motive_1:=fun e=>Fq e f=Gu->P e) e (bE h) k h
@[elab_as_elim] theorem mj {f} (h:Cw e f=Gu) (k:∀a b c,f a b c=Gu->P (.Tuple a b c)):P e:=Nt (motive_1:=fun e=>Cw e f=Gu->P e) e (bE h) k h
@[elab_as_elim] theorem tS {f} (h:D1 e f=Gu) (k:∀a b c d,f a b c d=Gu->P (.Slice a b c d)):P e:=Nu (motive_1:=fun e=>D1 e f=Gu->P e) e (bE h) k h
end
noncomputable section
noncomputable def pM (l:List GW):Bool:=l.all fun e=>!Ht e.ctorIdx 22
theorem dI {l:List GW} (h:pM l=Gu):noStar l:=by
 induction l with
 |nil=>trivial
 |cons e r b=>
  refine⟨?_,b (aa h).2⟩
  have h:=(aa h).1
  cases e<;>first|exact fun Z Z=>rfl|cases h
theorem me {e:GW} (h:(!Ht e.ctorIdx 7)=Gu):iB e:=by cases e<;>first|exact fun Z=>rfl|cases h
theorem iW {e:GW} (h:(!Ht e.ctorIdx 7)=Gu):fu e:=by cases e<;>first|exact fun Z Z=>rfl|cases h
noncomputable def DW (e:GW):Bool:=bif Ht e.ctorIdx 16 then qJ e fun g b Z Z=>fh g fun Z Z=>oC b fun Z Z=>Gu else Gu
theorem F6 {a ks p} {b:List GW} (h:fh a (fun Z Z=>oC b fun Z Z=>Gu)=Gu):cX (.Call a b ks p):=aQ h fun Z Z h=>k7 h fun Z Z Z Z Z Z=>rfl
theorem mK {e:GW} (h:DW e=Gu):cX e:=by cases e<;>first|exact fun Z Z Z=>rfl|exact F6 h
theorem uX {e:GW} (h:(!Ht e.ctorIdx 26)=Gu):ow e:=by cases e<;>first|exact fun Z Z=>rfl|cases h
noncomputable def Cu (e:GW):Bool:=!Ht e.ctorIdx 8&&(!Ht e.ctorIdx 9&& !Ht e.ctorIdx 10)
theorem nO {e:GW} (h:Cu e=Gu):cj e:=by cases e<;>first|exact fun Z Z Z=>rfl|cases h
noncomputable def Fu (e:GW):Bool:=bif Ht e.ctorIdx 15 then lN e fun Z b c Z=>o1 b fun Z=>o1 c fun Z=>Gu else bif Ht e.ctorIdx 23 then fh e fun Z Z=>Gu else bif Ht e.ctorIdx 21 then m8 e fun Z Z Z=>Gu else s8 e fun Z Z Z Z=>Gu
theorem bf {c a b:Bool} {G:Prop} (h:(bif c then a else b)=Gu) (k:a=Gu->G) (d:c=Gw->b=Gu->G):G:=match c with
 |true=>k h
 |false=>d rfl h
theorem zQ {e:GW} (h:Fu e=Gu):dX e:=bf h (fun h=>eD h fun a b c p h=>aW h fun o h=>aW h fun r Z=>.inr ⟨_,_,_,_,rfl⟩) fun Z h=>bf h (fun h=>aQ h fun Z Z Z=>.inl fun Z Z=>rfl) fun Z h=>bf h (fun h=>fH h fun Z Z Z Z=>.inl fun Z Z=>rfl) fun Z h=>iS h fun Z Z Z Z Z=>.inl fun Z Z=>rfl
variable {u:U} {d:Nat} {N:Ns}
noncomputable def Cv (r:GW->E->Bool) (l:List GW):List E->Bool:=Jc (fun b=>H8 b Gu fun Z Z=>Gw) (fun e Z t b=>H8 b Gw fun c q=>r e c&&t q) l
theorem j6 {r:GW->E->Bool} (f:∀e c,r e c=Gu->ao u d N e c) {l:List GW}:∀b,Cv r l b=Gu->SndEs u d N l b:=by
 induction l with
 |nil=>exact fun b=>H8 b (fun Z=>trivial) fun Z Z h=>nomatch h
 |cons e t g=>exact fun b=>H8 b (fun h=>nomatch h) fun c q h=>⟨f _ _ (aa h).1,g q (aa h).2⟩
noncomputable def sr (l:List JD) (f:Hb->HO->GW->Bool):Bool:=o1 l fun g=>fh g.target fun x p=>o0 g.ifs (GI (g.is_async=0)&&f x p g.iter)
@[elab_as_elim] theorem gw {l:List JD} {f} {P:List JD->Prop} (h:sr l f=Gu) (k:∀x p i,f x p i=Gu->P [⟨.Name x p,i,[],0⟩]):P l:=aW h fun⟨t,i,b,a⟩ h=>aQ (show fh t (fun x p=>o0 b (GI (a=0)&&f x p i))=Gu from h) fun x p h=>db h fun h=>dk (aa h).1 (k _ _ _ (aa h).2)
noncomputable def pG (e:GW) (f:GW->List GW->HO->Bool):Bool:=qJ e fun g b c p=>o0 c (f g b p)
@[elab_as_elim] theorem ca {e:GW} {f} {P:GW->Prop} (h:pG e f=Gu) (k:∀a b p,f a b p=Gu->P (.Call a b [] p)):P e:=wP h fun a b c p h=>db h (k a b p)
noncomputable def zL (r:Ns->GW->E->Bool) (N:Ns) (s:Hb) (e:GW) (b:List E):Bool:=o1 b fun c=>pG e fun g f p=>fh g fun x Z=>o1 f fun a=>q9 N x s&&(pM [a]&&r N a c)
noncomputable def Fp (r:Ns->GW->E->Bool) (N:Ns) (s:Hb) (e:GW) (c:List E):Bool:=o2 c fun f i=>pG e fun g j p=>fh g fun x Z=>o2 j fun a b=>q9 N x s&&(pM [a,b]&&(r N a f&&r N b i))
noncomputable def Cs (e:GW) (s:Hb) (f:GW->List GW->Bool):Bool:=pG e fun g b p=>Ac g fun o x c=>DW o&&(GI (x=s)&&((c.endLine==p.line)&&f o b))
noncomputable def Dl (r:Ns->GW->E->Bool) (N:Ns) (e:GW) (f:List E):lM->Bool
 |.tup=>Cw e fun l Z Z=>pM l&&Cv (r N) l f
 |.lst=>Fq e fun l Z=>pM l&&Cv (r N) l f
 |.dct0=>o0 f (qZ e fun ks vs Z=>o0 ks (o0 vs Gu))
 |.attr n=>o1 f fun a=>Ac e fun o x Z=>DW o&&(GI (nm n=x)&&r N o a)
 |.idx=>o2 f fun a b=>m8 e fun x y Z=>!Ht y.ctorIdx 26&&(r N x a&&r N y b)
 |.from1=>o1 f fun a=>m8 e fun l s Z=>fh l fun n q=>D1 s fun x y z Z=>oS x fun x=>fW x fun c Z Z=>oN y (oN z (GI (c=.int 1)&&r N (.Name n q) a))
 |.upto24=>o1 f fun a=>m8 e fun l s Z=>fh l fun n q=>D1 s fun x y z Z=>oS y fun y=>fW y fun c Z Z=>oN x (oN z (GI (c=.int 24)&&r N (.Name n q) a))
 |.bin op=>o2 f fun a b=>s8 e fun x o y Z=>GI (o=op.m)&&(r N x a&&r N y b)
 |.rel op=>o2 f fun a b=>lN e fun x i j Z=>o1 i fun o=>o1 j fun y=>GI (o=op.m)&&(!Ht y.ctorIdx 7&&(r N x a&&r N y b))
 |.isNone=>o1 f fun a=>lN e fun x i j Z=>o1 i fun o=>o1 j fun y=>fW y fun c Z Z=>GI (c=.none)&&(GI (o=.Is)&&r N x a)
 |.notNone=>o1 f fun a=>lN e fun x i j Z=>o1 i fun o=>o1 j fun y=>fW y fun c Z Z=>GI (c=.none)&&(GI (o=.IsNot)&&r N x a)
 |.inn=>o2 f fun a b=>lN e fun x i j Z=>o1 i fun o=>o1 j fun y=>GI (o=.In)&&(!Ht y.ctorIdx 7&&(r N x a&&r N y b))
 |.notIn=>o2 f fun a b=>lN e fun x i j Z=>o1 i fun o=>o1 j fun y=>GI (o=.NotIn)&&(!Ht y.ctorIdx 7&&(r N x a&&r N y b))
 |.not=>Gw
 |.app=>Gw
 |.pop=>o1 f fun a=>Cs e "pop" fun o k=>o0 k (r N o a)
 |.rev=>o1 f fun a=>Cs e "reverse" fun o k=>o0 k (r N o a)
 |.sortedKeys=>o1 f fun a=>pG e fun g k p=>fh g fun x Z=>o1 k fun b=>q9 N x "sorted"&&Cs b "keys" fun o m=>o0 m (r N o a)
 |.get=>Gw
 |.len=>zL r N "len" e f
 |.sorted=>zL r N "sorted" e f
 |.tupleOf=>zL r N "tuple" e f
 |.intOf=>zL r N "int" e f
 |.abs=>zL r N "abs" e f
 |.sum=>zL r N "sum" e f
 |.ord=>zL r N "ord" e f
 |.max=>Fp r N "max" e f
 |.min=>Fp r N "min" e f
section
variable {r:Ns->GW->E->Bool} (ih:∀N e e',r N e e'=Gu->ao u d N e e') {e:GW} {i:List E}
include ih
theorem f5 {s:Hb} {q:List E->E} (h:zL r N s e i=Gu) (k:∀ {x c pos a b},N.lookup x=Gq .globalImplicit->x=s->ao u d N a b->noStar [a]->ao u d N (.Call (.Name x c) [a] [] pos) (q [b])):ao u d N e (q i):=
 aW h fun b h=>ca h fun g f p h=>aQ h fun x c h=>aW h fun a h=>k (cV (aa h).1).1 (cV (aa h).1).2 (ih _ _ _ (aa (aa h).2).2) (dI (aa (aa h).2).1)
theorem tE {s:Hb} {q:List E->E} (h:Fp r N s e i=Gu) (k:∀ {x j pos a c b f},N.lookup x=Gq .globalImplicit->x=s->ao u d N a c->ao u d N b f->noStar [a,b]->ao u d N (.Call (.Name x j) [a,b] [] pos) (q [c,f])):ao u d N e (q i):=
 dN h fun c f h=>ca h fun g l p h=>aQ h fun x j h=>dN h fun a b h=>
  k (cV (aa h).1).1 (cV (aa h).1).2 (ih _ _ _ (aa (aa (aa h).2).2).1) (ih _ _ _ (aa (aa (aa h).2).2).2) (dI (aa (aa h).2).1)
omit ih in
@[elab_as_elim] theorem jf {s:Hb} {f:GW->List GW->Bool} {P:GW->Prop} (h:Cs e s f=Gu) (k:∀ {o x ap p as},cX o->x=s->(ap.endLine==p.line)=Gu->f o as=Gu->P (.Call (.Attribute o x ap) as [] p)):P e:=
 ca h fun g as p h=>ii h fun o x ap h=>k (mK (aa h).1) (of_decide_eq_true (aa (aa h).2).1) (aa (aa (aa h).2).2).1 (aa (aa (aa h).2).2).2
theorem yy (m:UO u) (p:lM) (h:Dl r N e i p=Gu):ao u d N e (.op p i):=by
 cases p with
 |tup=>exact mj h fun l k p h=>xo (j6 (ih N) _ (aa h).2) (dI (aa h).1)
 |lst=>exact Bz h fun l p h=>w7 (j6 (ih N) _ (aa h).2) (dI (aa h).1)
 |dct0=>exact db h fun h=>nk h fun D E p h=>db h fun h=>db h fun Z=>vw
 |attr n=>exact aW h fun a h=>ii h fun o x p h=>BZ m (ih _ _ _ (aa (aa h).2).2) (mK (aa h).1) (aa (aa h).2).1
 |idx=>exact dN h fun a b h=>fH h fun x y p h=>zw (ih _ _ _ (aa (aa h).2).1) (ih _ _ _ (aa (aa h).2).2) (uX (aa h).1)
 |from1=>exact aW h fun a h=>fH h fun l s p h=>aQ h fun x q h=>tS h fun y z w q h=>lp h fun y h=>bN h fun c k p h=>ly h fun h=>ly h fun h=>dk (aa h).1 (r8 (ih _ _ _ (aa h).2))
 |upto24=>exact aW h fun a h=>fH h fun l s p h=>aQ h fun x q h=>tS h fun y z w q h=>lp h fun y h=>bN h fun c k p h=>ly h fun h=>ly h fun h=>dk (aa h).1 (qr (ih _ _ _ (aa h).2))
 |bin v=>exact dN h fun a b h=>iS h fun x o y p h=>Dk (ih _ _ _ (aa (aa h).2).1) (ih _ _ _ (aa (aa h).2).2) (of_decide_eq_true (aa h).1)
 |rel v=>exact dN h fun a b h=>eD h fun x f j p h=>aW h fun o h=>aW h fun y h=>Dc (ih _ _ _ (aa (aa (aa h).2).2).1) (ih _ _ _ (aa (aa (aa h).2).2).2) (me (aa (aa h).2).1) (of_decide_eq_true (aa h).1)
 |isNone=>exact aW h fun a h=>eD h fun x f j p h=>aW h fun o h=>aW h fun y h=>bN h fun c k p h=>dk (aa h).1 (dk (aa (aa h).2).1 (qy (ih _ _ _ (aa (aa h).2).2)))
 |notNone=>exact aW h fun a h=>eD h fun x f j p h=>aW h fun o h=>aW h fun y h=>bN h fun c k p h=>dk (aa h).1 (dk (aa (aa h).2).1 (oU (ih _ _ _ (aa (aa h).2).2)))
 |inn=>exact dN h fun a b h=>eD h fun x f j p h=>aW h fun o h=>aW h fun y h=>dk (aa h).1 (Bn (ih _ _ _ (aa (aa (aa h).2).2).1) (ih _ _ _ (aa (aa (aa h).2).2).2) (me (aa (aa h).2).1))
 |notIn=>exact dN h fun a b h=>eD h fun x f j p h=>aW h fun o h=>aW h fun y h=>dk (aa h).1 (sZ (ih _ _ _ (aa (aa (aa h).2).2).1) (ih _ _ _ (aa (aa (aa h).2).2).2) (me (aa (aa h).2).1))
 |not=>exact nomatch (h:Gw=Gu)
 |app=>exact nomatch (h:Gw=Gu)
 |pop=>exact aW h fun a h=>jf h fun b x l h=>db h fun h=>yN (ih _ _ _ h) b x l
 |rev=>exact aW h fun a h=>jf h fun b x l h=>db h fun h=>ye (ih _ _ _ h) b x l
 |sortedKeys=>exact aW h fun a h=>ca h fun g F p h=>aQ h fun x G h=>aW h fun b h=>jf (aa h).2 fun A B C t=>db t fun t=>jK m.so (cV (aa h).1).1 (cV (aa h).1).2 (ih _ _ _ t) A B C
 |get=>exact nomatch (h:Gw=Gu)
 |len=>exact f5 ih (q:=.op .len) h zs
 |sorted=>exact f5 ih (q:=.op .sorted) h (qd m.so)
 |tupleOf=>exact f5 ih (q:=.op .tupleOf) h o6
 |intOf=>exact f5 ih (q:=.op .intOf) h rW
 |abs=>exact f5 ih (q:=.op .abs) h zd
 |sum=>exact f5 ih (q:=.op .sum) h xH
 |ord=>exact f5 ih (q:=.op .ord) h xG
 |max=>exact tE ih (q:=.op .max) h yS
 |min=>exact tE ih (q:=.op .min) h xb
end
end
noncomputable section
variable {u:U} {d:Nat} {N:Ns}
noncomputable def DM (c:OA) (f:Int->Bool):Bool:=OQ c Gw (fun Z=>Gw) f (fun Z=>Gw) (fun Z Z=>Gw) (fun Z=>Gw) (fun Z=>Gw) Gw
@[elab_as_elim] theorem zg {c:OA} {f} {P:OA->Prop} (h:DM c f=Gu) (k:∀i,f i=Gu->P (.int i)):P c:=by
 cases c with
 |int i=>exact k i h
 |_=>exact nomatch (h:Gw=Gu)
noncomputable def F2 (N:Ns) (e:GW):V->Bool
 |.none=>fW e fun c Z Z=>GI (c=.none)
 |.bool b=>fW e fun c Z Z=>GI (c=.bool b)
 |.int i=>bif Ht e.ctorIdx 19 then fW e fun c Z Z=>GI (c=.int i) else bif Ht e.ctorIdx 23 then fh e fun x Z=>D4 N x&&Bb (lookS x zP) i else Fm e fun o a Z=>fW a fun c Z Z=>GI (o=.USub)&&DM c fun j=>GI (i= -j)
 |.str k=>fW e fun c Z Z=>GI (c=.str (nm k))
 |.tup _=>Gw
 |.lst _=>Gw
 |.obj _ _ _=>Gw
 |.dic _ _=>Gw
 |.ref _=>Gw
theorem Bv (f:UO u) {e:GW} (v:V) (h:F2 N e v=Gu):ao u d N e (.const v):=by
 cases v with
 |none=>exact bN h fun c k p h=>dk h vF
 |bool b=>exact bN h fun c k p h=>dk h oE
 |int i=>exact bf h (fun h=>bN h fun c k p h=>dk h xc) fun Z h=>bf h (fun h=>aQ h fun x p h=>AQ f h) fun Z h=>AR h fun o a p h=>bN h fun c k q h=>dk (aa h).1 (zg (aa h).2 fun j h=>dk h vf)
 |str k=>exact bN h fun c k p h=>dk h (yX rfl)
 |_=>exact nomatch (h:Gw=Gu)
noncomputable def DV (r:Ns->GW->E->Bool) (N:Ns) (e:IN) (b:List (Option Nat)) (t:Nat) (f:GW) (c:E) (x:Hb):Bool:=fw N e b t x&&r (dq e) f c
noncomputable def DE (r:Ns->GW->E->Bool) (N:Ns) (e:GW):E->Bool
 |.const v=>F2 N e v
 |.loc k=>fh e fun x Z=>Dy N x k
 |.op p m=>Dl r N e m p
 |.and a b=>mZ e fun o vs Z=>o2 vs fun x y=>GI (o=.And)&&(r N x a&&r N y b)
 |.or a b=>mZ e fun o vs Z=>o2 vs fun x y=>GI (o=.Or)&&(r N x a&&r N y b)
 |.ite c a b=>FR e fun x y z Z=>Fu x&&(r N x c&&(r N y a&&r N z b))
 |.chain _ _ _=>Gw
 |.tsorted a=>pG e fun g j Z=>fh g fun y Z=>o1 j fun b=>pG b fun g j Z=>fh g fun x Z=>o1 j fun b=>q9 N x "sorted"&&(q9 N y "tuple"&&(pM [b]&&r N b a))
 |.app o b=>Cs e "append" fun x j=>o1 j fun y=>pM [y]&&(r N x o&&r N y b)
 |.getD o a b=>Cs e "get" fun x j=>o2 j fun y z=>pM [y,z]&&(r N x o&&(r N y a&&r N z b))
 |.dct1 k v=>qZ e fun ks vs Z=>o1 ks fun x=>oS x fun x=>o1 vs fun y=>r N x k&&r N y v
 |.dtrue _ _=>Gw
 |.callF f m=>pG e fun g j p=>pM j&&(Cv (r N) j m&&bif Ht g.ctorIdx 23 then fh g fun x Z=>uU N x f&&(lookC f tab.inits).isNone else Ac g fun o x A=>fh o fun y Z=>uU N y (x8 y)&&(GI (lookSt (x8 y) x DZ=Gq f)&&(GI (j.length<20)&&A.endLine==p.line)))
 |.callM n o m=>pG e fun g j p=>Ac g fun x s A=>DW x&&(pM j&&((GI (nm n=s)&&(GI (j.length<20)&&A.endLine==p.line))&&(r N x o&&Cv (r N) j m)))
 |.callC C m=>pG e fun g j Z=>fh g fun x Z=>pM j&&(Cv (r N) j m&&(uU N x C&&(lookC C tab.inits).isSome))
 |.comp l t q B=>Ct e fun D F G Z=>sr F fun x Z i=>DV r N G l t D q x&&(!Ht i.ctorIdx 7&&r N i B)
 |.compR l t q B=>Ct e fun D F G Z=>sr F fun x Z i=>pG i fun g j Z=>fh g fun y Z=>o1 j fun b=>DV r N G l t D q x&&(pM [b]&&(q9 N y "range"&&r N b B))
theorem yD {r:Ns->GW->E->Bool} (j:∀N e m,r N e m=Gu->ao u d N e m) (l:UO u) {e:GW} (m:E) (h:DE r N e m=Gu):ao u d N e m:=by
 cases m with
 |const v=>exact Bv l v h
 |loc k=>exact aQ h fun x p h=>Dt h
 |op p F=>exact yy j l p h
 |and a b=>exact jw h fun o J p h=>dN h fun x y h=>dk (aa h).1 (yU (j _ _ _ (aa (aa h).2).1) (j _ _ _ (aa (aa h).2).2))
 |or a b=>exact jw h fun o J p h=>dN h fun x y h=>dk (aa h).1 (Am (j _ _ _ (aa (aa h).2).1) (j _ _ _ (aa (aa h).2).2))
 |ite c a b=>exact BD h fun x y z p h=>have k:=aa (aa h).2;ya (j _ _ _ k.1) (zQ (aa h).1) (j _ _ _ (aa k.2).1) (j _ _ _ (aa k.2).2)
 |tsorted a=>exact ca h fun g B p h=>aQ h fun y q h=>aW h fun b h=>ca h fun g B p h=>aQ h fun x q h=>aW h fun b h=>have k:=aa (aa h).2;have A:=cV (aa h).1;have K:=cV k.1;mU l.so A.1 K.1 A.2 K.2 (j _ _ _ (aa k.2).2) (dI (aa k.2).1)
 |app o b=>exact jf h fun G A H h=>aW h fun y h=>zc (j _ _ _ (aa (aa h).2).1) (j _ _ _ (aa (aa h).2).2) (dI (aa h).1) G A H
 |getD o a b=>exact jf h fun G A H h=>dN h fun y z h=>have k:=aa (aa h).2;za (j _ _ _ k.1) (j _ _ _ (aa k.2).1) (j _ _ _ (aa k.2).2) (dI (aa h).1) G A H
 |dct1 k v=>exact nk h fun R J p h=>aW h fun x h=>lp h fun x h=>aW h fun y h=>vQ (j _ _ _ (aa h).1) (j _ _ _ (aa h).2)
 |callF f F=>exact ca h fun g B p h=>have k:=aa (aa h).2;have n:=dI (aa h).1;have S:=j6 (j N) _ k.1;bf k.2 (fun h=>aQ h fun x q h=>xw l S n h) fun Z h=>ii h fun o x L h=>aQ h fun y q h=>x7 l S n h
 |callM n o F=>exact ca h fun g B p h=>ii h fun x s L h=>have k:=aa (aa (aa h).2).2;xL l (j _ _ _ (aa k.2).1) (j6 (j N) _ (aa k.2).2) (mK (aa h).1) (dI (aa (aa h).2).1) k.1
 |callC C F=>exact ca h fun g B p h=>aQ h fun x q h=>have k:=aa (aa h).2;zA l (j6 (j N) _ k.1) (dI (aa h).1) k.2
 |comp D t I M=>exact mF h fun O P Q p h=>gw h fun x q i h=>Bk (j _ _ _ (aa (aa h).1).2) (j _ _ _ (aa (aa h).2).2) (iW (aa (aa h).2).1) (aa (aa h).1).1
 |compR D t I M=>exact mF h fun O P Q p h=>gw h fun x q i h=>ca h fun g B p h=>aQ h fun y q h=>aW h fun b h=>have k:=aa (aa (aa h).2).2;xS (j _ _ _ (aa (aa h).1).2) (j _ _ _ k.2) (dI (aa (aa h).2).1) (GX.mpr ⟨(aa (aa h).1).1,k.1⟩)
 |_=>exact nomatch (h:Gw=Gu)
noncomputable def gX (n:Nat):Ns->GW->E->Bool:=Mt (fun Z Z Z=>Gw) (fun Z r=>DE r) n
theorem lZ (c:UO u) (n:Nat):∀N e b,gX n N e b=Gu->ao u d N e b:=by
 induction n with
 |zero=>exact fun Z Z Z h=>nomatch h
 |succ n f=>exact fun N e b h=>yD f c b h
end
noncomputable section
variable {u:U} {d:Nat} {N:Ns}
noncomputable def D5 {b:Type} (m:Kw b) (f:b->Bool):Bool:=if h:m.ctorIdx=0 then N5 (motive:=fun Z=>Bool) m h f else Gw
theorem vX {b:Type} {m m':Kw b} {f:b->Bool} {G:Prop} (e:m'=m) (h:D5 m f=Gu) (k:∀a,m'=HE a->f a=Gu->G):G:=
 N5 (motive:=fun m=>D5 m f=Gu->(∀a,m=HE a->f a=Gu->G)->G) m (bE h) (fun a h k=>k a rfl h) h (e▸k)
noncomputable def F5 (N:Ns) (s:IN) (env:J2):J2:={env with scope:={s with kind:=.function,names:=N}}
noncomputable def eN (N:Ns):J2:=F5 N O0 O0
noncomputable def FJ (e:E) (f:E->E->Bool):Bool:=if h:e.ctorIdx=3 then E.and.elim (motive_1:=fun Z=>Bool) e h f else Gw
noncomputable def Ez (e:E) (f:E->E->Bool):Bool:=if h:e.ctorIdx=4 then E.or.elim (motive_1:=fun Z=>Bool) e h f else Gw
noncomputable def Eb (e:E) (f:E->E->E->Bool):Bool:=if h:e.ctorIdx=6 then E.chain.elim (motive_1:=fun Z=>Bool) e h f else Gw
noncomputable def Eh (e:E) (f:Nat->E->Bool):Bool:=if h:e.ctorIdx=11 then E.dtrue.elim (motive_1:=fun Z=>Bool) e h f else Gw
noncomputable def EK (e:E) (f:List (Option Nat)->Nat->E->E->Bool):Bool:=if h:e.ctorIdx=15 then E.comp.elim (motive_1:=fun Z=>Bool) e h f else Gw
noncomputable def Es (e:E) (f:List (Option Nat)->Nat->E->E->Bool):Bool:=if h:e.ctorIdx=16 then E.compR.elim (motive_1:=fun Z=>Bool) e h f else Gw
section
variable {e:E} {P:E->Prop}
@[elab_as_elim] theorem B5 {f} (h:FJ e f=Gu) (k:∀a b,f a b=Gu->P (.and a b)):P e:=E.and.elim (motive_1:=fun e=>FJ e f=Gu->P e) e (bE h) k h
@[elab_as_elim] theorem Ce {f} (h:Ez e f=Gu) (k:∀a b,f a b=Gu->P (.or a b)):P e:=E.or.elim (motive_1:=fun e=>Ez e f=Gu->P e) e (bE h) k h
@[elab_as_elim] theorem AF {f} (h:Eb e f=Gu) (k:∀a b c,f a b c=Gu->P (.chain a b c)):P e:=E.chain.elim (motive_1:=fun e=>Eb e f=Gu->P e) e (bE h) k h
@[elab_as_elim] theorem Cp {f} (h:Eh e f=Gu) (k:∀a b,f a b=Gu->P (.dtrue a b)):P e:=E.dtrue.elim (motive_1:=fun e=>Eh e f=Gu->P e) e (bE h) k h
@[elab_as_elim] theorem B4 {f} (h:EK e f=Gu) (k:∀a b c d,f a b c d=Gu->P (.comp a b c d)):P e:=E.comp.elim (motive_1:=fun e=>EK e f=Gu->P e) e (bE h) k h
@[elab_as_elim] theorem A7 {f} (h:Es e f=Gu) (k:∀a b c d,f a b c d=Gu->P (.compR a b c d)):P e:=E.compR.elim (motive_1:=fun e=>Es e f=Gu->P e) e (bE h) k h
end
noncomputable def uT (s:Iy) (f:GW->GW->HO->Bool):Bool:=if h:s.ctorIdx=5 then M4 (motive_2:=fun Z=>Bool) s h fun b e p=>o1 b fun t=>f t e p else Gw
noncomputable def vp (s:Iy) (f:GW->Lp->GW->HO->Bool):Bool:=if h:s.ctorIdx=7 then L7 (motive_2:=fun Z=>Bool) s h f else Gw
noncomputable def uf (s:Iy) (f:GW->HO->Bool):Bool:=if h:s.ctorIdx=3 then M5 (motive_2:=fun Z=>Bool) s h fun v p=>oS v fun e=>f e p else Gw
noncomputable def yC (s:Iy) (f:GW->GW->List Iy->HO->Bool):Bool:=if h:s.ctorIdx=9 then N6 (motive_2:=fun Z=>Bool) s h fun t e b o p=>o0 o (f t e b p) else Gw
noncomputable def Fi (s:Iy) (f:GW->List Iy->HO->Bool):Bool:=if h:s.ctorIdx=11 then Nv (motive_2:=fun Z=>Bool) s h fun e b o p=>o0 o (f e b p) else Gw
noncomputable def Az (s:Iy) (f:GW->List Iy->List Iy->HO->Bool):Bool:=if h:s.ctorIdx=12 then OB (motive_2:=fun Z=>Bool) s h f else Gw
noncomputable def D8 (s:Iy) (f:GW->HO->Bool):Bool:=if h:s.ctorIdx=16 then Nw (motive_2:=fun Z=>Bool) s h fun v c p=>oN c (oS v fun e=>f e p) else Gw
noncomputable def AS (s:Iy) (f:List Iy->List LW->HO->Bool):Bool:=if h:s.ctorIdx=17 then N7 (motive_2:=fun Z=>Bool) s h fun b c o e p=>o0 o (o0 e (f b c p)) else Gw
noncomputable def ER (s:Iy) (f:GW->HO->Bool):Bool:=if h:s.ctorIdx=24 then NN (motive_2:=fun Z=>Bool) s h f else Gw
noncomputable def Fx (s:Iy):Bool:=if h:s.ctorIdx=27 then Mr (motive_2:=fun Z=>Bool) s h fun Z=>Gu else Gw
section
variable {s:Iy} {P:Iy->Prop}
@[elab_as_elim] theorem lI {f} (h:uT s f=Gu) (k:∀a b c,f a b c=Gu->P (.Assign [a] b c)):P s:=M4 (motive_2:=fun s=>uT s f=Gu->P s) s (bE h) (fun a b c h=>aW (show o1 a (fun t=>f t b c)=Gu from h) fun a h=>k a b c h) h
@[elab_as_elim] theorem lO {f} (h:vp s f=Gu) (k:∀a b c d,f a b c d=Gu->P (.AugAssign a b c d)):P s:=L7 (motive_2:=fun s=>vp s f=Gu->P s) s (bE h) k h
@[elab_as_elim] theorem rt {f} (h:uf s f=Gu) (k:∀a b,f a b=Gu->P (.Return (Gq a) b)):P s:=M5 (motive_2:=fun s=>uf s f=Gu->P s) s (bE h) (fun a b h=>lp (show oS a (fun t=>f t b)=Gu from h) fun a h=>k a b h) h
@[elab_as_elim] theorem rT {f} (h:yC s f=Gu) (k:∀a b c d,f a b c d=Gu->P (.For a b c [] d)):P s:=N6 (motive_2:=fun s=>yC s f=Gu->P s) s (bE h) (fun a b c o d h=>db (show o0 o (f a b c d)=Gu from h) fun h=>k a b c d h) h
@[elab_as_elim] theorem Bq {f} (h:Fi s f=Gu) (k:∀a b c,f a b c=Gu->P (.While a b [] c)):P s:=Nv (motive_2:=fun s=>Fi s f=Gu->P s) s (bE h) (fun a b o d h=>db (show o0 o (f a b d)=Gu from h) fun h=>k a b d h) h
@[elab_as_elim] theorem yz {f} (h:Az s f=Gu) (k:∀a b c d,f a b c d=Gu->P (.If a b c d)):P s:=OB (motive_2:=fun s=>Az s f=Gu->P s) s (bE h) k h
@[elab_as_elim] theorem Bc {f} (h:D8 s f=Gu) (k:∀a b,f a b=Gu->P (.Raise (Gq a) Gs b)):P s:=Nw (motive_2:=fun s=>D8 s f=Gu->P s) s (bE h) (fun v c p h=>ly (show oN c (oS v fun e=>f e p)=Gu from h) fun h=>lp h fun e h=>k e p h) h
@[elab_as_elim] theorem zb {f} (h:AS s f=Gu) (k:∀a b c,f a b c=Gu->P (.Try a b [] [] c)):P s:=N7 (motive_2:=fun s=>AS s f=Gu->P s) s (bE h) (fun b e o g p h=>db (show o0 o (o0 g (f b e p))=Gu from h) fun h=>db h fun h=>k b e p h) h
@[elab_as_elim] theorem BS {f} (h:ER s f=Gu) (k:∀a b,f a b=Gu->P (.Expr a b)):P s:=NN (motive_2:=fun s=>ER s f=Gu->P s) s (bE h) k h
@[elab_as_elim] theorem AK (h:Fx s=Gu) (k:∀a,P (.Continue a)):P s:=Mr (motive_2:=fun s=>Fx s=Gu->P s) s (bE h) (fun a Z=>k a) h
end
noncomputable def DA (n:Nat) (N:Ns) (r:GW->E->Bool) (e:GW) (f:E):Bool:=bif Ht e.ctorIdx 0 then mZ e fun o g p=>oC g fun x l=>bif l.isEmpty then o0 l (r x f) else bif Ht f.ctorIdx 3 then FJ f fun a b=>GI (o=.And)&&(r x a&&r (.BoolOp .And l p) b) else Ez f fun a b=>GI (o=.Or)&&(r x a&&r (.BoolOp .Or l p) b) else
 bif Ht f.ctorIdx 6 then Eb f fun a b c=>lN e fun x i j Z=>o2 i fun o q=>o2 j fun y z=>GI (o=.LtE)&&(GI (q=.Lt)&&(!Ht z.ctorIdx 7&&(gX n N x a&&(gX n N y b&&gX n N z c)))) else jX f&&(Fu e&&gX n N e f)
theorem uV {o:BoolOp} {x:GW} {b:E} {p:HO} (h:dQ u d N x b):dQ u d N (.BoolOp o [x] p) b:=by cases o with
 |And=>exact sU h
 |Or=>exact wR h
theorem yh {n:Nat} {r:GW->E->Bool} (g:∀e f,r e f=Gu->dQ u d N e f) {e:GW} {f:E} (E:∀e f,gX n N e f=Gu->ao u d N e f) (h:DA n N r e f=Gu):dQ u d N e f:=bf h (fun h=>jw h fun o i p h=>k7 h fun x l h=>bf h (fun h=>db h fun h=>uV (g _ _ h)) fun Z h=>bf h (fun h=>B5 h fun a b h=>dk (aa h).1 (t8 (g _ _ (aa (aa h).2).1) (g _ _ (aa (aa h).2).2))) fun Z h=>Ce h fun a b h=>dk (aa h).1 (yi (g _ _ (aa (aa h).2).1) (g _ _ (aa (aa h).2).2))) fun Z h=>bf h (fun h=>AF h fun a b c h=>eD h fun x j m p h=>dN h fun o q h=>dN h fun y z h=>have k:=aa (aa (aa h).2).2;dk (aa h).1 (dk (aa (aa h).2).1 (qf (E _ _ (aa k.2).1) (E _ _ (aa (aa k.2).2).1) (E _ _ (aa (aa k.2).2).2) (me k.1)))) fun Z h=>EB (E _ _ (aa (aa h).2).2) (zQ (aa (aa h).2).1) (aa h).1
noncomputable def Ee (n:Nat) (N:Ns) (m:Nat):GW->E->Bool:=Mt (fun Z Z=>Gw) (fun Z r=>DA n N r) m
theorem Ba (c:UO u) (n m:Nat):∀e b,Ee n N m e b=Gu->dQ u d N e b:=by
 induction m with
 |zero=>exact fun Z Z h=>nomatch h
 |succ m f=>exact fun e b h=>yh f (lZ c n N) h
end
noncomputable section
variable {u:U} {d:Nat} {N:Ns}
noncomputable def E8 (N:Ns) (l:List GW):List Nat->Bool:=Jc (fun b=>o0 b Gu) (fun e Z r b=>oC b fun k b=>fh e fun x Z=>slot N x k&&r b) l
theorem wQ {l:List GW}:∀ {ks:List Nat},E8 N l ks=Gu->TgtAt N l ks:=by
 induction l with
 |nil=>exact fun h=>db h fun Z=>rfl
 |cons e l b=>exact fun h=>k7 h fun k ks h=>aQ h fun x p h=>⟨k,ks,rfl,⟨x,p,rfl,df (aa h).1⟩,b (aa h).2⟩
noncomputable def CO (N:Ns) (e:GW):kw->Bool
 |.loc k=>fh e fun x Z=>slot N x k
 |.locs ks=>Cw e fun l Z Z=>E8 N l ks
theorem yE {e:GW} {t:kw} (h:CO N e t=Gu):TgtOK N e t:=by
 cases t with
 |loc k=>exact aQ h fun x p h=>.name (df h)
 |locs b=>exact mj h fun l k p h=>.tup (wQ h)
noncomputable def DD (r:Iy->S->Bool) (l:List Iy):List S->Bool:=Jc (fun b=>H8 b Gu fun Z Z=>Gw) (fun e Z t b=>H8 b Gw fun c q=>r e c&&t q) l
theorem zp {r:Iy->S->Bool} (f:∀e c,r e c=Gu->bB u d N e c) {l:List Iy}:∀b,DD r l b=Gu->cJ u d N l b:=by
 induction l with
 |nil=>exact fun b=>H8 b (fun Z=>uC) fun Z Z h=>nomatch h
 |cons e t g=>exact fun b=>H8 b (fun h=>nomatch h) fun c q h=>xv (f _ _ (aa h).1) (g q (aa h).2)
noncomputable def BL (c:OA) (f:Hb->Bool):Bool:=OQ c Gw (fun Z=>Gw) (fun Z=>Gw) (fun Z=>Gw) (fun Z Z=>Gw) f (fun Z=>Gw) Gw
@[elab_as_elim] theorem qK {c:OA} {f} {P:OA->Prop} (h:BL c f=Gu) (k:∀i,f i=Gu->P (.str i)):P c:=by
 cases c with
 |str i=>exact k i h
 |_=>exact nomatch (h:Gw=Gu)
noncomputable def Df (N:Ns) (n:Nat) (tg e:GW) (k:Nat) (m:E):Bool:=fh tg fun y q=>slot N y k&&bif Ht m.ctorIdx 11 then Eh m fun t f=>EM e fun B v o p r=>fh B fun x D=>fW v fun c F G=>sr o fun z A j=>GI (c=.bool Gu)&&(GI (z=x)&&(fw N p [Gs,Gs] t x&&((!(x==("__debug__":Hb))&& !(x==("__classdict__":Hb)))&&(!Ht j.ctorIdx 7&&gX n N j f))))
 else bif Ht m.ctorIdx 15 then EK m fun i t l f=>Ct e fun s o p r=>sr o fun x A j=>DV (gX n) N p i t s l x&&(!Ht j.ctorIdx 7&&gX n N j f)
 else Es m fun i t l f=>Ct e fun s o p r=>sr o fun x A j=>pG j fun g C Z=>fh g fun y Z=>o1 C fun b=>DV (gX n) N p i t s l x&&(pM [b]&&(q9 N y "range"&&gX n N b f))
theorem xB (H:UO u) {n:Nat} {tg e:GW} {p:HO} {k:Nat} {B:E} (h:Df N n tg e k B=Gu):(∀s env,IV e (Gq tg) p.line (F5 N s env)=HE Gu)->bB u d N (.Assign [tg] e p) (.assign (.loc k) B):=
 have E:=lZ (d:=d) H n
 aQ h fun y q h=>have r:=(aa h).1;bf (aa h).2 (fun h=>Cp h fun t i h=>AV h fun J v C D j h=>aQ h fun x K h=>bN h fun c L M h=>gw h fun z F G h=>
  have l:=aa (aa h).2;have m:=aa l.2;have f:=aa m.2;dk (aa h).1 (dk l.1 (yF (E _ _ _ (aa f.2).2) (iW (aa f.2).1) (GX.mpr ⟨m.1,GX.mpr ⟨r,f.1⟩⟩)))) fun Z h=>bf h (fun h=>B4 h fun o t A i h=>mF h fun I C D j h=>gw h fun x F G h=>
  have c:=aa (aa h).1;have l:=aa (aa h).2;xR (E _ _ _ c.2) (E _ _ _ l.2) (iW l.1) (GX.mpr ⟨c.1,r⟩)) fun Z h=>A7 h fun o t A i h=>mF h fun I C D j h=>gw h fun x F G h=>ca h fun g O p h=>aQ h fun y q h=>aW h fun b h=>
  have c:=aa (aa h).1;have m:=aa (aa h).2;have f:=aa m.2;wF (E _ _ _ c.2) (E _ _ _ f.2) (dI m.1) (GX.mpr ⟨c.1,GX.mpr ⟨f.1,r⟩⟩)
noncomputable def FU (N:Ns) (n:Nat) (tg e:GW) (p:HO) (f:E):kw->Bool
 |.loc k=>bif Cu e then fh tg fun y Z=>slot N y k&&gX n N e f else D5 (IV e (Gq tg) p.line (eN N)) id&&Df N n tg e k f
 |.locs ks=>Cw tg fun c m q=>D5 (Je [.Tuple c m q] e (eN N)) fun o=>gX n N e f&&Kh o (E8 N c ks&&Cu e) fun l=>o2 c fun a b=>fh a fun x Z=>fh b fun y Z=>Cw e fun vs Z Z=>o2 vs fun Z Z=>GI (l=[x,y])&&(slots N [x,y] ks&&GI ks.Nodup)
theorem Gi {c a b:Bool} {G:Prop} (h:(bif c then a else b)=Gu) (k:c=Gu->a=Gu->G) (e:b=Gu->G):G:=match c with
 |true=>k rfl h
 |false=>e h
theorem AO (z:UO u) {n:Nat} {tg e:GW} {p:HO} {j:E} {t:kw} (h:FU N n tg e p j t=Gu):bB u d N (.Assign [tg] e p) (.assign t j):=by
 revert n tg e p j t;delta u d N;delta n tg e p j t
 have E:=lZ (d:=d) z n
 cases t with
 |loc k=>exact Gi h (fun c h=>aQ h fun y q h=>Bf (E _ _ _ (aa h).2) (nO c) (aa h).1) fun h=>vX (m':=IV e (Gq tg) p.line (eN N)) rfl (aa h).1 fun a q w=>xB z (aa h).2 fun s i=>q.trans (congrArg _ w)
 |locs A=>
  delta A;refine mj h fun f m q h=>vX (m':=Je [.Tuple f m q] e (eN N)) rfl h fun o g h=>?_;revert o;injections f m q;intro h o g h;injections o;intro g h
  have S:=E _ _ _ (aa h).1
  have h:=(aa h).2
  cases o with
  |none=>exact Dp S (wQ (aa h).1) (nO (aa h).2) fun s i=>g
  |some l=>
   revert g S;exact dN h fun a b h=>aQ h fun x p h=>aQ h fun y q h=>mj h fun B c r h=>dN h fun v w h=>dk (aa h).1 fun S g=>B6 S (aa h).2 fun s i=>g
noncomputable def BO (n:Nat) (N:Ns) (r:List Iy->List S->Bool) (s:Iy):S->Bool
 |.expr j=>ER s fun e Z=>Cu e&&gX n N e j
 |.assign t j=>uT s fun tg e p=>FU N n tg e p j t
 |.setAttr l k j=>uT s fun tg e Z=>Ac tg fun o x Z=>GI (nm k=x)&&(Cu e&&(gX n N o l&&gX n N e j))
 |.setIdx l m j=>uT s fun tg e Z=>m8 tg fun o i Z=>Cu e&&(gX n N o l&&(gX n N i m&&gX n N e j))
 |.aug k op j=>vp s fun tg o e Z=>fh tg fun x Z=>GI (o=op.m)&&((slot N x k&&(Au op&& !(x==("__classdict__":Hb))))&&gX n N e j)
 |.augAttr l k op j=>vp s fun tg q e Z=>Ac tg fun o x Z=>GI (q=op.m)&&((Au op&&GI (nm k=x))&&(gX n N o l&&gX n N e j))
 |.augIdx l m op j=>vp s fun tg q e Z=>m8 tg fun o i Z=>fh i fun x B=>GI (q=op.m)&&(Au op&&(gX n N o l&&(gX n N (.Name x B) m&&gX n N e j)))
 |.ret j=>uf s fun e Z=>gX n N e j
 |.ite c a b=>Az s fun t x y Z=>Ee n N n t c&&(r x a&&r y b)
 |.while c a=>Fi s fun t x Z=>Ee n N n t c&&r x a
 |.for t j v=>yC s fun tg e b Z=>CO N tg t&&(!Ht e.ctorIdx 7&&(gX n N e j&&r b v))
 |.forR k j v=>yC s fun tg e b Z=>fh tg fun x Z=>pG e fun g A Z=>fh g fun y Z=>o1 A fun a=>(slot N x k&&q9 N y "range")&&(pM [a]&&(gX n N a j&&r b v))
 |.cont=>Fx s
 |.raise j=>D8 s fun e Z=>pG e fun g A Z=>fh g fun x Z=>o1 A fun a=>s8 a fun a C z Z=>s8 a fun w D c Z=>fW w fun w Z Z=>fW z fun z Z Z=>BL w fun E=>BL z fun F=>pG c fun f G Z=>fh f fun y Z=>o1 G fun b=>GI (C=.Add)&&(GI (D=.Add)&&((uU N x 71&&(q9 N y "str"&&GI (E.cps.size+F.cps.size<=1000)))&&(pM [b]&&gX n N b j)))
 |.stuck=>Gu
 |.try _ _=>Gw
 |.frz _=>Gw
theorem rH (v:UO u) {n:Nat} {r:List Iy->List S->Bool} (C:∀l F,r l F=Gu->cJ u d N l F) {s:Iy} (A:S) (h:BO n N r s A=Gu):bB u d N s A:=by
 revert n r s A;delta u d N;revert s A;delta n r;delta s A
 have E:=lZ (d:=d) v n N
 have B:=Ba (d:=d) (N:=N) v n n
 cases A with
 |expr j=>exact BS h fun e p h=>xi (E _ _ (aa h).2) (nO (aa h).1)
 |assign t j=>exact lI h fun m e p h=>AO v h
 |setAttr D k j=>exact lI h fun m e p h=>ii h fun o x q h=>have k:=aa (aa h).2;Ad v (E _ _ (aa k.2).1) (E _ _ (aa k.2).2) (nO k.1) (aa h).1
 |setIdx D H j=>exact lI h fun m e p h=>fH h fun o i q h=>have k:=aa (aa h).2;sA (E _ _ k.1) (E _ _ (aa k.2).1) (E _ _ (aa k.2).2) (nO (aa h).1)
 |aug k G j=>exact lO h fun m o e p h=>aQ h fun x q h=>Ds (E _ _ (aa (aa h).2).2) (aa (aa h).2).1 (of_decide_eq_true (aa h).1)
 |augAttr D k G j=>exact lO h fun m o e p h=>ii h fun o x q h=>have k:=aa (aa h).2;AG v (E _ _ (aa k.2).1) (E _ _ (aa k.2).2) k.1 (of_decide_eq_true (aa h).1)
 |augIdx D H G j=>exact lO h fun m o e p h=>fH h fun o i q h=>aQ h fun x K h=>have k:=aa (aa (aa h).2).2;Ak (E _ _ k.1) (E _ _ (aa k.2).1) (E _ _ (aa k.2).2) (aa (aa h).2).1 (of_decide_eq_true (aa h).1)
 |ret j=>exact rt h fun e p h=>Ck (E _ _ h)
 |ite c a b=>exact yz h fun t x y p h=>Di (B _ _ (aa h).1) (C _ _ (aa (aa h).2).1) (C _ _ (aa (aa h).2).2)
 | «while» c a=>exact Bq h fun t x p h=>wa (B _ _ (aa h).1) (C _ _ (aa h).2)
 | «for» t j I=>exact rT h fun m e b p h=>have k:=aa (aa h).2;Bo (yE (aa h).1) (E _ _ (aa k.2).1) (iW k.1) (C _ _ (aa k.2).2)
 |forR k j I=>exact rT h fun m e b p h=>aQ h fun x q h=>ca h fun g J p h=>aQ h fun y q h=>aW h fun a h=>have k:=aa (aa h).2;Ci (E _ _ (aa k.2).1) (C _ _ (aa k.2).2) (dI k.1) (aa h).1
 |cont=>exact AK h fun p=>xD
 |raise j=>exact Bc h fun e p h=>ca h fun g J q h=>aQ h fun x q h=>aW h fun a h=>iS h fun a L z p h=>iS h fun w M c p h=>bN h fun w k p h=>bN h fun z k p h=>qK h fun O h=>qK h fun P h=>ca h fun f Q p h=>aQ h fun y q h=>aW h fun b h=>have k:=aa (aa (aa h).2).2;dk (aa h).1 (dk (aa (aa h).2).1 (yq v (E _ _ (aa k.2).2) (dI (aa k.2).1) k.1))
 |stuck=>exact ut
 | «try» _ _=>exact nomatch (h:Gw=Gu)
 |frz _=>exact nomatch (h:Gw=Gu)
noncomputable def FK (n:Nat) (N:Ns) (m:Nat):List Iy->List S->Bool:=Mt (fun Z Z=>Gw) (fun Z r=>DD fun s b=>BO n N r s b) m
theorem BU (c:UO u) (n m:Nat):∀l b,FK n N m l b=Gu->cJ u d N l b:=by
 induction m with
 |zero=>exact fun Z Z h=>nomatch h
 |succ m e=>exact fun l b h=>zp (fun s f h=>rH c e f h) b h
end
noncomputable section
variable {u:U} {d:Nat} {N:Ns}
noncomputable def F4 (l:List LW) (f:Hb->Bool):Bool:=o1 l fun h=>Ps (motive_4:=fun Z=>Bool) h fun t n b Z=>oS t fun t=>oN n (fh t fun x Z=>o1 b fun s=>uf s fun e Z=>fW e fun c Z Z=>GI (c=.none)&&f x)
@[elab_as_elim] theorem BV {l:List LW} {f} {P:List LW->Prop} (h:F4 l f=Gu) (k:∀x p k q r s,f x=Gu->P [.ExceptHandler (Gq (.Name x p)) Gs [.Return (Gq (.Constant .none k q)) r] s]):P l:=
 aW h fun⟨t,n,b,s⟩ h=>lp (show oS t (fun t=>oN n (fh t fun x Z=>o1 b fun s=>uf s fun e Z=>fW e fun c Z Z=>GI (c=.none)&&f x))=Gu from h) fun t h=>ly h fun h=>aQ h fun x p h=>aW h fun g h=>rt h fun e r h=>bN h fun c i q h=>dk (aa h).1 (k _ _ _ _ _ _ (aa h).2)
noncomputable def EY (s:S) (f:List S->List S->Bool):Bool:=if h:s.ctorIdx=15 then S.try.elim (motive_1:=fun Z=>Bool) s h f else Gw
noncomputable def EL (s:S) (f:Nat->Bool):Bool:=if h:s.ctorIdx=16 then S.frz.elim (motive_1:=fun Z=>Bool) s h f else Gw
noncomputable def Ft (s:S):Bool:=if h:s.ctorIdx=7 then S.ret.elim (motive_1:=fun Z=>Bool) s h fun e=>if h:e.ctorIdx=0 then E.const.elim (motive_1:=fun Z=>Bool) e h V.isN else Gw else Gw
section
variable {s:S} {P:S->Prop}
@[elab_as_elim] theorem BM {f} (h:EY s f=Gu) (k:∀a b,f a b=Gu->P (.try a b)):P s:=S.try.elim (motive_1:=fun e=>EY e f=Gu->P e) s (bE h) k h
@[elab_as_elim] theorem Af {f} (h:EL s f=Gu) (k:∀a,f a=Gu->P (.frz a)):P s:=S.frz.elim (motive_1:=fun e=>EL e f=Gu->P e) s (bE h) k h
theorem Ay {P:V->Prop} (v:V) (h:v.isN=Gu) (k:P .none):P v:=by
 cases v with
 |none=>exact k
 |_=>exact nomatch (h:Gw=Gu)
@[elab_as_elim] theorem A8 (h:Ft s=Gu) (k:P (.ret (.const .none))):P s:=S.ret.elim (motive_1:=fun e=>Ft e=Gu->P e) s (bE h) (fun e h=>E.const.elim (motive_1:=fun e=>(if h:e.ctorIdx=0 then E.const.elim (motive_1:=fun Z=>Bool) e h V.isN else Gw)=Gu->P (.ret e)) e (bE h) (fun v h=>Ay (P:=fun v=>P (.ret (.const v))) v h k) h) h
end
noncomputable def Fz (n:Nat) (N:Ns) (e:List S):List Iy->Bool:=Jc (fun l=>o0 l Gu) (fun c Z r l=>bif Ht c.ctorIdx 16 then EL c fun k=>(N[k]?).isSome&&r l else oC l fun s t=>(bif Ht c.ctorIdx 15 then EY c fun f g=>AS s fun b i Z=>F4 i fun y=>(uU N y 71&&N.all fun x=>!(GI (x.2=.cell)))&&(FK n N n b f&&o1 g Ft) else BO n N (FK n N n) s c)&&r t) e
theorem A0 (g:UO u) (n:Nat):∀f l,Fz n N f l=Gu->f3 u d N l f:=by
 have B:=BU (d:=d) (N:=N) g n n
 intro f
 induction f with
 |nil=>exact fun l h=>db h fun Z=>Av
 |cons j v i=>exact fun l h=>bf h (fun h=>Af h fun k h=>Dx (i _ (aa h).2) (aa h).1) fun Z h=>k7 h fun s t h=>bf (aa h).1 (fun c=>BM c fun A m c=>zb c fun b C p c=>BV c fun y p k q r z c=>aW (aa (aa c).2).2 fun e o=>A8 o (CX g (B _ _ (aa (aa c).2).1) (i _ (aa h).2) (aa c).1)) fun Z c=>yb (rH g B j c) (i _ (aa h).2)
noncomputable def wM (K:I0) (f:GS):Kl:=match K.lookup f with
 |some ⟨_,_,.func b,_⟩=>b
 |_=>O0
noncomputable def DY (K:I0) (f:GS) (F:Fn):Bool:=match K.lookup f with
 |some ⟨_,_,.func c,_⟩=>match c.body with
  |.stmts b=>tF K c F (c.params.args.map (·.arg))&&Fz 60 c.scope.names F.body b
  |_=>Gw
 |_=>Gw
def vE (K:I0) (f:GS) (F:Fn):Prop:=iC K (wM K f) ((wM K f).params.args.map (·.arg)) F.ks.length []/\Cm K (wM K f) ((wM K f).params.args.map (·.arg)) (F.ks.length - 1) F.d
def yt {b:Type} (p:b->Prop) (l:List b):Prop:=Jc True (fun e Z r=>p e/\r) l
theorem r6 {b:Type} {p:b->Prop} {l:List b} {e:b} (h:p e) (t:yt p l):yt p (e::l):=⟨h,t⟩
theorem t6 {c:Type} {p:c->Prop} {l:List c} (h:yt p l) {e:c} (b:e∈l):p e:=by
 induction l with
 |nil=>cases b
 |cons a l f=>
  cases b with
  |head=>exact h.1
  |tail _ b=>exact f h.2 b
inductive FnD (K:I0) (f:GS) (F:Fn):Prop
 |mk {c:Gy} {d:Option GS} {fd:Kl} {sl:Array (Option Gy)} {bb:List Iy} (h1:K.lookup f=Gq ⟨c,d,.func fd,sl⟩) (h2:fd.body=.stmts bb) (h3:tF K fd F (fd.params.args.map (·.arg))=Gu) (h4:Fz 60 fd.scope.names F.body bb=Gu):FnD K f F
theorem Co {K:I0} {f:GS} {F:Fn} (h:DY K f F=Gu):FnD K f F:=by
 unfold DY at h
 cases b:K.lookup f with
 |none=>rw [b] at h;cases h
 |some o=>
  obtain⟨c,d,g,j⟩:=o;rw [b] at h
  cases g with
  |func i=>
   dsimp only at h
   cases e:i.body with
   |stmts k=>
    rw [e] at h;exact .mk b e (aa h).1 (aa h).2
   |_=>rw [e] at h;cases h
  |_=>cases h
theorem As (e:UO u) {K:I0} {f:GS} {F:Fn} (h:DY K f F=Gu) (b:vE K f F):CP u K f F:=by
 cases Co h with|mk c g i j=>
 unfold vE wM at b;rw [c] at b;exact .mk _ _ _ c rfl g i b.1 b.2 fun d=>A0 e _ _ _ j
end
end
end Mine
namespace Mine.T
open Mine
set_option tactic.hygienic true
set_option maxHeartbeats 8000000 in
theorem top:PySem.Challenge.rw_qd0071_01.Holds:=by
  w_on
  o_law
  refine holds_open left (YP:=InK K) (InK.of Ge) InK.keeps (XP:=fun _ _=>True) (fun _ _=>trivial) (fun _ _ _ _ _=>trivial) (by rfl) (by rfl) (by rfl) (fun s e=>recFacts_of e) (by rfl) (by first | assumption | decide +kernel) (by decide +kernel) ⟨rfl,rfl,rfl,rfl,rfl,by decide +kernel⟩ ?hw ?hc
  case hw => w_witness2
  have B : ∀ P, we (K P) := fun P => ⟨by as_aux_lemma => kernel_rfl, by as_aux_lemma => kernel_rfl, by as_aux_lemma => kernel_rfl, by as_aux_lemma => kernel_rfl, by as_aux_lemma => kernel_rfl, ID.mpr ⟨.get (by as_aux_lemma => kernel_rfl) (by as_aux_lemma => kernel_rfl) (by as_aux_lemma => kernel_rfl) 379 (r := [.bool Gw]) (by as_aux_lemma => kernel_rfl) (by as_aux_lemma => kernel_rfl), ID.mpr ⟨.get (by as_aux_lemma => kernel_rfl) (by as_aux_lemma => kernel_rfl) (by as_aux_lemma => kernel_rfl) 399 (r := [.bool Gw]) (by as_aux_lemma => kernel_rfl) (by as_aux_lemma => kernel_rfl), ID.mpr ⟨.val (by as_aux_lemma => kernel_rfl) (by as_aux_lemma => kernel_rfl) (by as_aux_lemma => kernel_rfl) (by as_aux_lemma => kernel_rfl), fun _ h => nomatch h⟩⟩⟩, .mk (by as_aux_lemma => kernel_rfl) (by rfl) (by as_aux_lemma => kernel_rfl) (by as_aux_lemma => kernel_rfl), by as_aux_lemma => kernel_rfl, by as_aux_lemma => kernel_rfl, by as_aux_lemma => kernel_rfl, ⟨⟨46, _, _, _, _, _, _, _, _, _, _, _, _, _, _, by rfl⟩, by as_aux_lemma => kernel_rfl, by as_aux_lemma => kernel_rfl, by as_aux_lemma => kernel_rfl, by as_aux_lemma => kernel_rfl, by as_aux_lemma => kernel_rfl, by as_aux_lemma => kernel_rfl, by as_aux_lemma => kernel_rfl⟩, by
    refine .mk _ _ _ _ _ _ _ _ _ _ _ _ _ _ _ _ ?h rfl rfl ⟨by as_aux_lemma => kernel_rfl, by as_aux_lemma => kernel_rfl, by as_aux_lemma => kernel_rfl, by as_aux_lemma => kernel_rfl, by as_aux_lemma => kernel_rfl, by as_aux_lemma => kernel_rfl, rfl, by as_aux_lemma => kernel_rfl⟩ (by as_aux_lemma => kernel_rfl) ?bd
    · as_aux_lemma => kernel_rfl
    · (repeat intro _); kernel_rfl⟩
  have C : ∀ P, fq.all (fun e => DY (K P) e.1 e.2) = Gu := fun P => by as_aux_lemma => kernel_rfl
  have D : ∀ P, yt (fun e => vE (K P) e.1 e.2) fq := fun P => by
    unfold fq
    repeat refine r6 ⟨by (repeat intro _); kernel_rfl, by first | exact trivial | ((repeat intro _); kernel_rfl)⟩ ?_
    exact trivial
  have E : ∀ {u}, UO u -> ∀ P, ∀ e ∈ fq, CP u (K P) e.1 e.2 := fun F P e p => As F (Hg.mp (C P) e p) (t6 (D P) p)
  intro w q b mg mb G Y fa o pm cd H dV kV I J i M j O t v as c f k l m
  have Q := Y
  have T := G.T
  clear I J i M
  wrow_args c f k l m
  rename_i y _ _ _ _ _ _ _ L R _ S ra U r0 V hr hc _;obtain ⟨oL, z, cL, nL, W⟩ := S;refine enter_call ?_
  have n : b.heap.get? L = Gq (PySem.W.listOf R.toArray 0) := by
    cases U with
    | list A h2 =>
      rw [z] at A;cases A;cases W;rw [z]
  refine vA B E ⟨rfl, by decide, by decide, rfl⟩ Q T.g T.b T.builtins T.nolimit (let ⟨X, h, _⟩ := (T.seer (by kernel_rfl)).mods; ⟨X, h⟩) j n V (by omega) fun s' Z k2 k3 => ?_
  have g : PySem.Challenge.rw_qd0071_01.row.claim.post [ofPy (OZ (My Pa y))] (WData.bool Gu) [ofPy (OZ (My Pa y))] = Gu := by
    kernel_rfl
  exact ⟨.inl ⟨.bool Gu, .bool Gu, [], rfl, fun b' => rfl, .bool Gu, g, fun _ => ⟨OJ, fun a ha => nomatch ha⟩⟩, .of_keep Z, k3, .of_eq (k2.trans O)⟩
end Mine.T
theorem PySem.Challenge.cw_qd0071_01_holds : PySem.Challenge.rw_qd0071_01.Holds :=
  Mine.T.top
